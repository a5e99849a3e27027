import PyProof.Rows.All
import HandS.ForMost
import HandS.Flow
import HandS.Walk
import HandS.IsInst
import HandS.TupAny
import HandS.TupMul
import HandS.Deep
import HandS.Conv
import HandS.Defaults
import HandS.Zip
import KE.GoesMore
import KE.GoesEnum
import PySem.Challenge.RW_lesserhall_k38_great_lines
set_option Elab.async false
set_option linter.all false
set_option maxRecDepth 100000
set_option autoImplicit false
set_option maxHeartbeats 4000000
/-! data over the abstract heap: what is read, what may be written -/
namespace Gd
open PySem PySem.Spec PyProof.Rows L2

/-- data -/
inductive D where
  | non | bl (b : Bool) | int (i : Int) | str (x : Str)
  | lst (ds : List D) | tup (ds : List D)
  | dic (ks : List Key) (vs : List D) | dct (ks : List (List Key)) (vs : List D)
  | ins (C : Addr) (ns : List Str) (vs : List D)
  | scr (ds : List D)

mutual
/-- v stands for d in F -/
inductive Rep (K : PySem.W.Frag) (F : Hp) : V → D → Prop
  | non : Rep K F .non .non
  | bl {b : Bool} : Rep K F (.bl b) (.bl b)
  | int {i : Int} : Rep K F (.int i) (.int i)
  | str {x : Str} : Rep K F (.str x) (.str x)
  | lst {a : Addr} {xs : List V} {ds : List D} : F a = some (.lst xs) → RepL K F xs ds → Rep K F (.ref a) (.lst ds)
  | scr {a : Addr} {xs : List V} {ds : List D} : SqL K F a xs → RepL K F xs ds → Rep K F (.ref a) (.scr ds)
  | tup {a : Addr} {xs : List V} {ds : List D} : SqT K F a xs → RepL K F xs ds → Rep K F (.ref a) (.tup ds)
  | dic {a : Addr} {kvs : List (Key × V)} {ks : List Key} {vs : List D} : Rd F a (.dK kvs) → kvs.map (·.1) = ks → RepL K F (kvs.map (·.2)) vs → Rep K F (.ref a) (.dic ks vs)
  | dct {a : Addr} {kvs : List (List Key × V)} {ks : List (List Key)} {vs : List D} : Rd F a (.dT kvs) → kvs.map (·.1) = ks → RepL K F (kvs.map (·.2)) vs → Rep K F (.ref a) (.dct ks vs)
  | ins {a C dx : Addr} {fs : List (Str × V)} {ns : List Str} {vs : List D} : F a = some (.ins C dx fs) → fs.map (·.1) = ns → RepL K F (fs.map (·.2)) vs → Rep K F (.ref a) (.ins C ns vs)
inductive RepL (K : PySem.W.Frag) (F : Hp) : List V → List D → Prop
  | nil : RepL K F [] []
  | cons {v : V} {vs : List V} {d : D} {ds : List D} : Rep K F v d → RepL K F vs ds → RepL K F (v :: vs) (d :: ds)
end

/-! ### what F' still tells of F: all, but that a dict may be locked or loosed -/
def core : HO → HO
  | .frz _ u => u
  | u => u
def IsDic : HO → Prop
  | .dK _ => True
  | .dT _ => True
  | _ => False
theorem core_dic {u : HO} (h : IsDic u) : core u = u := by
  cases u <;> first | rfl | exact h.elim
def Le (F F' : Hp) : Prop := ∀ a u, F a = some u → F' a = some u ∨ (IsDic (core u) ∧ Rd F' a (core u))
theorem Le.refl (F : Hp) : Le F F := fun _ _ h => .inl h
theorem Le.trans {F F1 F2 : Hp} (x : Le F F1) (y : Le F1 F2) : Le F F2 := fun a u h => by
  rcases x a u h with h | ⟨hd, h | ⟨o, h⟩⟩
  · exact y a u h
  · rcases y a _ h with h | ⟨hd2, h⟩
    · exact .inr ⟨hd, .inl h⟩
    · rw [core_dic hd] at h
      exact .inr ⟨hd, h⟩
  · rcases y a _ h with h | ⟨hd2, h⟩
    · exact .inr ⟨hd, .inr ⟨o, h⟩⟩
    · exact .inr ⟨hd, h⟩
theorem Le.some {F F' : Hp} (x : Le F F') {a : Addr} (h : F a ≠ none) : F' a ≠ none := by
  cases e : F a with
  | none => exact absurd e h
  | some u =>
    rcases x a u e with h | ⟨_, h | ⟨o, h⟩⟩ <;> rw [h] <;> exact fun z => nomatch z
theorem Le.none {F F' : Hp} (x : Le F F') {a : Addr} (h : F' a = none) : F a = none := Classical.byContradiction fun z => x.some z h
theorem Le.dK {F F' : Hp} (x : Le F F') {a : Addr} {kvs : List (Key × V)} (h : Rd F a (.dK kvs)) : Rd F' a (.dK kvs) := by
  rcases h with h | ⟨o, h⟩
  · exact (x a _ h).elim .inl fun z => z.2
  · exact (x a _ h).elim (fun z => .inr ⟨o, z⟩) fun z => z.2
theorem Le.dT {F F' : Hp} (x : Le F F') {a : Addr} {kvs : List (List Key × V)} (h : Rd F a (.dT kvs)) : Rd F' a (.dT kvs) := by
  rcases h with h | ⟨o, h⟩
  · exact (x a _ h).elim .inl fun z => z.2
  · exact (x a _ h).elim (fun z => .inr ⟨o, z⟩) fun z => z.2
theorem Le.same {F F' : Hp} (x : Le F F') {a : Addr} {u : HO} (h : F a = Option.some u) (n : ¬ IsDic (core u)) : F' a = Option.some u := (x a u h).elim id fun z => absurd z.1 n
theorem Le.sqL {K : PySem.W.Frag} {F F' : Hp} (x : Le F F') {a : Addr} {xs : List V} (h : SqL K F a xs) : SqL K F' a xs := by
  rcases h with (h | ⟨o, h⟩) | h
  · exact .inl (.inl (x.same h fun z => z))
  · exact .inl (.inr ⟨o, x.same h fun z => z⟩)
  · exact .inr h
theorem Le.sqT {K : PySem.W.Frag} {F F' : Hp} (x : Le F F') {a : Addr} {xs : List V} (h : SqT K F a xs) : SqT K F' a xs := by
  rcases h with (h | ⟨o, h⟩) | h
  · exact .inl (.inl (x.same h fun z => z))
  · exact .inl (.inr ⟨o, x.same h fun z => z⟩)
  · exact .inr h
section
variable {K : PySem.W.Frag} {F F' : Hp}
mutual
theorem Rep.mono (x : Le F F') : ∀ (d : D) {v : V}, Rep K F v d → Rep K F' v d
  | .non, _, h => by
    cases h
    exact .non
  | .bl b, _, h => by
    cases h
    exact .bl
  | .int i, _, h => by
    cases h
    exact .int
  | .str i, _, h => by
    cases h
    exact .str
  | .lst ds, _, h => by
    cases h with
    | lst h1 h2 => exact .lst (x.same h1 fun z => z) (RepL.mono x ds h2)
  | .scr ds, _, h => by
    cases h with
    | scr h1 h2 => exact .scr (x.sqL h1) (RepL.mono x ds h2)
  | .tup ds, _, h => by
    cases h with
    | tup h1 h2 => exact .tup (x.sqT h1) (RepL.mono x ds h2)
  | .dic ks vs, _, h => by
    cases h with
    | dic h1 h2 h3 => exact .dic (x.dK h1) h2 (RepL.mono x vs h3)
  | .dct ks vs, _, h => by
    cases h with
    | dct h1 h2 h3 => exact .dct (x.dT h1) h2 (RepL.mono x vs h3)
  | .ins C ns vs, _, h => by
    cases h with
    | ins h1 h2 h3 => exact .ins (x.same h1 fun z => z) h2 (RepL.mono x vs h3)
theorem RepL.mono (x : Le F F') : ∀ (ds : List D) {vs : List V}, RepL K F vs ds → RepL K F' vs ds
  | [], _, h => by
    cases h
    exact .nil
  | d :: ds, _, h => by
    cases h with
    | cons h1 h2 => exact .cons (Rep.mono x d h1) (RepL.mono x ds h2)
end
theorem RepL.len : ∀ {vs : List V} {ds : List D}, RepL K F vs ds → vs.length = ds.length
  | _, _, .nil => rfl
  | _, _, .cons _ t => congrArg Nat.succ t.len
theorem RepL.get : ∀ {vs : List V} {ds : List D} {i : Nat} {d : D}, RepL K F vs ds → ds[i]? = some d → ∃ v, vs[i]? = some v ∧ Rep K F v d
  | _, _, _, _, .nil, e => by simp at e
  | _, _, 0, _, .cons r _, e => by simp at e; subst e; exact ⟨_, rfl, r⟩
  | _, _, i + 1, d, .cons _ t, e => by
    obtain ⟨v, h1, h2⟩ := t.get (i := i) (d := d) (by simpa using e)
    exact ⟨v, by simpa using h1, h2⟩
theorem RepL.getV : ∀ {vs : List V} {ds : List D} {i : Nat} {v : V}, RepL K F vs ds → vs[i]? = some v → ∃ d, ds[i]? = some d ∧ Rep K F v d
  | _, _, _, _, .nil, e => by simp at e
  | _, _, 0, _, .cons r _, e => by simp at e; subst e; exact ⟨_, rfl, r⟩
  | _, _, i + 1, v, .cons _ t, e => by
    obtain ⟨d, h1, h2⟩ := t.getV (i := i) (v := v) (by simpa using e)
    exact ⟨d, by simpa using h1, h2⟩
theorem RepL.append : ∀ {vs ws : List V} {ds es : List D}, RepL K F vs ds → RepL K F ws es → RepL K F (vs ++ ws) (ds ++ es)
  | _, _, _, _, .nil, s => s
  | _, _, _, _, .cons r t, s => .cons r (t.append s)
theorem RepL.take : ∀ {vs : List V} {ds : List D} (n : Nat), RepL K F vs ds → RepL K F (vs.take n) (ds.take n)
  | _, _, 0, _ => .nil
  | _, _, _ + 1, .nil => .nil
  | _, _, n + 1, .cons r t => .cons r (t.take n)
theorem RepL.drop : ∀ {vs : List V} {ds : List D} (n : Nat), RepL K F vs ds → RepL K F (vs.drop n) (ds.drop n)
  | _, _, 0, r => r
  | _, _, _ + 1, .nil => .nil
  | _, _, n + 1, .cons _ t => t.drop n
theorem RepL.set {v : V} {d : D} (r : Rep K F v d) : ∀ {vs : List V} {ds : List D} (i : Nat), RepL K F vs ds → RepL K F (vs.set i v) (ds.set i d)
  | _, _, _, .nil => .nil
  | _, _, 0, .cons _ t => .cons r t
  | _, _, i + 1, .cons q t => .cons q (t.set r i)
theorem RepL.one {v : V} {d : D} (r : Rep K F v d) : RepL K F [v] [d] := .cons r .nil
end

/-! ### the state: names, and what may be written -/
/-- what a name holds, what an expression gives: data; the i-th thing that may be written; just v -/
inductive Sl where
  | dat (d : D) | cel (i : Nat) | val (v : V)
def RepS (K : PySem.W.Frag) (F : Hp) (as : List Addr) (v : V) : Sl → Prop
  | .dat d => Rep K F v d
  | .cel i => ∃ a, as[i]? = some a ∧ v = .ref a
  | .val w => v = w
inductive MO where
  | lst (ds : List D) | dic (ks : List Key) (vs : List D) | dct (ks : List (List Key)) (vs : List D)
  | ins (C : Addr) (fs : List (Str × Sl))
def RepSs (K : PySem.W.Frag) (F : Hp) (as : List Addr) : List V → List Sl → Prop
  | [], [] => True
  | v :: vs, r :: rs => RepS K F as v r ∧ RepSs K F as vs rs
  | _, _ => False
def MemO (K : PySem.W.Frag) (F : Hp) (as : List Addr) (H : Hp) (a : Addr) : MO → Prop
  | .lst ds => ∃ xs, H a = some (.lst xs) ∧ RepL K F xs ds
  | .dic ks vs => ∃ kvs, H a = some (.dK kvs) ∧ kvs.map (·.1) = ks ∧ RepL K F (kvs.map (·.2)) vs
  | .dct ks vs => ∃ kvs, H a = some (.dT kvs) ∧ kvs.map (·.1) = ks ∧ RepL K F (kvs.map (·.2)) vs
  | .ins C fs => ∃ dx gs, H a = some (.ins C dx gs) ∧ gs.map (·.1) = fs.map (·.1) ∧ RepSs K F as (gs.map (·.2)) (fs.map (·.2))
structure S where
  Γ : List (Option Sl)
  μ : List (Option MO)
/-- what is hidden from us (M0, as it stands in H0), what stays to be read; what was handed in to be written, the heap at the entry -/
structure Amb where
  M0 : Addr → Prop
  H0 : Hp
  pin : Hp
  as0 : List Addr
  He : Hp
def hid (A : Amb) (as : List Addr) (μ : List (Option MO)) (a : Addr) : Prop := A.M0 a ∨ ∃ (i : Nat) (o : MO), as[i]? = some a ∧ μ[i]? = some (some o)
open Classical in
noncomputable def vw (A : Amb) (as : List Addr) (μ : List (Option MO)) (H : Hp) : Hp := fun a => if hid A as μ a then none else H a
section
variable {A : Amb} {as as' : List Addr} {μ μ' : List (Option MO)} {H H' : Hp} {a p : Addr} {u : HO}
theorem vw_yes (h : hid A as μ a) : vw A as μ H a = none := by
  unfold vw
  rw [if_pos h]
theorem vw_no (h : ¬ hid A as μ a) : vw A as μ H a = H a := by
  unfold vw
  rw [if_neg h]
theorem vw_of (h : vw A as μ H a = some u) : H a = some u ∧ ¬ hid A as μ a := by
  by_cases x : hid A as μ a
  · rw [vw_yes x] at h
    cases h
  · rw [vw_no x] at h
    exact ⟨h, x⟩
theorem vw_le : Le (vw A as μ H) H := fun _ _ h => .inl (vw_of h).1
end
structure Ok (K : PySem.W.Frag) (A : Amb) (as : List Addr) (s : S) (σ : L2.St) (H : Hp) : Prop where
  len : as.length = s.μ.length
  nd : as.Nodup
  dj : ∀ a ∈ as, ¬ A.M0 a
  tr : ∀ a ∈ as, H a ≠ none
  m0 : ∀ a, A.M0 a → A.H0 a ≠ none ∧ H a = A.H0 a
  pin : Le A.pin (vw A as s.μ H)
  env : ∀ (i : Nat) (r : Sl), s.Γ[i]? = some (some r) → ∃ v : V, σ[i]? = some (some v) ∧ RepS K (vw A as s.μ H) as v r
  mem : ∀ (i : Nat) (a : Addr) (o : MO), as[i]? = some a → s.μ[i]? = some (some o) → MemO K (vw A as s.μ H) as H a o
  ln : s.Γ.length = σ.length
  own : ∀ a ∈ as, a ∈ A.as0 ∨ A.He a = none
  he : ∀ a, A.He a ≠ none → H a ≠ none
/-- from (as, μ, H) to (as', μ', H'): nothing that was to be read is lost -/
structure Stp (A : Amb) (as : List Addr) (μ : List (Option MO)) (H : Hp) (as' : List Addr) (μ' : List (Option MO)) (H' : Hp) : Prop where
  pre : as <+: as'
  le : Le (vw A as μ H) (vw A as' μ' H')
theorem Stp.refl {A : Amb} {as : List Addr} {μ : List (Option MO)} {H : Hp} : Stp A as μ H as μ H := ⟨List.prefix_refl _, Le.refl _⟩
theorem Stp.trans {A : Amb} {as as1 as2 : List Addr} {μ μ1 μ2 : List (Option MO)} {H H1 H2 : Hp} (x : Stp A as μ H as1 μ1 H1) (y : Stp A as1 μ1 H1 as2 μ2 H2) : Stp A as μ H as2 μ2 H2 := ⟨x.pre.trans y.pre, x.le.trans y.le⟩
theorem pre_get {as as' : List Addr} {i : Nat} {a : Addr} (h : as <+: as') (e : as[i]? = some a) : as'[i]? = some a := by
  obtain ⟨t, rfl⟩ := h
  rw [List.getElem?_append_left (List.getElem?_eq_some_iff.mp e).1]
  exact e
section
variable {K : PySem.W.Frag} {A : Amb} {as as' : List Addr} {s s' : S} {σ : L2.St} {H H' F F' : Hp} {a p : Addr} {i : Nat} {o o' : MO} {u : HO} {v : V} {r : Sl}
theorem RepS.mono (x : Le F F') (y : as <+: as') (h : RepS K F as v r) : RepS K F' as' v r := by
  cases r with
  | dat d => exact Rep.mono x d h
  | cel i =>
    obtain ⟨a, h1, h2⟩ := h
    exact ⟨a, pre_get y h1, h2⟩
  | val w => exact h
theorem RepSs.mono (x : Le F F') (y : as <+: as') : ∀ {vs : List V} {rs : List Sl}, RepSs K F as vs rs → RepSs K F' as' vs rs
  | [], [], _ => trivial
  | _ :: _, _ :: _, h => ⟨h.1.mono x y, RepSs.mono x y h.2⟩
  | [], _ :: _, h => h.elim
  | _ :: _, [], h => h.elim
theorem RepSs.len : ∀ {vs : List V} {rs : List Sl}, RepSs K F as vs rs → vs.length = rs.length
  | [], [], _ => rfl
  | _ :: _, _ :: _, h => congrArg Nat.succ (RepSs.len h.2)
  | [], _ :: _, h => h.elim
  | _ :: _, [], h => h.elim
theorem MemO.mono (x : Le F F') (y : as <+: as') (e : H' a = H a) (h : MemO K F as H a o) : MemO K F' as' H' a o := by
  cases o with
  | lst ds =>
    obtain ⟨xs, h1, h2⟩ := h
    exact ⟨xs, e.trans h1, RepL.mono x _ h2⟩
  | dic ks vs =>
    obtain ⟨xs, h1, h2, h3⟩ := h
    exact ⟨xs, e.trans h1, h2, RepL.mono x _ h3⟩
  | dct ks vs =>
    obtain ⟨xs, h1, h2, h3⟩ := h
    exact ⟨xs, e.trans h1, h2, RepL.mono x _ h3⟩
  | ins C fs =>
    obtain ⟨dx, gs, h1, h2, h3⟩ := h
    exact ⟨dx, gs, e.trans h1, h2, h3.mono x y⟩
theorem MemO.some (h : MemO K F as H a o) : H a ≠ none := by
  cases o with
  | lst ds => obtain ⟨xs, h1, h2⟩ := h; rw [h1]; exact fun z => nomatch z
  | dic ks vs => obtain ⟨xs, h1, h2, h3⟩ := h; rw [h1]; exact fun z => nomatch z
  | dct ks vs => obtain ⟨xs, h1, h2, h3⟩ := h; rw [h1]; exact fun z => nomatch z
  | ins C fs => obtain ⟨dx, gs, h1, h2, h3⟩ := h; rw [h1]; exact fun z => nomatch z
theorem Ok.unhid (ok : Ok K A as s σ H) (hp : H p = none) : ¬ hid A as s.μ p := fun h => by
  rcases h with h | ⟨i, o, h1, h2⟩
  · have := ok.m0 p h
    rw [hp] at this
    exact this.1 this.2.symm
  · exact (ok.mem i p o h1 h2).some hp
theorem Ok.out (ok : Ok K A as s σ H) (hp : H p = none) : p ∉ as := fun h => ok.tr p h hp
/-- a new object that nobody writes -/
theorem Ok.new (ok : Ok K A as s σ H) (hp : H p = none) (u : HO) : Stp A as s.μ H as s.μ (upd H p u) ∧ Ok K A as s σ (upd H p u) ∧ vw A as s.μ (upd H p u) p = some u := by
  have nh := ok.unhid hp
  have le : Le (vw A as s.μ H) (vw A as s.μ (upd H p u)) := fun b w h => by
    obtain ⟨h1, h2⟩ := vw_of h
    rw [vw_no h2, upd_ne (ne_of_none h1 hp)]
    exact .inl h1
  have nm : ∀ b, H b ≠ none → upd H p u b = H b := fun b hb => upd_ne fun z => hb (z ▸ hp)
  refine ⟨⟨List.prefix_refl _, le⟩, ⟨ok.len, ok.nd, ok.dj, fun b hb => ?_, fun b hb => ⟨(ok.m0 b hb).1, (nm b ?_).trans (ok.m0 b hb).2⟩, ok.pin.trans le, fun i r h => ?_, fun i b o h1 h2 => ?_, ok.ln, ok.own, fun b hb => by rw [nm b (ok.he b hb)]; exact ok.he b hb⟩, ?_⟩
  · rw [nm b (ok.tr b hb)]
    exact ok.tr b hb
  · rw [(ok.m0 b hb).2]
    exact (ok.m0 b hb).1
  · obtain ⟨v, h1, h2⟩ := ok.env i r h
    exact ⟨v, h1, h2.mono le (List.prefix_refl _)⟩
  · exact (ok.mem i b o h1 h2).mono le (List.prefix_refl _) (nm b (ok.mem i b o h1 h2).some)
  · rw [vw_no nh]
    exact upd_same
/-- one that may be written -/
theorem Ok.alloc (ok : Ok K A as s σ H) (hp : H p = none) {u : HO} {o : MO} (hm : ∀ F, Le (vw A as s.μ H) F → MemO K F (as ++ [p]) (upd H p u) p o) :
    Stp A as s.μ H (as ++ [p]) (s.μ ++ [some o]) (upd H p u) ∧ Ok K A (as ++ [p]) { s with μ := s.μ ++ [some o] } σ (upd H p u) ∧ (as ++ [p])[s.μ.length]? = some p := by
  have nh := ok.unhid hp
  have np := ok.out hp
  have nm : ∀ b, H b ≠ none → upd H p u b = H b := fun b hb => upd_ne fun z => hb (z ▸ hp)
  have pre : as <+: as ++ [p] := List.prefix_append _ _
  have hlast : (as ++ [p])[s.μ.length]? = some p := by
    rw [← ok.len, List.getElem?_append_right (Nat.le_refl _), Nat.sub_self]
    rfl
  have hidb : ∀ b, b ≠ p → (hid A (as ++ [p]) (s.μ ++ [some o]) b → hid A as s.μ b) := fun b hb h => by
    rcases h with h | ⟨i, o', h1, h2⟩
    · exact .inl h
    · by_cases hi : i < as.length
      · rw [List.getElem?_append_left hi] at h1
        rw [List.getElem?_append_left (by rw [← ok.len]; exact hi)] at h2
        exact .inr ⟨i, o', h1, h2⟩
      · rw [List.getElem?_append_right (by omega)] at h1
        cases e : i - as.length with
        | zero =>
          rw [e] at h1
          exact absurd (Option.some.inj h1).symm hb
        | succ n =>
          rw [e] at h1
          cases h1
  have le : Le (vw A as s.μ H) (vw A (as ++ [p]) (s.μ ++ [some o]) (upd H p u)) := fun b w h => by
    obtain ⟨h1, h2⟩ := vw_of h
    have hb : b ≠ p := ne_of_none h1 hp
    rw [vw_no fun z => h2 (hidb b hb z), upd_ne hb]
    exact .inl h1
  refine ⟨⟨pre, le⟩, ⟨?_, ?_, fun b hb => ?_, fun b hb => ?_, fun b hb => ⟨(ok.m0 b hb).1, (nm b ?_).trans (ok.m0 b hb).2⟩, ok.pin.trans le, fun i r h => ?_, fun i b o' h1 h2 => ?_, ok.ln, fun b hb => (List.mem_append.mp hb).elim (ok.own b) fun z => .inr (Classical.byContradiction fun e => ok.he b e ((show b = p by simpa using z) ▸ hp)), fun b hb => by rw [nm b (ok.he b hb)]; exact ok.he b hb⟩, hlast⟩
  · show (as ++ [p]).length = (s.μ ++ [some o]).length
    rw [List.length_append, List.length_append, ok.len]
    rfl
  · exact List.nodup_append.mpr ⟨ok.nd, by simp, fun x hx y hy e => by
      have : y = p := by simpa using hy
      exact np (this ▸ e ▸ hx)⟩
  · rcases List.mem_append.mp hb with hb | hb
    · exact ok.dj b hb
    · have : b = p := by simpa using hb
      subst this
      exact fun z => nh (.inl z)
  · rcases List.mem_append.mp hb with hb | hb
    · rw [nm b (ok.tr b hb)]
      exact ok.tr b hb
    · have : b = p := by simpa using hb
      subst this
      rw [upd_same]
      exact fun z => nomatch z
  · rw [(ok.m0 b hb).2]
    exact (ok.m0 b hb).1
  · obtain ⟨v, h1, h2⟩ := ok.env i r h
    exact ⟨v, h1, h2.mono le pre⟩
  · by_cases hi : i < as.length
    · rw [List.getElem?_append_left hi] at h1
      have h2' : s.μ[i]? = some (some o') := by
        rw [← List.getElem?_append_left (l₂ := [some o]) (by rw [← ok.len]; exact hi)]
        exact h2
      exact (ok.mem i b o' h1 h2').mono le pre (nm b (ok.mem i b o' h1 h2').some)
    · rw [List.getElem?_append_right (by omega)] at h1
      cases e : i - as.length with
      | zero =>
        rw [e] at h1
        have hb : p = b := Option.some.inj h1
        subst hb
        have h2' : (s.μ ++ [some o])[i]? = some (some o') := h2
        rw [List.getElem?_append_right (by rw [← ok.len]; omega), show i - s.μ.length = 0 by rw [← ok.len]; exact e] at h2'
        have : o = o' := Option.some.inj (Option.some.inj h2')
        subst this
        exact hm _ le
      | succ n =>
        rw [e] at h1
        cases h1
/-- the i-th is written -/
theorem Ok.write (ok : Ok K A as s σ H) (ha : as[i]? = some a) (hi : s.μ[i]? = some (some o)) {u : HO} (hm : MemO K (vw A as s.μ H) as (upd H a u) a o') :
    Stp A as s.μ H as (s.μ.set i (some o')) (upd H a u) ∧ Ok K A as { s with μ := s.μ.set i (some o') } σ (upd H a u) := by
  have hil : i < s.μ.length := (List.getElem?_eq_some_iff.mp hi).1
  have hh : ∀ b, hid A as (s.μ.set i (some o')) b ↔ hid A as s.μ b := fun b => by
    constructor
    · rintro (h | ⟨j, o2, h1, h2⟩)
      · exact .inl h
      · by_cases hj : i = j
        · subst hj
          exact .inr ⟨i, o, h1, hi⟩
        · rw [List.getElem?_set_ne hj] at h2
          exact .inr ⟨j, o2, h1, h2⟩
    · rintro (h | ⟨j, o2, h1, h2⟩)
      · exact .inl h
      · by_cases hj : i = j
        · subst hj
          exact .inr ⟨i, o', h1, by rw [List.getElem?_set_self hil]⟩
        · exact .inr ⟨j, o2, h1, by rw [List.getElem?_set_ne hj]; exact h2⟩
  have ev : vw A as (s.μ.set i (some o')) (upd H a u) = vw A as s.μ H := by
    funext b
    by_cases hb : hid A as s.μ b
    · rw [vw_yes hb, vw_yes ((hh b).mpr hb)]
    · rw [vw_no hb, vw_no fun z => hb ((hh b).mp z), upd_ne]
      intro e
      subst e
      exact hb (.inr ⟨i, o, ha, hi⟩)
  have nm : ∀ b, b ≠ a → upd H a u b = H b := fun b hb => upd_ne hb
  refine ⟨⟨List.prefix_refl _, by rw [ev]; exact Le.refl _⟩, ⟨?_, ok.nd, ok.dj, fun b hb => ?_, fun b hb => ⟨(ok.m0 b hb).1, (nm b ?_).trans (ok.m0 b hb).2⟩, ?_, fun j r h => ?_, fun j b o2 h1 h2 => ?_, ok.ln, ok.own, fun b hb => by
    by_cases e : b = a
    · subst e
      rw [upd_same]
      exact fun z => nomatch z
    · rw [nm b e]
      exact ok.he b hb⟩⟩
  · show as.length = (s.μ.set i (some o')).length
    rw [List.length_set]
    exact ok.len
  · by_cases e : b = a
    · subst e
      rw [upd_same]
      exact fun z => nomatch z
    · rw [nm b e]
      exact ok.tr b hb
  · rintro rfl
    exact ok.dj b (List.mem_of_getElem? ha) hb
  · show Le A.pin (vw A as (s.μ.set i (some o')) (upd H a u))
    rw [ev]
    exact ok.pin
  · show ∃ v : V, σ[j]? = some (some v) ∧ RepS K (vw A as (s.μ.set i (some o')) (upd H a u)) as v r
    rw [ev]
    exact ok.env j r h
  · show MemO K (vw A as (s.μ.set i (some o')) (upd H a u)) as (upd H a u) b o2
    rw [ev]
    by_cases hj : i = j
    · subst hj
      have e1 : a = b := Option.some.inj (ha.symm.trans h1)
      subst e1
      have h2' : (s.μ.set i (some o'))[i]? = some (some o2) := h2
      rw [List.getElem?_set_self hil] at h2'
      have e2 : o' = o2 := Option.some.inj (Option.some.inj h2')
      subst e2
      exact hm
    · have h2' : (s.μ.set i (some o'))[j]? = some (some o2) := h2
      rw [List.getElem?_set_ne hj] at h2'
      refine (ok.mem j b o2 h1 h2').mono (Le.refl _) (List.prefix_refl _) (nm b fun e => ?_)
      subst e
      have l1 := (List.getElem?_eq_some_iff.mp ha)
      have l2 := (List.getElem?_eq_some_iff.mp h1)
      exact hj ((List.getElem_inj ok.nd).mp (l1.2.trans l2.2.symm))
/-- some of what may be written is written no more: μ' has each as it was, or none -/
def Less (μ μ' : List (Option MO)) : Prop := μ'.length = μ.length ∧ ∀ (i : Nat) (o : MO), μ'[i]? = some (some o) → μ[i]? = some (some o)
theorem Ok.less {μ' : List (Option MO)} (ok : Ok K A as s σ H) (l : Less s.μ μ') : Stp A as s.μ H as μ' H ∧ Ok K A as { s with μ := μ' } σ H := by
  have le : Le (vw A as s.μ H) (vw A as μ' H) := fun b w h => by
    obtain ⟨h1, h2⟩ := vw_of h
    refine .inl ?_
    rw [vw_no, h1]
    rintro (z | ⟨i, o, z1, z2⟩)
    · exact h2 (.inl z)
    · exact h2 (.inr ⟨i, o, z1, l.2 i o z2⟩)
  refine ⟨⟨List.prefix_refl _, le⟩, ⟨ok.len.trans l.1.symm, ok.nd, ok.dj, ok.tr, ok.m0, ok.pin.trans le, fun j r h => ?_, fun j b o2 h1 h2 => ?_, ok.ln, ok.own, ok.he⟩⟩
  · obtain ⟨v, h1, h2⟩ := ok.env j r h
    exact ⟨v, h1, h2.mono le (List.prefix_refl _)⟩
  · exact (ok.mem j b o2 h1 (l.2 j o2 h2)).mono le (List.prefix_refl _) rfl
/-- the i-th is written no more: it's data -/
def MO.d : MO → D
  | .lst ds => .lst ds
  | .dic ks vs => .dic ks vs
  | .dct ks vs => .dct ks vs
  | .ins C fs => .ins C (fs.map (·.1)) (fs.map fun f => match f.2 with | .dat d => d | _ => .non)
def MO.plain : MO → Prop
  | .ins _ fs => ∀ f ∈ fs, ∃ d, f.2 = .dat d
  | _ => True
theorem RepSs.dats {as : List Addr} : ∀ {vs : List V} {rs : List Sl}, RepSs K F as vs rs → (∀ r ∈ rs, ∃ d, r = .dat d) → RepL K F vs (rs.map fun r => match r with | .dat d => d | _ => .non)
  | [], [], _, _ => .nil
  | _ :: _, r :: _, h, hd => by
    obtain ⟨d, rfl⟩ := hd r (List.mem_cons_self ..)
    exact .cons h.1 (RepSs.dats h.2 fun q hq => hd q (List.mem_cons_of_mem _ hq))
  | [], _ :: _, h, _ => h.elim
  | _ :: _, [], h, _ => h.elim
theorem less_set (μ : List (Option MO)) (i : Nat) : Less μ (μ.set i none) := ⟨List.length_set .., fun j o h => by
  by_cases e : i = j
  · subst e
    by_cases hi : i < μ.length
    · rw [List.getElem?_set_self hi] at h
      cases h
    · rw [List.getElem?_eq_none (by rw [List.length_set]; omega)] at h
      cases h
  · rw [List.getElem?_set_ne e] at h
    exact h⟩
theorem Ok.freeze (ok : Ok K A as s σ H) (ha : as[i]? = some a) (hi : s.μ[i]? = some (some o)) (pl : o.plain) : Stp A as s.μ H as (s.μ.set i none) H ∧ Ok K A as { s with μ := s.μ.set i none } σ H ∧ Rep K (vw A as (s.μ.set i none) H) (.ref a) o.d := by
  obtain ⟨st, ok2⟩ := ok.less (less_set s.μ i)
  refine ⟨st, ok2, ?_⟩
  have nh : ¬ hid A as (s.μ.set i none) a := by
    rintro (z | ⟨j, o2, z1, z2⟩)
    · exact ok.dj a (List.mem_of_getElem? ha) z
    · have l1 := (List.getElem?_eq_some_iff.mp ha)
      have l2 := (List.getElem?_eq_some_iff.mp z1)
      have e : i = j := (List.getElem_inj ok.nd).mp (l1.2.trans l2.2.symm)
      subst e
      rw [List.getElem?_set_self (by rw [← ok.len]; exact l1.1)] at z2
      cases z2
  have hm := (ok.mem i a o ha hi).mono st.le st.pre rfl
  cases o with
  | lst ds =>
    obtain ⟨xs, h1, h2⟩ := hm
    exact .lst (by rw [vw_no nh]; exact h1) h2
  | dic ks vs =>
    obtain ⟨xs, h1, h2, h3⟩ := hm
    exact .dic (.inl (by rw [vw_no nh]; exact h1)) h2 h3
  | dct ks vs =>
    obtain ⟨xs, h1, h2, h3⟩ := hm
    exact .dct (.inl (by rw [vw_no nh]; exact h1)) h2 h3
  | ins C fs =>
    obtain ⟨dx, gs, h1, h2, h3⟩ := hm
    refine .ins (by rw [vw_no nh]; exact h1) h2 ?_
    have := h3.dats fun q hq => by
      obtain ⟨f, hf, rfl⟩ := List.mem_map.mp hq
      exact pl f hf
    rw [List.map_map] at this
    exact this
end
end Gd
namespace Gd
open PySem PySem.Spec PyProof.Rows L2

/-! ### readings over the state -/
abbrev WE := S → (Sl → S → Prop) → Prop
abbrev WT := S → (Bool → S → Prop) → Prop
abbrev WA := S → (List Sl → S → Prop) → Prop
/-- what is wanted behind a statement -/
structure Dn where
  nx : S → Prop
  rt : Sl → S → Prop
  bk : S → Prop := fun _ => False
  ct : S → Prop := fun _ => False
abbrev WS := Dn → S → Prop
def up (K : PySem.W.Frag) (w : WE) : TE := fun σ H Q => ∃ A as s R, Ok K A as s σ H ∧ w s R ∧
  ∀ v H' r s' as', Stp A as s.μ H as' s'.μ H' → Ok K A as' s' σ H' → RepS K (vw A as' s'.μ H') as' v r → R r s' → Q v H'
def upT (K : PySem.W.Frag) (w : WT) : TT := fun σ H Q => ∃ A as s R, Ok K A as s σ H ∧ w s R ∧
  ∀ b H' s' as', Stp A as s.μ H as' s'.μ H' → Ok K A as' s' σ H' → R b s' → Q b H'
def upA (K : PySem.W.Frag) (w : WA) : TA := fun σ H Q => ∃ A as s R, Ok K A as s σ H ∧ w s R ∧
  ∀ vs H' rs s' as', Stp A as s.μ H as' s'.μ H' → Ok K A as' s' σ H' → RepSs K (vw A as' s'.μ H') as' vs rs → R rs s' → Q vs H'
def upS (K : PySem.W.Frag) (w : WS) : TS := fun D σ H => ∃ A as s d, Ok K A as s σ H ∧ w d s ∧
  (∀ σ' H' s' as', as <+: as' → Ok K A as' s' σ' H' → d.nx s' → D.nx σ' H') ∧
  (∀ v σ' H' r s' as', as <+: as' → Ok K A as' s' σ' H' → RepS K (vw A as' s'.μ H') as' v r → d.rt r s' → D.rt v H') ∧
  (∀ σ' H' s' as', as <+: as' → Ok K A as' s' σ' H' → d.bk s' → D.bk σ' H') ∧
  (∀ σ' H' s' as', as <+: as' → Ok K A as' s' σ' H' → d.ct s' → D.ct σ' H')
section
variable {X : Cx} {e : Expr} {t t' : TE} {c c' : TT} {a a' : TA} {st : Stmt} {sts : List Stmt} {u u' : TS} {es : List Expr}
theorem pe_imp (h : PE X e t) (i : ∀ σ H Q, t' σ H Q → t σ H Q) : PE X e t' := ⟨fun pins s σ H Q I w => h.run pins s σ H Q I (i σ H Q w)⟩
theorem pt_imp (h : PT X e c) (i : ∀ σ H Q, c' σ H Q → c σ H Q) : PT X e c' := ⟨fun pins s σ H Q I w => h.run pins s σ H Q I (i σ H Q w)⟩
theorem pw_imp (h : PW X e c) (i : ∀ σ H Q, c' σ H Q → c σ H Q) : PW X e c' := ⟨fun wh pins s σ H Q I w => h.run wh pins s σ H Q I (i σ H Q w)⟩
theorem pa_imp (h : PA X es a) (i : ∀ σ H Q, a' σ H Q → a σ H Q) : PA X es a' := ⟨fun p pins s σ H Q I w => h.run p pins s σ H Q I (i σ H Q w)⟩
theorem ps_imp (h : PS X st u) (i : ∀ D σ H, u' D σ H → u D σ H) : PS X st u' := ⟨fun pins s σ H D I w => h.run pins s σ H D I (i D σ H w)⟩
theorem pss_imp (h : PSs X sts u) (i : ∀ D σ H, u' D σ H → u D σ H) : PSs X sts u' := ⟨fun pins s σ H D I w => h.run pins s σ H D I (i D σ H w)⟩
end

/-! ### places in written lists -/
def nth {α : Type} : List (Option α) → Nat → Option α
  | [], _ => none
  | x :: _, 0 => x
  | _ :: t, n + 1 => nth t n
theorem nth_eq {α : Type} : ∀ (l : List (Option α)) (n : Nat) {x : α}, nth l n = some x → l[n]? = some (some x)
  | [], _, _, h => nomatch h
  | y :: _, 0, _, h => by
    rw [show y = some _ from h]
    rfl
  | _ :: t, n + 1, _, h => by
    rw [List.getElem?_cons_succ]
    exact nth_eq t n h
def MO.d? : MO → Option D
  | .lst ds => some (.lst ds)
  | .dic ks vs => some (.dic ks vs)
  | .dct ks vs => some (.dct ks vs)
  | .ins _ _ => none
/-- what can be read of it now -/
def rd (s : S) : Sl → Option D
  | .dat d => some d
  | .cel i => (nth s.μ i).bind MO.d?
  | .val _ => none
/-- v is d at H, its parts in F -/
def Rdc (K : PySem.W.Frag) (F H : Hp) (v : V) : D → Prop
  | .non => v = .non
  | .bl b => v = .bl b
  | .int i => v = .int i
  | .str x => v = .str x
  | .lst ds => ∃ a xs, v = .ref a ∧ H a = some (.lst xs) ∧ RepL K F xs ds
  | .scr ds => ∃ a xs, v = .ref a ∧ SqL K H a xs ∧ RepL K F xs ds
  | .tup ds => Rep K F v (.tup ds) ∧ ∃ a xs, v = .ref a ∧ SqT K H a xs ∧ RepL K F xs ds
  | .dic ks vs => ∃ a kvs, v = .ref a ∧ Rd H a (.dK kvs) ∧ kvs.map (·.1) = ks ∧ RepL K F (kvs.map (·.2)) vs
  | .dct ks vs => ∃ a kvs, v = .ref a ∧ Rd H a (.dT kvs) ∧ kvs.map (·.1) = ks ∧ RepL K F (kvs.map (·.2)) vs
  | .ins C ns vs => ∃ a dx fs, v = .ref a ∧ H a = some (.ins C dx fs) ∧ fs.map (·.1) = ns ∧ RepL K F (fs.map (·.2)) vs
section
variable {K : PySem.W.Frag} {A : Amb} {as as' : List Addr} {s s' : S} {σ : L2.St} {H H' F F' : Hp} {a p : Addr} {i : Nat} {o o' : MO} {v : V} {r : Sl} {d : D}
theorem Rep.rdc (x : Le F H) (h : Rep K F v d) : Rdc K F H v d := by
  cases h with
  | non => exact rfl
  | bl => exact rfl
  | int => exact rfl
  | str => exact rfl
  | lst h1 h2 => exact ⟨_, _, rfl, x.same h1 fun z => z, h2⟩
  | scr h1 h2 => exact ⟨_, _, rfl, x.sqL h1, h2⟩
  | tup h1 h2 => exact ⟨.tup h1 h2, _, _, rfl, x.sqT h1, h2⟩
  | dic h1 h2 h3 => exact ⟨_, _, rfl, x.dK h1, h2, h3⟩
  | dct h1 h2 h3 => exact ⟨_, _, rfl, x.dT h1, h2, h3⟩
  | ins h1 h2 h3 => exact ⟨_, _, _, rfl, x.same h1 fun z => z, h2, h3⟩
theorem Ok.rdc (ok : Ok K A as s σ H) (h : RepS K (vw A as s.μ H) as v r) (e : rd s r = some d) : Rdc K (vw A as s.μ H) H v d := by
  cases r with
  | dat d' =>
    cases e
    exact Rep.rdc vw_le h
  | cel i =>
    obtain ⟨a, h1, rfl⟩ := h
    have e : (nth s.μ i).bind MO.d? = some d := e
    cases q : nth s.μ i with
    | none => rw [q] at e; cases e
    | some o =>
      rw [q] at e
      have hm := ok.mem i a o h1 (nth_eq _ _ q)
      cases o with
      | lst ds => cases e; obtain ⟨xs, h2, h3⟩ := hm; exact ⟨a, xs, rfl, h2, h3⟩
      | dic ks vs => cases e; obtain ⟨xs, h2, h3, h4⟩ := hm; exact ⟨a, xs, rfl, .inl h2, h3, h4⟩
      | dct ks vs => cases e; obtain ⟨xs, h2, h3, h4⟩ := hm; exact ⟨a, xs, rfl, .inl h2, h3, h4⟩
      | ins C fs => cases e
  | val w => cases e
/-- what follows -/
def Kon (K : PySem.W.Frag) (A : Amb) (as : List Addr) (s : S) (σ : L2.St) (H : Hp) (R : Sl → S → Prop) (Q : VK) : Prop :=
  ∀ v H' r s' as', Stp A as s.μ H as' s'.μ H' → Ok K A as' s' σ H' → RepS K (vw A as' s'.μ H') as' v r → R r s' → Q v H'
theorem Kon.here {R : Sl → S → Prop} {Q : VK} (k : Kon K A as s σ H R Q) (ok : Ok K A as s σ H) (h : RepS K (vw A as s.μ H) as v r) (q : R r s) : Q v H := k v H r s as Stp.refl ok h q
/-- a new thing that is data -/
theorem Kon.new {R : Sl → S → Prop} {Q : VK} (k : Kon K A as s σ H R Q) (ok : Ok K A as s σ H) (hp : H p = none) (u : HO) (hd : ∀ F, Le (vw A as s.μ H) F → F p = some u → Rep K F (.ref p) d) (q : R (.dat d) s) : Q (.ref p) (upd H p u) := by
  obtain ⟨st, ok', e⟩ := ok.new hp u
  exact k _ _ (.dat d) s as st ok' (hd _ st.le e) q
/-- a new thing that may be written -/
def nw (o : MO) (s : S) (R : Sl → S → Prop) : Prop := R (.cel s.μ.length) { s with μ := s.μ ++ [some o] }
theorem Kon.alloc {R : Sl → S → Prop} {Q : VK} (k : Kon K A as s σ H R Q) (ok : Ok K A as s σ H) (hp : H p = none) {u : HO} (hm : ∀ F, Le (vw A as s.μ H) F → MemO K F (as ++ [p]) (upd H p u) p o) (q : nw o s R) : Q (.ref p) (upd H p u) := by
  obtain ⟨st, ok', e⟩ := ok.alloc hp hm
  exact k _ _ (.cel s.μ.length) _ _ st ok' ⟨p, e, rfl⟩ q
theorem Kon.lst {R : Sl → S → Prop} {Q : VK} (k : Kon K A as s σ H R Q) (ok : Ok K A as s σ H) (hp : H p = none) {xs : List V} {ds : List D} (h : RepL K (vw A as s.μ H) xs ds) (q : nw (.lst ds) s R) : Q (.ref p) (upd H p (.lst xs)) :=
  k.alloc (o := .lst ds) ok hp (fun _ le => ⟨xs, upd_same, RepL.mono le _ h⟩) q
theorem Kon.tup {R : Sl → S → Prop} {Q : VK} (k : Kon K A as s σ H R Q) (ok : Ok K A as s σ H) (hp : H p = none) {xs : List V} {ds : List D} (h : RepL K (vw A as s.μ H) xs ds) (q : R (.dat (.tup ds)) s) : Q (.ref p) (upd H p (.tup xs)) :=
  k.new ok hp _ (fun _ le e => .tup (.inl (.inl e)) (RepL.mono le _ h)) q
end
def sz (n : Nat) : Prop := n ≤ 100000
theorem sz.ok {n : Nat} (h : sz n) : n ≤ sizeLine := Nat.le_trans h (by decide)
theorem sz.lt {n : Nat} (h : sz (n + 1)) : n < sizeLine := Nat.lt_of_lt_of_le (Nat.lt_of_succ_le h) (by decide)
def optK {α : Type} (o : Option α) (k : α → Prop) : Prop := match o with
  | some x => k x
  | none => False
theorem optK_of {α : Type} {o : Option α} {k : α → Prop} (h : optK o k) : ∃ x, o = some x ∧ k x := by
  cases o with
  | none => exact h.elim
  | some x => exact ⟨x, rfl, h⟩

/-! ### names, constants -/
section
variable {X : Cx} {x : Str} {pos : Pos}
def wVar (i : Nat) : WE := fun s R => optK (nth s.Γ i) fun r => R r s
theorem e_var (i : Nat) (hN : X.N[i]? = some x := by rfl) (hv : Vis X.env.scope x := by first | exact Or.inl rfl | exact Or.inr (Or.inl rfl) | exact Or.inr (Or.inr rfl)) (hd : (x == ("__debug__" : Str)) = false := by decide)
    (hcd : (x == ("__classdict__" : Str)) = false := by decide) : PE X (.Name x pos) (up X.K (wVar i)) := pe_imp (pe_var hN hv hd hcd) fun σ H Q ⟨A, as, s, R, ok, w, k⟩ => by
  obtain ⟨r, e, w⟩ := optK_of w
  obtain ⟨v, h1, h2⟩ := ok.env i r (nth_eq _ _ e)
  exact ⟨v, h1, Kon.here k ok h2 w⟩
def wC (d : D) : WE := fun s R => R (.dat d) s
theorem e_int {i j} : PE X (.Constant (.int i) j pos) (up X.K (wC (.int i))) := pe_imp pe_int fun _ _ _ ⟨_, _, _, _, ok, w, k⟩ => Kon.here k ok (r := .dat (.int i)) .int w
theorem e_bl {b j} : PE X (.Constant (.bool b) j pos) (up X.K (wC (.bl b))) := pe_imp pe_bl fun _ _ _ ⟨_, _, _, _, ok, w, k⟩ => Kon.here k ok (r := .dat (.bl b)) .bl w
theorem e_non {j} : PE X (.Constant .none j pos) (up X.K (wC .non)) := pe_imp pe_non fun _ _ _ ⟨_, _, _, _, ok, w, k⟩ => Kon.here k ok (r := .dat .non) .non w
theorem e_str {y j} : PE X (.Constant (.str y) j pos) (up X.K (wC (.str y))) := pe_imp pe_str fun _ _ _ ⟨_, _, _, _, ok, w, k⟩ => Kon.here k ok (r := .dat (.str y)) .str w
/-- a text, a number at a global name -/
theorem e_gstr {y : Str} {t : Tok} (hg : Gl X x) (hm : X.mg x = some (.str y t)) (hd : (x == ("__debug__" : Str)) = false := by decide) : PE X (.Name x pos) (up X.K (wC (.str y))) :=
  pe_imp (pe_glob (v := .str y) hg hm ⟨t, rfl⟩ hd) fun _ _ _ ⟨_, _, _, _, ok, w, k⟩ => Kon.here k ok (r := .dat (.str y)) .str w
theorem e_gint {y : Int} {t : Tok} (hg : Gl X x) (hm : X.mg x = some (.int y t)) (hd : (x == ("__debug__" : Str)) = false := by decide) : PE X (.Name x pos) (up X.K (wC (.int y))) :=
  pe_imp (pe_glob (v := .int y) hg hm ⟨t, rfl⟩ hd) fun _ _ _ ⟨_, _, _, _, ok, w, k⟩ => Kon.here k ok (r := .dat (.int y)) .int w
def wV (v : V) : WE := fun s R => R (.val v) s
theorem e_gref {a : Addr} (hg : Gl X x) (hm : X.mg x = some (.ref a)) (hd : (x == ("__debug__" : Str)) = false := by decide) : PE X (.Name x pos) (up X.K (wV (.ref a))) :=
  pe_imp (pe_glob (v := .ref a) hg hm rfl hd) fun _ _ _ ⟨_, _, _, _, ok, w, k⟩ => Kon.here k ok (r := .val (.ref a)) rfl w
theorem e_bty {n : String} (hg : Gl X x) (hm : X.mg x = none) (hv : bootBuiltins x = some (.type n)) (hn : x ≠ "__name__" := by decide) (hd : (x == ("__debug__" : Str)) = false := by decide) : PE X (.Name x pos) (up X.K (wV (.ty n))) :=
  pe_imp (pe_bltn (v := .ty n) hg hm hv rfl hn hd) fun _ _ _ ⟨_, _, _, _, ok, w, k⟩ => Kon.here k ok (r := .val (.ty n)) rfl w
end

/-! ### operations on two values -/
abbrev F2 := Sl → Sl → S → (Sl → S → Prop) → Prop
def OpS (K : PySem.W.Frag) (f : F2) (r : R2) : Prop := ∀ (A : Amb) (as : List Addr) (s : S) (σ : L2.St) (H : Hp) (x y : V) (p q : Sl) (R : Sl → S → Prop) (Q : VK), Ok K A as s σ H → RepS K (vw A as s.μ H) as x p → RepS K (vw A as s.μ H) as y q →
  f p q s R → Kon K A as s σ H R Q → r x y H Q
def wOp (f : F2) (wa wb : WE) : WE := fun s R => wa s fun p s1 => wb s1 fun q s2 => f p q s2 R
theorem up_op {K : PySem.W.Frag} {f : F2} {r : R2} (hs : OpS K f r) {wa wb : WE} : ∀ σ H Q, up K (wOp f wa wb) σ H Q → tOp r (up K wa) (up K wb) σ H Q := fun σ H Q ⟨A, as, s, R, ok, w, k⟩ =>
  ⟨A, as, s, _, ok, w, fun v1 H1 p s1 as1 st1 ok1 r1 w1 => ⟨A, as1, s1, _, ok1, w1, fun v2 H2 q s2 as2 st2 ok2 r2 w2 =>
    hs A as2 s2 σ H2 v1 v2 p q R Q ok2 (r1.mono st2.le st2.pre) r2 w2 fun v3 H3 t s3 as3 st3 ok3 r3 w3 => k v3 H3 t s3 as3 ((st1.trans st2).trans st3) ok3 r3 w3⟩⟩
section
variable {X : Cx} {a b c : Expr} {wa wb wc : WE} {pos : Pos} {f f' : F2} {r r' : R2}
theorem e_op {op : Operator} (ho : OpR X (binaryOp op) r) (hs : OpS X.K f r) (ha : PE X a (up X.K wa)) (hb : PE X b (up X.K wb)) : PE X (.BinOp a op b pos) (up X.K (wOp f wa wb)) := pe_imp (pe_op ho ha hb) (up_op hs)
theorem e_cmp {op : CmpOp} (ho : OpR X (compareOp op) r) (hs : OpS X.K f r) (ha : PE X a (up X.K wa)) (hb : PE X b (up X.K wb)) (hm : behindInMarks op b = false) : PE X (.Compare a [op] [b] pos) (up X.K (wOp f wa wb)) := pe_imp (pe_cmpR ho ha hb hm) (up_op hs)
/-- a truth, as such -/
def isB (r : Sl) (k : Bool → Prop) : Prop := match r with
  | .dat (.bl b) => k b
  | _ => False
theorem isB_of {K : PySem.W.Frag} {F : Hp} {as : List Addr} {v : V} {r : Sl} {k : Bool → Prop} (h : RepS K F as v r) (w : isB r k) : ∃ b, v = .bl b ∧ k b := by
  cases r with
  | dat d =>
    cases d with
    | bl b => cases h; exact ⟨b, rfl, w⟩
    | _ => exact w.elim
  | cel i => exact w.elim
  | val v => exact w.elim
def wTst (w : WE) : WT := fun s R => w s fun r s1 => isB r fun b => R b s1
theorem up_test {K : PySem.W.Frag} {w : WE} {t : TE} (h : ∀ σ H Q, up K w σ H Q → t σ H Q) : ∀ σ H Q, upT K (wTst w) σ H Q → tTest t σ H Q := fun σ H Q ⟨A, as, s, R, ok, w, k⟩ =>
  h σ H _ ⟨A, as, s, _, ok, w, fun v H1 r s1 as1 st1 ok1 r1 w1 => by
    obtain ⟨b, e, w2⟩ := isB_of r1 w1
    exact ⟨b, e, k b H1 s1 as1 st1 ok1 w2⟩⟩
theorem t_cmp {op : CmpOp} (ho : OpR X (compareOp op) r) (hs : OpS X.K f r) (ha : PE X a (up X.K wa)) (hb : PE X b (up X.K wb)) (hm : behindInMarks op b = false) : PT X (.Compare a [op] [b] pos) (upT X.K (wTst (wOp f wa wb))) :=
  pt_imp (pt_cmpR ho ha hb hm) (up_test (up_op hs))
/-- a op b op' c -/
def wChain (f f' : F2) (wa wb wc : WE) : WE := fun s R => wa s fun p s1 => wb s1 fun q s2 => f p q s2 fun z s3 => isB z fun k => if k = true then wc s3 (fun t s4 => f' q t s4 R) else R (.dat (.bl false)) s3
theorem up_chain {K : PySem.W.Frag} (hs : OpS K f r) (hs' : OpS K f' r') : ∀ σ H Q, up K (wChain f f' wa wb wc) σ H Q → tChain r r' (up K wa) (up K wb) (up K wc) σ H Q := fun σ H Q ⟨A, as, s, R, ok, w, k⟩ =>
  ⟨A, as, s, _, ok, w, fun v1 H1 p s1 as1 st1 ok1 r1 w1 => ⟨A, as1, s1, _, ok1, w1, fun v2 H2 q s2 as2 st2 ok2 r2 w2 =>
    hs A as2 s2 σ H2 v1 v2 p q _ _ ok2 (r1.mono st2.le st2.pre) r2 w2 fun v3 H3 t s3 as3 st3 ok3 r3 w3 => by
      obtain ⟨b, e, w4⟩ := isB_of r3 w3
      refine ⟨b, e, ?_⟩
      cases b with
      | false =>
        rw [if_neg Bool.false_ne_true]
        rw [if_neg Bool.false_ne_true] at w4
        exact k _ H3 (.dat (.bl false)) s3 as3 ((st1.trans st2).trans st3) ok3 .bl w4
      | true =>
        rw [if_pos rfl]
        rw [if_pos rfl] at w4
        exact ⟨A, as3, s3, _, ok3, w4, fun v4 H4 u s4 as4 st4 ok4 r4 w5 => hs' A as4 s4 σ H4 v2 v4 q u R Q ok4 ((r2.mono st3.le st3.pre).mono st4.le st4.pre) r4 w5
          fun v5 H5 t s5 as5 st5 ok5 r5 w6 => k v5 H5 t s5 as5 ((((st1.trans st2).trans st3).trans st4).trans st5) ok5 r5 w6⟩⟩⟩
theorem e_chain {op op' : CmpOp} (ho : OpR X (compareOp op) r) (hs : OpS X.K f r) (ho' : OpR X (compareOp op') r') (hs' : OpS X.K f' r') (ha : PE X a (up X.K wa)) (hb : PE X b (up X.K wb)) (hc : PE X c (up X.K wc))
    (hm : lastMarks [op, op'] [b, c] = false := by with_unfolding_all rfl) : PE X (.Compare a [op, op'] [b, c] pos) (up X.K (wChain f f' wa wb wc)) := pe_imp (pe_chain ho ho' ha hb hc hm) (up_chain hs hs')
theorem t_chain {op op' : CmpOp} (ho : OpR X (compareOp op) r) (hs : OpS X.K f r) (ho' : OpR X (compareOp op') r') (hs' : OpS X.K f' r') (ha : PE X a (up X.K wa)) (hb : PE X b (up X.K wb)) (hc : PE X c (up X.K wc))
    (hm : lastMarks [op, op'] [b, c] = false := by with_unfolding_all rfl) : PT X (.Compare a [op, op'] [b, c] pos) (upT X.K (wTst (wChain f f' wa wb wc))) := pt_imp (pt_chain ho ho' ha hb hc hm) (up_test (up_chain hs hs'))
end

/-- two data -/
def two (s : S) (p q : Sl) (k : D → D → Prop) : Prop := match rd s p, rd s q with
  | some d, some e => k d e
  | _, _ => False
theorem two_of {s : S} {p q : Sl} {k : D → D → Prop} (h : two s p q k) : ∃ d e, rd s p = some d ∧ rd s q = some e ∧ k d e := by
  unfold two at h
  cases e1 : rd s p with
  | none => simp only [e1] at h
  | some d =>
    cases e2 : rd s q with
    | none => simp only [e1, e2] at h
    | some e =>
      simp only [e1, e2] at h
      exact ⟨d, e, rfl, rfl, h⟩
/-- OpS, by data -/
theorem OpS.of {K : PySem.W.Frag} {g : D → D → S → (Sl → S → Prop) → Prop} {r : R2}
    (h : ∀ (A : Amb) (as : List Addr) (s : S) (σ : L2.St) (H : Hp) (x y : V) (d e : D) (R : Sl → S → Prop) (Q : VK), Ok K A as s σ H → Rdc K (vw A as s.μ H) H x d → Rdc K (vw A as s.μ H) H y e → g d e s R → Kon K A as s σ H R Q → r x y H Q) :
    OpS K (fun p q s R => two s p q fun d e => g d e s R) r := fun A as s σ H x y p q R Q ok rx ry w k => by
  obtain ⟨d, e, e1, e2, w⟩ := two_of w
  exact h A as s σ H x y d e R Q ok (ok.rdc rx e1) (ok.rdc ry e2) w k
def addG (d e : D) (s : S) (R : Sl → S → Prop) : Prop := match d, e with
  | .int i, .int j => R (.dat (.int (i + j))) s
  | .str i, .str j => sz (i.length + j.length) ∧ R (.dat (.str (i ++ j))) s
  | .lst xs, .lst ys => sz (xs.length + ys.length) ∧ nw (.lst (xs ++ ys)) s R
  | .tup xs, .tup ys => sz (xs.length + ys.length) ∧ R (.dat (.tup (xs ++ ys))) s
  | _, _ => False
def addF : F2 := fun p q s R => two s p q fun d e => addG d e s R
def rAddAll (K : PySem.W.Frag) : R2 := fun x y H Q => (rI0 fun i j => .int (i + j)) x y H Q ∨ ((∃ i j, x = .str i ∧ y = .str j ∧ i.length + j.length ≤ sizeLine ∧ Q (.str (i ++ j)) H) ∨ (rCat x y H Q ∨ rCatA K x y H Q))
theorem op_addAll {X : Cx} : OpR X (binaryOp .Add) (rAddAll X.K) := OpR.or op_add (OpR.or op_add_str (OpR.or op_cat op_catA))
theorem ops_add {K : PySem.W.Frag} : OpS K addF (rAddAll K) := OpS.of fun A as s σ H x y d e R Q ok rx ry w k => by
  cases d <;> cases e <;> first
    | exact w.elim
    | skip
  · cases rx; cases ry
    exact .inl ⟨_, _, rfl, rfl, k.here ok (r := .dat (.int _)) .int w⟩
  · cases rx; cases ry
    exact .inr (.inl ⟨_, _, rfl, rfl, w.1.ok, k.here ok (r := .dat (.str _)) .str w.2⟩)
  · obtain ⟨a, xs, rfl, h1, l1⟩ := rx
    obtain ⟨b, ys, rfl, h2, l2⟩ := ry
    exact .inr (.inr (.inl ⟨a, b, xs, ys, rfl, rfl, h1, h2, by rw [l1.len, l2.len]; exact w.1.ok, fun p hp => k.lst ok hp (l1.append l2) w.2⟩))
  · obtain ⟨rx, a, xs, rfl, h1, l1⟩ := rx
    obtain ⟨ry, b, ys, rfl, h2, l2⟩ := ry
    refine .inr (.inr (.inr ⟨a, b, xs, ys, rfl, rfl, h1, h2, by rw [l1.len, l2.len]; exact w.1.ok, fun e => ?_, fun _ e => ?_, fun _ _ p hp => k.tup ok hp (l1.append l2) w.2⟩))
    · subst e
      cases l1
      exact k.here ok (r := .dat (.tup _)) ry w.2
    · subst e
      cases l2
      have q := w.2
      rw [List.append_nil] at q
      exact k.here ok (r := .dat (.tup _)) rx q
/-- int results -/
def iG (C : Int → Int → Prop) (g : Int → Int → Int) (d e : D) (s : S) (R : Sl → S → Prop) : Prop := match d, e with
  | .int i, .int j => C i j ∧ R (.dat (.int (g i j))) s
  | _, _ => False
def iF (C : Int → Int → Prop) (g : Int → Int → Int) : F2 := fun p q s R => two s p q fun d e => iG C g d e s R
theorem ops_i {K : PySem.W.Frag} {C : Int → Int → Prop} {g : Int → Int → Int} : OpS K (iF C g) (rI C fun i j => .int (g i j)) := OpS.of fun A as s σ H x y d e R Q ok rx ry w k => by
  cases d <;> cases e <;> first
    | exact w.elim
    | skip
  cases rx; cases ry
  exact ⟨_, _, rfl, rfl, w.1, k.here ok (r := .dat (.int _)) .int w.2⟩
def subG (d e : D) (s : S) (R : Sl → S → Prop) : Prop := match d, e with
  | .int i, .int j => R (.dat (.int (i - j))) s
  | _, _ => False
def subF : F2 := fun p q s R => two s p q fun d e => subG d e s R
theorem ops_sub {K : PySem.W.Frag} : OpS K subF (rI0 fun i j => .int (i - j)) := OpS.of fun A as s σ H x y d e R Q ok rx ry w k => by
  cases d <;> cases e <;> first
    | exact w.elim
    | skip
  cases rx; cases ry
  exact ⟨_, _, rfl, rfl, k.here ok (r := .dat (.int _)) .int w⟩
/-- copies of a list -/
def reps (k : Int) (ds : List D) : List D := (List.replicate k.toNat ds).flatten
theorem RepL.reps {K : PySem.W.Frag} {F : Hp} {xs : List V} {ds : List D} (h : RepL K F xs ds) : ∀ n : Nat, RepL K F (List.replicate n xs).flatten (List.replicate n ds).flatten
  | 0 => .nil
  | n + 1 => by
    rw [List.replicate_succ, List.replicate_succ, List.flatten_cons, List.flatten_cons]
    exact h.append (h.reps n)
def mulG (d e : D) (s : S) (R : Sl → S → Prop) : Prop := match d, e with
  | .int i, .int j => CMul i j ∧ R (.dat (.int (i * j))) s
  | .lst xs, .int j => (-(2 ^ 63) ≤ j ∧ j < 2 ^ 63 ∧ sz (xs.length * j.toNat)) ∧ nw (.lst (reps j xs)) s R
  | .tup xs, .int j => (xs ≠ [] ∧ 2 ≤ j ∧ j ≤ 1000 ∧ xs.length ≤ 1000) ∧ R (.dat (.tup (reps j xs))) s
  | _, _ => False
def mulF : F2 := fun p q s R => two s p q fun d e => mulG d e s R
def rMulAll (K : PySem.W.Frag) : R2 := fun x y H Q => (rI CMul fun i j => .int (i * j)) x y H Q ∨ (rRep x y H Q ∨ rRepT K x y H Q)
theorem op_mulAll {X : Cx} : OpR X (binaryOp .Mult) (rMulAll X.K) := OpR.or op_mul (OpR.or op_rep op_repT)
theorem ops_mul {K : PySem.W.Frag} : OpS K mulF (rMulAll K) := OpS.of fun A as s σ H x y d e R Q ok rx ry w k => by
  cases d <;> cases e <;> first
    | exact w.elim
    | skip
  · cases rx; cases ry
    exact .inl ⟨_, _, rfl, rfl, w.1, k.here ok (r := .dat (.int _)) .int w.2⟩
  · obtain ⟨a, xs, rfl, h1, l1⟩ := rx
    cases ry
    exact .inr (.inl ⟨a, _, xs, rfl, rfl, h1, w.1.1, w.1.2.1, by rw [l1.len]; exact w.1.2.2.ok, fun p hp => k.lst ok hp (l1.reps _) w.2⟩)
  · obtain ⟨rx, a, xs, rfl, h1, l1⟩ := rx
    cases ry
    refine .inr (.inr ⟨a, _, xs, rfl, rfl, h1, fun e => w.1.1 ?_, w.1.2.1, w.1.2.2.1, by rw [l1.len]; exact w.1.2.2.2, fun p hp => k.tup ok hp (l1.reps _) w.2⟩)
    subst e
    cases l1
    rfl
/-- one value -/
abbrev F1 := Sl → S → (Sl → S → Prop) → Prop
def UnS (K : PySem.W.Frag) (f : F1) (r : V → Hp → VK → Prop) : Prop := ∀ (A : Amb) (as : List Addr) (s : S) (σ : L2.St) (H : Hp) (x : V) (p : Sl) (R : Sl → S → Prop) (Q : VK), Ok K A as s σ H → RepS K (vw A as s.μ H) as x p →
  f p s R → Kon K A as s σ H R Q → r x H Q
def wUn (f : F1) (wa : WE) : WE := fun s R => wa s fun p s1 => f p s1 R
theorem up_un {K : PySem.W.Frag} {f : F1} {r : V → Hp → VK → Prop} (hs : UnS K f r) {wa : WE} : ∀ σ H Q, up K (wUn f wa) σ H Q → tUn r (up K wa) σ H Q := fun σ H Q ⟨A, as, s, R, ok, w, k⟩ =>
  ⟨A, as, s, _, ok, w, fun v1 H1 p s1 as1 st1 ok1 r1 w1 => hs A as1 s1 σ H1 v1 p R Q ok1 r1 w1 fun v3 H3 t s3 as3 st3 ok3 r3 w3 => k v3 H3 t s3 as3 (st1.trans st3) ok3 r3 w3⟩
def one (s : S) (p : Sl) (k : D → Prop) : Prop := optK (rd s p) k
def negF : F1 := fun p s R => one s p fun d => match d with
  | .int i => R (.dat (.int (-i))) s
  | _ => False
theorem uns_neg {K : PySem.W.Frag} : UnS K negF (rU fun i => .int (-i)) := fun A as s σ H x p R Q ok rx w k => by
  obtain ⟨d, e, w⟩ := optK_of w
  have r := ok.rdc rx e
  cases d <;> first
    | exact w.elim
    | skip
  cases r
  exact ⟨_, rfl, k.here ok (r := .dat (.int _)) .int w⟩

/-! ### comparisons -/
def bG (g : Int → Int → Bool) (d e : D) (s : S) (R : Sl → S → Prop) : Prop := match d, e with
  | .int i, .int j => R (.dat (.bl (g i j))) s
  | _, _ => False
def bF (g : Int → Int → Bool) : F2 := fun p q s R => two s p q fun d e => bG g d e s R
theorem ops_b {K : PySem.W.Frag} {g : Int → Int → Bool} : OpS K (bF g) (rI0 fun i j => .bl (g i j)) := OpS.of fun A as s σ H x y d e R Q ok rx ry w k => by
  cases d <;> cases e <;> first
    | exact w.elim
    | skip
  cases rx; cases ry
  exact ⟨_, _, rfl, rfl, k.here ok (r := .dat (.bl _)) .bl w⟩
/-! data that can be compared whole -/
mutual
def D.pd : D → PyData
  | .non => .none
  | .bl b => .bool b
  | .int i => .int i
  | .str x => .str x
  | .lst ds => .list (pds ds)
  | .tup ds => .tuple (pds ds)
  | .scr ds => .list (pds ds)
  | .dic _ _ => .dict []
  | .dct _ _ => .dict []
  | .ins _ _ _ => .dict []
def pds : List D → List PyData
  | [] => []
  | d :: ds => d.pd :: pds ds
end
section
variable {K : PySem.W.Frag} {F F' H : Hp}
mutual
theorem Rep.dp (x : Le F H) : ∀ (d : D) {v : V}, Rep K F v d → d.pd.canLay0 = true → Dp K H v d.pd
  | .non, _, h, _ => by
    cases h
    exact .non
  | .bl b, _, h, _ => by
    cases h
    exact .bl b
  | .int i, _, h, _ => by
    cases h
    exact .int i
  | .str i, _, h, _ => by
    cases h
    exact .str i
  | .lst ds, _, h, c => by
    cases h with
    | lst h1 h2 => exact .lst (.inl (.inl (x.same h1 fun z => z))) (RepL.dp x ds h2 c)
  | .scr ds, _, h, c => by
    cases h with
    | scr h1 h2 => exact .lst (x.sqL h1) (RepL.dp x ds h2 c)
  | .tup ds, _, h, c => by
    cases h with
    | tup h1 h2 => exact .tup (x.sqT h1) (RepL.dp x ds h2 c)
  | .dic ks vs, _, h, c => by cases c
  | .dct ks vs, _, h, c => by cases c
  | .ins C ns vs, _, h, c => by cases c
theorem RepL.dp (x : Le F H) : ∀ (ds : List D) {vs : List V}, RepL K F vs ds → PyData.canLayAll0 (pds ds) = true → DpAll K H vs (pds ds)
  | [], _, h, _ => by
    cases h
    exact .nil
  | d :: ds, _, h, c => by
    cases h with
    | cons h1 h2 =>
      have c' : (d.pd.canLay0 && PyData.canLayAll0 (pds ds)) = true := c
      rw [Bool.and_eq_true] at c'
      exact .cons (Rep.dp x d h1 c'.1) (RepL.dp x ds h2 c'.2)
end
theorem Rdc.dp (x : Le F H) {d : D} {v : V} (h : Rdc K F H v d) (c : d.pd.canLay0 = true) : Dp K H v d.pd := by
  cases d with
  | non => cases h; exact .non
  | bl b => cases h; exact .bl b
  | int b => cases h; exact .int b
  | str b => cases h; exact .str b
  | lst ds => obtain ⟨a, xs, rfl, h1, h2⟩ := h; exact .lst (.inl (.inl h1)) (RepL.dp x ds h2 c)
  | scr ds => obtain ⟨a, xs, rfl, h1, h2⟩ := h; exact .lst h1 (RepL.dp x ds h2 c)
  | tup ds => obtain ⟨_, a, xs, rfl, h1, h2⟩ := h; exact .tup h1 (RepL.dp x ds h2 c)
  | dic ks vs => cases c
  | dct ks vs => cases c
  | ins C ns vs => cases c
end
/-- plain data, so deep at most -/
def D.fit (d : D) : Prop := SeqAt.shaped d.pd = true
def eqG (neg : Bool) (d e : D) (s : S) (R : Sl → S → Prop) : Prop := match d, e with
  | .int i, .int j => R (.dat (.bl (neg ^^ decide (i = j)))) s
  | .str i, .str j => R (.dat (.bl (neg ^^ decide (i = j)))) s
  | .bl i, .bl j => R (.dat (.bl (neg ^^ decide (i = j)))) s
  | d, e => (d.fit ∧ e.fit) ∧ R (.dat (.bl (neg ^^ PyData.eqv d.pd e.pd))) s
def eqF (neg : Bool) : F2 := fun p q s R => two s p q fun d e => eqG neg d e s R
def rEqAll (K : PySem.W.Frag) : R2 := fun x y H Q => rEq x y H Q ∨ rEqD K x y H Q
def rNeAll (K : PySem.W.Frag) : R2 := fun x y H Q => rNe x y H Q ∨ rNeD K x y H Q
theorem op_eqAll {X : Cx} (hu : X.A.units + 64 < cLine) : OpR X (compareOp .Eq) (rEqAll X.K) := OpR.or op_eq (op_eqD hu)
theorem op_neAll {X : Cx} (hu : X.A.units + 64 < cLine) : OpR X (compareOp .NotEq) (rNeAll X.K) := OpR.or op_ne (op_neD hu)
theorem eq_gen {K : PySem.W.Frag} {neg : Bool} {A : Amb} {as : List Addr} {s : S} {σ : L2.St} {H : Hp} {x y : V} {d e : D} {R : Sl → S → Prop} {Q : VK} (ok : Ok K A as s σ H) (rx : Rdc K (vw A as s.μ H) H x d) (ry : Rdc K (vw A as s.μ H) H y e) (w : eqG neg d e s R) (k : Kon K A as s σ H R Q) :
    (scal x y = true ∧ Q (.bl (neg ^^ decide (x = y))) H) ∨ ∃ d e, Dp K H x d ∧ Dp K H y e ∧ SeqAt.shaped d = true ∧ SeqAt.shaped e = true ∧ Q (.bl (neg ^^ PyData.eqv d e)) H := by
  have gen : ((d.fit ∧ e.fit) ∧ R (.dat (.bl (neg ^^ PyData.eqv d.pd e.pd))) s) → ∃ d e, Dp K H x d ∧ Dp K H y e ∧ SeqAt.shaped d = true ∧ SeqAt.shaped e = true ∧ Q (.bl (neg ^^ PyData.eqv d e)) H := fun ⟨⟨f1, f2⟩, q⟩ =>
    ⟨d.pd, e.pd, rx.dp vw_le (SeqAt.canLay_of_shaped f1), ry.dp vw_le (SeqAt.canLay_of_shaped f2), f1, f2, k.here ok (r := .dat (.bl _)) .bl q⟩
  cases d <;> cases e <;> first
    | exact .inr (gen w)
    | (cases rx; cases ry; refine .inl ⟨rfl, k.here ok (r := .dat (.bl _)) .bl ?_⟩; first | simpa using w | (simp only [V.int.injEq, V.str.injEq, V.bl.injEq]; exact w))
theorem ops_eq {K : PySem.W.Frag} : OpS K (eqF false) (rEqAll K) := OpS.of fun A as s σ H x y d e R Q ok rx ry w k => by
  rcases eq_gen ok rx ry w k with ⟨h1, h2⟩ | ⟨d, e, h1, h2, h3, h4, h5⟩
  · rw [Bool.false_xor] at h2
    exact .inl ⟨h1, h2⟩
  · rw [Bool.false_xor] at h5
    exact .inr ⟨d, e, h1, h2, h3, h4, h5⟩
theorem ops_ne {K : PySem.W.Frag} : OpS K (eqF true) (rNeAll K) := OpS.of fun A as s σ H x y d e R Q ok rx ry w k => by
  rcases eq_gen ok rx ry w k with ⟨h1, h2⟩ | ⟨d, e, h1, h2, h3, h4, h5⟩
  · rw [Bool.true_xor] at h2
    exact .inl ⟨h1, h2⟩
  · rw [Bool.true_xor] at h5
    exact .inr ⟨d, e, h1, h2, h3, h4, h5⟩
/-- is None, is not None -/
def D.isN : D → Bool
  | .non => true
  | _ => false
def isNF (neg : Bool) : F2 := fun p q s R => match q with
  | .dat .non => one s p fun d => R (.dat (.bl (neg ^^ d.isN))) s
  | _ => False
theorem Rdc.isN {K : PySem.W.Frag} {F H : Hp} {v : V} {d : D} (h : Rdc K F H v d) : decide (v = .non) = d.isN := by
  cases d with
  | non => cases h; rfl
  | bl b => cases h; rfl
  | int b => cases h; rfl
  | str b => cases h; rfl
  | lst ds => obtain ⟨a, xs, rfl, _⟩ := h; rfl
  | scr ds => obtain ⟨a, xs, rfl, _⟩ := h; rfl
  | tup ds => obtain ⟨_, a, xs, rfl, _⟩ := h; rfl
  | dic ks vs => obtain ⟨a, xs, rfl, _⟩ := h; rfl
  | dct ks vs => obtain ⟨a, xs, rfl, _⟩ := h; rfl
  | ins C ns vs => obtain ⟨a, xs, fs, rfl, _⟩ := h; rfl
theorem isN_gen {K : PySem.W.Frag} {neg : Bool} {A : Amb} {as : List Addr} {s : S} {σ : L2.St} {H : Hp} {x y : V} {p q : Sl} {R : Sl → S → Prop} {Q : VK} (ok : Ok K A as s σ H) (rx : RepS K (vw A as s.μ H) as x p) (ry : RepS K (vw A as s.μ H) as y q) (w : isNF neg p q s R) (k : Kon K A as s σ H R Q) :
    y = .non ∧ Q (.bl (neg ^^ decide (x = .non))) H := by
  cases q with
  | cel i => exact w.elim
  | val v => exact w.elim
  | dat d =>
    cases d <;> first
      | exact w.elim
      | skip
    cases ry
    obtain ⟨d, e, w⟩ := optK_of w
    have r := ok.rdc rx e
    refine ⟨rfl, ?_⟩
    rw [r.isN]
    exact k.here ok (r := .dat (.bl _)) .bl w
theorem ops_isN {K : PySem.W.Frag} : OpS K (isNF false) (fun x y H Q => y = .non ∧ Q (.bl (decide (x = .non))) H) := fun A as s σ H x y p q R Q ok rx ry w k => by
  have h := isN_gen ok rx ry w k
  rw [Bool.false_xor] at h
  exact h
theorem ops_notN {K : PySem.W.Frag} : OpS K (isNF true) (fun x y H Q => y = .non ∧ Q (.bl (!decide (x = .non))) H) := fun A as s σ H x y p q R Q ok rx ry w k => by
  have h := isN_gen ok rx ry w k
  rw [Bool.true_xor] at h
  exact h
end Gd
namespace Gd
open PySem PySem.Spec PyProof.Rows L2
/-! ### truth, and, or, not, if -/
/-- a value's truth -/
def tru (s : S) (p : Sl) (k : Bool → Prop) : Prop := one s p fun d => match d with
  | .non => k false
  | .bl b => k b
  | .int i => k (i != 0)
  | .str y => sz y.length ∧ k ((y.length : Int) != 0)
  | .lst ds => k (!ds.isEmpty)
  | .scr ds => k (!ds.isEmpty)
  | .tup ds => k (!ds.isEmpty)
  | _ => False
theorem RepL.emp {K : PySem.W.Frag} {F : Hp} {xs : List V} {ds : List D} (h : RepL K F xs ds) : (!xs.isEmpty) = !ds.isEmpty := by
  cases h <;> rfl
theorem tru_of {K : PySem.W.Frag} {A : Amb} {as : List Addr} {s : S} {σ : L2.St} {H : Hp} {x : V} {p : Sl} {k : Bool → Prop} (ok : Ok K A as s σ H) (rx : RepS K (vw A as s.μ H) as x p) (w : tru s p k) : ∃ b, TruV K x H b ∧ k b := by
  obtain ⟨d, e, w⟩ := optK_of w
  have r := ok.rdc rx e
  cases d with
  | non => cases r; exact ⟨_, rfl, w⟩
  | bl b => cases r; exact ⟨_, rfl, w⟩
  | int b => cases r; exact ⟨_, rfl, w⟩
  | str b => cases r; exact ⟨_, ⟨w.1.ok, rfl⟩, w.2⟩
  | lst ds => obtain ⟨a, xs, rfl, h1, h2⟩ := r; exact ⟨_, .inl ⟨xs, .inl (.inl h1), h2.emp.symm⟩, w⟩
  | scr ds => obtain ⟨a, xs, rfl, h1, h2⟩ := r; exact ⟨_, .inl ⟨xs, h1, h2.emp.symm⟩, w⟩
  | tup ds => obtain ⟨_, a, xs, rfl, h1, h2⟩ := r; exact ⟨_, .inr (.inl ⟨xs, h1, h2.emp.symm⟩), w⟩
  | dic ks vs => exact w.elim
  | dct ks vs => exact w.elim
  | ins C ns vs => exact w.elim
section
variable {X : Cx} {a b c : Expr} {rest : List Expr} {wa wb wc : WE} {wt wu : WT} {pos : Pos}
def wAnd (wa wb : WE) : WE := fun s R => wa s fun p s1 => tru s1 p fun k => if k = true then wb s1 R else R p s1
def wOr (wa wb : WE) : WE := fun s R => wa s fun p s1 => tru s1 p fun k => if k = true then R p s1 else wb s1 R
def wNot (wa : WE) : WE := fun s R => wa s fun p s1 => tru s1 p fun k => R (.dat (.bl (!k))) s1
theorem e_one {op} {w : WE} (h : PE X a (up X.K w)) : PE X (.BoolOp op [a] pos) (up X.K w) := pe_one h
theorem e_and (ha : PE X a (up X.K wa)) (hb : PE X (.BoolOp .And (b :: rest) pos) (up X.K wb)) : PE X (.BoolOp .And (a :: b :: rest) pos) (up X.K (wAnd wa wb)) := pe_imp (pe_andT ha hb) fun σ H Q ⟨A, as, s, R, ok, w, k⟩ =>
  ⟨A, as, s, _, ok, w, fun v1 H1 p s1 as1 st1 ok1 r1 w1 => by
    obtain ⟨t, h1, w2⟩ := tru_of ok1 r1 w1
    refine ⟨t, h1, ?_⟩
    cases t with
    | true =>
      rw [if_pos rfl] at w2 ⊢
      exact ⟨A, as1, s1, R, ok1, w2, fun v3 H3 t s3 as3 st3 ok3 r3 w3 => k v3 H3 t s3 as3 (st1.trans st3) ok3 r3 w3⟩
    | false =>
      rw [if_neg Bool.false_ne_true] at w2 ⊢
      exact k v1 H1 p s1 as1 st1 ok1 r1 w2⟩
theorem e_or (ha : PE X a (up X.K wa)) (hb : PE X (.BoolOp .Or (b :: rest) pos) (up X.K wb)) : PE X (.BoolOp .Or (a :: b :: rest) pos) (up X.K (wOr wa wb)) := pe_imp (pe_orT ha hb) fun σ H Q ⟨A, as, s, R, ok, w, k⟩ =>
  ⟨A, as, s, _, ok, w, fun v1 H1 p s1 as1 st1 ok1 r1 w1 => by
    obtain ⟨t, h1, w2⟩ := tru_of ok1 r1 w1
    refine ⟨t, h1, ?_⟩
    cases t with
    | false =>
      rw [if_neg Bool.false_ne_true] at w2 ⊢
      exact ⟨A, as1, s1, R, ok1, w2, fun v3 H3 t s3 as3 st3 ok3 r3 w3 => k v3 H3 t s3 as3 (st1.trans st3) ok3 r3 w3⟩
    | true =>
      rw [if_pos rfl] at w2 ⊢
      exact k v1 H1 p s1 as1 st1 ok1 r1 w2⟩
theorem e_not (ha : PE X a (up X.K wa)) : PE X (.UnaryOp .Not a pos) (up X.K (wNot wa)) := pe_imp (pe_notT ha) fun σ H Q ⟨A, as, s, R, ok, w, k⟩ =>
  ⟨A, as, s, _, ok, w, fun v1 H1 p s1 as1 st1 ok1 r1 w1 => by
    obtain ⟨t, h1, w2⟩ := tru_of ok1 r1 w1
    exact ⟨t, h1, k _ H1 (.dat (.bl _)) s1 as1 st1 ok1 .bl w2⟩⟩
/-- tests -/
def wTru (wa : WE) : WT := fun s R => wa s fun p s1 => tru s1 p fun k => R k s1
theorem t_tru (ha : PE X a (up X.K wa)) (he : ∀ whole, isTrue a X.env whole = (do let v ← whole; standAt a.pos; holding [v] (truthy v)) := by intro _; rfl) : PT X a (upT X.K (wTru wa)) := pt_imp (pt_truth ha he) fun σ H Q ⟨A, as, s, R, ok, w, k⟩ =>
  ⟨A, as, s, _, ok, w, fun v1 H1 p s1 as1 st1 ok1 r1 w1 => by
    obtain ⟨t, h1, w2⟩ := tru_of ok1 r1 w1
    exact ⟨t, h1, k t H1 s1 as1 st1 ok1 w2⟩⟩
def wAndT (wt wu : WT) : WT := fun s R => wt s fun k s1 => if k = true then wu s1 R else R false s1
def wOrT (wt wu : WT) : WT := fun s R => wt s fun k s1 => if k = true then R true s1 else wu s1 R
def wNotT (wt : WT) : WT := fun s R => wt s fun k s1 => R (!k) s1
theorem t_and1 (h : PT X a (upT X.K wt)) : PW X (.BoolOp .And [a] pos) (upT X.K wt) := pw_and1 h
theorem t_or1 (h : PT X a (upT X.K wt)) : PW X (.BoolOp .Or [a] pos) (upT X.K wt) := pw_or1 h
theorem t_and (ha : PT X a (upT X.K wt)) (hb : PW X (.BoolOp .And (b :: rest) pos) (upT X.K wu)) : PW X (.BoolOp .And (a :: b :: rest) pos) (upT X.K (wAndT wt wu)) := pw_imp (pw_and ha hb) fun σ H Q ⟨A, as, s, R, ok, w, k⟩ =>
  ⟨A, as, s, _, ok, w, fun t H1 s1 as1 st1 ok1 w1 => by
    cases t with
    | true =>
      rw [if_pos rfl] at w1 ⊢
      exact ⟨A, as1, s1, R, ok1, w1, fun t H3 s3 as3 st3 ok3 w3 => k t H3 s3 as3 (st1.trans st3) ok3 w3⟩
    | false =>
      rw [if_neg Bool.false_ne_true] at w1 ⊢
      exact k false H1 s1 as1 st1 ok1 w1⟩
theorem t_or (ha : PT X a (upT X.K wt)) (hb : PW X (.BoolOp .Or (b :: rest) pos) (upT X.K wu)) : PW X (.BoolOp .Or (a :: b :: rest) pos) (upT X.K (wOrT wt wu)) := pw_imp (pw_or ha hb) fun σ H Q ⟨A, as, s, R, ok, w, k⟩ =>
  ⟨A, as, s, _, ok, w, fun t H1 s1 as1 st1 ok1 w1 => by
    cases t with
    | false =>
      rw [if_neg Bool.false_ne_true] at w1 ⊢
      exact ⟨A, as1, s1, R, ok1, w1, fun t H3 s3 as3 st3 ok3 w3 => k t H3 s3 as3 (st1.trans st3) ok3 w3⟩
    | true =>
      rw [if_pos rfl] at w1 ⊢
      exact k true H1 s1 as1 st1 ok1 w1⟩
theorem t_not (ha : PT X a (upT X.K wt)) : PT X (.UnaryOp .Not a pos) (upT X.K (wNotT wt)) := pt_imp (pt_not ha) fun σ H Q ⟨A, as, s, R, ok, w, k⟩ =>
  ⟨A, as, s, _, ok, w, fun t H1 s1 as1 st1 ok1 w1 => k (!t) H1 s1 as1 st1 ok1 w1⟩
def wIf (wt : WT) (wa wb : WE) : WE := fun s R => wt s fun k s1 => if k = true then wa s1 R else wb s1 R
theorem e_if (hc : PT X c (upT X.K wt)) (ha : PE X a (up X.K wa)) (hb : PE X b (up X.K wb)) : PE X (.IfExp c a b pos) (up X.K (wIf wt wa wb)) := pe_imp (pe_ifExp hc ha hb) fun σ H Q ⟨A, as, s, R, ok, w, k⟩ =>
  ⟨A, as, s, _, ok, w, fun t H1 s1 as1 st1 ok1 w1 => by
    cases t with
    | true =>
      rw [if_pos rfl] at w1 ⊢
      exact ⟨A, as1, s1, R, ok1, w1, fun v3 H3 t s3 as3 st3 ok3 r3 w3 => k v3 H3 t s3 as3 (st1.trans st3) ok3 r3 w3⟩
    | false =>
      rw [if_neg Bool.false_ne_true] at w1 ⊢
      exact ⟨A, as1, s1, R, ok1, w1, fun v3 H3 t s3 as3 st3 ok3 r3 w3 => k v3 H3 t s3 as3 (st1.trans st3) ok3 r3 w3⟩⟩
end

/-! ### what was made on the way is given up, but for the value -/
def MO.below (n : Nat) : MO → Prop
  | .ins _ fs => ∀ f ∈ fs, match f.2 with
    | .cel j => j < n
    | _ => True
  | _ => True
def belowAll (n : Nat) : List (Option MO) → Prop
  | [] => True
  | none :: t => belowAll n t
  | some o :: t => o.below n ∧ belowAll n t
theorem belowAll_get {n : Nat} : ∀ {l : List (Option MO)}, belowAll n l → ∀ {i : Nat} {o : MO}, l[i]? = some (some o) → o.below n
  | [], _, i, _, h => by simp at h
  | none :: t, hb, 0, _, h => by simp at h
  | some o :: t, hb, 0, _, h => by
    simp at h
    subst h
    exact hb.1
  | none :: t, hb, i + 1, _, h => belowAll_get (l := t) hb (i := i) (by simpa using h)
  | some o :: t, hb, i + 1, _, h => belowAll_get (l := t) hb.2 (i := i) (by simpa using h)
/-- back to the names and the many that stood in s -/
def back (s s1 : S) : S := ⟨s.Γ, s1.μ.take s.μ.length⟩
section
variable {K : PySem.W.Frag} {A : Amb} {as as1 : List Addr} {s s1 : S} {σ : L2.St} {H H1 : Hp} {v : V} {r : Sl} {d : D}
theorem RepSs.below {F : Hp} {n : Nat} : ∀ {vs : List V} {rs : List Sl}, RepSs K F as vs rs → (∀ r ∈ rs, match r with | .cel j => j < n | _ => True) → RepSs K F (as.take n) vs rs
  | [], [], _, _ => trivial
  | _ :: _, r :: _, h, hb => by
    refine ⟨?_, RepSs.below h.2 fun q hq => hb q (List.mem_cons_of_mem _ hq)⟩
    have h1 := h.1
    have hb1 := hb r (List.mem_cons_self ..)
    cases r with
    | dat d => exact h1
    | val v => exact h1
    | cel j =>
      obtain ⟨a, e, ev⟩ := h1
      exact ⟨a, by rw [List.getElem?_take_of_lt hb1]; exact e, ev⟩
  | [], _ :: _, h, _ => h.elim
  | _ :: _, [], h, _ => h.elim
theorem MemO.below {F : Hp} {n : Nat} {a : Addr} {o : MO} (h : MemO K F as H a o) (hb : o.below n) : MemO K F (as.take n) H a o := by
  cases o with
  | lst ds => exact h
  | dic ks vs => exact h
  | dct ks vs => exact h
  | ins C fs =>
    obtain ⟨dx, gs, h1, h2, h3⟩ := h
    refine ⟨dx, gs, h1, h2, h3.below fun r hr => ?_⟩
    obtain ⟨f, hf, rfl⟩ := List.mem_map.mp hr
    exact hb f hf
theorem take_less (μ : List (Option MO)) (n : Nat) : ∀ (i : Nat) (o : MO), (μ.take n)[i]? = some (some o) → μ[i]? = some (some o) := fun i o h => by
  by_cases hi : i < n
  · rw [List.getElem?_take_of_lt hi] at h
    exact h
  · rw [List.getElem?_eq_none (by rw [List.length_take]; omega)] at h
    cases h
theorem Ok.back (ok : Ok K A as s σ H) (st : Stp A as s.μ H as1 s1.μ H1) (ok1 : Ok K A as1 s1 σ H1) (hb : belowAll s.μ.length (s1.μ.take s.μ.length)) :
    Stp A as s.μ H as (back s s1).μ H1 ∧ Ok K A as (back s s1) σ H1 ∧ Le (vw A as1 s1.μ H1) (vw A as (back s s1).μ H1) := by
  have hn : as1.take s.μ.length = as := by
    obtain ⟨t, rfl⟩ := st.pre
    rw [← ok.len, List.take_left]
  have hle : s.μ.length ≤ s1.μ.length := by
    rw [← ok.len, ← ok1.len]
    exact st.pre.length_le
  have hh : ∀ a, hid A as (s1.μ.take s.μ.length) a → hid A as1 s1.μ a := fun a h => by
    rcases h with h | ⟨i, o, h1, h2⟩
    · exact .inl h
    · exact .inr ⟨i, o, pre_get st.pre h1, take_less _ _ _ _ h2⟩
  have le : Le (vw A as1 s1.μ H1) (vw A as (s1.μ.take s.μ.length) H1) := fun a u h => by
    obtain ⟨h1, h2⟩ := vw_of h
    exact .inl (by rw [vw_no fun z => h2 (hh a z)]; exact h1)
  refine ⟨⟨List.prefix_refl _, st.le.trans le⟩, ⟨?_, ok.nd, ok.dj, fun a ha => ok1.tr a (st.pre.subset ha), ok1.m0, ok1.pin.trans le, fun i r h => ?_, fun i a o h1 h2 => ?_, ok.ln, ok.own, ok1.he⟩, le⟩
  · show as.length = (s1.μ.take s.μ.length).length
    rw [List.length_take, Nat.min_eq_left hle]
    exact ok.len
  · obtain ⟨v, h1, h2⟩ := ok.env i r h
    exact ⟨v, h1, h2.mono (st.le.trans le) (List.prefix_refl _)⟩
  · have hm := ok1.mem i a o (pre_get st.pre h1) (take_less _ _ _ _ h2)
    have hb' := belowAll_get hb h2
    have hm' := (hm.mono le (List.prefix_refl _) rfl).below hb'
    rw [hn] at hm'
    exact hm'
/-- the value, then, as data -/
def frz (s : S) (r : Sl) (s1 : S) (R : Sl → S → Prop) : Prop := belowAll s.μ.length (s1.μ.take s.μ.length) ∧ match r with
  | .dat d => R (.dat d) (back s s1)
  | .val v => R (.val v) (back s s1)
  | .cel i => if i < s.μ.length then R (.cel i) (back s s1) else optK (nth s1.μ i) fun o => o.plain ∧ R (.dat o.d) (back s s1)
def wFrz (w : WE) : WE := fun s R => w s fun r s1 => frz s r s1 R
theorem frz_ok {R : Sl → S → Prop} {Q : VK} (ok : Ok K A as s σ H) (st : Stp A as s.μ H as1 s1.μ H1) (ok1 : Ok K A as1 s1 σ H1) (r1 : RepS K (vw A as1 s1.μ H1) as1 v r) (w : frz s r s1 R) :
    ∃ r', R r' (back s s1) ∧ Stp A as s.μ H as (back s s1).μ H1 ∧ Ok K A as (back s s1) σ H1 ∧ RepS K (vw A as (back s s1).μ H1) as v r' := by
  obtain ⟨hb, w⟩ := w
  obtain ⟨st', ok', le⟩ := ok.back st ok1 hb
  cases r with
  | dat d => exact ⟨_, w, st', ok', Rep.mono le d r1⟩
  | val u => exact ⟨_, w, st', ok', r1⟩
  | cel i =>
    obtain ⟨a, h1, rfl⟩ := r1
    by_cases hi : i < s.μ.length
    · have w : (if i < s.μ.length then R (.cel i) (back s s1) else _) := w
      rw [if_pos hi] at w
      refine ⟨_, w, st', ok', a, ?_, rfl⟩
      have : as1.take s.μ.length = as := by
        obtain ⟨t, rfl⟩ := st.pre
        rw [← ok.len, List.take_left]
      rw [← this, List.getElem?_take_of_lt hi]
      exact h1
    · have w : (if i < s.μ.length then R (.cel i) (back s s1) else optK (nth s1.μ i) fun o => o.plain ∧ R (.dat o.d) (back s s1)) := w
      rw [if_neg hi] at w
      obtain ⟨o, e, pl, w⟩ := optK_of w
      refine ⟨_, w, st', ok', ?_⟩
      obtain ⟨_, _, hd⟩ := ok1.freeze h1 (nth_eq _ _ e) pl
      refine Rep.mono (fun b u hb' => ?_) _ hd
      obtain ⟨z1, z2⟩ := vw_of hb'
      refine .inl ?_
      rw [vw_no, z1]
      rintro (z | ⟨j, o2, z3, z4⟩)
      · exact z2 (.inl z)
      · have hj := pre_get st.pre z3
        have hjl : j < s.μ.length := by
          rw [← ok.len]
          exact (List.getElem?_eq_some_iff.mp z3).1
        refine z2 (.inr ⟨j, o2, hj, ?_⟩)
        rw [List.getElem?_set_ne (by omega)]
        exact take_less _ _ _ _ z4
end
theorem e_frz {X : Cx} {e : Expr} {w : WE} (h : PE X e (up X.K w)) : PE X e (up X.K (wFrz w)) := pe_imp h fun σ H Q ⟨A, as, s, R, ok, w, k⟩ =>
  ⟨A, as, s, _, ok, w, fun v1 H1 r s1 as1 st1 ok1 r1 w1 => by
    obtain ⟨r', w2, st2, ok2, r2⟩ := frz_ok (Q := Q) ok st1 ok1 r1 w1
    exact k v1 H1 r' _ as st2 ok2 r2 w2⟩
def wFrzT (w : WT) : WT := fun s R => w s fun b s1 => belowAll s.μ.length (s1.μ.take s.μ.length) ∧ R b (back s s1)
theorem t_frz {X : Cx} {e : Expr} {w : WT} (h : PT X e (upT X.K w)) : PT X e (upT X.K (wFrzT w)) := pt_imp h fun σ H Q ⟨A, as, s, R, ok, w, k⟩ =>
  ⟨A, as, s, _, ok, w, fun b H1 s1 as1 st1 ok1 w1 => by
    obtain ⟨st2, ok2, _⟩ := ok.back st1 ok1 w1.1
    exact k b H1 _ as st2 ok2 w1.2⟩

/-! ### arguments, displays -/
section
variable {X : Cx} {e : Expr} {es : List Expr} {we : WE} {wr : WA} {pos : Pos}
def waNil : WA := fun s R => R [] s
def waCons (we : WE) (wr : WA) : WA := fun s R => we s fun p s1 => wr s1 fun ps s2 => R (p :: ps) s2
theorem a_nil : PA X [] (upA X.K waNil) := pa_imp pa_nil fun σ H Q ⟨A, as, s, R, ok, w, k⟩ => k [] H [] s as Stp.refl ok trivial w
theorem a_cons (ha : PE X e (up X.K we)) (hr : PA X es (upA X.K wr)) (hs : starEach (e :: es) X.env = (false, eval e X.env) :: starEach es X.env := by rfl) : PA X (e :: es) (upA X.K (waCons we wr)) :=
  pa_imp (pa_cons ha hr hs) fun σ H Q ⟨A, as, s, R, ok, w, k⟩ =>
    ⟨A, as, s, _, ok, w, fun v1 H1 p s1 as1 st1 ok1 r1 w1 => ⟨A, as1, s1, _, ok1, w1, fun vs H2 ps s2 as2 st2 ok2 r2 w2 => k (v1 :: vs) H2 (p :: ps) s2 as2 (st1.trans st2) ok2 ⟨r1.mono st2.le st2.pre, r2⟩ w2⟩⟩
/-- all data -/
def dats : List Sl → (List D → Prop) → Prop
  | [], k => k []
  | .dat d :: rs, k => dats rs fun ds => k (d :: ds)
  | _ :: _, _ => False
theorem dats_of {K : PySem.W.Frag} {F : Hp} {as : List Addr} : ∀ {vs : List V} {rs : List Sl} {k : List D → Prop}, RepSs K F as vs rs → dats rs k → ∃ ds, RepL K F vs ds ∧ k ds
  | [], [], _, _, w => ⟨[], .nil, w⟩
  | _ :: _, .dat d :: rs, _, h, w => by
    obtain ⟨ds, h1, h2⟩ := dats_of h.2 w
    exact ⟨d :: ds, .cons h.1 h1, h2⟩
  | _ :: _, .cel _ :: _, _, _, w => w.elim
  | _ :: _, .val _ :: _, _, _, w => w.elim
  | [], _ :: _, _, h, _ => h.elim
  | _ :: _, [], _, h, _ => h.elim
def wTup (wr : WA) : WE := fun s R => wr s fun ps s1 => dats ps fun ds => sz ds.length ∧ R (.dat (.tup ds)) s1
def wLst (wr : WA) : WE := fun s R => wr s fun ps s1 => dats ps fun ds => sz ds.length ∧ nw (.lst ds) s1 R
theorem e_tup {x1} (h : PA X es (upA X.K wr)) : PE X (.Tuple es x1 pos) (up X.K (wTup wr)) := pe_imp (pe_tup h) fun σ H Q ⟨A, as, s, R, ok, w, k⟩ =>
  ⟨A, as, s, _, ok, w, fun vs H1 ps s1 as1 st1 ok1 r1 w1 => by
    obtain ⟨ds, hl, hz, w2⟩ := dats_of r1 w1
    exact ⟨by rw [hl.len]; exact hz.ok, fun p hp => Kon.tup (fun v3 H3 t s3 as3 st3 ok3 r3 w3 => k v3 H3 t s3 as3 (st1.trans st3) ok3 r3 w3) ok1 hp hl w2⟩⟩
theorem e_lst (h : PA X es (upA X.K wr)) : PE X (.List es pos) (up X.K (wLst wr)) := pe_imp (pe_lst h) fun σ H Q ⟨A, as, s, R, ok, w, k⟩ =>
  ⟨A, as, s, _, ok, w, fun vs H1 ps s1 as1 st1 ok1 r1 w1 => by
    obtain ⟨ds, hl, hz, w2⟩ := dats_of r1 w1
    exact ⟨by rw [hl.len]; exact hz.ok, fun p hp => Kon.lst (fun v3 H3 t s3 as3 st3 ok3 r3 w3 => k v3 H3 t s3 as3 (st1.trans st3) ok3 r3 w3) ok1 hp hl w2⟩⟩
end

/-! ### places, slices -/
theorem atI_rep {K : PySem.W.Frag} {F : Hp} {xs : List V} {ds : List D} {i : Int} {d : D} (h : RepL K F xs ds) (e : atI ds i = some d) : ∃ v, atI xs i = some v ∧ Rep K F v d := by
  unfold atI at e ⊢
  rw [h.len]
  cases q : ixN ds.length i with
  | none => rw [q] at e; cases e
  | some j =>
    rw [q] at e
    exact h.get e
def ixG (d e : D) (s : S) (R : Sl → S → Prop) : Prop := match d, e with
  | .lst ds, .int i => optK (atI ds i) fun d => R (.dat d) s
  | .scr ds, .int i => optK (atI ds i) fun d => R (.dat d) s
  | .tup ds, .int i => optK (atI ds i) fun d => R (.dat d) s
  | .str x, .int i => sz x.length ∧ optK (atI x.cps.toList i) fun c => R (.dat (.str ⟨#[c]⟩)) s
  | _, _ => False
def ixF : F2 := fun p q s R => two s p q fun d e => ixG d e s R
theorem ops_ix {K : PySem.W.Frag} : OpS K ixF (rIx K) := OpS.of fun A as s σ H x y d e R Q ok rx ry w k => by
  cases d <;> cases e <;> first
    | exact w.elim
    | skip
  · cases rx; cases ry
    obtain ⟨c, e, w2⟩ := optK_of w.2
    exact .inr (.inr ⟨_, _, c, rfl, rfl, w.1.ok, e, k.here ok (r := .dat (.str _)) .str w2⟩)
  · obtain ⟨a, xs, rfl, h1, l1⟩ := rx
    cases ry
    obtain ⟨d, e, w2⟩ := optK_of w
    obtain ⟨v, e2, r⟩ := atI_rep l1 e
    exact .inl ⟨a, xs, _, v, rfl, rfl, .inl (.inl h1), e2, k.here ok (r := .dat d) r w2⟩
  · obtain ⟨_, a, xs, rfl, h1, l1⟩ := rx
    cases ry
    obtain ⟨d, e, w2⟩ := optK_of w
    obtain ⟨v, e2, r⟩ := atI_rep l1 e
    exact .inr (.inl ⟨a, xs, _, v, rfl, rfl, h1, e2, k.here ok (r := .dat d) r w2⟩)
  · obtain ⟨a, xs, rfl, h1, l1⟩ := rx
    cases ry
    obtain ⟨d, e, w2⟩ := optK_of w
    obtain ⟨v, e2, r⟩ := atI_rep l1 e
    exact .inl ⟨a, xs, _, v, rfl, rfl, h1, e2, k.here ok (r := .dat d) r w2⟩
section
variable {X : Cx} {a b e : Expr} {wa wb we : WE} {lo hi : Option Expr} {pos p2 : Pos}
theorem e_ix (ha : PE X a (up X.K wa)) (hb : PE X b (up X.K wb)) (hs : PlainIx b := by exact fun _ _ => rfl) : PE X (.Subscript a b pos) (up X.K (wOp ixF wa wb)) := pe_imp (pe_ix ix_seq ha hb hs) (up_op ops_ix)
/-- a part of a slice -/
abbrev WO := S → (Option Int → S → Prop) → Prop
def upO (K : PySem.W.Frag) (w : WO) : TO := fun σ H Q => ∃ A as s R, Ok K A as s σ H ∧ w s R ∧
  ∀ o H' s' as', Stp A as s.μ H as' s'.μ H' → Ok K A as' s' σ H' → R o s' → Q o H'
def woN : WO := fun s R => R none s
def woS (we : WE) : WO := fun s R => we s fun p s1 => one s1 p fun d => match d with
  | .int i => R (some i) s1
  | _ => False
theorem o_none : PO X none (upO X.K woN) := ⟨fun pins s σ H Q I ⟨A, as, st, R, ok, w, k⟩ => po_none.run pins s σ H Q I (k none H st as Stp.refl ok w)⟩
theorem o_some (h : PE X e (up X.K we)) : PO X (some e) (upO X.K (woS we)) := ⟨fun pins s σ H Q I ⟨A, as, st, R, ok, w, k⟩ => (po_some h).run pins s σ H Q I
  ⟨A, as, st, _, ok, w, fun v1 H1 p s1 as1 st1 ok1 r1 w1 => by
    obtain ⟨d, e, w2⟩ := optK_of w1
    have r := ok1.rdc r1 e
    cases d with
    | int i => cases r; exact ⟨i, rfl, k (some i) H1 s1 as1 st1 ok1 w2⟩
    | _ => exact w2.elim⟩⟩
def cutD (ds : List D) (lo hi : Option Int) : List D := (ds.drop (HT.sIx ds.length 0 lo)).take (HT.sIx ds.length ds.length hi - HT.sIx ds.length 0 lo)
theorem cut_rep {K : PySem.W.Frag} {F : Hp} {xs : List V} {ds : List D} (h : RepL K F xs ds) (lo hi : Option Int) : RepL K F (cutV xs lo hi) (cutD ds lo hi) := by
  unfold cutV cutD
  rw [h.len]
  exact (h.drop _).take _
def slF (p : Sl) (lo hi : Option Int) (s : S) (R : Sl → S → Prop) : Prop := one s p fun d => match d with
  | .lst ds => nw (.lst (cutD ds lo hi)) s R
  | .scr ds => nw (.lst (cutD ds lo hi)) s R
  | .tup ds => R (.dat (.tup (cutD ds lo hi))) s
  | .str x => sz x.length ∧ R (.dat (.str (cutS x lo hi))) s
  | _ => False
def wSl (we : WE) (wl wh : WO) : WE := fun s R => we s fun p s1 => wl s1 fun l s2 => wh s2 fun u s3 => slF p l u s3 R
def rSlAll (K : PySem.W.Frag) : V → Option Int → Option Int → Hp → VK → Prop := fun x lo hi H Q => rSlL K x lo hi H Q ∨ (rSlA K x lo hi H Q ∨ rSlS x lo hi H Q)
theorem sl_all : SlR X (rSlAll X.K) := SlR.or sl_list (SlR.or sl_tupA sl_str)
theorem sl_ok {K : PySem.W.Frag} {A : Amb} {as : List Addr} {s : S} {σ : L2.St} {H : Hp} {x : V} {p : Sl} {lo hi : Option Int} {R : Sl → S → Prop} {Q : VK} (ok : Ok K A as s σ H) (rx : RepS K (vw A as s.μ H) as x p) (w : slF p lo hi s R) (k : Kon K A as s σ H R Q) : rSlAll K x lo hi H Q := by
  obtain ⟨d, e, w⟩ := optK_of w
  have r := ok.rdc rx e
  cases d with
  | lst ds => obtain ⟨a, xs, rfl, h1, h2⟩ := r; exact .inl ⟨a, xs, rfl, .inl (.inl h1), fun p hp => k.lst ok hp (cut_rep h2 lo hi) w⟩
  | scr ds => obtain ⟨a, xs, rfl, h1, h2⟩ := r; exact .inl ⟨a, xs, rfl, h1, fun p hp => k.lst ok hp (cut_rep h2 lo hi) w⟩
  | tup ds =>
    obtain ⟨rt, a, xs, rfl, h1, h2⟩ := r
    refine .inr (.inl ⟨a, xs, rfl, h1, fun hw => ?_, fun _ p hp => k.tup ok hp (cut_rep h2 lo hi) w⟩)
    have e : cutD ds lo hi = ds := by
      unfold cutD
      rw [← h2.len, hw.1, hw.2, List.drop_zero, h2.len, Nat.sub_zero, List.take_length]
    have w' : R (.dat (.tup (cutD ds lo hi))) s := w
    rw [e] at w'
    exact k.here ok (r := .dat (.tup ds)) rt w'
  | str y => cases r; exact .inr (.inr ⟨_, rfl, w.1.ok, k.here ok (r := .dat (.str _)) .str w.2⟩)
  | _ => exact w.elim
theorem e_sl {wl wh : WO} (he : PE X e (up X.K we)) (hl : PO X lo (upO X.K wl)) (hu : PO X hi (upO X.K wh)) : PE X (.Subscript e (.Slice lo hi none p2) pos) (up X.K (wSl we wl wh)) := pe_imp (pe_slice sl_all he hl hu) fun σ H Q ⟨A, as, s, R, ok, w, k⟩ =>
  ⟨A, as, s, _, ok, w, fun v1 H1 p s1 as1 st1 ok1 r1 w1 => ⟨A, as1, s1, _, ok1, w1, fun l H2 s2 as2 st2 ok2 w2 => ⟨A, as2, s2, _, ok2, w2, fun u H3 s3 as3 st3 ok3 w3 =>
    sl_ok ok3 ((r1.mono st2.le st2.pre).mono st3.le st3.pre) w3 fun v4 H4 t s4 as4 st4 ok4 r4 w4 => k v4 H4 t s4 as4 (((st1.trans st2).trans st3).trans st4) ok4 r4 w4⟩⟩⟩
end

/-! ### built-ins by their name -/
abbrev FN := List Sl → S → (Sl → S → Prop) → Prop
def CbS (K : PySem.W.Frag) (f : FN) (r : List V → Hp → VK → Prop) : Prop := ∀ (A : Amb) (as : List Addr) (s : S) (σ : L2.St) (H : Hp) (xs : List V) (ps : List Sl) (R : Sl → S → Prop) (Q : VK), Ok K A as s σ H → RepSs K (vw A as s.μ H) as xs ps →
  f ps s R → Kon K A as s σ H R Q → r xs H Q
def wCB (f : FN) (wr : WA) : WE := fun s R => wr s fun ps s1 => f ps s1 R
theorem up_cb {K : PySem.W.Frag} {f : FN} {r : List V → Hp → VK → Prop} (hs : CbS K f r) {wr : WA} : ∀ σ H Q, up K (wCB f wr) σ H Q → tCB r (upA K wr) σ H Q := fun σ H Q ⟨A, as, s, R, ok, w, k⟩ =>
  ⟨A, as, s, _, ok, w, fun vs H1 ps s1 as1 st1 ok1 r1 w1 => hs A as1 s1 σ H1 vs ps R Q ok1 r1 w1 fun v3 H3 t s3 as3 st3 ok3 r3 w3 => k v3 H3 t s3 as3 (st1.trans st3) ok3 r3 w3⟩
section
variable {X : Cx} {x : Str} {e : Expr} {es : List Expr} {p pos : Pos} {r : List V → Hp → VK → Prop} {f : FN} {wr : WA} {id T : String}
theorem e_cb (hc : CallR X (.builtin id) r) (hs : CbS X.K f r) (hg : Gl X x) (hm : X.mg x = none) (hv : bootBuiltins x = some (.builtin id)) (ha : PA X (e :: es) (upA X.K wr)) (hn : x ≠ "__name__" := by decide) (hdb : (x == ("__debug__" : Str)) = false := by decide)
    (he : starEach (e :: es) X.env = (false, eval e X.env) :: starEach es X.env := by rfl) (hpl : (backTo pos (starEach es X.env)).any (·.1) = false := by rfl) : PE X (.Call (.Name x p) (e :: es) [] pos) (up X.K (wCB f wr)) :=
  pe_imp (pe_callB hc hg hm hv ha hn hdb he hpl) (up_cb hs)
theorem e_ct (hc : CallR X (.type T) r) (hs : CbS X.K f r) (hg : Gl X x) (hm : X.mg x = none) (hv : bootBuiltins x = some (.type T)) (ha : PA X (e :: es) (upA X.K wr)) (hn : x ≠ "__name__" := by decide) (hdb : (x == ("__debug__" : Str)) = false := by decide)
    (he : starEach (e :: es) X.env = (false, eval e X.env) :: starEach es X.env := by rfl) (hpl : (backTo pos (starEach es X.env)).any (·.1) = false := by rfl) : PE X (.Call (.Name x p) (e :: es) [] pos) (up X.K (wCB f wr)) :=
  pe_imp (pe_callTy hc hg hm hv ha hn hdb he hpl) (up_cb hs)
end
def arg1 (s : S) (ps : List Sl) (k : D → Prop) : Prop := match ps with
  | [p] => one s p k
  | _ => False
def arg2 (s : S) (ps : List Sl) (k : D → D → Prop) : Prop := match ps with
  | [p, q] => two s p q k
  | _ => False
theorem CbS.of1 {K : PySem.W.Frag} {g : D → S → (Sl → S → Prop) → Prop} {r : List V → Hp → VK → Prop}
    (h : ∀ (A : Amb) (as : List Addr) (s : S) (σ : L2.St) (H : Hp) (x : V) (d : D) (R : Sl → S → Prop) (Q : VK), Ok K A as s σ H → Rdc K (vw A as s.μ H) H x d → g d s R → Kon K A as s σ H R Q → r [x] H Q) :
    CbS K (fun ps s R => arg1 s ps fun d => g d s R) r := fun A as s σ H xs ps R Q ok rx w k => by
  match ps, xs, rx with
  | [p], [x], rx =>
    obtain ⟨d, e, w⟩ := optK_of w
    exact h A as s σ H x d R Q ok (ok.rdc rx.1 e) w k
  | [], _, _ => exact w.elim
  | _ :: _ :: _, _, _ => exact w.elim
theorem CbS.of2 {K : PySem.W.Frag} {g : D → D → S → (Sl → S → Prop) → Prop} {r : List V → Hp → VK → Prop}
    (h : ∀ (A : Amb) (as : List Addr) (s : S) (σ : L2.St) (H : Hp) (x y : V) (d e : D) (R : Sl → S → Prop) (Q : VK), Ok K A as s σ H → Rdc K (vw A as s.μ H) H x d → Rdc K (vw A as s.μ H) H y e → g d e s R → Kon K A as s σ H R Q → r [x, y] H Q) :
    CbS K (fun ps s R => arg2 s ps fun d e => g d e s R) r := fun A as s σ H xs ps R Q ok rx w k => by
  match ps, xs, rx with
  | [p, q], [x, y], rx =>
    obtain ⟨d, e, e1, e2, w⟩ := two_of w
    exact h A as s σ H x y d e R Q ok (ok.rdc rx.1 e1) (ok.rdc rx.2.1 e2) w k
  | [], _, _ => exact w.elim
  | [_], _, _ => exact w.elim
  | _ :: _ :: _ :: _, _, _ => exact w.elim
/-- len -/
def lenG (d : D) (s : S) (R : Sl → S → Prop) : Prop := match d with
  | .lst ds => R (.dat (.int (ds.length : Int))) s
  | .scr ds => R (.dat (.int (ds.length : Int))) s
  | .tup ds => R (.dat (.int (ds.length : Int))) s
  | .str x => sz x.length ∧ R (.dat (.int (x.length : Int))) s
  | _ => False
def lenF : FN := fun ps s R => arg1 s ps fun d => lenG d s R
theorem cbs_len {K : PySem.W.Frag} : CbS K lenF (fun xs H Q => ∃ x n, xs = [x] ∧ LenV K x H n ∧ Q (.int n) H) := CbS.of1 fun A as s σ H x d R Q ok r w k => by
  cases d with
  | lst ds => obtain ⟨a, xs, rfl, h1, h2⟩ := r; exact ⟨_, _, rfl, .inl ⟨xs, .inl (.inl h1), h2.len.symm⟩, k.here ok (r := .dat (.int _)) .int w⟩
  | scr ds => obtain ⟨a, xs, rfl, h1, h2⟩ := r; exact ⟨_, _, rfl, .inl ⟨xs, h1, h2.len.symm⟩, k.here ok (r := .dat (.int _)) .int w⟩
  | tup ds => obtain ⟨_, a, xs, rfl, h1, h2⟩ := r; exact ⟨_, _, rfl, .inr ⟨xs, h1, h2.len.symm⟩, k.here ok (r := .dat (.int _)) .int w⟩
  | str y => cases r; exact ⟨_, _, rfl, ⟨w.1.ok, rfl⟩, k.here ok (r := .dat (.int _)) .int w.2⟩
  | _ => exact w.elim
/-- one int -/
def intG (g : Int → Int) (d : D) (s : S) (R : Sl → S → Prop) : Prop := match d with
  | .int i => R (.dat (.int (g i))) s
  | _ => False
def absF : FN := fun ps s R => arg1 s ps fun d => intG (fun i => if i < 0 then -i else i) d s R
theorem cbs_abs {K : PySem.W.Frag} : CbS K absF (fun xs H Q => ∃ i, xs = [.int i] ∧ Q (.int (if i < 0 then -i else i)) H) := CbS.of1 fun A as s σ H x d R Q ok r w k => by
  cases d with
  | int i => cases r; exact ⟨_, rfl, k.here ok (r := .dat (.int _)) .int w⟩
  | _ => exact w.elim
/-- int(..) of a number, a truth -/
def intC (d : D) (s : S) (R : Sl → S → Prop) : Prop := match d with
  | .int i => R (.dat (.int i)) s
  | .bl b => R (.dat (.int (if b then 1 else 0))) s
  | _ => False
def intF : FN := fun ps s R => arg1 s ps fun d => intC d s R
theorem cbs_int {K : PySem.W.Frag} : CbS K intF (fun xs H Q => (∃ i, xs = [.int i] ∧ Q (.int i) H) ∨ ∃ k, xs = [.bl k] ∧ Q (.int (if k then 1 else 0)) H) := CbS.of1 fun A as s σ H x d R Q ok r w k => by
  cases d with
  | int i => cases r; exact .inl ⟨_, rfl, k.here ok (r := .dat (.int _)) .int w⟩
  | bl i => cases r; exact .inr ⟨_, rfl, k.here ok (r := .dat (.int _)) .int w⟩
  | _ => exact w.elim
def int2G (g : Int → Int → Int) (d e : D) (s : S) (R : Sl → S → Prop) : Prop := match d, e with
  | .int i, .int j => R (.dat (.int (g i j))) s
  | _, _ => False
def maxI (i j : Int) : Int := if j > i then j else i
def minI (i j : Int) : Int := if j < i then j else i
def max2F : FN := fun ps s R => arg2 s ps fun d e => int2G maxI d e s R
def min2F : FN := fun ps s R => arg2 s ps fun d e => int2G minI d e s R
theorem cbs_max2 {K : PySem.W.Frag} : CbS K max2F (fun xs H Q => ∃ i j, xs = [.int i, .int j] ∧ Q (.int (if j > i then j else i)) H) := CbS.of2 fun A as s σ H x y d e R Q ok rx ry w k => by
  cases d <;> cases e <;> first
    | exact w.elim
    | skip
  cases rx; cases ry
  exact ⟨_, _, rfl, k.here ok (r := .dat (.int _)) .int w⟩
theorem cbs_min2 {K : PySem.W.Frag} : CbS K min2F (fun xs H Q => ∃ i j, xs = [.int i, .int j] ∧ Q (.int (if j < i then j else i)) H) := CbS.of2 fun A as s σ H x y d e R Q ok rx ry w k => by
  cases d <;> cases e <;> first
    | exact w.elim
    | skip
  cases rx; cases ry
  exact ⟨_, _, rfl, k.here ok (r := .dat (.int _)) .int w⟩
/-- list(..), tuple(..) of a list, a tuple -/
def listG (d : D) (s : S) (R : Sl → S → Prop) : Prop := match d with
  | .lst ds => nw (.lst ds) s R
  | .scr ds => nw (.lst ds) s R
  | .tup ds => nw (.lst ds) s R
  | _ => False
def listF : FN := fun ps s R => arg1 s ps fun d => listG d s R
theorem cbs_list {K : PySem.W.Frag} : CbS K listF (fun xs H Q => ∃ p ys, xs = [.ref p] ∧ (SqL K H p ys ∨ SqT K H p ys) ∧ ∀ l, H l = none → Q (.ref l) (upd H l (.lst ys))) := CbS.of1 fun A as s σ H x d R Q ok r w k => by
  cases d with
  | lst ds => obtain ⟨a, xs, rfl, h1, h2⟩ := r; exact ⟨_, _, rfl, .inl (.inl (.inl h1)), fun l hl => k.lst ok hl h2 w⟩
  | scr ds => obtain ⟨a, xs, rfl, h1, h2⟩ := r; exact ⟨_, _, rfl, .inl h1, fun l hl => k.lst ok hl h2 w⟩
  | tup ds => obtain ⟨_, a, xs, rfl, h1, h2⟩ := r; exact ⟨_, _, rfl, .inr h1, fun l hl => k.lst ok hl h2 w⟩
  | _ => exact w.elim
def tupG (d : D) (s : S) (R : Sl → S → Prop) : Prop := match d with
  | .lst ds => R (.dat (.tup ds)) s
  | .scr ds => R (.dat (.tup ds)) s
  | .tup ds => R (.dat (.tup ds)) s
  | _ => False
def tupF : FN := fun ps s R => arg1 s ps fun d => tupG d s R
theorem cbs_tup {K : PySem.W.Frag} : CbS K tupF (fun xs H Q => ∃ p ys, xs = [.ref p] ∧ ((SqL K H p ys ∧ ∀ l, H l = none → Q (.ref l) (upd H l (.tup ys))) ∨ (SqT K H p ys ∧ Q (.ref p) H))) := CbS.of1 fun A as s σ H x d R Q ok r w k => by
  cases d with
  | lst ds => obtain ⟨a, xs, rfl, h1, h2⟩ := r; exact ⟨_, _, rfl, .inl ⟨.inl (.inl h1), fun l hl => k.tup ok hl h2 w⟩⟩
  | scr ds => obtain ⟨a, xs, rfl, h1, h2⟩ := r; exact ⟨_, _, rfl, .inl ⟨h1, fun l hl => k.tup ok hl h2 w⟩⟩
  | tup ds => obtain ⟨rt, a, xs, rfl, h1, h2⟩ := r; exact ⟨_, _, rfl, .inr ⟨h1, k.here ok (r := .dat (.tup ds)) rt w⟩⟩
  | _ => exact w.elim
/-- lists of numbers, of truths -/
def isInts : List D → (List Int → Prop) → Prop
  | [], k => k []
  | .int i :: ds, k => isInts ds fun is => k (i :: is)
  | _ :: _, _ => False
def dI (is : List Int) : List D := is.map D.int
def dB (bs : List Bool) : List D := bs.map D.bl
theorem RepL.nums {K : PySem.W.Frag} {F : Hp} : ∀ {is : List Int} {xs : List V}, RepL K F xs (dI is) → xs = is.map V.int
  | [], _, .nil => rfl
  | i :: is, _, .cons r t => by
    cases r
    rw [t.nums]
    rfl
theorem RepL.trus {K : PySem.W.Frag} {F : Hp} : ∀ {is : List Bool} {xs : List V}, RepL K F xs (dB is) → xs = is.map V.bl
  | [], _, .nil => rfl
  | i :: is, _, .cons r t => by
    cases r
    rw [t.trus]
    rfl
def intsG (g : List Int → (Int → Prop) → Prop) (d : D) (s : S) (R : Sl → S → Prop) : Prop := match d with
  | .lst ds => ∃ is, ds = dI is ∧ g is fun i => R (.dat (.int i)) s
  | _ => False
def blsG (g : List Bool → Bool) (d : D) (s : S) (R : Sl → S → Prop) : Prop := match d with
  | .lst ds => ∃ bs, ds = dB bs ∧ R (.dat (.bl (g bs))) s
  | _ => False
def sumF : FN := fun ps s R => arg1 s ps fun d => intsG (fun is k => k is.sum) d s R
def maxF : FN := fun ps s R => arg1 s ps fun d => intsG (fun is k => 0 < is.length ∧ ∀ m, m ∈ is → (∀ y, y ∈ is → y ≤ m) → k m) d s R
def minF : FN := fun ps s R => arg1 s ps fun d => intsG (fun is k => 0 < is.length ∧ ∀ m, m ∈ is → (∀ y, y ∈ is → m ≤ y) → k m) d s R
def anyF : FN := fun ps s R => arg1 s ps fun d => blsG (fun bs => bs.any id) d s R
def allF : FN := fun ps s R => arg1 s ps fun d => blsG (fun bs => bs.all id) d s R
section
variable {K : PySem.W.Frag}
theorem cbs_sum : CbS K sumF (rSum K) := CbS.of1 fun A as s σ H x d R Q ok r w k => by
  cases d with
  | lst ds =>
    obtain ⟨is, rfl, w⟩ := w
    obtain ⟨a, xs, rfl, h1, h2⟩ := r
    cases h2.nums
    exact ⟨a, is, rfl, .inl (.inl h1), k.here ok (r := .dat (.int _)) .int w⟩
  | _ => exact w.elim
theorem cbs_max : CbS K maxF (rMax K) := CbS.of1 fun A as s σ H x d R Q ok r w k => by
  cases d with
  | lst ds =>
    obtain ⟨is, rfl, w1, w2⟩ := w
    obtain ⟨a, xs, rfl, h1, h2⟩ := r
    cases h2.nums
    exact ⟨a, is, rfl, .inl (.inl h1), w1, fun m z1 z2 => k.here ok (r := .dat (.int _)) .int (w2 m z1 z2)⟩
  | _ => exact w.elim
theorem cbs_min : CbS K minF (rMin K) := CbS.of1 fun A as s σ H x d R Q ok r w k => by
  cases d with
  | lst ds =>
    obtain ⟨is, rfl, w1, w2⟩ := w
    obtain ⟨a, xs, rfl, h1, h2⟩ := r
    cases h2.nums
    exact ⟨a, is, rfl, .inl (.inl h1), w1, fun m z1 z2 => k.here ok (r := .dat (.int _)) .int (w2 m z1 z2)⟩
  | _ => exact w.elim
theorem cbs_any : CbS K anyF (rAny K) := CbS.of1 fun A as s σ H x d R Q ok r w k => by
  cases d with
  | lst ds =>
    obtain ⟨is, rfl, w⟩ := w
    obtain ⟨a, xs, rfl, h1, h2⟩ := r
    cases h2.trus
    exact ⟨a, is, rfl, .inl (.inl h1), k.here ok (r := .dat (.bl _)) .bl w⟩
  | _ => exact w.elim
theorem cbs_all : CbS K allF (rAll K) := CbS.of1 fun A as s σ H x d R Q ok r w k => by
  cases d with
  | lst ds =>
    obtain ⟨is, rfl, w⟩ := w
    obtain ⟨a, xs, rfl, h1, h2⟩ := r
    cases h2.trus
    exact ⟨a, is, rfl, .inl (.inl h1), k.here ok (r := .dat (.bl _)) .bl w⟩
  | _ => exact w.elim
end
end Gd
namespace Gd
open PySem PySem.Spec PyProof.Rows L2
/-! ### stores -/
def put {α : Type} : List (Option α) → Nat → α → List (Option α)
  | [], _, _ => []
  | _ :: t, 0, x => some x :: t
  | y :: t, i + 1, x => y :: put t i x
theorem put_eq {α : Type} : ∀ (l : List (Option α)) (i : Nat) (x : α), put l i x = l.set i (some x)
  | [], _, _ => rfl
  | _ :: _, 0, _ => rfl
  | y :: t, i + 1, x => congrArg (y :: ·) (put_eq t i x)
abbrev WG := Sl → S → (S → Prop) → Prop
/-- a target, told by the slots that it may change -/
def upG (K : PySem.W.Frag) (js : List Nat) (g : WG) : TG := fun v σ H Q => ∃ A as s r R, Ok K A as s σ H ∧ RepS K (vw A as s.μ H) as v r ∧ g r s R ∧
  ∀ σ' H' s' as', as <+: as' → wipe σ' js = wipe σ js → Ok K A as' s' σ' H' → R s' → Q σ' H'
theorem pg_imp {X : Cx} {e : Expr} {t t' : TG} (h : PG X e t) (i : ∀ v σ H Q, t' v σ H Q → t v σ H Q) : PG X e t' := ⟨fun pins s σ H v u Q I r w => h.run pins s σ H v u Q I r (i v σ H Q w)⟩
section
variable {K : PySem.W.Frag} {A : Amb} {as as' : List Addr} {s s' : S} {σ : L2.St} {H H' : Hp} {v : V} {r : Sl} {d : D}
theorem set_len {i : Nat} {x : Option V} : (σ.set i x).length = σ.length := List.length_set ..
theorem wipe_set {x : Option V} : ∀ {js : List Nat} {i : Nat}, i ∈ js → wipe (σ.set i x) js = wipe σ js
  | j :: js, i, h => by
    unfold wipe
    by_cases e : i = j
    · subst e
      by_cases hi : i ∈ js
      · rw [wipe_set hi]
      · have : wipe (σ.set i x) js = (wipe σ js).set i x := wipe_out hi
        rw [this, List.set_set]
    · rw [wipe_set ((List.mem_cons.mp h).resolve_left e)]
  where wipe_out : ∀ {js : List Nat} {i : Nat}, i ∉ js → wipe (σ.set i x) js = (wipe σ js).set i x
    | [], _, _ => rfl
    | j :: js, i, h => by
      unfold wipe
      rw [wipe_out fun z => h (List.mem_cons_of_mem _ z)]
      exact List.set_comm _ _ (fun e => h (e ▸ List.mem_cons_self ..))
/-- a name holds it -/
theorem Ok.named (ok : Ok K A as s σ H) (h : RepS K (vw A as s.μ H) as v r) (i : Nat) : Ok K A as ⟨put s.Γ i r, s.μ⟩ (σ.set i (some v)) H := by
  refine ⟨ok.len, ok.nd, ok.dj, ok.tr, ok.m0, ok.pin, fun j q hq => ?_, ok.mem, ?_, ok.own, ok.he⟩
  · have hq : (put s.Γ i r)[j]? = some (some q) := hq
    rw [put_eq] at hq
    by_cases e : i = j
    · subst e
      by_cases hi : i < s.Γ.length
      · rw [List.getElem?_set_self hi] at hq
        have e2 : r = q := Option.some.inj (Option.some.inj hq)
        subst e2
        exact ⟨v, by rw [List.getElem?_set_self (by rw [← ok.ln]; exact hi)], h⟩
      · rw [List.getElem?_eq_none (by rw [List.length_set]; omega)] at hq
        cases hq
    · rw [List.getElem?_set_ne e] at hq
      obtain ⟨u, h1, h2⟩ := ok.env j q hq
      exact ⟨u, by rw [List.getElem?_set_ne e]; exact h1, h2⟩
  · show (put s.Γ i r).length = (σ.set i (some v)).length
    rw [put_eq, List.length_set, List.length_set]
    exact ok.ln
end
def wgN (i : Nat) : WG := fun r s R => R ⟨put s.Γ i r, s.μ⟩
theorem g_name {X : Cx} {x : Str} {pos : Pos} (i : Nat) (hN : X.N.Nodup) (hi : X.N[i]? = some x := by rfl) (hx : Loc X.env.scope x := by first | exact Or.inl rfl | exact Or.inr rfl) (hf : X.fn x = true ∨ X.env.scope.names.lookup x = some .local := by first | exact .inl rfl | exact .inr rfl | assumption) :
    PG X (.Name x pos) (upG X.K [i] (wgN i)) := pg_imp (pg_name hN hi hx hf) fun v σ H Q ⟨A, as, s, r, R, ok, hr, w, k⟩ =>
  k _ H ⟨put s.Γ i r, s.μ⟩ as (List.prefix_refl _) (wipe_set (List.mem_singleton.mpr rfl)) (ok.named hr i) w
/-- several names at once, of a tuple -/
def puts : List Nat → List D → List (Option Sl) → (List (Option Sl) → Prop) → Prop
  | [], [], Γ, k => k Γ
  | i :: is, d :: ds, Γ, k => puts is ds (put Γ i (.dat d)) k
  | _, _, _, _ => False
def upGs (K : PySem.W.Frag) (js is : List Nat) : TGs := fun vs σ H Q => ∃ (A : Amb) (as : List Addr) (s : S) (ds : List D) (R : S → Prop), Ok K A as s σ H ∧ RepL K (vw A as s.μ H) vs ds ∧ puts is ds s.Γ (fun Γ => R ⟨Γ, s.μ⟩) ∧ (∀ i ∈ is, i ∈ js) ∧
  ∀ σ' H' s' as', as <+: as' → wipe σ' js = wipe σ js → Ok K A as' s' σ' H' → R s' → Q σ' H'
theorem gs_nil {X : Cx} {js : List Nat} : PGs X [] (upGs X.K js []) := ⟨fun pins s σ H vs us Q I r ⟨A, as, st, ds, R, ok, hr, w, _, k⟩ => pgs_nil.run pins s σ H vs us Q I r (by
  cases ds with
  | nil =>
    cases hr
    exact ⟨rfl, k σ H st as (List.prefix_refl _) rfl ok w⟩
  | cons d ds => exact w.elim)⟩
theorem gs_cons {X : Cx} {x : Str} {pos : Pos} {es : List Expr} {js is : List Nat} (i : Nat) (hN : X.N.Nodup) (hr : PGs X es (upGs X.K js is)) (hi : X.N[i]? = some x := by rfl) (hx : Loc X.env.scope x := by first | exact Or.inl rfl | exact Or.inr rfl)
    (hf : X.fn x = true ∨ X.env.scope.names.lookup x = some .local := by first | exact .inl rfl | exact .inr rfl | assumption) : PGs X (.Name x pos :: es) (upGs X.K js (i :: is)) := by
  refine ⟨fun pins s σ H vs us Q I r ⟨A, as, st, ds, R, ok, hv, w, hj, k⟩ => (pgs_cons (pg_name hN hi hx hf) hr).run pins s σ H vs us Q I r ?_⟩
  cases ds with
  | nil => exact w.elim
  | cons d ds =>
    cases hv with
    | cons h1 h2 =>
      refine ⟨_, _, rfl, ?_⟩
      exact ⟨A, as, ⟨put st.Γ i (.dat d), st.μ⟩, ds, R, ok.named (r := .dat d) h1 i, h2, w, fun j z => hj j (List.mem_cons_of_mem _ z), fun σ' H' s' as' p e ok' q => k σ' H' s' as' p (e.trans (wipe_set (hj i (List.mem_cons_self ..)))) ok' q⟩
def wgT (is : List Nat) : WG := fun r s R => one s r fun d => match d with
  | .tup ds => puts is ds s.Γ fun Γ => R ⟨Γ, s.μ⟩
  | _ => False
theorem puts_len : ∀ {is : List Nat} {ds : List D} {Γ : List (Option Sl)} {k : List (Option Sl) → Prop}, puts is ds Γ k → ds.length = is.length
  | [], [], _, _, _ => rfl
  | _ :: _, _ :: _, _, _, h => congrArg Nat.succ (puts_len h)
  | [], _ :: _, _, _, h => h.elim
  | _ :: _, [], _, _, h => h.elim
theorem g_tup {X : Cx} {es : List Expr} {k : Nat} {pos : Pos} {is : List Nat} (hc : X.calm = true) (h : PGs X es (upGs X.K is is)) (hn : (assignEach es X.env).length = is.length := by rfl) (hst : (assignEach es X.env).findIdx? (·.1) = none := by rfl) :
    PG X (.Tuple es k pos) (upG X.K is (wgT is)) := pg_imp (pg_tup hc h hn hst) fun v σ H Q ⟨A, as, s, r, R, ok, hr, w, kk⟩ => by
  obtain ⟨d, e, w⟩ := optK_of w
  have rd := ok.rdc hr e
  cases d with
  | tup ds =>
    obtain ⟨_, a, xs, rfl, h1, h2⟩ := rd
    exact ⟨a, xs, rfl, h1, by rw [h2.len]; exact puts_len w, A, as, s, ds, R, ok, h2, w, fun _ z => z, kk⟩
  | _ => exact w.elim
/-- o[i] = .. of a list -/
def setG (p q : Sl) (d : D) (s : S) (R : S → Prop) : Prop := match p, q with
  | .cel j, .dat (.int i) => optK (nth s.μ j) fun o => match o with
    | .lst ds => optK (ixN ds.length i) fun n => R { s with μ := put s.μ j (.lst (ds.set n d)) }
    | _ => False
  | _, _ => False
def wgS (wo wi : WE) : WG := fun r s R => match r with
  | .dat d => wo s fun p s1 => wi s1 fun q s2 => setG p q d s2 R
  | _ => False
theorem g_sub {X : Cx} {o i : Expr} {wo wi : WE} {pos : Pos} (ho : PE X o (up X.K wo)) (hi : PE X i (up X.K wi))
    (ha : ∀ v, assign (.Subscript o i pos) X.env v = (do
      let ov ← holding [v] (eval o X.env)
      let iv ← holding [v, ov] (eval i X.env)
      standAt pos
      holding [v, ov, iv] (setItem ov iv v)
      release [v, ov, iv] []) := by intro _; rfl) : PG X (.Subscript o i pos) (upG X.K [] (wgS wo wi)) := pg_imp (pg_sub ho hi set_list ha) fun v σ H Q ⟨A, as, s, r, R, ok, hr, w, k⟩ => by
  cases r with
  | cel j => exact w.elim
  | val u => exact w.elim
  | dat d =>
    refine ⟨A, as, s, _, ok, w, fun v1 H1 p s1 as1 st1 ok1 r1 w1 => ⟨A, as1, s1, _, ok1, w1, fun v2 H2 q s2 as2 st2 ok2 r2 w2 => ?_⟩⟩
    cases p with
    | dat _ => exact w2.elim
    | val _ => exact w2.elim
    | cel j =>
      cases q with
      | cel _ => exact w2.elim
      | val _ => exact w2.elim
      | dat e =>
        cases e with
        | int n =>
          obtain ⟨o, e1, w3⟩ := optK_of w2
          cases o with
          | lst ds =>
            obtain ⟨m, e2, w4⟩ := optK_of w3
            obtain ⟨a, h1, rfl⟩ := r1.mono st2.le st2.pre
            cases r2
            have hj := nth_eq _ _ e1
            obtain ⟨xs, h3, h4⟩ := ok2.mem j a _ h1 hj
            refine ⟨a, xs, n, m, rfl, rfl, h3, by rw [h4.len]; exact e2, ?_⟩
            have hd : Rep X.K (vw A as2 s2.μ H2) v d := Rep.mono (st1.trans st2).le d hr
            obtain ⟨st3, ok3⟩ := ok2.write (o' := .lst (ds.set m d)) h1 hj (u := .lst (xs.set m v)) ⟨_, upd_same, h4.set hd m⟩
            rw [← put_eq] at st3 ok3
            exact k σ _ _ as2 (st1.trans st2).pre rfl ok3 w4
          | _ => exact w3.elim
        | _ => exact w2.elim
end Gd
namespace Gd
open PySem PySem.Spec PyProof.Rows L2
section
variable {X : Cx} {st : Stmt} {sts body : List Stmt} {e c tg it : Expr} {a b : List Stmt} {we : WE} {wt : WT} {w w1 w2 wb : WS} {pos : Pos} {g : WG} {js : List Nat}
/-! ### statements -/
def wNx : WS := fun D s => D.nx s
def wSeq (w1 w2 : WS) : WS := fun D s => w1 { D with nx := fun s1 => w2 D s1 } s
theorem s_nil : PSs X [] (upS X.K wNx) := pss_imp pss_nil fun D σ H ⟨A, as, s, d, ok, w, cn, cr, cb, cc⟩ => cn σ H s as (List.prefix_refl _) ok w
theorem s_one (h : PS X st (upS X.K w)) : PSs X [st] (upS X.K w) := pss_one h
theorem s_cons (h : PS X st (upS X.K w1)) (h2 : PSs X sts (upS X.K w2)) : PSs X (st :: sts) (upS X.K (wSeq w1 w2)) := pss_imp (pss_cons h h2) fun D σ H ⟨A, as, s, d, ok, w, cn, cr, cb, cc⟩ =>
  ⟨A, as, s, { d with nx := fun s1 => w2 d s1 }, ok, w, fun σ1 H1 s1 as1 p1 ok1 w1 => ⟨A, as1, s1, d, ok1, w1, fun σ2 H2 s2 as2 p2 => cn σ2 H2 s2 as2 (p1.trans p2), fun v σ2 H2 r s2 as2 p2 => cr v σ2 H2 r s2 as2 (p1.trans p2),
    fun σ2 H2 s2 as2 p2 => cb σ2 H2 s2 as2 (p1.trans p2), fun σ2 H2 s2 as2 p2 => cc σ2 H2 s2 as2 (p1.trans p2)⟩, cr, cb, cc⟩
theorem s_pass : PS X (.Pass pos) (upS X.K wNx) := ps_imp ps_pass fun D σ H ⟨A, as, s, d, ok, w, cn, cr, cb, cc⟩ => cn σ H s as (List.prefix_refl _) ok w
def wBk : WS := fun D s => D.bk s
def wCt : WS := fun D s => D.ct s
theorem s_break : PS X (.Break pos) (upS X.K wBk) := ps_imp ps_break fun D σ H ⟨A, as, s, d, ok, w, cn, cr, cb, cc⟩ => cb σ H s as (List.prefix_refl _) ok w
theorem s_continue : PS X (.Continue pos) (upS X.K wCt) := ps_imp ps_continue fun D σ H ⟨A, as, s, d, ok, w, cn, cr, cb, cc⟩ => cc σ H s as (List.prefix_refl _) ok w
def wRet (we : WE) : WS := fun D s => we s fun r s1 => D.rt r s1
theorem s_ret (h : PE X e (up X.K we)) : PS X (.Return (some e) pos) (upS X.K (wRet we)) := ps_imp (ps_ret h) fun D σ H ⟨A, as, s, d, ok, w, cn, cr, cb, cc⟩ =>
  ⟨A, as, s, _, ok, w, fun v1 H1 r s1 as1 st1 ok1 r1 w1 => cr v1 σ H1 r s1 as1 st1.pre ok1 r1 w1⟩
def wRetN : WS := fun D s => D.rt (.dat .non) s
theorem s_retN : PS X (.Return none pos) (upS X.K wRetN) := ps_imp ps_retN fun D σ H ⟨A, as, s, d, ok, w, cn, cr, cb, cc⟩ => cr .non σ H (.dat .non) s as (List.prefix_refl _) ok .non w
def wDrop (we : WE) : WS := fun D s => we s fun _ s1 => D.nx s1
theorem s_expr (h : PE X e (up X.K we)) (hs : swapsWith e none pos.line X.env = pure false := by rfl) : PS X (.Expr e pos) (upS X.K (wDrop we)) := ps_imp (ps_expr h hs) fun D σ H ⟨A, as, s, d, ok, w, cn, cr, cb, cc⟩ =>
  ⟨A, as, s, _, ok, w, fun v1 H1 r s1 as1 st1 ok1 r1 w1 => cn σ H1 s1 as1 st1.pre ok1 w1⟩
theorem s_doc {x j pos'} : PS X (.Expr (.Constant (.str x) j pos) pos') (upS X.K wNx) := ps_imp ps_doc fun D σ H ⟨A, as, s, d, ok, w, cn, cr, cb, cc⟩ => cn σ H s as (List.prefix_refl _) ok w
def wIfS (wt : WT) (w1 w2 : WS) : WS := fun D s => wt s fun k s1 => if k = true then w1 D s1 else w2 D s1
theorem s_if (hc : PT X c (upT X.K wt)) (ha : PSs X a (upS X.K w1)) (hb : PSs X b (upS X.K w2)) : PS X (.If c a b pos) (upS X.K (wIfS wt w1 w2)) := ps_imp (ps_if hc ha hb) fun D σ H ⟨A, as, s, d, ok, w, cn, cr, cb, cc⟩ =>
  ⟨A, as, s, _, ok, w, fun k H1 s1 as1 st1 ok1 z => by
    cases k with
    | true =>
      rw [if_pos rfl] at z ⊢
      exact ⟨A, as1, s1, d, ok1, z, fun σ2 H2 s2 as2 p2 => cn σ2 H2 s2 as2 (st1.pre.trans p2), fun v σ2 H2 r s2 as2 p2 => cr v σ2 H2 r s2 as2 (st1.pre.trans p2),
        fun σ2 H2 s2 as2 p2 => cb σ2 H2 s2 as2 (st1.pre.trans p2), fun σ2 H2 s2 as2 p2 => cc σ2 H2 s2 as2 (st1.pre.trans p2)⟩
    | false =>
      rw [if_neg Bool.false_ne_true] at z ⊢
      exact ⟨A, as1, s1, d, ok1, z, fun σ2 H2 s2 as2 p2 => cn σ2 H2 s2 as2 (st1.pre.trans p2), fun v σ2 H2 r s2 as2 p2 => cr v σ2 H2 r s2 as2 (st1.pre.trans p2),
        fun σ2 H2 s2 as2 p2 => cb σ2 H2 s2 as2 (st1.pre.trans p2), fun σ2 H2 s2 as2 p2 => cc σ2 H2 s2 as2 (st1.pre.trans p2)⟩⟩
/-- tg = e -/
def wAsg (we : WE) (g : WG) : WS := fun D s => we s fun r s1 => g r s1 D.nx
theorem up_asg : ∀ D σ H, upS X.K (wAsg we g) D σ H → tAsg (up X.K we) (upG X.K js g) D σ H := fun D σ H ⟨A, as, s, d, ok, w, cn, cr, cb, cc⟩ =>
  ⟨A, as, s, _, ok, w, fun v1 H1 r s1 as1 st1 ok1 r1 w1 => ⟨A, as1, s1, r, d.nx, ok1, r1, w1, fun σ2 H2 s2 as2 p2 _ ok2 w2 => cn σ2 H2 s2 as2 (st1.pre.trans p2) ok2 w2⟩⟩
theorem s_asg (he : PE X e (up X.K we)) (hg : PG X tg (upG X.K js g)) (hs : swapsWithSole [tg] e pos.line X.env = pure false := by rfl) (hw : swappedStores [tg] e X.env = pure none := by rfl)
    (h1 : (assignEach [tg] X.env).map (·.2) = [assign tg X.env] := by rfl) : PS X (.Assign [tg] e pos) (upS X.K (wAsg we g)) := ps_imp (ps_asg he hg hs hw h1) up_asg
/-- x = e -/
theorem s_set {x : Str} {pos' : Pos} (i : Nat) (hN : X.N.Nodup) (he : PE X e (up X.K we)) (hi : X.N[i]? = some x := by rfl) (hx : Loc X.env.scope x := by first | exact Or.inl rfl | exact Or.inr rfl) (hs : swapsWith e (some (.Name x pos')) pos.line X.env = pure false := by rfl)
    (hf : X.fn x = true ∨ X.env.scope.names.lookup x = some .local := by first | exact .inl rfl | exact .inr rfl | assumption) : PS X (.Assign [.Name x pos'] e pos) (upS X.K (wAsg we (wgN i))) :=
  ps_imp (ps_set hN hi hx he hs hf) fun D σ H ⟨A, as, s, d, ok, w, cn, cr, cb, cc⟩ =>
    ⟨A, as, s, _, ok, w, fun v1 H1 r s1 as1 st1 ok1 r1 w1 => cn _ H1 _ as1 st1.pre (ok1.named r1 i) w1⟩
/-- x, y = a, b: two names, no tuple -/
def wPar (i j : Nat) (wa : WA) : WS := fun D s => wa s fun ps s1 => match ps with
  | [p, q] => D.nx ⟨put (put s1.Γ i p) j q, s1.μ⟩
  | _ => False
theorem s_par {i j : Nat} {x y : Str} {a b : Expr} {wa : WA} {px py pt : Pos} {kt k2 pt2} (hc : X.calm = true) (hN : X.N.Nodup) (hi : X.N[i]? = some x) (hj : X.N[j]? = some y) (hij : i ≠ j)
    (hx : X.env.scope.names.lookup x = some .local) (hy : X.env.scope.names.lookup y = some .local) (ha : PA X [a, b] (upA X.K wa))
    (hw : swappedStores [.Tuple [.Name x px, .Name y py] kt pt] (.Tuple [a, b] k2 pt2) X.env = pure (some [x, y]) := by rfl)
    (hs : swapsWithSole [.Tuple [.Name x px, .Name y py] kt pt] (.Tuple [a, b] k2 pt2) pos.line X.env = pure false := by rfl) :
    PS X (.Assign [.Tuple [.Name x px, .Name y py] kt pt] (.Tuple [a, b] k2 pt2) pos) (upS X.K (wPar i j wa)) := ps_imp (ps_par hc hN hi hj hij hx hy ha hw hs) fun D σ H ⟨A, as, s, d, ok, w, cn, cr, cb, cc⟩ =>
  ⟨A, as, s, _, ok, w, fun vs H1 ps s1 as1 st1 ok1 r1 w1 => by
    match ps, vs, r1 with
    | [p, q], [v, u], r1 => exact ⟨v, u, rfl, cn _ H1 _ as1 st1.pre ((ok1.named r1.1 i).named (s := ⟨put s1.Γ i p, s1.μ⟩) r1.2.1 j) w1⟩
    | [], _, _ => exact w1.elim
    | [_], _, _ => exact w1.elim
    | _ :: _ :: _ :: _, _, _ => exact w1.elim⟩
/-- x op= e, of numbers -/
def wAug (f : Int → Int → Int) (i : Nat) (we : WE) : WS := fun D s => optK (nth s.Γ i) fun p => match p with
  | .dat (.int m) => we s fun q s1 => match q with
    | .dat (.int n) => D.nx ⟨put s1.Γ i (.dat (.int (f m n))), s1.μ⟩
    | _ => False
  | _ => False
theorem s_aug {x : Str} {op : Operator} {f : Int → Int → Int} {pos' : Pos} (i : Nat) (hN : X.N.Nodup) (ho : PIp X op (ipI f)) (he : PE X e (up X.K we)) (hi : X.N[i]? = some x := by rfl) (hx : Loc X.env.scope x := by first | exact Or.inl rfl | exact Or.inr rfl)
    (hf : X.fn x = true ∨ X.env.scope.names.lookup x = some .local := by first | exact .inl rfl | exact .inr rfl | assumption) : PS X (.AugAssign (.Name x pos') op e pos) (upS X.K (wAug f i we)) :=
  ps_imp (ps_aug hN hi hx he ho hf) fun D σ H ⟨A, as, s, d, ok, w, cn, cr, cb, cc⟩ => by
    obtain ⟨p, e1, w⟩ := optK_of w
    obtain ⟨v, h1, h2⟩ := ok.env i p (nth_eq _ _ e1)
    cases p with
    | cel _ => exact w.elim
    | val _ => exact w.elim
    | dat d1 =>
      cases d1 with
      | int m =>
        cases h2
        refine ⟨_, h1, A, as, s, _, ok, w, fun v1 H1 q s1 as1 st1 ok1 r1 w1 => ?_⟩
        cases q with
        | cel _ => exact w1.elim
        | val _ => exact w1.elim
        | dat d2 =>
          cases d2 with
          | int n =>
            cases r1
            exact ⟨_, _, rfl, rfl, cn _ H1 _ as1 st1.pre (ok1.named (r := .dat (.int _)) .int i) w1⟩
          | _ => exact w1.elim
      | _ => exact w.elim

/-! ### loops -/
/-- what is walked: the items, told from F on -/
structure Wk (K : PySem.W.Frag) (J : It) (ds : List D) (F : Hp) : Prop where
  go : ∀ i H, i < ds.length → Le F H → J.go i H
  stop : ∀ H, Le F H → J.stop ds.length H
  yld : ∀ i H x H', i < ds.length → Le F H → J.yld i H x H' → ∃ d, ds[i]? = some d ∧ ((H' = H ∧ Rep K F x d) ∨ ∃ T u, H T = none ∧ H' = upd H T u ∧ ∀ F', Le F F' → F' T = some u → Rep K F' x d)
abbrev WI := S → (List D → S → Prop) → Prop
def upI (K : PySem.W.Frag) (w : WI) : TI := fun σ H Rr => ∃ A as s R, Ok K A as s σ H ∧ w s R ∧
  ∀ J ds H' s' as', Stp A as s.μ H as' s'.μ H' → Ok K A as' s' σ H' → Wk K J ds (vw A as' s'.μ H') → R ds s' → Rr J H'
theorem pi_imp {wi wi' : TI} (h : PI X tg it wi) (i : ∀ σ H R, wi' σ H R → wi σ H R) : PI X tg it wi' := ⟨fun pins s σ H R I w => h.run pins s σ H R I (i σ H R w)⟩
def forW (g : WG) (wb : WS) : List D → Dn → S → Prop
  | [], d, s => d.nx s
  | x :: xs, d, s => g (.dat x) s fun s1 => wb { d with nx := fun s2 => forW g wb xs d s2, ct := fun s2 => forW g wb xs d s2, bk := d.nx } s1
def wFor (wi : WI) (g : WG) (wb : WS) : WS := fun d s => wi s fun ds s1 => forW g wb ds d s1
/-- the state as one that also keeps what is to be read now -/
def Amb.pinned (A : Amb) (F : Hp) : Amb := { A with pin := F }
theorem Ok.pinned {K : PySem.W.Frag} {A : Amb} {as : List Addr} {s : S} {σ : L2.St} {H : Hp} (ok : Ok K A as s σ H) : Ok K (A.pinned (vw A as s.μ H)) as s σ H :=
  ⟨ok.len, ok.nd, ok.dj, ok.tr, ok.m0, Le.refl _, ok.env, ok.mem, ok.ln, ok.own, ok.he⟩
theorem Ok.unpin {K : PySem.W.Frag} {A : Amb} {F : Hp} {as : List Addr} {s : S} {σ : L2.St} {H : Hp} (h : Le A.pin F) (ok : Ok K (A.pinned F) as s σ H) : Ok K A as s σ H :=
  ⟨ok.len, ok.nd, ok.dj, ok.tr, ok.m0, h.trans ok.pin, ok.env, ok.mem, ok.ln, ok.own, ok.he⟩
theorem drop_at {ds : List D} {i : Nat} {d : D} (h : ds[i]? = some d) : ds.drop i = d :: ds.drop (i + 1) := by
  obtain ⟨h1, h2⟩ := List.getElem?_eq_some_iff.mp h
  rw [List.drop_eq_getElem_cons h1, h2]
/-- behind an item: the heap may have one thing more -/
theorem Wk.item {K : PySem.W.Frag} {J : It} {ds : List D} {F : Hp} {A : Amb} {as : List Addr} {s : S} {σ : L2.St} {H H' : Hp} {i : Nat} {x : V} (wk : Wk K J ds F) (ok : Ok K A as s σ H) (hF : Le F (vw A as s.μ H)) (hi : i < ds.length) (y : J.yld i H x H') :
    ∃ d, ds[i]? = some d ∧ Ok K A as s σ H' ∧ Stp A as s.μ H as s.μ H' ∧ RepS K (vw A as s.μ H') as x (.dat d) := by
  obtain ⟨d, e, h⟩ := wk.yld i H x H' hi (hF.trans vw_le) y
  rcases h with ⟨rfl, r⟩ | ⟨T, u, hT, rfl, r⟩
  · exact ⟨d, e, ok, Stp.refl, Rep.mono hF d r⟩
  · obtain ⟨st, ok', eT⟩ := ok.new hT u
    exact ⟨d, e, ok', st, r _ (hF.trans st.le) eT⟩
theorem s_for {wi : WI} (hp : PassesOwn (model X.prog X.w) X.A X.env X.xe) (hc : X.calm = true) (hi : PI X tg it (upI X.K wi)) (hg : PG X tg (upG X.K js g)) (hb : PSs X body (upS X.K wb)) (hs : ∀ x, foldedSetIterable it X.env x = pure x := by intro _; rfl) :
    PS X (.For tg it body [] pos) (upS X.K (wFor wi g wb)) := ps_imp (ps_for hp hc hi hg hb hs) fun D σ H ⟨A, as, s, d, ok, w, cn, cr, cb, cc⟩ => by
  refine ⟨A, as, s, _, ok, w, fun J ds H1 s1 as1 st1 ok1 wk w1 => ?_⟩
  have hpin : Le A.pin (vw A as1 s1.μ H1) := ok1.pin
  refine ⟨fun i m σ' H' => m = ds.length - i ∧ i ≤ ds.length ∧ ∃ as' s', as1 <+: as' ∧ Ok X.K (A.pinned (vw A as1 s1.μ H1)) as' s' σ' H' ∧ forW g wb (ds.drop i) d s', ⟨ds.length, by simp, Nat.zero_le _, as1, s1, List.prefix_refl _, ok1.pinned, w1⟩, ?_⟩
  rintro i m σ2 H2 ⟨rfl, hi, as2, s2, p2, ok2, w2⟩
  have hF : Le (vw A as1 s1.μ H1) (vw A as2 s2.μ H2) := ok2.pin
  by_cases hlt : i < ds.length
  · refine .inr ⟨wk.go i H2 hlt (hF.trans vw_le), fun σ' H' => ∃ as' s', as1 <+: as' ∧ Ok X.K (A.pinned (vw A as1 s1.μ H1)) as' s' σ' H' ∧ forW g wb (ds.drop (i + 1)) d s', fun σ' H' h => ⟨ds.length - (i + 1), by omega, rfl, hlt, h⟩, fun x H3 y => ?_⟩
    obtain ⟨x', e, ok3, st3, r3⟩ := wk.item ok2 hF hlt y
    rw [drop_at e] at w2
    refine ⟨_, as2, s2, .dat x', _, ok3, r3, w2, fun σ4 H4 s4 as4 p4 _ ok4 w4 => ⟨_, as4, s4, _, ok4, w4, ?_, ?_, ?_, ?_⟩⟩
    · exact fun σ5 H5 s5 as5 p5 ok5 w5 => ⟨as5, s5, (p2.trans p4).trans p5, ok5, w5⟩
    · exact fun v σ5 H5 r s5 as5 p5 ok5 r5 w5 => cr v σ5 H5 r s5 as5 (((st1.pre.trans p2).trans p4).trans p5) (ok5.unpin hpin) r5 w5
    · exact fun σ5 H5 s5 as5 p5 ok5 w5 => cn σ5 H5 s5 as5 (((st1.pre.trans p2).trans p4).trans p5) (ok5.unpin hpin) w5
    · exact fun σ5 H5 s5 as5 p5 ok5 w5 => ⟨as5, s5, (p2.trans p4).trans p5, ok5, w5⟩
  · have e : i = ds.length := by omega
    subst e
    rw [List.drop_length] at w2
    exact .inl ⟨wk.stop H2 (hF.trans vw_le), cn σ2 H2 s2 as2 (st1.pre.trans p2) (ok2.unpin hpin) w2⟩
def wWhile (wt : WT) (wb : WS) : WS := fun d s => ∃ (W : Nat → S → Prop) (m : Nat), W m s ∧ ∀ m s, W m s → wt s fun b s1 =>
  if b = true then wb { d with nx := fun s2 => ∃ m', m' < m ∧ W m' s2, ct := fun s2 => ∃ m', m' < m ∧ W m' s2, bk := d.nx } s1 else d.nx s1
theorem s_while (hp : PassesOwn (model X.prog X.w) X.A X.env X.xe) (hc : PT X c (upT X.K wt)) (hb : PSs X body (upS X.K wb)) : PS X (.While c body [] pos) (upS X.K (wWhile wt wb)) := ps_imp (ps_while hp hc hb) fun D σ H ⟨A, as, s, d, ok, w, cn, cr, cb, cc⟩ => by
  obtain ⟨W, m0, w0, turn⟩ := w
  refine ⟨fun m σ' H' => ∃ as' s', as <+: as' ∧ Ok X.K A as' s' σ' H' ∧ W m s', ⟨m0, as, s, List.prefix_refl _, ok, w0⟩, ?_⟩
  rintro m σ1 H1 ⟨as1, s1, p1, ok1, w1⟩
  refine ⟨A, as1, s1, _, ok1, turn m s1 w1, fun k H2 s2 as2 st2 ok2 w2 => ?_⟩
  cases k with
  | false =>
    rw [if_neg Bool.false_ne_true] at w2 ⊢
    exact cn σ1 H2 s2 as2 (p1.trans st2.pre) ok2 w2
  | true =>
    rw [if_pos rfl] at w2 ⊢
    refine ⟨fun σ' H' => ∃ m' as' s', m' < m ∧ as <+: as' ∧ Ok X.K A as' s' σ' H' ∧ W m' s', fun σ' H' ⟨m', as', s', h1, h2⟩ => ⟨m', h1, as', s', h2⟩, A, as2, s2, _, ok2, w2, ?_, ?_, ?_, ?_⟩
    · exact fun σ5 H5 s5 as5 p5 ok5 ⟨m', h1, h2⟩ => ⟨m', as5, s5, h1, (p1.trans st2.pre).trans p5, ok5, h2⟩
    · exact fun v σ5 H5 r s5 as5 p5 ok5 r5 w5 => cr v σ5 H5 r s5 as5 ((p1.trans st2.pre).trans p5) ok5 r5 w5
    · exact fun σ5 H5 s5 as5 p5 ok5 w5 => cn σ5 H5 s5 as5 ((p1.trans st2.pre).trans p5) ok5 w5
    · exact fun σ5 H5 s5 as5 p5 ok5 ⟨m', h1, h2⟩ => ⟨m', as5, s5, h1, (p1.trans st2.pre).trans p5, ok5, h2⟩
end

/-! ### comprehensions -/
def wip (Γ : List (Option Sl)) : List Nat → List (Option Sl)
  | [] => Γ
  | v :: vs => (wip Γ vs).set v none
theorem wip_len (Γ : List (Option Sl)) : ∀ vs : List Nat, (wip Γ vs).length = Γ.length
  | [] => rfl
  | v :: vs => by
    unfold wip
    rw [List.length_set, wip_len Γ vs]
theorem wip_get {Γ : List (Option Sl)} {i : Nat} {r : Sl} : ∀ {vs : List Nat}, (wip Γ vs)[i]? = some (some r) → Γ[i]? = some (some r) ∧ i ∉ vs
  | [], h => ⟨h, by simp⟩
  | v :: vs, h => by
    unfold wip at h
    by_cases e : v = i
    · subst e
      by_cases hi : v < (wip Γ vs).length
      · rw [List.getElem?_set_self hi] at h
        cases h
      · rw [List.getElem?_eq_none (by rw [List.length_set]; omega)] at h
        cases h
    · rw [List.getElem?_set_ne e] at h
      obtain ⟨h1, h2⟩ := wip_get h
      exact ⟨h1, fun z => (List.mem_cons.mp z).elim (fun q => e q.symm) h2⟩
theorem wipe_get {σ : L2.St} {i : Nat} : ∀ {vs : List Nat}, i ∉ vs → (wipe σ vs)[i]? = σ[i]?
  | [], _ => rfl
  | v :: vs, h => by
    show ((wipe σ vs).set v none)[i]? = σ[i]?
    rw [List.getElem?_set_ne (show v ≠ i from fun e => h (e ▸ List.mem_cons_self ..))]
    exact wipe_get fun z => h (List.mem_cons_of_mem _ z)
theorem Ok.wiped {K : PySem.W.Frag} {A : Amb} {as : List Addr} {s : S} {σ : L2.St} {H : Hp} (ok : Ok K A as s σ H) (vs : List Nat) : Ok K A as ⟨wip s.Γ vs, s.μ⟩ (wipe σ vs) H := by
  refine ⟨ok.len, ok.nd, ok.dj, ok.tr, ok.m0, ok.pin, fun j q hq => ?_, ok.mem, ?_, ok.own, ok.he⟩
  · obtain ⟨h1, h2⟩ := wip_get hq
    obtain ⟨v, h3, h4⟩ := ok.env j q h1
    exact ⟨v, by rw [wipe_get h2]; exact h3, h4⟩
  · show (wip s.Γ vs).length = (wipe σ vs).length
    rw [wip_len, wipe_length]
    exact ok.ln
theorem wipe_out {σ : L2.St} {x : Option V} : ∀ {js : List Nat} {i : Nat}, i ∉ js → wipe (σ.set i x) js = (wipe σ js).set i x
  | [], _, _ => rfl
  | j :: js, i, h => by
    unfold wipe
    rw [wipe_out fun z => h (List.mem_cons_of_mem _ z)]
    exact List.set_comm _ _ (fun e => h (e ▸ List.mem_cons_self ..))
theorem wipe_again {σ : L2.St} : ∀ (vs ws : List Nat), (∀ v ∈ vs, v ∈ ws) → wipe (wipe σ vs) ws = wipe σ ws
  | [], _, _ => rfl
  | v :: vs, ws, h => by
    show wipe ((wipe σ vs).set v none) ws = wipe σ ws
    rw [wipe_set (h v (List.mem_cons_self ..))]
    exact wipe_again vs ws fun z hz => h z (List.mem_cons_of_mem _ hz)
/-- from the items: what is made of each that passes -/
def lcW (vs : List Nat) (g : WG) (wt : WT) (we : WE) (Γ : List (Option Sl)) : List D → List D → List (Option MO) → (List D → List (Option MO) → Prop) → Prop
  | [], acc, μ, R => R acc μ
  | x :: xs, acc, μ, R => g (.dat x) ⟨wip Γ vs, μ⟩ fun s1 => wt s1 fun b s2 =>
    if b = true then we s2 fun r s3 => match r with
      | .dat d => sz (acc.length + 1) ∧ lcW vs g wt we Γ xs (acc ++ [d]) s3.μ R
      | _ => False
    else lcW vs g wt we Γ xs acc s2.μ R
def wLc (wi : WI) (g : WG) (wt : WT) (we : WE) (vs : List Nat) : WE := fun s R => wi s fun ds s1 => lcW vs g wt we s1.Γ ds [] s1.μ fun acc μ => nw (.lst acc) ⟨s1.Γ, μ⟩ R
/-- the list that is made is hidden meanwhile -/
def Amb.hide (A : Amb) (d : Addr) (H F : Hp) : Amb := { A with M0 := fun a => a = d ∨ A.M0 a, H0 := H, pin := F }
section
variable {K : PySem.W.Frag} {A : Amb} {as as' : List Addr} {s s' : S} {σ : L2.St} {H H' F F' : Hp} {d : Addr} {μ : List (Option MO)}
theorem vw_hide {G : Hp} (hd : H d ≠ none) : vw (A.hide d G F) as μ H = fun a => if a = d then none else vw A as μ H a := by
  funext a
  by_cases e : a = d
  · subst e
    rw [if_pos rfl]
    exact vw_yes (Or.inl (Or.inl rfl))
  · rw [if_neg e]
    by_cases h : hid A as μ a
    · rw [vw_yes h]
      refine vw_yes ?_
      rcases h with h | h
      · exact Or.inl (Or.inr h)
      · exact Or.inr h
    · rw [vw_no h, vw_no]
      rintro ((z | z) | z)
      · exact e z
      · exact h (.inl z)
      · exact h (.inr z)
/-- the new list begins -/
theorem Ok.begin (ok : Ok K A as s σ H) (hd : H d = none) (u : HO) : vw (A.hide d (upd H d u) (vw A as s.μ H)) as s.μ (upd H d u) = vw A as s.μ H ∧ Ok K (A.hide d (upd H d u) (vw A as s.μ H)) as s σ (upd H d u) := by
  have nm : ∀ b, H b ≠ none → upd H d u b = H b := fun b hb => upd_ne fun z => hb (z ▸ hd)
  have ev : vw (A.hide d (upd H d u) (vw A as s.μ H)) as s.μ (upd H d u) = vw A as s.μ H := by
    rw [vw_hide (by rw [upd_same]; exact fun z => nomatch z)]
    funext a
    by_cases e : a = d
    · subst e
      rw [if_pos rfl, vw_no (ok.unhid hd), hd]
    · rw [if_neg e]
      by_cases h : hid A as s.μ a
      · rw [vw_yes h, vw_yes h]
      · rw [vw_no h, vw_no h, upd_ne e]
  refine ⟨ev, ⟨ok.len, ok.nd, fun a ha z => ?_, fun a ha => ?_, fun a ha => ⟨?_, rfl⟩, by rw [ev]; exact Le.refl _, fun i r h => by rw [ev]; exact ok.env i r h, fun i a o h1 h2 => ?_, ok.ln, ok.own, fun a ha => ?_⟩⟩
  · rcases z with z | z
    · exact ok.out hd (z ▸ ha)
    · exact ok.dj a ha z
  · rw [nm a (ok.tr a ha)]
    exact ok.tr a ha
  · rcases ha with z | z
    · subst z
      show upd H a u a ≠ none
      rw [upd_same]
      exact fun z => nomatch z
    · have : H a ≠ none := by
        rw [(ok.m0 a z).2]
        exact (ok.m0 a z).1
      show upd H d u a ≠ none
      rw [nm a this]
      exact this
  · rw [ev]
    exact (ok.mem i a o h1 h2).mono (Le.refl _) (List.prefix_refl _) (nm a (ok.mem i a o h1 h2).some)
  · rw [nm a (ok.he a ha)]
    exact ok.he a ha
/-- .. and is written -/
theorem Ok.more {G : Hp} (ok : Ok K (A.hide d G F) as s σ H) (u : HO) : vw (A.hide d (upd H d u) (vw (A.hide d G F) as s.μ H)) as s.μ (upd H d u) = vw (A.hide d G F) as s.μ H ∧ Ok K (A.hide d (upd H d u) (vw (A.hide d G F) as s.μ H)) as s σ (upd H d u) := by
  have hdn : H d ≠ none := by
    rw [(ok.m0 d (.inl rfl)).2]
    exact (ok.m0 d (.inl rfl)).1
  have nm : ∀ b, b ≠ d → upd H d u b = H b := fun b hb => upd_ne hb
  have ev : vw (A.hide d (upd H d u) (vw (A.hide d G F) as s.μ H)) as s.μ (upd H d u) = vw (A.hide d G F) as s.μ H := by
    rw [vw_hide (by rw [upd_same]; exact fun z => nomatch z), vw_hide hdn]
    funext a
    by_cases e : a = d
    · subst e
      rw [if_pos rfl, if_pos rfl]
    · rw [if_neg e, if_neg e]
      by_cases h : hid A as s.μ a
      · rw [vw_yes h, vw_yes h]
      · rw [vw_no h, vw_no h, nm a e]
  have us : ∀ a, H a ≠ none → upd H d u a ≠ none := fun a ha => by
    by_cases e : a = d
    · subst e
      rw [upd_same]
      exact fun z => nomatch z
    · rw [nm a e]
      exact ha
  refine ⟨ev, ⟨ok.len, ok.nd, ok.dj, fun a ha => us a (ok.tr a ha), fun a ha => ⟨us a ?_, rfl⟩, by rw [ev]; exact Le.refl _, fun i r h => by rw [ev]; exact ok.env i r h, fun i a o h1 h2 => ?_, ok.ln, ok.own, fun a ha => us a (ok.he a ha)⟩⟩
  · rw [(ok.m0 a ha).2]
    exact (ok.m0 a ha).1
  · rw [ev]
    refine (ok.mem i a o h1 h2).mono (Le.refl _) (List.prefix_refl _) (nm a fun e => ?_)
    subst e
    exact ok.dj a (List.mem_of_getElem? h1) (.inl rfl)
/-- .. and is there -/
theorem Ok.adopt {G : Hp} {xs : List V} {ds : List D} (ok : Ok K (A.hide d G F) as s σ H) (hA : ∀ a, A.M0 a → A.H0 a ≠ none ∧ H a = A.H0 a) (hp : Le A.pin F) (hd : H d = some (.lst xs)) (hx : RepL K (vw (A.hide d G F) as s.μ H) xs ds) (hnew : A.He d = none) (hdM : ¬ A.M0 d) :
    vw A (as ++ [d]) (s.μ ++ [some (.lst ds)]) H = vw (A.hide d G F) as s.μ H ∧ Ok K A (as ++ [d]) ⟨s.Γ, s.μ ++ [some (.lst ds)]⟩ σ H ∧ (as ++ [d])[s.μ.length]? = some d := by
  have hdn : H d ≠ none := by
    rw [hd]
    exact fun z => nomatch z
  have np : d ∉ as := fun z => ok.dj d z (.inl rfl)
  have pre : as <+: as ++ [d] := List.prefix_append _ _
  have hlast : (as ++ [d])[s.μ.length]? = some d := by
    rw [← ok.len, List.getElem?_append_right (Nat.le_refl _), Nat.sub_self]
    rfl
  have hh : ∀ a, hid A (as ++ [d]) (s.μ ++ [some (.lst ds)]) a ↔ hid (A.hide d G F) as s.μ a := fun a => by
    constructor
    · rintro (h | ⟨i, o, h1, h2⟩)
      · exact .inl (.inr h)
      · by_cases hi : i < as.length
        · rw [List.getElem?_append_left hi] at h1
          rw [List.getElem?_append_left (by rw [← ok.len]; exact hi)] at h2
          exact .inr ⟨i, o, h1, h2⟩
        · rw [List.getElem?_append_right (by omega)] at h1
          cases e : i - as.length with
          | zero =>
            rw [e] at h1
            exact .inl (.inl (Option.some.inj h1).symm)
          | succ n =>
            rw [e] at h1
            cases h1
    · rintro ((h | h) | ⟨i, o, h1, h2⟩)
      · subst h
        refine .inr ⟨s.μ.length, .lst ds, hlast, ?_⟩
        rw [List.getElem?_append_right (Nat.le_refl _), Nat.sub_self]
        rfl
      · exact .inl h
      · refine .inr ⟨i, o, pre_get pre h1, ?_⟩
        rw [List.getElem?_append_left (List.getElem?_eq_some_iff.mp h2).1]
        exact h2
  have ev : vw A (as ++ [d]) (s.μ ++ [some (.lst ds)]) H = vw (A.hide d G F) as s.μ H := by
    funext a
    by_cases h : hid (A.hide d G F) as s.μ a
    · rw [vw_yes h, vw_yes ((hh a).mpr h)]
    · rw [vw_no h, vw_no fun z => h ((hh a).mp z)]
  refine ⟨ev, ⟨?_, ?_, fun a ha => ?_, fun a ha => ?_, hA, by rw [ev]; exact hp.trans ok.pin, fun i r h => ?_, fun i a o h1 h2 => ?_, ok.ln, fun a ha => ?_, ok.he⟩, hlast⟩
  · show (as ++ [d]).length = (s.μ ++ [some (MO.lst ds)]).length
    rw [List.length_append, List.length_append, ok.len]
    rfl
  · exact List.nodup_append.mpr ⟨ok.nd, by simp, fun x hx y hy e => by
      have : y = d := by simpa using hy
      exact np (this ▸ e ▸ hx)⟩
  · rcases List.mem_append.mp ha with ha | ha
    · exact fun z => ok.dj a ha (.inr z)
    · rw [show a = d by simpa using ha]
      exact hdM
  · rcases List.mem_append.mp ha with ha | ha
    · exact ok.tr a ha
    · rw [show a = d by simpa using ha]
      exact hdn
  · show ∃ v : V, σ[i]? = some (some v) ∧ RepS K (vw A (as ++ [d]) (s.μ ++ [some (.lst ds)]) H) (as ++ [d]) v r
    rw [ev]
    obtain ⟨v, h1, h2⟩ := ok.env i r h
    exact ⟨v, h1, h2.mono (Le.refl _) pre⟩
  · show MemO K (vw A (as ++ [d]) (s.μ ++ [some (.lst ds)]) H) (as ++ [d]) H a o
    rw [ev]
    by_cases hi : i < as.length
    · rw [List.getElem?_append_left hi] at h1
      have h2' : s.μ[i]? = some (some o) := by
        rw [← List.getElem?_append_left (l₂ := [some (.lst ds)]) (by rw [← ok.len]; exact hi)]
        exact h2
      exact (ok.mem i a o h1 h2').mono (Le.refl _) pre rfl
    · rw [List.getElem?_append_right (by omega)] at h1
      cases e : i - as.length with
      | zero =>
        rw [e] at h1
        have h2' : (s.μ ++ [some (.lst ds)])[i]? = some (some o) := h2
        rw [List.getElem?_append_right (by rw [← ok.len]; omega), show i - s.μ.length = 0 by rw [← ok.len]; exact e] at h2'
        have e1 : d = a := Option.some.inj h1
        have e2 : MO.lst ds = o := Option.some.inj (Option.some.inj h2')
        subst e1
        subst e2
        exact ⟨xs, hd, hx⟩
      | succ n =>
        rw [e] at h1
        cases h1
  · rcases List.mem_append.mp ha with ha | ha
    · exact ok.own a ha
    · rw [show a = d by simpa using ha]
      exact .inr hnew
end
end Gd
namespace Gd
open PySem PySem.Spec PyProof.Rows L2
section
variable {K : PySem.W.Frag}
theorem up_lc {wi : WI} {g : WG} {wt : WT} {we : WE} {vs : List Nat} : ∀ σ H Q, up K (wLc wi g wt we vs) σ H Q → tLc (upI K wi) (upG K vs g) (upT K wt) (up K we) vs σ H Q := fun σ H Q ⟨A, as, s, R, ok, w, k⟩ => by
  refine ⟨A, as, s, _, ok, w, fun J ds H1 s1 as1 st1 ok1 wk w1 dl hD => ?_⟩
  have hDM : ¬ A.M0 dl := fun z => (ok1.m0 dl z).1 ((ok1.m0 dl z).2 ▸ hD)
  have hDn : A.He dl = none := Classical.byContradiction fun z => ok1.he dl z hD
  -- the word between two turns
  let W : Nat → Nat → Hp → Prop := fun i m H' => m = ds.length - i ∧ i ≤ ds.length ∧ ∃ (as' : List Addr) (μ' : List (Option MO)) (acc : List D) (xs : List V) (G F : Hp), as1 <+: as' ∧ Le (vw A as1 s1.μ H1) F ∧
    Ok K (A.hide dl G F) as' ⟨s1.Γ, μ'⟩ σ H' ∧ (∀ a, A.M0 a → A.H0 a ≠ none ∧ H' a = A.H0 a) ∧ H' dl = some (.lst xs) ∧ RepL K (vw (A.hide dl G F) as' μ' H') xs acc ∧
    lcW vs g wt we s1.Γ (ds.drop i) acc μ' (fun acc μ => nw (.lst acc) ⟨s1.Γ, μ⟩ R)
  refine ⟨W, ⟨ds.length, by simp, Nat.zero_le _, as1, s1.μ, [], [], _, _, List.prefix_refl _, Le.refl _, (ok1.begin hD (.lst [])).2, fun a ha => ⟨(ok1.m0 a ha).1, ?_⟩, upd_same, .nil, w1⟩, ?_⟩
  · rw [upd_ne (show a ≠ dl from fun e => hDM (e ▸ ha))]
    exact (ok1.m0 a ha).2
  rintro i m H2 ⟨rfl, hi, as2, μ2, acc, xs, G, F, p2, hF, ok2, hM, hDx, hx, w2⟩
  have hFv : Le (vw A as1 s1.μ H1) (vw (A.hide dl G F) as2 μ2 H2) := hF.trans ok2.pin
  by_cases hlt : i < ds.length
  · refine .inr ⟨wk.go i H2 hlt (hFv.trans vw_le), W (i + 1) (ds.length - (i + 1)), fun H' h => ⟨_, by omega, h⟩, fun x H3 y => ?_⟩
    obtain ⟨x', e, ok3, st3, r3⟩ := wk.item ok2 hFv hlt y
    rw [drop_at e] at w2
    -- what is to be read at the turn's start is pinned
    have okp : Ok K (A.hide dl G (vw (A.hide dl G F) as2 μ2 H3)) as2 ⟨s1.Γ, μ2⟩ σ H3 := ok3.pinned
    have ok3w := okp.wiped vs
    have hM3 : ∀ a, A.M0 a → A.H0 a ≠ none ∧ H3 a = A.H0 a := fun a ha => ⟨(hM a ha).1, ((ok3.m0 a (.inr ha)).2.trans (ok2.m0 a (.inr ha)).2.symm).trans (hM a ha).2⟩
    have hD3 : H3 dl = some (.lst xs) := ((ok3.m0 dl (.inl rfl)).2.trans (ok2.m0 dl (.inl rfl)).2.symm).trans hDx
    -- behind a turn
    have fin : ∀ (as4 : List Addr) (s4 : S) (σ4 : L2.St) (H4 : Hp) (acc' : List D) (xs' : List V), as2 <+: as4 → Ok K (A.hide dl G (vw (A.hide dl G F) as2 μ2 H3)) as4 s4 σ4 H4 → RepL K (vw (A.hide dl G F) as4 s4.μ H4) xs' acc' →
        lcW vs g wt we s1.Γ (ds.drop (i + 1)) acc' s4.μ (fun acc μ => nw (.lst acc) ⟨s1.Γ, μ⟩ R) → W (i + 1) (ds.length - (i + 1)) (upd H4 dl (.lst xs')) := fun as4 s4 σ4 H4 acc' xs' p4 ok4 hx4 w4 => by
      have hle : Le (vw (A.hide dl G F) as2 μ2 H3) (vw (A.hide dl G F) as4 s4.μ H4) := ok4.pin
      have ok5 : Ok K (A.hide dl G (vw (A.hide dl G F) as2 μ2 H3)) as4 ⟨s1.Γ, s4.μ⟩ σ H4 := ⟨ok4.len, ok4.nd, ok4.dj, ok4.tr, ok4.m0, ok4.pin, fun j q hq => by
        obtain ⟨v, h1, h2⟩ := okp.env j q hq
        exact ⟨v, h1, h2.mono hle p4⟩, ok4.mem, okp.ln, ok4.own, ok4.he⟩
      obtain ⟨ev, ok6⟩ := ok5.more (.lst xs')
      refine ⟨rfl, hlt, as4, s4.μ, acc', xs', _, _, p2.trans p4, ?_, ok6, fun a ha => ⟨(hM a ha).1, ?_⟩, upd_same, ?_, w4⟩
      · exact (hFv.trans st3.le).trans hle
      · rw [upd_ne (show a ≠ dl from fun e => hDM (e ▸ ha))]
        exact ((ok4.m0 a (.inr ha)).2.trans (ok3.m0 a (.inr ha)).2.symm).trans (hM3 a ha).2
      · rw [ev]
        exact hx4
    refine ⟨_, as2, ⟨wip s1.Γ vs, μ2⟩, .dat x', _, ok3w, r3, w2, fun σ4 H4 s4 as4 p4 ew ok4 w4 => ?_⟩
    refine ⟨ew.trans (wipe_again vs vs fun _ z => z), ?_⟩
    refine ⟨_, as4, s4, _, ok4, w4, fun b H5 s5 as5 st5 ok5 w5 => ?_⟩
    have hle5 : Le (vw (A.hide dl G F) as2 μ2 H3) (vw (A.hide dl G F) as5 s5.μ H5) := ok5.pin
    cases b with
    | false =>
      rw [if_neg Bool.false_ne_true] at w5
      show W (i + 1) (ds.length - (i + 1)) H5
      have hD5 : H5 dl = some (.lst xs) := ((ok5.m0 dl (.inl rfl)).2.trans (ok3.m0 dl (.inl rfl)).2.symm).trans hD3
      have := fin as5 s5 σ4 H5 acc xs (p4.trans st5.pre) ok5 (RepL.mono (st3.le.trans hle5) _ hx) w5
      rw [show upd H5 dl (.lst xs) = H5 by
        funext a
        by_cases e : a = dl
        · subst e
          rw [upd_same, hD5]
        · rw [upd_ne e]] at this
      exact this
    | true =>
      rw [if_pos rfl] at w5
      show up K we σ4 H5 _
      refine ⟨_, as5, s5, _, ok5, w5, fun v6 H6 r s6 as6 st6 ok6 r6 w6 => ?_⟩
      cases r with
      | cel _ => exact w6.elim
      | val _ => exact w6.elim
      | dat d =>
        have hle6 : Le (vw (A.hide dl G F) as2 μ2 H3) (vw (A.hide dl G F) as6 s6.μ H6) := ok6.pin
        have hD6 : H6 dl = some (.lst xs) := ((ok6.m0 dl (.inl rfl)).2.trans (ok3.m0 dl (.inl rfl)).2.symm).trans hD3
        have hxl := hx.len
        refine ⟨xs, hD6, by rw [hxl]; exact w6.1.lt, fin as6 s6 σ4 H6 (acc ++ [d]) (xs ++ [v6]) ((p4.trans st5.pre).trans st6.pre) ok6 ((RepL.mono (st3.le.trans hle6) _ hx).append (.one r6)) w6.2⟩
  · have e : i = ds.length := by omega
    subst e
    rw [List.drop_length] at w2
    refine .inl ⟨wk.stop H2 (hFv.trans vw_le), ?_⟩
    obtain ⟨ev, ok3, hl⟩ := ok2.adopt hM (ok1.pin.trans hF) hDx hx hDn hDM
    have w3 : R (.cel μ2.length) ⟨s1.Γ, μ2 ++ [some (.lst acc)]⟩ := w2
    refine k _ H2 (.cel μ2.length) ⟨s1.Γ, μ2 ++ [some (.lst acc)]⟩ (as2 ++ [dl]) (st1.trans ⟨p2.trans (List.prefix_append _ _), ?_⟩) ok3 ⟨dl, hl, rfl⟩ w3
    show Le _ (vw A (as2 ++ [dl]) (μ2 ++ [some (.lst acc)]) H2)
    rw [ev]
    exact hFv
end
section
variable {X : Cx} {elt tg iter : Expr} {ifs : List Expr} {scope : Scope} {own : List (Str × Nat)} {pos : Pos} {wi : WI} {g : WG} {wt : WT} {we : WE} {vs : List Nat}
def wYes : WT := fun s R => R true s
theorem ts_nil : PTs X [] (upT X.K wYes) := ⟨fun pins s σ H Q I ⟨A, as, st, R, ok, w, k⟩ => pts_nil.run pins s σ H Q I (k true H st as Stp.refl ok w)⟩
theorem ts_one {c : Expr} (h : PT X c (upT X.K wt)) : PTs X [c] (upT X.K wt) := pts_one h
theorem e_lc (hc : X.calm = true) (hN : X.N.Nodup) (hi : PI X tg iter (upI X.K wi)) (ok : BlkOk X.N X.env.scope scope own) (hvs : own.map (·.2) = vs)
    (hg : ∀ (s : Shared) (H : Hp) (C : Addr) (cl : List (Str × Addr)) (fp : List Addr), PG (X.blk s H scope (compEnvC scope cl C X.env) fp) tg (upG X.K vs g)) (ht : ∀ (s : Shared) (H : Hp) (C : Addr) (cl : List (Str × Addr)) (fp : List Addr), PTs (X.blk s H scope (compEnvC scope cl C X.env) fp) ifs (upT X.K wt))
    (he : ∀ (s : Shared) (H : Hp) (C : Addr) (cl : List (Str × Addr)) (fp : List Addr), PE (X.blk s H scope (compEnvC scope cl C X.env) fp) elt (up X.K we)) (hs : ∀ x, foldedSetIterable iter X.env x = pure x := by intro _; rfl) :
    PE X (.ListComp elt [⟨tg, iter, ifs, 0⟩] scope pos) (up X.K (wLc wi g wt we vs)) := by
  subst hvs
  exact pe_imp (pe_lc hc hN hi ok hg ht he hs) up_lc
theorem s_setLc {y : Str} {py : Pos} {spos : Pos} (i : Nat) (hc : X.calm = true) (hN : X.N.Nodup) (hy : X.N[i]? = some y) (hyl : X.env.scope.names.lookup y = some .local)
    (hsw : swapsWith (.ListComp elt [⟨tg, iter, ifs, 0⟩] scope pos) (some (.Name y py)) spos.line X.env = pure true) (hi : PI X tg iter (upI X.K wi)) (ok : BlkOk X.N X.env.scope scope own) (hvs : own.map (·.2) = vs)
    (hg : ∀ (s : Shared) (H : Hp) (C : Addr) (cl : List (Str × Addr)) (fp : List Addr), PG (X.blk s H scope (compEnvC scope cl C X.env) fp) tg (upG X.K vs g)) (ht : ∀ (s : Shared) (H : Hp) (C : Addr) (cl : List (Str × Addr)) (fp : List Addr), PTs (X.blk s H scope (compEnvC scope cl C X.env) fp) ifs (upT X.K wt))
    (he : ∀ (s : Shared) (H : Hp) (C : Addr) (cl : List (Str × Addr)) (fp : List Addr), PE (X.blk s H scope (compEnvC scope cl C X.env) fp) elt (up X.K we)) (hs : ∀ x, foldedSetIterable iter X.env x = pure x := by intro _; rfl) :
    PS X (.Assign [.Name y py] (.ListComp elt [⟨tg, iter, ifs, 0⟩] scope pos) spos) (upS X.K (wAsg (wLc wi g wt we vs) (wgN i))) := by
  subst hvs
  exact ps_imp (ps_setLc hc hN hy hyl hsw hi ok hg ht he hs) fun D σ H ⟨A, as, s, d, ok, w, cn, cr, cb, cc⟩ =>
    up_lc σ H _ ⟨A, as, s, _, ok, w, fun v1 H1 r s1 as1 st1 ok1 r1 w1 => cn _ H1 _ as1 st1.pre (ok1.named r1 i) w1⟩
end

/-! ### defs -/
/-- what a def does, by data: its arguments, what it may write -/
abbrev FS := List Sl → List (Option MO) → (Sl → List (Option MO) → Prop) → Prop
def spD (K : PySem.W.Frag) (n : Nat) (f : FS) : Sp := fun vs H Q _ => ∃ (A : Amb) (as : List Addr) (args : List Sl) (μ : List (Option MO)) (R : Sl → List (Option MO) → Prop), args.length = n ∧ A.as0 = as ∧ A.He = H ∧
  Ok K A as ⟨args.map some, μ⟩ (vs.map some) H ∧ f args μ R ∧ ∀ v H' r μ' as', as <+: as' → Ok K A as' ⟨[], μ'⟩ [] H' → Le (vw A as μ H) (vw A as' μ' H') → RepS K (vw A as' μ' H') as' v r → R r μ' → Q v H'
theorem spD_len {K : PySem.W.Frag} {n : Nat} {f : FS} : ∀ vs H Q E, spD K n f vs H Q E → vs.length = n := fun vs H Q E ⟨A, as, args, μ, R, hn, _, _, ok, _⟩ => by
  have := ok.ln
  rw [List.length_map, List.length_map] at this
  omega
/-- at the end: the value as data, all that was made on the way given up; or (fresh) what was made just now is handed out to be written -/
def out (fresh : Bool) (n : Nat) (R : Sl → List (Option MO) → Prop) (r : Sl) (s1 : S) : Prop := match r with
  | .dat d => belowAll n (s1.μ.take n) ∧ R (.dat d) (s1.μ.take n)
  | .val v => belowAll n (s1.μ.take n) ∧ R (.val v) (s1.μ.take n)
  | .cel i => if i < n then belowAll n (s1.μ.take n) ∧ R (.cel i) (s1.μ.take n) else
    optK (nth s1.μ i) fun o => belowAll n (s1.μ.take n) ∧ o.plain ∧ if fresh = true then R (.cel n) (s1.μ.take n ++ [some o]) else R (.dat o.d) (s1.μ.take n)
def Dn.of (fresh : Bool) (n : Nat) (R : Sl → List (Option MO) → Prop) : Dn := { nx := fun s => out fresh n R (.dat .non) s, rt := fun r s => out fresh n R r s }
section
variable {K : PySem.W.Frag} {A : Amb} {as as1 : List Addr} {s s1 : S} {σ σ1 : L2.St} {H H1 : Hp} {v : V} {r : Sl} {μ : List (Option MO)}
/-- back to the many that were handed in -/
theorem Ok.exit (ok : Ok K A as s σ H) (p : as <+: as1) (ok1 : Ok K A as1 s1 σ1 H1) (hb : belowAll s.μ.length (s1.μ.take s.μ.length)) :
    Ok K A as ⟨[], s1.μ.take s.μ.length⟩ [] H1 ∧ Le (vw A as1 s1.μ H1) (vw A as (s1.μ.take s.μ.length) H1) ∧ as1.take s.μ.length = as := by
  have hn : as1.take s.μ.length = as := by
    obtain ⟨t, rfl⟩ := p
    rw [← ok.len, List.take_left]
  have hle : s.μ.length ≤ s1.μ.length := by
    rw [← ok.len, ← ok1.len]
    exact p.length_le
  have hh : ∀ a, hid A as (s1.μ.take s.μ.length) a → hid A as1 s1.μ a := fun a h => by
    rcases h with h | ⟨i, o, h1, h2⟩
    · exact .inl h
    · exact .inr ⟨i, o, pre_get p h1, take_less _ _ _ _ h2⟩
  have le : Le (vw A as1 s1.μ H1) (vw A as (s1.μ.take s.μ.length) H1) := fun a u h => by
    obtain ⟨h1, h2⟩ := vw_of h
    exact .inl (by rw [vw_no fun z => h2 (hh a z)]; exact h1)
  refine ⟨⟨?_, ok.nd, ok.dj, fun a ha => ok1.tr a (p.subset ha), ok1.m0, ok1.pin.trans le, fun i r h => ?_, fun i a o h1 h2 => ?_, rfl, ok.own, ok1.he⟩, le, hn⟩
  · show as.length = (s1.μ.take s.μ.length).length
    rw [List.length_take, Nat.min_eq_left hle]
    exact ok.len
  · simp at h
  · have hm := ok1.mem i a o (pre_get p h1) (take_less _ _ _ _ h2)
    have hm' := (hm.mono le (List.prefix_refl _) rfl).below (belowAll_get hb h2)
    rw [hn] at hm'
    exact hm'
end
section
variable {P : Program} {w : World} {K : PySem.W.Frag} {mg : Str → Option Value} {base : Heap}
theorem start_ln {N ps : List Str} {vs : List V} (h : vs.length ≤ N.length) : (L2.start N vs).length = N.length := by
  unfold L2.start
  rw [List.length_append, List.length_map, List.length_replicate]
  omega
/-- the state at a def's entry -/
def entry (n : Nat) (args : List Sl) (μ : List (Option MO)) : S := ⟨args.map some ++ List.replicate (n - args.length) none, μ⟩
/-- a def's body, whatever its head -/
theorem fn_body {qual : Str} {st : Stmt} {fa : Addr} {N ps : List Str} {k n : Nat} {f : FS} (fresh : Bool) (S : FnScope N ps (defScope st)) (hn : n = ps.length)
    (hbody : ∀ (cdv : Value) (A : Around) (outer : List Env) (s : Shared) (H : Hp) (E : XK), Room k (A.deeper (envOfC qual (defScope st) s.heap.objs.size fa cdv)) →
      ∃ w' : WS, PSs (cxOf CX0 P w K mg base N qual (defScope st) fa cdv A outer s H E).nox (defBody st) (upS K w') ∧ ∀ args μ R, args.length = n → f args μ R → w' (Dn.of fresh μ.length R) (entry N.length args μ))
    (cdv : Value) (A : Around) (outer : List Env) (s : Shared) (H : Hp) (vs : List V) (Q : VK) (E : XK) (hr : Room k (A.deeper (envOfC qual (defScope st) s.heap.objs.size fa cdv))) (h : spD K n f vs H Q E) :
      ∃ t, PSs (cxOf CX0 P w K mg base N qual (defScope st) fa cdv A outer s H E).nox (defBody st) t ∧ t { nx := fun _ H' => Q .non H', rt := Q } (start N vs) H := by
  obtain ⟨w', hw, hf⟩ := hbody cdv A outer s H E hr
  refine ⟨_, hw, ?_⟩
  have hlen := spD_len vs H Q E h
  obtain ⟨B, as, args, μ, R, han, has, hHe, ok, hfa, kk⟩ := h
  have hv : vs.length = args.length := by rw [hlen, han]
  have hpin : Ok K (B.pinned (vw B as μ H)) as ⟨args.map some, μ⟩ (vs.map some) H := ok.pinned
  have okE : Ok K (B.pinned (vw B as μ H)) as (entry N.length args μ) (L2.start N vs) H := by
    refine ⟨hpin.len, hpin.nd, hpin.dj, hpin.tr, hpin.m0, hpin.pin, fun i r h => ?_, hpin.mem, ?_, hpin.own, hpin.he⟩
    · have h : (args.map some ++ List.replicate (N.length - args.length) none)[i]? = some (some r) := h
      by_cases hi : i < args.length
      · rw [List.getElem?_append_left (by rw [List.length_map]; exact hi)] at h
        obtain ⟨v, h1, h2⟩ := hpin.env i r h
        refine ⟨v, ?_, h2⟩
        unfold L2.start
        rw [List.getElem?_append_left (by rw [List.length_map, hv]; exact hi)]
        exact h1
      · rw [List.getElem?_append_right (by rw [List.length_map]; omega), List.getElem?_replicate] at h
        split at h <;> cases h
    · show (args.map some ++ List.replicate (N.length - args.length) none).length = (L2.start N vs).length
      unfold L2.start
      rw [List.length_append, List.length_append, List.length_map, List.length_map, List.length_replicate, List.length_replicate, hv]
  have fin : ∀ v σ' H' r s' as', as <+: as' → Ok K (B.pinned (vw B as μ H)) as' s' σ' H' → RepS K (vw (B.pinned (vw B as μ H)) as' s'.μ H') as' v r → out fresh μ.length R r s' → Q v H' := fun v σ' H' r s' as' p ok' hr' ho => by
    have hpn : Le (vw B as μ H) (vw B as' s'.μ H') := ok'.pin
    have fr : belowAll μ.length (s'.μ.take μ.length) → (Ok K B as ⟨[], s'.μ.take μ.length⟩ [] H' ∧ Le (vw B as' s'.μ H') (vw B as (s'.μ.take μ.length) H') ∧ as'.take μ.length = as) := fun hb => by
      obtain ⟨h1, h2, h3⟩ := okE.exit p ok' hb
      exact ⟨h1.unpin ok.pin, h2, h3⟩
    cases r with
    | dat d =>
      obtain ⟨h1, h2, _⟩ := fr ho.1
      exact kk v H' (.dat d) _ as (List.prefix_refl _) h1 (hpn.trans h2) (Rep.mono h2 d hr') ho.2
    | val u =>
      obtain ⟨h1, h2, _⟩ := fr ho.1
      exact kk v H' (.val u) _ as (List.prefix_refl _) h1 (hpn.trans h2) hr' ho.2
    | cel i =>
      have ho : (if i < μ.length then belowAll μ.length (s'.μ.take μ.length) ∧ R (.cel i) (s'.μ.take μ.length) else
        optK (nth s'.μ i) fun o => belowAll μ.length (s'.μ.take μ.length) ∧ o.plain ∧ if fresh = true then R (.cel μ.length) (s'.μ.take μ.length ++ [some o]) else R (.dat o.d) (s'.μ.take μ.length)) := ho
      obtain ⟨a, ha, rfl⟩ := hr'
      by_cases hi : i < μ.length
      · rw [if_pos hi] at ho
        obtain ⟨h1, h2, h3⟩ := fr ho.1
        refine kk _ H' (.cel i) _ as (List.prefix_refl _) h1 (hpn.trans h2) ⟨a, ?_, rfl⟩ ho.2
        rw [← h3, List.getElem?_take_of_lt hi]
        exact ha
      · rw [if_neg hi] at ho
        obtain ⟨o, e, hb, pl, ho⟩ := optK_of ho
        obtain ⟨h1, h2, h3⟩ := fr hb
        have ei := nth_eq _ _ e
        have anin : a ∉ as := fun z => by
          obtain ⟨j, hj, ej⟩ := List.getElem_of_mem z
          have e1 : as'[j]? = some a := pre_get p (by rw [List.getElem?_eq_getElem hj, ej])
          have l1 := (List.getElem?_eq_some_iff.mp ha)
          have l2 := (List.getElem?_eq_some_iff.mp e1)
          have e3 : i = j := (List.getElem_inj ok'.nd).mp (l1.2.trans l2.2.symm)
          have := ok.len
          have h9 : as.length = μ.length := this
          omega
        cases fresh with
        | false =>
          rw [if_neg Bool.false_ne_true] at ho
          refine kk _ H' (.dat o.d) _ as (List.prefix_refl _) h1 (hpn.trans h2) ?_ ho
          obtain ⟨_, _, hd⟩ := ok'.freeze ha ei pl
          refine Rep.mono (fun b u hb' => ?_) _ hd
          obtain ⟨z1, z2⟩ := vw_of hb'
          refine .inl ?_
          rw [vw_no, z1]
          rintro (z | ⟨j, o2, z3, z4⟩)
          · exact z2 (.inl z)
          · have hj := pre_get p z3
            have hjl : j < μ.length := by
              have h9 : as.length = μ.length := ok.len
              rw [← h9]
              exact (List.getElem?_eq_some_iff.mp z3).1
            refine z2 (.inr ⟨j, o2, hj, ?_⟩)
            rw [List.getElem?_set_ne (by omega)]
            exact take_less _ _ _ _ z4
        | true =>
          rw [if_pos rfl] at ho
          -- the i-th goes along
          have hlt : μ.length ≤ s'.μ.length := by
            have h9 : as.length = μ.length := ok.len
            rw [← h9, ← ok'.len]
            exact p.length_le
          have htl : (s'.μ.take μ.length).length = μ.length := by rw [List.length_take, Nat.min_eq_left hlt]
          have hlast : (as ++ [a])[μ.length]? = some a := by
            have h9 : as.length = μ.length := ok.len
            rw [← h9, List.getElem?_append_right (Nat.le_refl _), Nat.sub_self]
            rfl
          have hh : ∀ b, hid B (as ++ [a]) (s'.μ.take μ.length ++ [some o]) b → hid B as' s'.μ b := fun b h => by
            rcases h with h | ⟨j, o', z1, z2⟩
            · exact .inl h
            · by_cases hj : j < as.length
              · rw [List.getElem?_append_left hj] at z1
                rw [List.getElem?_append_left (by rw [htl]; have h9 : as.length = μ.length := ok.len; omega)] at z2
                exact .inr ⟨j, o', pre_get p z1, take_less _ _ _ _ z2⟩
              · have h9 : as.length = μ.length := ok.len
                rw [List.getElem?_append_right (by omega)] at z1
                cases e4 : j - as.length with
                | zero =>
                  rw [e4] at z1
                  rw [List.getElem?_append_right (by rw [htl]; omega), show j - (s'.μ.take μ.length).length = 0 by rw [htl]; omega] at z2
                  have e5 : a = b := Option.some.inj z1
                  have e6 : o = o' := Option.some.inj (Option.some.inj z2)
                  subst e5
                  subst e6
                  exact .inr ⟨i, o, ha, ei⟩
                | succ q =>
                  rw [e4] at z1
                  cases z1
          have le2 : Le (vw B as' s'.μ H') (vw B (as ++ [a]) (s'.μ.take μ.length ++ [some o]) H') := fun b u h => by
            obtain ⟨z1, z2⟩ := vw_of h
            exact .inl (by rw [vw_no fun z => z2 (hh b z)]; exact z1)
          have hm0 : ∀ (F : Hp), Le (vw B as' s'.μ H') F → MemO K F (as ++ [a]) H' a o := fun F hF => by
            have hm := (ok'.mem i a o ha ei).mono hF (List.prefix_refl _) rfl
            cases o with
            | lst ds => exact hm
            | dic ks vs => exact hm
            | dct ks vs => exact hm
            | ins C fs =>
              obtain ⟨dx, gs, q1, q2, q3⟩ := hm
              refine ⟨dx, gs, q1, q2, ?_⟩
              have pl' : ∀ r ∈ fs.map (·.2), ∃ d, r = .dat d := fun r hr => by
                obtain ⟨f, hf, rfl⟩ := List.mem_map.mp hr
                exact pl f hf
              exact (q3.below (n := 0) fun r hr => by
                obtain ⟨d, rfl⟩ := pl' r hr
                exact trivial).mono (Le.refl _) (by rw [List.take_zero]; exact List.nil_prefix)
          refine kk _ H' (.cel μ.length) _ (as ++ [a]) (List.prefix_append _ _) ⟨?_, ?_, fun b hb => ?_, fun b hb => ?_, ok'.m0, ok.pin.trans (hpn.trans le2), fun j q hq => by simp at hq, fun j b o' z1 z2 => ?_, rfl, fun b hb => ?_, ok'.he⟩ (hpn.trans le2) ⟨a, hlast, rfl⟩ ho
          · show (as ++ [a]).length = (s'.μ.take μ.length ++ [some o]).length
            rw [List.length_append, List.length_append, htl]
            have h9 : as.length = μ.length := ok.len
            rw [h9]
            rfl
          · exact List.nodup_append.mpr ⟨ok.nd, by simp, fun x hx y hy e => by
              have : y = a := by simpa using hy
              exact anin (this ▸ e ▸ hx)⟩
          · rcases List.mem_append.mp hb with hb | hb
            · exact ok.dj b hb
            · rw [show b = a by simpa using hb]
              exact ok'.dj a (List.mem_of_getElem? ha)
          · rcases List.mem_append.mp hb with hb | hb
            · exact ok'.tr b (p.subset hb)
            · rw [show b = a by simpa using hb]
              exact ok'.tr a (List.mem_of_getElem? ha)
          · by_cases hj : j < as.length
            · rw [List.getElem?_append_left hj] at z1
              have h9 : as.length = μ.length := ok.len
              have z2' : (s'.μ.take μ.length)[j]? = some (some o') := by
                rw [← List.getElem?_append_left (l₂ := [some o]) (by rw [htl]; omega)]
                exact z2
              have hm := (h1.mem j b o' z1 z2')
              refine ((ok'.mem j b o' (pre_get p z1) (take_less _ _ _ _ z2')).mono le2 (List.prefix_refl _) rfl |>.below (belowAll_get hb z2')).mono (Le.refl _) ?_ rfl
              rw [h3]
              exact List.prefix_append _ _
            · have h9 : as.length = μ.length := ok.len
              rw [List.getElem?_append_right (by omega)] at z1
              cases e4 : j - as.length with
              | zero =>
                rw [e4] at z1
                have z2' : (s'.μ.take μ.length ++ [some o])[j]? = some (some o') := z2
                rw [List.getElem?_append_right (by rw [htl]; omega), show j - (s'.μ.take μ.length).length = 0 by rw [htl]; omega] at z2'
                have e5 : a = b := Option.some.inj z1
                have e6 : o = o' := Option.some.inj (Option.some.inj z2')
                subst e5
                subst e6
                exact hm0 _ le2
              | succ q =>
                rw [e4] at z1
                cases z1
          · rcases List.mem_append.mp hb with hb | hb
            · exact .inl (has ▸ hb)
            · rw [show b = a by simpa using hb]
              exact (ok'.own a (List.mem_of_getElem? ha)).elim (fun z => absurd (has ▸ z) anin) .inr
  exact ⟨_, as, _, _, okE, hf args μ R han hfa, fun σ' H' s' as' p ok' w1 => fin .non σ' H' (.dat .non) s' as' p ok' .non w1, fun v σ' H' r s' as' p ok' hr' w1 => fin v σ' H' r s' as' p ok' hr' w1, fun _ _ _ _ _ _ z => z.elim, fun _ _ _ _ _ _ z => z.elim⟩
/-- THE RULE for a def: its body's reading over data -/
theorem fn_ok {x qual : Str} {st : Stmt} {fa : Addr} {fd : FuncData} {N ps : List Str} {k n : Nat} {f : FS} (fresh : Bool) (F : Fun K x qual st fa fd) (S : FnScope N ps (defScope st)) (hn : n = ps.length)
    (hbody : ∀ (cdv : Value) (A : Around) (outer : List Env) (s : Shared) (H : Hp) (E : XK), Room k (A.deeper (envOfC qual (defScope st) s.heap.objs.size fa cdv)) →
      ∃ w' : WS, PSs (cxOf CX0 P w K mg base N qual (defScope st) fa cdv A outer s H E).nox (defBody st) (upS K w') ∧ ∀ args μ R, args.length = n → f args μ R → w' (Dn.of fresh μ.length R) (entry N.length args μ)) :
    FnOk P w K mg base CX0 (k + 1) fa fd ps (spD K n f) :=
  F.ok S (fun vs H Q E h => (spD_len vs H Q E h).trans hn) fun cdv A outer s H vs Q E hr h => fn_body fresh S hn hbody cdv A outer s H vs Q E hr h
/-- the same for a def with defaults -/
theorem fn_okD {x qual : Str} {st : Stmt} {fa : Addr} {fd : FuncData} {N ps : List Str} {k n : Nat} {f : FS} {dvs : List V} {kws : List (Str × V)} (fresh : Bool) (F : FunD K x qual (defArgs st) (defBody st) (defScope st) dvs kws fa fd) (S : FnScope N ps (defScope st)) (hn : n = ps.length)
    (hbody : ∀ (cdv : Value) (A : Around) (outer : List Env) (s : Shared) (H : Hp) (E : XK), Room k (A.deeper (envOfC qual (defScope st) s.heap.objs.size fa cdv)) →
      ∃ w' : WS, PSs (cxOf CX0 P w K mg base N qual (defScope st) fa cdv A outer s H E).nox (defBody st) (upS K w') ∧ ∀ args μ R, args.length = n → f args μ R → w' (Dn.of fresh μ.length R) (entry N.length args μ)) :
    FnOk P w K mg base CX0 (k + 1) fa fd ps (spD K n f) :=
  F.ok S (fun vs H Q E h => (spD_len vs H Q E h).trans hn) fun cdv A outer s H vs Q E hr h => by
    obtain ⟨t, h1, h2⟩ := fn_body fresh S hn hbody cdv A outer s H vs Q E hr h
    exact ⟨t, h1.nox, h2⟩
end
end Gd
namespace Gd
open PySem PySem.Spec PyProof.Rows L2
/-! ### calls -/
def noCel : List Sl → Prop
  | [] => True
  | .cel _ :: _ => False
  | _ :: rs => noCel rs
def shf (k : Nat) : Sl → Sl
  | .cel i => .cel (k + i)
  | r => r
def plainAll : List (Option MO) → Prop
  | [] => True
  | none :: t => plainAll t
  | some o :: t => o.plain ∧ plainAll t
theorem plainAll_get : ∀ {l : List (Option MO)}, plainAll l → ∀ {i : Nat} {o : MO}, l[i]? = some (some o) → o.plain
  | [], _, i, _, h => by simp at h
  | none :: t, hb, 0, _, h => by simp at h
  | some o :: t, hb, 0, _, h => by
    simp at h
    subst h
    exact hb.1
  | none :: t, hb, i + 1, _, h => plainAll_get (l := t) hb (i := i) (by simpa using h)
  | some o :: t, hb, i + 1, _, h => plainAll_get (l := t) hb.2 (i := i) (by simpa using h)
theorem MO.plain.below {o : MO} (h : o.plain) (n : Nat) : o.below n := by
  cases o with
  | ins C fs =>
    intro f hf
    obtain ⟨d, e⟩ := h f hf
    rw [e]
    exact trivial
  | _ => exact trivial
section
variable {K : PySem.W.Frag} {F : Hp} {as bs : List Addr}
theorem noCel_rep : ∀ {vs : List V} {rs : List Sl}, noCel rs → RepSs K F as vs rs → RepSs K F bs vs rs
  | [], [], _, _ => trivial
  | _ :: _, .dat _ :: _, h, r => ⟨r.1, noCel_rep (rs := _) h r.2⟩
  | _ :: _, .val _ :: _, h, r => ⟨r.1, noCel_rep (rs := _) h r.2⟩
  | _ :: _, .cel _ :: _, h, _ => h.elim
  | [], _ :: _, _, r => r.elim
  | _ :: _, [], _, r => r.elim
theorem RepSs.get : ∀ {vs : List V} {rs : List Sl}, RepSs K F as vs rs → ∀ (i : Nat) (r : Sl), (rs.map some)[i]? = some (some r) → ∃ v : V, (vs.map some)[i]? = some (some v) ∧ RepS K F as v r
  | [], [], _, i, r, h => by simp at h
  | v :: vs, q :: rs, h, 0, r, e => by
    have e : q = r := by simpa using e
    subst e
    exact ⟨v, rfl, h.1⟩
  | v :: vs, q :: rs, h, i + 1, r, e => by
    obtain ⟨u, h1, h2⟩ := RepSs.get h.2 i r (by simpa using e)
    exact ⟨u, by simpa using h1, h2⟩
  | [], _ :: _, h, _, _, _ => h.elim
  | _ :: _, [], h, _, _, _ => h.elim
theorem MemO.any {H : Hp} {a : Addr} {o : MO} (h : MemO K F as H a o) (p : o.plain) : MemO K F bs H a o :=
  ((h.below (n := 0) (p.below 0)).mono (Le.refl _) (by rw [List.take_zero]; exact List.nil_prefix) rfl)
end
/-- f(..): nothing that may be written goes along; what it makes anew comes behind -/
def callP (n : Nat) (f : FS) (ps : List Sl) (s : S) (R : Sl → S → Prop) : Prop := ps.length = n ∧ noCel ps ∧ f ps [] fun r μ => plainAll μ ∧ R (shf s.μ.length r) ⟨s.Γ, s.μ ++ μ⟩
theorem callP_ok {K : PySem.W.Frag} {A : Amb} {as : List Addr} {s : S} {σ : L2.St} {H : Hp} {vs : List V} {ps : List Sl} {n : Nat} {f : FS} {R : Sl → S → Prop} {Q : VK} {E : XK} (ok : Ok K A as s σ H) (rs : RepSs K (vw A as s.μ H) as vs ps)
    (w : callP n f ps s R) (k : Kon K A as s σ H R Q) : spD K n f vs H Q E := by
  obtain ⟨hn, hc, hf⟩ := w
  let B : Amb := { M0 := hid A as s.μ, H0 := H, pin := vw A as s.μ H, as0 := [], He := H }
  have hs : ∀ a, hid A as s.μ a → H a ≠ none := fun a h => by
    rcases h with h | ⟨i, o, h1, h2⟩
    · rw [(ok.m0 a h).2]
      exact (ok.m0 a h).1
    · exact (ok.mem i a o h1 h2).some
  have ev : vw B [] [] H = vw A as s.μ H := by
    funext a
    by_cases h : hid A as s.μ a
    · rw [vw_yes h]
      exact vw_yes (Or.inl h)
    · rw [vw_no h]
      refine vw_no ?_
      rintro (z | ⟨i, o, z, _⟩)
      · exact h z
      · simp at z
  refine ⟨B, [], ps, [], _, hn, rfl, rfl, ⟨rfl, List.nodup_nil, fun a z => absurd z (by simp), fun a z => absurd z (by simp), fun a z => ⟨hs a z, rfl⟩, by rw [ev]; exact Le.refl _, fun i r h => ?_, fun i a o h => by simp at h, ?_, fun a z => absurd z (by simp), fun a z => z⟩, hf, fun v H' r μ' as' pre ok' le rep hR => ?_⟩
  · rw [ev]
    exact (noCel_rep hc rs).get i r h
  · show (ps.map some).length = (vs.map some).length
    rw [List.length_map, List.length_map]
    exact rs.len.symm
  obtain ⟨hpl, hR⟩ := hR
  rw [ev] at le
  have hlen : as.length = s.μ.length := ok.len
  have gl : ∀ {j : Nat} {a : Addr}, (as ++ as')[j]? = some a → (j < as.length ∧ as[j]? = some a) ∨ (as.length ≤ j ∧ as'[j - as.length]? = some a) := fun {j a} h => by
    by_cases hj : j < as.length
    · rw [List.getElem?_append_left hj] at h
      exact .inl ⟨hj, h⟩
    · rw [List.getElem?_append_right (by omega)] at h
      exact .inr ⟨by omega, h⟩
  have ml : ∀ {j : Nat} {o : MO}, (s.μ ++ μ')[j]? = some (some o) → (j < as.length ∧ s.μ[j]? = some (some o)) ∨ (as.length ≤ j ∧ μ'[j - as.length]? = some (some o)) := fun {j o} h => by
    by_cases hj : j < as.length
    · rw [List.getElem?_append_left (by omega)] at h
      exact .inl ⟨hj, h⟩
    · rw [List.getElem?_append_right (by omega)] at h
      exact .inr ⟨by omega, by rw [hlen]; exact h⟩
  have ev2 : vw A (as ++ as') (s.μ ++ μ') H' = vw B as' μ' H' := by
    have hh : ∀ a, hid A (as ++ as') (s.μ ++ μ') a ↔ hid B as' μ' a := fun a => by
      constructor
      · rintro (z | ⟨j, o, z1, z2⟩)
        · exact Or.inl (Or.inl z)
        · rcases gl z1 with ⟨q1, q2⟩ | ⟨q1, q2⟩
          · rcases ml z2 with ⟨q3, q4⟩ | ⟨q3, q4⟩
            · exact Or.inl (Or.inr ⟨j, o, q2, q4⟩)
            · omega
          · rcases ml z2 with ⟨q3, q4⟩ | ⟨q3, q4⟩
            · omega
            · exact Or.inr ⟨_, o, q2, q4⟩
      · rintro ((z | ⟨j, o, z1, z2⟩) | ⟨j, o, z1, z2⟩)
        · exact Or.inl z
        · have hj := (List.getElem?_eq_some_iff.mp z1).1
          exact Or.inr ⟨j, o, by rw [List.getElem?_append_left hj]; exact z1, by rw [List.getElem?_append_left (by omega)]; exact z2⟩
        · exact Or.inr ⟨as.length + j, o, by rw [List.getElem?_append_right (by omega), Nat.add_sub_cancel_left]; exact z1, by rw [List.getElem?_append_right (by omega), show as.length + j - s.μ.length = j by omega]; exact z2⟩
    funext a
    by_cases h : hid B as' μ' a
    · rw [vw_yes h, vw_yes ((hh a).mpr h)]
    · rw [vw_no h, vw_no fun z => h ((hh a).mp z)]
  have pre2 : as <+: as ++ as' := List.prefix_append _ _
  have le2 : Le (vw A as s.μ H) (vw A (as ++ as') (s.μ ++ μ') H') := by
    rw [ev2]
    exact le
  refine k v H' (shf s.μ.length r) ⟨s.Γ, s.μ ++ μ'⟩ (as ++ as') ⟨pre2, le2⟩ ⟨?_, ?_, fun a ha => ?_, fun a ha => ?_, fun a ha => ?_, ok.pin.trans le2, fun i q h => ?_, fun i a o h1 h2 => ?_, ok.ln, fun a ha => ?_, fun a ha => ok'.he a (ok.he a ha)⟩ ?_ hR
  · show (as ++ as').length = (s.μ ++ μ').length
    rw [List.length_append, List.length_append, hlen]
    have : as'.length = μ'.length := ok'.len
    rw [this]
  · exact List.nodup_append.mpr ⟨ok.nd, ok'.nd, fun x hx y hy e => by
      subst e
      rcases ok'.own x hy with z | z
      · exact absurd z (by simp [B])
      · exact ok.tr x hx z⟩
  · rcases List.mem_append.mp ha with ha | ha
    · exact ok.dj a ha
    · exact fun z => ok'.dj a ha (Or.inl z)
  · rcases List.mem_append.mp ha with ha | ha
    · exact ok'.he a (ok.tr a ha)
    · exact ok'.tr a ha
  · exact ⟨(ok.m0 a ha).1, (ok'.m0 a (Or.inl ha)).2.trans (ok.m0 a ha).2⟩
  · obtain ⟨u, h1, h2⟩ := ok.env i q h
    exact ⟨u, h1, h2.mono le2 pre2⟩
  · rcases gl h1 with ⟨q1, q2⟩ | ⟨q1, q2⟩
    · rcases ml h2 with ⟨q3, q4⟩ | ⟨q3, q4⟩
      · exact (ok.mem i a o q2 q4).mono le2 pre2 (ok'.m0 a (Or.inr ⟨i, o, q2, q4⟩)).2
      · omega
    · rcases ml h2 with ⟨q3, q4⟩ | ⟨q3, q4⟩
      · omega
      · have := (ok'.mem _ a o q2 q4).any (bs := as ++ as') (plainAll_get hpl q4)
        show MemO K (vw A (as ++ as') (s.μ ++ μ') H') (as ++ as') H' a o
        rw [ev2]
        exact this
  · rcases List.mem_append.mp ha with ha | ha
    · exact ok.own a ha
    · rcases ok'.own a ha with z | z
      · exact absurd z (by simp [B])
      · exact .inr (Classical.byContradiction fun e => ok.he a e z)
  · show RepS K (vw A (as ++ as') (s.μ ++ μ') H') (as ++ as') v (shf s.μ.length r)
    rw [ev2]
    cases r with
    | dat d => exact rep
    | val u => exact rep
    | cel i =>
      obtain ⟨a, h1, h2⟩ := rep
      refine ⟨a, ?_, h2⟩
      rw [List.getElem?_append_right (by omega), show s.μ.length + i - as.length = i by omega]
      exact h1
/-- f(..): the i-th that may be written goes along, as its 0-th -/
def toC (i : Nat) : List Sl → (List Sl → Prop) → Prop
  | [], k => k []
  | .cel j :: rs, k => j = i ∧ toC i rs fun qs => k (.cel 0 :: qs)
  | r :: rs, k => toC i rs fun qs => k (r :: qs)
theorem toC_of {K : PySem.W.Frag} {F : Hp} {as : List Addr} {b : Addr} {i : Nat} (hb : as[i]? = some b) : ∀ {vs : List V} {rs : List Sl} {k : List Sl → Prop}, toC i rs k → RepSs K F as vs rs → ∃ qs, k qs ∧ RepSs K F [b] vs qs ∧ qs.length = rs.length
  | [], [], _, h, _ => ⟨[], h, trivial, rfl⟩
  | _ :: _, .dat d :: rs, k, h, r => by
    obtain ⟨qs, h1, h2, h3⟩ := toC_of hb (rs := rs) h r.2
    exact ⟨_, h1, ⟨r.1, h2⟩, congrArg Nat.succ h3⟩
  | _ :: _, .val d :: rs, k, h, r => by
    obtain ⟨qs, h1, h2, h3⟩ := toC_of hb (rs := rs) h r.2
    exact ⟨_, h1, ⟨r.1, h2⟩, congrArg Nat.succ h3⟩
  | _ :: _, .cel j :: rs, k, h, r => by
    obtain ⟨e, h⟩ := h
    subst e
    obtain ⟨qs, h1, h2, h3⟩ := toC_of hb (rs := rs) h r.2
    obtain ⟨a, e1, e2⟩ := r.1
    rw [hb] at e1
    have e3 : b = a := Option.some.inj e1
    subst e3
    exact ⟨_, h1, ⟨⟨b, rfl, e2⟩, h2⟩, congrArg Nat.succ h3⟩
  | [], _ :: _, _, _, r => r.elim
  | _ :: _, [], _, _, r => r.elim
def callB (i n : Nat) (f : FS) (ps : List Sl) (s : S) (R : Sl → S → Prop) : Prop := ps.length = n ∧ optK (nth s.μ i) fun o => o.plain ∧ toC i ps fun qs => f qs [some o] fun r μ => match μ with
  | [some o'] => o'.plain ∧ (match r with
    | .cel _ => False
    | r => R r ⟨s.Γ, put s.μ i o'⟩)
  | _ => False
theorem callB_ok {K : PySem.W.Frag} {A : Amb} {as : List Addr} {s : S} {σ : L2.St} {H : Hp} {vs : List V} {ps : List Sl} {i n : Nat} {f : FS} {R : Sl → S → Prop} {Q : VK} {E : XK} (ok : Ok K A as s σ H) (rs : RepSs K (vw A as s.μ H) as vs ps)
    (w : callB i n f ps s R) (k : Kon K A as s σ H R Q) : spD K n f vs H Q E := by
  obtain ⟨hn, w⟩ := w
  obtain ⟨o, eo, pl, w⟩ := optK_of w
  have ei := nth_eq _ _ eo
  have hlen : as.length = s.μ.length := ok.len
  have hil : i < as.length := by rw [hlen]; exact (List.getElem?_eq_some_iff.mp ei).1
  obtain ⟨b, hb⟩ : ∃ b, as[i]? = some b := ⟨as[i], List.getElem?_eq_getElem hil⟩
  obtain ⟨qs, hf, rq, hq⟩ := toC_of hb w rs
  have hbm : b ∈ as := List.mem_of_getElem? hb
  have uniq : ∀ {j : Nat}, as[j]? = some b → j = i := fun {j} h => by
    have l1 := List.getElem?_eq_some_iff.mp h
    have l2 := List.getElem?_eq_some_iff.mp hb
    exact (List.getElem_inj ok.nd).mp (l1.2.trans l2.2.symm)
  let B : Amb := { M0 := fun a => hid A as s.μ a ∧ a ≠ b, H0 := H, pin := vw A as s.μ H, as0 := [b], He := H }
  have hs : ∀ a, hid A as s.μ a → H a ≠ none := fun a h => by
    rcases h with h | ⟨i, o, h1, h2⟩
    · rw [(ok.m0 a h).2]
      exact (ok.m0 a h).1
    · exact (ok.mem i a o h1 h2).some
  have hbh : hid A as s.μ b := Or.inr ⟨i, o, hb, ei⟩
  have ev : vw B [b] [some o] H = vw A as s.μ H := by
    funext a
    by_cases h : hid A as s.μ a
    · rw [vw_yes h]
      refine vw_yes ?_
      by_cases e : a = b
      · subst e
        exact Or.inr ⟨0, o, rfl, rfl⟩
      · exact Or.inl ⟨h, e⟩
    · rw [vw_no h]
      refine vw_no ?_
      rintro (z | ⟨j, o2, z1, z2⟩)
      · exact h z.1
      · cases j with
        | zero =>
          have e : b = a := by simpa using z1
          exact h (e ▸ hbh)
        | succ j => simp at z1
  refine ⟨B, [b], qs, [some o], _, hq.trans hn, rfl, rfl, ⟨rfl, by simp, fun a z => ?_, fun a z => ?_, fun a z => ⟨hs a z.1, rfl⟩, by rw [ev]; exact Le.refl _, fun j r h => ?_, fun j a o2 h1 h2 => ?_, ?_, fun a z => .inl z, fun a z => z⟩, hf, fun v H' r μ' as' pre ok' le rep hR => ?_⟩
  · have e : a = b := by simpa using z
    exact fun y => y.2 e
  · have e : a = b := by simpa using z
    rw [e]
    exact ok.tr b hbm
  · rw [ev]
    exact rq.get j r h
  · cases j with
    | zero =>
      have e1 : b = a := by simpa using h1
      have e2 : o = o2 := by simpa using h2
      subst e1
      subst e2
      rw [ev]
      exact (ok.mem i b o hb ei).any pl
    | succ j => simp at h1
  · show (qs.map some).length = (vs.map some).length
    rw [List.length_map, List.length_map]
    exact rq.len.symm
  -- behind the call
  match μ', hR, ok', le, rep with
  | [], hR, _, _, _ => exact hR.elim
  | [none], hR, _, _, _ => exact hR.elim
  | none :: _ :: _, hR, _, _, _ => exact hR.elim
  | some _ :: _ :: _, hR, _, _, _ => exact hR.elim
  | [some o'], hR, ok', le, rep =>
    obtain ⟨pl', hR⟩ := hR
    rw [ev] at le
    have has : as' = [b] := by
      have h1 : as'.length = 1 := ok'.len
      obtain ⟨t, rfl⟩ := pre
      cases t with
      | nil => rfl
      | cons x t => simp at h1
    subst has
    have hput : put s.μ i o' = s.μ.set i (some o') := put_eq _ _ _
    have hh : ∀ a, hid A as (put s.μ i o') a ↔ hid B [b] [some o'] a := fun a => by
      rw [hput]
      constructor
      · rintro (z | ⟨j, o2, z1, z2⟩)
        · exact Or.inl ⟨Or.inl z, fun e => ok.dj b hbm (e ▸ z)⟩
        · by_cases e : i = j
          · subst e
            have e1 : b = a := Option.some.inj (hb.symm.trans z1)
            subst e1
            exact Or.inr ⟨0, o', rfl, rfl⟩
          · rw [List.getElem?_set_ne e] at z2
            exact Or.inl ⟨Or.inr ⟨j, o2, z1, z2⟩, fun q => e (uniq (q ▸ z1)).symm⟩
      · rintro (⟨z | ⟨j, o2, z1, z2⟩, ne⟩ | ⟨j, o2, z1, z2⟩)
        · exact Or.inl z
        · refine Or.inr ⟨j, o2, z1, ?_⟩
          rw [List.getElem?_set_ne]
          · exact z2
          · intro e
            subst e
            exact ne (Option.some.inj (z1.symm.trans hb))
        · cases j with
          | zero =>
            have e1 : b = a := by simpa using z1
            subst e1
            exact Or.inr ⟨i, o', hb, List.getElem?_set_self (by omega)⟩
          | succ j => simp at z1
    have ev2 : vw A as (put s.μ i o') H' = vw B [b] [some o'] H' := by
      funext a
      by_cases h : hid B [b] [some o'] a
      · rw [vw_yes h, vw_yes ((hh a).mpr h)]
      · rw [vw_no h, vw_no fun z => h ((hh a).mp z)]
    have le2 : Le (vw A as s.μ H) (vw A as (put s.μ i o') H') := by
      rw [ev2]
      exact le
    have okn : Ok K A as ⟨s.Γ, put s.μ i o'⟩ σ H' := by
      refine ⟨?_, ok.nd, ok.dj, fun a ha => ok'.he a (ok.tr a ha), fun a ha => ?_, ok.pin.trans le2, fun j q h => ?_, fun j a o2 h1 h2 => ?_, ok.ln, ok.own, fun a ha => ok'.he a (ok.he a ha)⟩
      · show as.length = (put s.μ i o').length
        rw [hput, List.length_set]
        exact hlen
      · exact ⟨(ok.m0 a ha).1, (ok'.m0 a ⟨Or.inl ha, fun e => ok.dj b hbm (e ▸ ha)⟩).2.trans (ok.m0 a ha).2⟩
      · obtain ⟨u, h1, h2⟩ := ok.env j q h
        exact ⟨u, h1, h2.mono le2 (List.prefix_refl _)⟩
      · have h2 : (put s.μ i o')[j]? = some (some o2) := h2
        show MemO K (vw A as (put s.μ i o') H') as H' a o2
        rw [hput] at h2
        by_cases e : i = j
        · subst e
          have e1 : b = a := Option.some.inj (hb.symm.trans h1)
          rw [List.getElem?_set_self (by omega)] at h2
          have e2 : o' = o2 := Option.some.inj (Option.some.inj h2)
          subst e1
          subst e2
          rw [ev2]
          exact (ok'.mem 0 b o' rfl rfl).any pl'
        · rw [List.getElem?_set_ne e] at h2
          exact (ok.mem j a o2 h1 h2).mono le2 (List.prefix_refl _) (ok'.m0 a ⟨Or.inr ⟨j, o2, h1, h2⟩, fun q => e (uniq (q ▸ h1)).symm⟩).2
    cases r with
    | cel j => exact hR.elim
    | dat d =>
      refine k v H' (.dat d) _ as ⟨List.prefix_refl _, le2⟩ okn ?_ hR
      show Rep K (vw A as (put s.μ i o') H') v d
      rw [ev2]
      exact rep
    | val u => exact k v H' (.val u) _ as ⟨List.prefix_refl _, le2⟩ okn rep hR
/-- a def of the text that is known by what it does -/
structure FnK (P : Program) (w : World) (K : PySem.W.Frag) (mg : Str → Option Value) (base : Heap) (x : Str) (k n : Nat) (fs : FS) : Prop where
  ex : ∃ (f : Addr) (fd : FuncData) (ps : List Str), FnOk P w K mg base CX0 k f fd ps (spD K n fs) ∧ mg x = some (.ref f) ∧ PySem.W.keepIn K (.ref f) = true ∧ Binds K fd ps []
section
variable {X : Cx} {x : Str} {e : Expr} {es : List Expr} {p pos : Pos} {wa : WA} {k n : Nat} {fs : FS}
def wCallP (n : Nat) (f : FS) (wa : WA) : WE := fun s R => wa s fun ps s1 => callP n f ps s1 R
def wCallB (i n : Nat) (f : FS) (wa : WA) : WE := fun s R => wa s fun ps s1 => callB i n f ps s1 R
theorem e_call (G : FnK X.prog X.w X.K X.mg X.base x k n fs) (hr : Room k X.A) (hg : Gl X x) (ha : PA X (e :: es) (upA X.K wa)) (hdb : (x == ("__debug__" : Str)) = false := by decide) (he : starEach (e :: es) X.env = (false, eval e X.env) :: starEach es X.env := by rfl)
    (hpl : (backTo pos (starEach es X.env)).any (·.1) = false := by rfl) : PE X (.Call (.Name x p) (e :: es) [] pos) (up X.K (wCallP n fs wa)) := by
  obtain ⟨f, fd, ps, F, hm, hk, hb⟩ := G.ex
  exact pe_imp (pe_call F hr hg hm hk hb .nil L2.pass0 ha hdb he hpl) fun σ H Q ⟨A, as, s, R, ok, w, kk⟩ =>
    ⟨A, as, s, _, ok, w, fun vs H1 ps s1 as1 st1 ok1 r1 w1 => by
      show spD X.K n fs (vs ++ []) H1 Q E0
      rw [List.append_nil]
      exact callP_ok ok1 r1 w1 fun v3 H3 t s3 as3 st3 ok3 r3 w3 => kk v3 H3 t s3 as3 (st1.trans st3) ok3 r3 w3⟩
theorem e_callB (i : Nat) (G : FnK X.prog X.w X.K X.mg X.base x k n fs) (hr : Room k X.A) (hg : Gl X x) (ha : PA X (e :: es) (upA X.K wa)) (hdb : (x == ("__debug__" : Str)) = false := by decide) (he : starEach (e :: es) X.env = (false, eval e X.env) :: starEach es X.env := by rfl)
    (hpl : (backTo pos (starEach es X.env)).any (·.1) = false := by rfl) : PE X (.Call (.Name x p) (e :: es) [] pos) (up X.K (wCallB i n fs wa)) := by
  obtain ⟨f, fd, ps, F, hm, hk, hb⟩ := G.ex
  exact pe_imp (pe_call F hr hg hm hk hb .nil L2.pass0 ha hdb he hpl) fun σ H Q ⟨A, as, s, R, ok, w, kk⟩ =>
    ⟨A, as, s, _, ok, w, fun vs H1 ps s1 as1 st1 ok1 r1 w1 => by
      show spD X.K n fs (vs ++ []) H1 Q E0
      rw [List.append_nil]
      exact callB_ok ok1 r1 w1 fun v3 H3 t s3 as3 st3 ok3 r3 w3 => kk v3 H3 t s3 as3 (st1.trans st3) ok3 r3 w3⟩
end
end Gd
namespace Gd
open PySem PySem.Spec PyProof.Rows L2
/-! ### methods of lists -/
abbrev FM := Sl → List Sl → S → (Sl → S → Prop) → Prop
def MtS (K : PySem.W.Frag) (f : FM) (r : V → List V → Hp → VK → Prop) : Prop := ∀ (A : Amb) (as : List Addr) (s : S) (σ : L2.St) (H : Hp) (x : V) (xs : List V) (p : Sl) (ps : List Sl) (R : Sl → S → Prop) (Q : VK), Ok K A as s σ H →
  RepS K (vw A as s.μ H) as x p → RepSs K (vw A as s.μ H) as xs ps → f p ps s R → Kon K A as s σ H R Q → r x xs H Q
def isLst (s : S) (p : Sl) : Prop := match rd s p with
  | some (.lst _) => True
  | _ => False
def wM (f : FM) (wo : WE) (wa : WA) : WE := fun s R => wo s fun p s1 => isLst s1 p ∧ wa s1 fun ps s2 => f p ps s2 R
def wM0 (f : FM) (wo : WE) : WE := fun s R => wo s fun p s1 => isLst s1 p ∧ f p [] s1 R
theorem isLst_of {K : PySem.W.Frag} {A : Amb} {as : List Addr} {s : S} {σ : L2.St} {H : Hp} {x : V} {p : Sl} (ok : Ok K A as s σ H) (rx : RepS K (vw A as s.μ H) as x p) (w : isLst s p) : tyV K "list" x H := by
  unfold isLst at w
  cases e : rd s p with
  | none => simp only [e] at w
  | some d =>
    simp only [e] at w
    have r := ok.rdc rx e
    cases d with
    | lst ds =>
      obtain ⟨a, xs, rfl, h1, _⟩ := r
      exact .inl ⟨rfl, xs, .inl (.inl h1)⟩
    | _ => exact w.elim
section
variable {X : Cx} {o e : Expr} {es : List Expr} {wo : WE} {wa : WA} {name : Str} {apos cpos : Pos} {id : String} {r : V → List V → Hp → VK → Prop} {f : FM}
theorem e_m (slot : Slot "list" name id) (hty : typeOf (.builtin id) = pure (.type "method_descriptor")) (hm : MtR X id r) (hs : MtS X.K f r) (ho : PE X o (up X.K wo)) (ha : PA X (e :: es) (upA X.K wa))
    (hbase : attributeBase o name X.env (eval o X.env) = eval o X.env := by rfl)
    (hfew : ((backTo cpos (starEach (e :: es) X.env)).all (fun x => !x.1) && (backToKw cpos (keywordEach [] X.env)).all (fun x => x.1.isSome)
      && decide ((e :: es).length + ([] : List Keyword).length + (if ([] : List Keyword).isEmpty then 0 else 1) < 30)) = true := by rfl)
    (hline : (apos.endLine == cpos.line) = true := by rfl) (hst : starEach (e :: es) X.env = (false, eval e X.env) :: starEach es X.env := by rfl) (hplain : (backTo cpos (starEach es X.env)).any (·.1) = false := by rfl) :
    PE X (.Call (.Attribute o name apos) (e :: es) [] cpos) (up X.K (wM f wo wa)) := pe_imp (pe_bm PySem.F.plainAttrs_list slot hty hm ho ha hbase hfew hline hst hplain) fun σ H Q ⟨A, as, s, R, ok, w, k⟩ =>
  ⟨A, as, s, _, ok, w, fun v1 H1 p s1 as1 st1 ok1 r1 w1 => ⟨isLst_of ok1 r1 w1.1, A, as1, s1, _, ok1, w1.2, fun vs H2 ps s2 as2 st2 ok2 r2 w2 =>
    hs A as2 s2 σ H2 v1 vs p ps R Q ok2 (r1.mono st2.le st2.pre) r2 w2 fun v3 H3 t s3 as3 st3 ok3 r3 w3 => k v3 H3 t s3 as3 ((st1.trans st2).trans st3) ok3 r3 w3⟩⟩
theorem e_m0 (slot : Slot "list" name id) (hty : typeOf (.builtin id) = pure (.type "method_descriptor")) (hm : MtR X id r) (hs : MtS X.K f r) (ho : PE X o (up X.K wo))
    (hbase : attributeBase o name X.env (eval o X.env) = eval o X.env := by rfl) (hline : (apos.endLine == cpos.line) = true := by rfl) :
    PE X (.Call (.Attribute o name apos) [] [] cpos) (up X.K (wM0 f wo)) := pe_imp (pe_bm0 PySem.F.plainAttrs_list slot hty hm ho hbase hline) fun σ H Q ⟨A, as, s, R, ok, w, k⟩ =>
  ⟨A, as, s, _, ok, w, fun v1 H1 p s1 as1 st1 ok1 r1 w1 => ⟨isLst_of ok1 r1 w1.1, hs A as1 s1 σ H1 v1 [] p [] R Q ok1 r1 trivial w1.2 fun v3 H3 t s3 as3 st3 ok3 r3 w3 => k v3 H3 t s3 as3 (st1.trans st3) ok3 r3 w3⟩⟩
end
/-- the list that may be written -/
def onLst (p : Sl) (s : S) (k : Nat → List D → Prop) : Prop := match p with
  | .cel j => optK (nth s.μ j) fun o => match o with
    | .lst ds => k j ds
    | _ => False
  | _ => False
theorem onLst_of {K : PySem.W.Frag} {A : Amb} {as : List Addr} {s : S} {σ : L2.St} {H : Hp} {x : V} {p : Sl} {k : Nat → List D → Prop} (ok : Ok K A as s σ H) (rx : RepS K (vw A as s.μ H) as x p) (w : onLst p s k) :
    ∃ j a ds xs, x = .ref a ∧ as[j]? = some a ∧ s.μ[j]? = some (some (.lst ds)) ∧ H a = some (.lst xs) ∧ RepL K (vw A as s.μ H) xs ds ∧ k j ds := by
  cases p with
  | dat d => exact w.elim
  | val v => exact w.elim
  | cel j =>
    obtain ⟨o, e, w⟩ := optK_of w
    cases o with
    | lst ds =>
      obtain ⟨a, h1, rfl⟩ := rx
      have hj := nth_eq _ _ e
      obtain ⟨xs, h2, h3⟩ := ok.mem j a _ h1 hj
      exact ⟨j, a, ds, xs, rfl, h1, hj, h2, h3, w⟩
    | _ => exact w.elim
/-- .. written anew -/
theorem Kon.wr {K : PySem.W.Frag} {A : Amb} {as : List Addr} {s : S} {σ : L2.St} {H : Hp} {R : Sl → S → Prop} {Q : VK} {j : Nat} {a : Addr} {o o' : MO} {u : HO} {d : D} {v : V} (k : Kon K A as s σ H R Q) (ok : Ok K A as s σ H) (h1 : as[j]? = some a) (hj : s.μ[j]? = some (some o))
    (hm : MemO K (vw A as s.μ H) as (upd H a u) a o') (hv : Rep K (vw A as s.μ H) v d) (q : R (.dat d) { s with μ := put s.μ j o' }) : Q v (upd H a u) := by
  obtain ⟨st, ok'⟩ := ok.write (o' := o') h1 hj hm
  rw [← put_eq] at st ok'
  exact k v _ (.dat d) _ as st ok' (Rep.mono st.le d hv) q
def appF : FM := fun p ps s R => onLst p s fun j ds => match ps with
  | [.dat d] => sz (ds.length + 1) ∧ R (.dat .non) { s with μ := put s.μ j (.lst (ds ++ [d])) }
  | _ => False
theorem mts_app {K : PySem.W.Frag} : MtS K appF rAppend := fun A as s σ H x xs p ps R Q ok rx rs w k => by
  obtain ⟨j, a, ds, ys, rfl, h1, hj, h2, h3, w⟩ := onLst_of ok rx w
  match ps, xs, rs, w with
  | [.dat d], [v], rs, w => exact ⟨a, ys, v, rfl, rfl, h2, by rw [h3.len]; exact w.1.lt, k.wr ok h1 hj (o' := .lst (ds ++ [d])) ⟨_, upd_same, h3.append (.one rs.1)⟩ .non w.2⟩
  | [.cel _], _, _, w => exact w.elim
  | [.val _], _, _, w => exact w.elim
  | [], _, _, w => exact w.elim
  | q :: _ :: _, _, _, w => cases q <;> exact w.elim
def popF : FM := fun p ps s R => onLst p s fun j ds => optK (ds[ds.length - 1]?) fun d => match ps with
  | [] => R (.dat d) { s with μ := put s.μ j (.lst ds.dropLast) }
  | _ => False
theorem RepL.dropLast {K : PySem.W.Frag} {F : Hp} {xs : List V} {ds : List D} (h : RepL K F xs ds) : RepL K F xs.dropLast ds.dropLast := by
  rw [List.dropLast_eq_take, List.dropLast_eq_take, h.len]
  exact h.take _
theorem mts_pop {K : PySem.W.Frag} : MtS K popF rPop := fun A as s σ H x xs p ps R Q ok rx rs w k => by
  obtain ⟨j, a, ds, ys, rfl, h1, hj, h2, h3, w⟩ := onLst_of ok rx w
  obtain ⟨d, e, w⟩ := optK_of w
  obtain ⟨v, e2, r⟩ := h3.get e
  match ps, xs, rs, w with
  | [], [], rs, w => exact ⟨a, ys, v, rfl, rfl, h2, by rw [h3.len]; exact e2, k.wr ok h1 hj (o' := .lst ds.dropLast) ⟨_, upd_same, h3.dropLast⟩ r w⟩
  | _ :: _, _, _, w => exact w.elim
/-- extend, by a list that stands -/
def extF : FM := fun p ps s R => onLst p s fun j ds => match ps with
  | [q] => (match q with
    | .cel i => i ≠ j
    | _ => True) ∧ one s q fun d => match d with
    | .lst es => sz (ds.length + es.length) ∧ R (.dat .non) { s with μ := put s.μ j (.lst (ds ++ es)) }
    | _ => False
  | _ => False
theorem mts_ext {K : PySem.W.Frag} : MtS K extF rExtend := fun A as s σ H x xs p ps R Q ok rx rs w k => by
  obtain ⟨j, a, ds, ys, rfl, h1, hj, h2, h3, w⟩ := onLst_of ok rx w
  match ps, xs, rs, w with
  | [q], [v], rs, w =>
    obtain ⟨_, w⟩ := w
    obtain ⟨d, e, w⟩ := optK_of w
    have r := ok.rdc rs.1 e
    cases d with
    | lst es =>
      obtain ⟨b, zs, rfl, g1, g2⟩ := r
      exact ⟨a, b, ys, zs, rfl, rfl, h2, g1, by rw [h3.len, g2.len]; exact w.1.ok, k.wr ok h1 hj (o' := .lst (ds ++ es)) ⟨_, upd_same, h3.append g2⟩ .non w.2⟩
    | _ => exact w.elim
  | [], _, _, w => exact w.elim
  | _ :: _ :: _, _, _, w => exact w.elim
/-- the first place of a number among numbers -/
def idxF : FM := fun p ps s R => one s p fun d => match d with
  | .lst ds => match ps with
    | [.dat (.int n)] => ∃ (is : List Int) (j : Nat), ds = dI is ∧ is[j]? = some n ∧ (∀ m, m < j → is[m]? ≠ some n) ∧ R (.dat (.int (j : Int))) s
    | _ => False
  | _ => False
theorem mts_idx {K : PySem.W.Frag} : MtS K idxF (rIndex K) := fun A as s σ H x xs p ps R Q ok rx rs w k => by
  obtain ⟨d, e, w⟩ := optK_of w
  have r := ok.rdc rx e
  cases d with
  | lst ds =>
    obtain ⟨a, ys, rfl, h1, h2⟩ := r
    match ps, xs, rs, w with
    | [.dat (.int n)], [v], rs, w =>
      obtain ⟨is, j, rfl, e1, e2, w⟩ := w
      cases h2.nums
      cases rs.1
      refine ⟨a, is.map V.int, .int n, j, .int n, rfl, rfl, .inl (.inl h1), rfl, ?_, ?_, ?_, ?_, k.here ok (r := .dat (.int _)) .int w⟩
      · rw [List.all_eq_true]
        intro y hy
        obtain ⟨z, _, rfl⟩ := List.mem_map.mp hy
        rfl
      · rw [List.getElem?_map, e1]
        rfl
      · simp [eqV]
      · intro m z' hm hz
        rw [List.getElem?_map] at hz
        cases q : is[m]? with
        | none => rw [q] at hz; cases hz
        | some y =>
          rw [q] at hz
          cases hz
          have : y ≠ n := fun z => e2 m hm (z ▸ q)
          simp [eqV, this]
  | _ => exact w.elim

/-! ### what is walked -/
/-- lo, lo + 1, .. -/
def rg (lo : Int) : Nat → List D
  | 0 => []
  | n + 1 => .int lo :: rg (lo + 1) n
theorem rg_len (lo : Int) : ∀ n, (rg lo n).length = n
  | 0 => rfl
  | n + 1 => congrArg Nat.succ (rg_len (lo + 1) n)
theorem rg_get : ∀ (n : Nat) (lo : Int) (i : Nat), i < n → (rg lo n)[i]? = some (.int (lo + i))
  | n + 1, lo, 0, _ => by
    show some (D.int lo) = some (.int (lo + ((0 : Nat) : Int)))
    rw [show lo + ((0 : Nat) : Int) = lo by omega]
  | n + 1, lo, i + 1, h => by
    show (rg (lo + 1) n)[i]? = _
    rw [rg_get n (lo + 1) i (by omega), show lo + 1 + (i : Int) = lo + ((i + 1 : Nat) : Int) by omega]
section
variable {K : PySem.W.Frag} {F : Hp}
theorem wk_range {lo : Int} {n : Nat} : Wk K (Itr lo n) (rg lo n) F := by
  have w := walk_range (lo := lo) (n := n)
  refine ⟨fun i H hi _ => w.goes i H (by rw [rg_len] at hi; exact hi) trivial, fun H _ => ?_, fun i H x H' hi _ y => ?_⟩
  · rw [rg_len]
    exact w.stops H trivial
  · rw [rg_len] at hi
    obtain ⟨rfl, rfl⟩ := w.yields i H x H' hi trivial y
    exact ⟨_, rg_get n lo i hi, .inl ⟨rfl, .int⟩⟩
theorem wk_list {a : Addr} {xs : List V} {ds : List D} (h : SqL K F a xs) (r : RepL K F xs ds) : Wk K (Itl K a) ds F := by
  have w := walk_list (K := K) (a := a) (xs := xs)
  refine ⟨fun i H hi le => w.goes i H (by rw [r.len]; exact hi) (le.sqL h), fun H le => ?_, fun i H x H' hi le y => ?_⟩
  · rw [← r.len]
    exact w.stops H (le.sqL h)
  · obtain ⟨rfl, e⟩ := w.yields i H x H' (by rw [r.len]; exact hi) (le.sqL h) y
    obtain ⟨d, e2, q⟩ := r.getV e
    exact ⟨d, e2, .inl ⟨rfl, q⟩⟩
theorem wk_tup {a : Addr} {xs : List V} {ds : List D} (h : SqT K F a xs) (r : RepL K F xs ds) : Wk K (Itt K a) ds F := by
  have w := walk_tup (K := K) (a := a) (xs := xs)
  refine ⟨fun i H hi le => w.goes i H (by rw [r.len]; exact hi) (le.sqT h), fun H le => ?_, fun i H x H' hi le y => ?_⟩
  · rw [← r.len]
    exact w.stops H (le.sqT h)
  · obtain ⟨rfl, e⟩ := w.yields i H x H' (by rw [r.len]; exact hi) (le.sqT h) y
    obtain ⟨d, e2, q⟩ := r.getV e
    exact ⟨d, e2, .inl ⟨rfl, q⟩⟩
def signs (x : Str) : List D := x.cps.toList.map fun c => .str ⟨#[c]⟩
theorem wk_str {z : Str} : Wk K (Its z) (signs z) F := by
  have w := walk_str (z := z)
  have hl : (signs z).length = z.cps.size := by
    unfold signs
    rw [List.length_map, Array.length_toList]
  refine ⟨fun i H hi _ => w.goes i H (by rw [← hl]; exact hi) trivial, fun H _ => ?_, fun i H x H' hi _ y => ?_⟩
  · rw [hl]
    exact w.stops H trivial
  · obtain ⟨rfl, c, e, rfl⟩ := w.yields i H x H' (by rw [← hl]; exact hi) trivial y
    refine ⟨.str ⟨#[c]⟩, ?_, .inl ⟨rfl, .str⟩⟩
    unfold signs
    rw [List.getElem?_map, Array.getElem?_toList, e]
    rfl
/-- pairs -/
theorem wk_pair {J : It} {ds es : List D} {G : Hp → Prop} {xs ys : Nat → Option V} {n : Nat} (w : Walk J n G (YPair xs ys)) (hG : ∀ H, Le F H → G H) (hn : n = (ds.zip es).length) (hx : ∀ i v, i < n → xs i = some v → ∃ d, ds[i]? = some d ∧ Rep K F v d) (hy : ∀ i v, i < n → ys i = some v → ∃ d, es[i]? = some d ∧ Rep K F v d) :
    Wk K J ((ds.zip es).map fun q => .tup [q.1, q.2]) F := by
  refine ⟨fun i H hi le => w.goes i H (by rw [List.length_map] at hi; omega) (hG H le), fun H le => ?_, fun i H x H' hi le y => ?_⟩
  · rw [List.length_map, ← hn]
    exact w.stops H (hG H le)
  · rw [List.length_map, ← hn] at hi
    obtain ⟨T, v, u, rfl, hT, rfl, h1, h2⟩ := w.yields i H x H' hi (hG H le) y
    obtain ⟨d, e1, r1⟩ := hx i v hi h1
    obtain ⟨e, e2, r2⟩ := hy i u hi h2
    refine ⟨.tup [d, e], ?_, .inr ⟨T, _, hT, rfl, fun F' le' eT => .tup (.inl (.inl eT)) (.cons (Rep.mono le' d r1) (.cons (Rep.mono le' e r2) .nil))⟩⟩
    rw [List.getElem?_map, (List.getElem?_zip_eq_some (z := (d, e))).mpr ⟨e1, e2⟩]
    rfl
end
/-- numbered from 0 on -/
def enumD (ds : List D) : List D := ((rg 0 ds.length).zip ds).map fun q => .tup [q.1, q.2]
def zipD (ds es : List D) : List D := (ds.zip es).map fun q => .tup [q.1, q.2]
section
variable {X : Cx} {tg l : Expr} {wl : WE} {wa : WA} {pos p tpos : Pos}
/-- a list, a tuple, a text -/
def iSeq (K : PySem.W.Frag) (tl : TE) : TI := fun σ H R => tl σ H fun x H1 => (∃ a, x = .ref a ∧ (∃ xs, SqL K H1 a xs) ∧ R (Itl K a) H1) ∨ (∃ a, x = .ref a ∧ (∃ xs, SqT K H1 a xs) ∧ R (Itt K a) H1) ∨ ∃ y, x = .str y ∧ R (Its y) H1
theorem pi_seq {tl : TE} (hl : PE X l tl) : PI X tg l (iSeq X.K tl) := ⟨fun pins s σ H R I h => thn (hl.run pins s σ H _ I h) fun v s1 ⟨x, H1, I1, r1, q1⟩ => by
  have one : ∀ {o : Obj} {b : Addr}, b ∈ [s1.heap.objs.size] → FpOk X pins H1 b := fun hb => by
    rw [List.mem_singleton.mp hb]
    exact I1.fpOk (Nat.le_refl _) (I1.hok.fresh (Nat.le_refl _))
  rcases q1 with ⟨a, rfl, ⟨xs, hq⟩, q⟩ | ⟨a, rfl, ⟨xs, hq⟩, q⟩ | ⟨y, rfl, q⟩
  · cases r1
    obtain ⟨its, rv, pl, hz⟩ := I1.list hq
    exact wpAny_pyIter_list pl.isList ⟨_, [s1.heap.objs.size], _, _, H1, rfl, I1.kept (t' := s1.toks) fun b o e => Heap.get?_push_of_some _ e, turn_list a _, ⟨_, Heap.get?_push_size _ rfl, rfl, rfl⟩, fun b hb => one (o := default) hb, q⟩
  · cases r1
    obtain ⟨its, rv, pl, hz⟩ := I1.tuple hq
    exact wpAny_pyIter_tuple (show s1.heap.IsTuple a its.toArray from pl) ⟨_, [s1.heap.objs.size], _, _, H1, rfl, I1.kept (t' := s1.toks) fun b o e => Heap.get?_push_of_some _ e, turn_tuple a _, ⟨_, Heap.get?_push_size _ rfl, rfl, rfl⟩, fun b hb => one (o := default) hb, q⟩
  · obtain ⟨t, rfl⟩ := r1
    cases ha : y.cps.all (· < 128) with
    | false => exact wpAny_pyIter_wide ha (pi_one (tk := s1.toks) I1 _ (turn_str _ y t "str_iterator" (.inr rfl)) ⟨_, Heap.get?_push_size _ rfl, rfl, rfl⟩ q)
    | true => exact wpAny_pyIter_ascii ha (pi_one (tk := s1.toks) I1 _ (turn_str _ y t "str_ascii_iterator" (.inl rfl)) ⟨_, Heap.get?_push_size _ rfl, rfl, rfl⟩ q)⟩
/-- what stands to be walked: not a thing that may be written -/
def itemsOf (p : Sl) (k : List D → Prop) : Prop := match p with
  | .dat (.lst ds) => k ds
  | .dat (.scr ds) => k ds
  | .dat (.tup ds) => k ds
  | .dat (.str x) => k (signs x)
  | _ => False
def wiSeq (wl : WE) : WI := fun s R => wl s fun p s1 => itemsOf p fun ds => R ds s1
theorem i_seq (h : PE X l (up X.K wl)) : PI X tg l (upI X.K (wiSeq wl)) := pi_imp (pi_seq h) fun σ H R ⟨A, as, s, RI, ok, w, k⟩ =>
  ⟨A, as, s, _, ok, w, fun v1 H1 p s1 as1 st1 ok1 r1 w1 => by
    cases p with
    | cel j => exact w1.elim
    | val u => exact w1.elim
    | dat d =>
      cases d with
      | lst ds =>
        cases r1 with
        | lst h1 h2 => exact .inl ⟨_, rfl, ⟨_, .inl (.inl (vw_of h1).1)⟩, k _ ds H1 s1 as1 st1 ok1 (wk_list (.inl (.inl h1)) h2) w1⟩
      | scr ds =>
        cases r1 with
        | scr h1 h2 => exact .inl ⟨_, rfl, ⟨_, vw_le.sqL h1⟩, k _ ds H1 s1 as1 st1 ok1 (wk_list h1 h2) w1⟩
      | tup ds =>
        cases r1 with
        | tup h1 h2 => exact .inr (.inl ⟨_, rfl, ⟨_, vw_le.sqT h1⟩, k _ ds H1 s1 as1 st1 ok1 (wk_tup h1 h2) w1⟩)
      | str x =>
        cases r1
        exact .inr (.inr ⟨_, rfl, k _ _ H1 s1 as1 st1 ok1 wk_str w1⟩)
      | _ => exact w1.elim⟩
/-- range -/
def fits (i : Int) : Prop := -(2 ^ 62) ≤ i ∧ i < 2 ^ 62
def wiR1 (wa : WA) : WI := fun s R => wa s fun ps s1 => match ps with
  | [.dat (.int j)] => fits j ∧ R (rg 0 j.toNat) s1
  | _ => False
def wiR2 (wa : WA) : WI := fun s R => wa s fun ps s1 => match ps with
  | [.dat (.int i), .dat (.int j)] => (fits i ∧ fits j) ∧ R (rg i (j - i).toNat) s1
  | _ => False
theorem i_rng1 {a : Expr} (hg : Gl X "range") (hm : X.mg "range" = none) (ha : PA X [a] (upA X.K wa)) (hs : starEach [a] X.env = [(false, eval a X.env)] := by rfl) : PI X tg (.Call (.Name "range" p) [a] [] pos) (upI X.K (wiR1 wa)) :=
  pi_imp (pi_range1 hg hm ha hs) fun σ H R ⟨A, as, s, RI, ok, w, k⟩ => ⟨A, as, s, _, ok, w, fun vs H1 ps s1 as1 st1 ok1 r1 w1 => by
    match ps, vs, r1, w1 with
    | [.dat (.int j)], [v], r1, w1 =>
      cases r1.1
      exact ⟨j, rfl, w1.1.1, w1.1.2, k _ _ H1 s1 as1 st1 ok1 wk_range w1.2⟩⟩
theorem i_rng2 {a b : Expr} (hg : Gl X "range") (hm : X.mg "range" = none) (ha : PA X [a, b] (upA X.K wa)) (hs : starEach [a, b] X.env = [(false, eval a X.env), (false, eval b X.env)] := by rfl) (hs2 : starEach [b] X.env = [(false, eval b X.env)] := by rfl) :
    PI X tg (.Call (.Name "range" p) [a, b] [] pos) (upI X.K (wiR2 wa)) :=
  pi_imp (pi_range2 hg hm ha hs hs2) fun σ H R ⟨A, as, s, RI, ok, w, k⟩ => ⟨A, as, s, _, ok, w, fun vs H1 ps s1 as1 st1 ok1 r1 w1 => by
    match ps, vs, r1, w1 with
    | [.dat (.int i), .dat (.int j)], [v, u], r1, w1 =>
      cases r1.1
      cases r1.2.1
      exact ⟨i, j, rfl, ⟨w1.1.1.1, w1.1.1.2, w1.1.2.1, w1.1.2.2⟩, k _ _ H1 s1 as1 st1 ok1 wk_range w1.2⟩⟩
/-- enumerate of a list -/
theorem wk_enum {K : PySem.W.Frag} {F : Hp} {a : Addr} {xs : List V} {ds : List D} (h : SqL K F a xs) (r : RepL K F xs ds) : Wk K (Ite K a) (enumD ds) F := by
  refine wk_pair (walk_enum (K := K) (a := a) (xs := xs)) (fun H le => le.sqL h) (by rw [List.length_zip, rg_len, Nat.min_self, r.len]) (fun i v hi e => ?_) fun i v hi e => ?_
  · cases e
    refine ⟨.int (i : Int), ?_, .int⟩
    rw [rg_get _ _ _ (by rw [← r.len]; exact hi), show (0 : Int) + (i : Int) = i by omega]
  · exact r.getV e
def wiEn (wa : WA) : WI := fun s R => wa s fun ps s1 => match ps with
  | [p] => itemsOf p fun ds => R (enumD ds) s1
  | _ => False
end
end Gd
/-! ### enumerate of a tuple, in the model -/
namespace PySem
open Sem (wp)
open AutoSeq1 (wpAny_loadPart')
theorem gd_enum_new (l : Addr) (items : Array Value) (n : Nat) (dct : Option Addr) (sl : Array (Option Value)) : Meets (Builtin.«enumerate.__new__» ⟨[.type "enumerate", .ref l], []⟩)
    (fun _ R s => s.heap.get? l = some { cls := .type "tuple", dict := dct, data := .seq items n, slots := sl } ∧ R (.ok (.ret (.ref (s.heap.push { cls := .type "tuple_iterator", data := .fields #[.ref l, .int 0 0] }).objs.size)))
      { s with heap := (s.heap.push { cls := .type "tuple_iterator", data := .fields #[.ref l, .int 0 0] }).push { cls := .type "enumerate", data := .fields #[.none, .bool false, .ref s.heap.objs.size, rawInt 0, .none, .none] } }) := .of_wp fun prog w A R s h => by
  obtain ⟨hp, g, d, tk, os⟩ := s
  obtain ⟨hl, h⟩ := h
  have hsub := sub_enumerate
  have hT : Heap.IsTuple (Shared.heap ⟨hp, g, d, tk, os⟩) l items := ⟨_, hl, rfl, n, rfl⟩
  wp_walk using wpAny_loadPart' hl
  refine wpAny_stack_any fun st => wpAny_pure ?_
  split
  · rename_i c _ _ _ _ _
    cases (c == Value.type "enumerate") <;> (wp_walk using wpAny_loadPart' hl, wpAny_pyIter_tuple hT; exact ⟨_, rfl, h⟩)
  · wp_walk using wpAny_loadPart' hl, wpAny_pyIter_tuple hT
    exact ⟨_, rfl, h⟩
theorem gd_enum_tup {prog : Program} {w : World} {A : Around} {E : Value → Shared → Prop} {s : Shared} {l : Addr} {items : Array Value} {Q : Value → Shared → Prop} (hL : s.heap.IsTuple l items)
    (h : ∀ h', IsEnum h' (s.heap.objs.size + 1) s.heap.objs.size 0 .none → h'.IsTupleIter s.heap.objs.size l 0 → h'.objs.size = s.heap.objs.size + 2 → (∀ b o, s.heap.get? b = some o → h'.get? b = some o) → Q (.ref (s.heap.objs.size + 1)) { s with heap := h' }) :
    wpAny (model prog w) A (call (.type "enumerate") [.ref l]) Q E s := by
  obtain ⟨⟨c, dct, dt, sl⟩, hl, hc, n, hd⟩ := hL
  obtain rfl : c = .type "tuple" := hc
  obtain rfl : dt = .seq items n := hd
  refine callType_new F.called_enumerate (by decide) (F.typeCall_enumerate_1 _) (F.newCall_enumerate_1 _) (fun obj => F.args_object_init_2 obj _) F.entry_enumerate_new (gd_enum_new l items n dct sl) ⟨hl, ?_⟩
  have hz : (s.heap.push { cls := .type "tuple_iterator", data := .fields #[.ref l, .int 0 0] }).objs.size = s.heap.objs.size + 1 := Heap.size_push ..
  show _ ∧ _
  rw [hz]
  have he : IsEnum ((s.heap.push { cls := .type "tuple_iterator", data := .fields #[.ref l, .int 0 0] }).push { cls := .type "enumerate", data := .fields #[.none, .bool false, .ref s.heap.objs.size, rawInt 0, .none, .none] }) (s.heap.objs.size + 1) s.heap.objs.size 0 .none := by
    have q := Heap.get?_push_size (s.heap.push { cls := .type "tuple_iterator", data := .fields #[.ref l, .int 0 0] }) (o := { cls := .type "enumerate", data := .fields #[.none, .bool false, .ref s.heap.objs.size, rawInt 0, .none, .none] }) rfl
    rw [hz] at q
    exact q
  refine ⟨⟨_, he, rfl⟩, h _ he ⟨_, Heap.get?_push_of_some _ (Heap.get?_push_size _ rfl), rfl, rfl⟩ ?_ fun b o x => Heap.get?_push_of_some _ (Heap.get?_push_of_some _ x)⟩
  rw [Heap.size_push, hz]
end PySem
namespace Gd
open PySem PySem.Spec PyProof.Rows L2
/-- the tuple at a, each item in a new pair with its number -/
def IteT (K : PySem.W.Frag) (a : Addr) : It where
  go i H := ∃ (xs : List V) (x : V), SqT K H a xs ∧ xs[i]? = some x
  yld i H v H' := ∃ T x, v = .ref T ∧ H T = none ∧ H' = upd H T (.tup [.int (i : Nat), x]) ∧ ∀ xs, SqT K H a xs → xs[i]? = some x
  stop i H := ∃ xs : List V, SqT K H a xs ∧ xs.length ≤ i
theorem gd_turn_enumT {P : Program} {w : World} {K : PySem.W.Frag} {elts : List Expr} {kk : Nat} {tpos : Pos} (a e it : Addr) :
    Turn P w K (.Tuple elts kk tpos) (IteT K a) [e, it] e (fun i h => (∃ old, IsEnum h e it ((i : Nat) : Int) old) ∧ h.IsTupleIter it a i ∧ e ≠ it ∧ e ≠ a ∧ a ≠ it) where
  mem := List.mem_cons_self ..
  obj i h st b hb := by
    obtain ⟨⟨old, he⟩, ⟨o, ho, hc, hd⟩, _⟩ := st
    rcases List.mem_cons.mp hb with rfl | hb
    · exact ⟨_, he, fun v q => nomatch q⟩
    · rw [List.mem_singleton.mp hb]
      exact ⟨o, ho, fun v q => by rw [hd] at q; cases q⟩
  keep i h h' st k := by
    obtain ⟨⟨old, he⟩, hi, r⟩ := st
    exact ⟨⟨old, k e (by simp) _ he⟩, hi.at fun o q => k it (by simp) o q, r⟩
  item := by
    intro X hP hw hK hc i pins s σ H E I hf st hg
    subst hP hw hK
    obtain ⟨⟨old, he⟩, hit, hne, hea, hai⟩ := st
    obtain ⟨xs, x, hq, hx⟩ := hg
    obtain ⟨its, rv, p, hz⟩ := I.tuple hq
    obtain ⟨u, hu, ru⟩ := rv.get hx
    have hel : e < s.heap.objs.size := Heap.lt_size he
    have hil : it < s.heap.objs.size := by obtain ⟨_, q, _⟩ := hit; exact Heap.lt_size q
    have hlt : i < its.toArray.size := by rw [List.size_toArray]; exact (List.getElem?_eq_some_iff.mp hu).1
    refine wpAny_pyNext_enum_itemD (Draws.tuple (A := X.A.in1) (I.ok.hd hc) it a hai its.toArray) he ⟨hit, p⟩ hlt hne (by simp [hne, hea]) fun x' h' tk hP ho hst hT hsz hk => ?_
    have eu : x' = u := by
      have hP : its.toArray[i]? = some x' := hP
      rw [List.getElem?_toArray, hu] at hP
      exact (Option.some.inj hP).symm
    subst eu
    refine ⟨_, rfl, wpAny_letOwnedTupleGo_enum (s := { s with heap := h', toks := tk + 1 }) ho fun h'' he' sb => ?_⟩
    have hT2 := (sb.2 _ (Nat.ne_of_gt hel)).trans hT
    have new : ObjOk X.prog X.w (upd H s.heap.objs.size (.tup [.int (i : Nat), x])) h'' s.heap.objs.size (.tup [.int (i : Nat), x]) := ⟨by show 2 ≤ sizeLine; decide, [.int i tk, x'], .cons ⟨_, rfl⟩ (.cons ru .nil), ⟨_, hT2, rfl, _, rfl⟩⟩
    have I1 : Inv X pins σ (upd H s.heap.objs.size (.tup [.int (i : Nat), x])) { s with heap := h'', toks := tk + 1 } :=
      I.turnedNew (t' := tk + 1) (ch := [e, it]) (fun b ob hb q => (sb.2 b fun z => hb (by simp [z])).trans (hk b ob (fun z => hb (by simp [z])) (fun z => hb (by simp [z])) q)) hf (Nat.le_refl _) new
    refine ⟨.ref s.heap.objs.size, _, I1, rfl, ⟨_, x, rfl, I.hok.fresh (Nat.le_refl _), rfl, fun ys hy => ?_⟩, ⟨⟨x', ?_⟩, hst.1.at fun o q => (sb.2 it (Ne.symm hne)).trans q, hne, hea, hai⟩, fun b hb => ?_⟩
    · obtain ⟨its2, rv2, p2, _⟩ := I.tuple hy
      obtain ⟨o1, q1, _, n1, q2⟩ := p
      obtain ⟨o2, q3, _, n2, q4⟩ := p2
      rw [q1] at q3
      cases q3
      rw [q2] at q4
      have e5 : its = its2 := by
        injection q4 with q5
        exact congrArg Array.toList q5
      subst e5
      rw [rv2.inj rv]
      exact hx
    · rw [show ((i + 1 : Nat) : Int) = (i : Int) + 1 by omega]
      exact he'
    · have hb' : b < s.heap.objs.size := by
        rcases List.mem_cons.mp hb with rfl | hb
        · exact hel
        · rw [List.mem_singleton.mp hb]
          exact hil
      rw [upd_ne (Nat.ne_of_lt hb')]
      exact (hf b hb).1
  done := by
    intro X hP hw hK hc i pins s σ H E I hf st hg
    subst hP hw hK
    obtain ⟨⟨old, he⟩, hit, hne, hea, hai⟩ := st
    obtain ⟨xs, hq, hx⟩ := hg
    obtain ⟨its, rv, p, hz⟩ := I.tuple hq
    obtain ⟨f0, f1, f2, f3, f4, f5⟩ := hf it (by simp)
    have hl := rv.length
    -- the end, by the tuple's own iterator
    have hT : s.TypeIs (.ref e) "enumerate" := ⟨_, he, rfl⟩
    unfold pyNext
    refine wpAny_bind (wpAny_attempt (wpAny_callSpecial?_slot (name := Str.ofString "__next__") hT F.slot_enumerate_next (wpAny_call_entry F.slot_enumerate_next hT F.entry_enumerate_next ?_ (F.args_enumerate_next_1 _))))
    show wpAny _ _ (field (.ref e) 2 >>= _) _ _ _
    refine wpAny_bind (wpAny_field he rfl (x := .ref it) rfl ?_)
    refine wpAny_bind (wpAny_nextOf_tuple_end (I.ok.hd hc) hit p (by simp; omega) fun h' x he' hx' => ?_)
    obtain ⟨o, ho, hc'⟩ := hx'
    refine wpAny_bind (wpAny_isInstance (T := "StopIteration") (b := true) ⟨o, ho, hc'⟩ isSubtype_stop ?_)
    exact wpAny_pure ⟨rfl, I.turned (t' := s.toks) (fun b o hb q => he' b o hb q) f0 f1 f3 f4 f5⟩
  self A i s Q E st h := by
    obtain ⟨⟨_, he⟩, _⟩ := st
    exact wpAny_pyIter_enum he h
def iEnumA (K : PySem.W.Frag) (ta : TA) : TI := fun σ H R => ta σ H fun vs H1 => ∃ a xs, vs = [.ref a] ∧ ((SqL K H1 a xs ∧ R (Ite K a) H1) ∨ (SqT K H1 a xs ∧ R (IteT K a) H1))
theorem pi_enumA {X : Cx} {e : Expr} {ta : TA} {p pos tpos : Pos} {elts : List Expr} {kk : Nat} (hg : Gl X "enumerate") (hm : X.mg "enumerate" = none) (ha : PA X [e] ta) (hs : starEach [e] X.env = [(false, eval e X.env)] := by rfl) :
    PI X (.Tuple elts kk tpos) (.Call (.Name "enumerate" p) [e] [] pos) (iEnumA X.K ta) := ⟨fun pins s σ H R I h => by
  refine Call_ (ld_blt I hg hm boot_enumerate (PyProof.Rows.callWith_type1 (thn (ha.run pos pins s σ H _ I h) fun us s1 ⟨vs, H1, I1, r1, q1⟩ => ?_) hs rfl))
  obtain ⟨a, xs, ex, q1⟩ := q1
  subst ex
  have fp : ∀ b ∈ [s1.heap.objs.size + 1, s1.heap.objs.size], FpOk X pins H1 b := fun b hb => by
    have hle : s1.heap.objs.size ≤ b := by
      rcases List.mem_cons.mp hb with rfl | hb
      · exact Nat.le_add_right _ _
      · rw [List.mem_singleton.mp hb]
        exact Nat.le_refl _
    exact I1.fpOk hle (I1.hok.fresh hle)
  cases r1 with
  | cons r rr =>
    cases rr
    cases r
    rcases q1 with ⟨hq, q⟩ | ⟨hq, q⟩
    · obtain ⟨its, rv, pl, hz⟩ := I1.list hq
      exact call_enumerate_list pl.isList fun h' he hit hsz hk => wpAny_pyIter_enum he ⟨_, _, _, _, H1, rfl, I1.kept (t' := s1.toks) hk, turn_enum a (s1.heap.objs.size + 1) s1.heap.objs.size, ⟨⟨.none, he⟩, hit, Nat.succ_ne_self _⟩, fp, q⟩
    · obtain ⟨its, rv, pl, hz⟩ := I1.tuple hq
      have hal : a < s1.heap.objs.size := pl.lt
      exact gd_enum_tup pl fun h' he hit hsz hk => wpAny_pyIter_enum he ⟨_, _, _, _, H1, rfl, I1.kept (t' := s1.toks) hk, gd_turn_enumT a (s1.heap.objs.size + 1) s1.heap.objs.size, ⟨⟨.none, he⟩, hit, Nat.succ_ne_self _, Nat.ne_of_gt (Nat.lt_succ_of_lt hal), Nat.ne_of_lt hal⟩, fp, q⟩⟩
theorem walk_enumT {K : PySem.W.Frag} {a : Addr} {xs : List V} : Walk (IteT K a) xs.length (fun H => SqT K H a xs) (YPair (fun i => some (.int (i : Nat))) (fun i => xs[i]?)) := by
  refine ⟨fun i _ hi q => ⟨xs, xs[i], q, by simp [hi]⟩, fun _ q => ⟨xs, q, Nat.le_refl _⟩, fun i H v H' _ q y => ?_⟩
  obtain ⟨T, x, h1, h2, h3, h4⟩ := y
  exact ⟨T, .int (i : Nat), x, h1, h2, h3, rfl, h4 xs q⟩
theorem wk_enumT {K : PySem.W.Frag} {F : Hp} {a : Addr} {xs : List V} {ds : List D} (h : SqT K F a xs) (r : RepL K F xs ds) : Wk K (IteT K a) (enumD ds) F := by
  refine wk_pair (walk_enumT (K := K) (a := a) (xs := xs)) (fun H le => le.sqT h) (by rw [List.length_zip, rg_len, Nat.min_self, r.len]) (fun i v hi e => ?_) fun i v hi e => ?_
  · cases e
    refine ⟨.int (i : Int), ?_, .int⟩
    rw [rg_get _ _ _ (by rw [← r.len]; exact hi), show (0 : Int) + (i : Int) = i by omega]
  · exact r.getV e
section
variable {X : Cx} {wa : WA} {pos p tpos : Pos} {elts : List Expr} {kk : Nat}
def seqD (p : Sl) (k : List D → Prop) : Prop := match p with
  | .dat (.lst ds) => k ds
  | .dat (.scr ds) => k ds
  | .dat (.tup ds) => k ds
  | _ => False
def wiEnum (wa : WA) : WI := fun s R => wa s fun ps s1 => match ps with
  | [p] => seqD p fun ds => R (enumD ds) s1
  | _ => False
theorem seqD_of {p : Sl} {k : List D → Prop} (h : seqD p k) : ∃ ds, (p = .dat (.lst ds) ∨ p = .dat (.scr ds) ∨ p = .dat (.tup ds)) ∧ k ds := by
  cases p with
  | dat d =>
    cases d with
    | lst ds => exact ⟨ds, .inl rfl, h⟩
    | scr ds => exact ⟨ds, .inr (.inl rfl), h⟩
    | tup ds => exact ⟨ds, .inr (.inr rfl), h⟩
    | _ => exact h.elim
  | _ => exact h.elim
theorem i_enum {e : Expr} (hg : Gl X "enumerate") (hm : X.mg "enumerate" = none) (ha : PA X [e] (upA X.K wa)) (hs : starEach [e] X.env = [(false, eval e X.env)] := by rfl) : PI X (.Tuple elts kk tpos) (.Call (.Name "enumerate" p) [e] [] pos) (upI X.K (wiEnum wa)) :=
  pi_imp (pi_enumA hg hm ha hs) fun σ H R ⟨A, as, s, RI, ok, w, k⟩ => ⟨A, as, s, _, ok, w, fun vs H1 ps s1 as1 st1 ok1 r1 w1 => by
    match ps, vs, r1, w1 with
    | [p], [v], r1, w1 =>
      obtain ⟨ds, e, w2⟩ := seqD_of w1
      rcases e with rfl | rfl | rfl
      · cases r1.1 with
        | lst h1 h2 => exact ⟨_, _, rfl, .inl ⟨.inl (.inl (vw_of h1).1), k _ _ H1 s1 as1 st1 ok1 (wk_enum (.inl (.inl h1)) h2) w2⟩⟩
      · cases r1.1 with
        | scr h1 h2 => exact ⟨_, _, rfl, .inl ⟨vw_le.sqL h1, k _ _ H1 s1 as1 st1 ok1 (wk_enum h1 h2) w2⟩⟩
      · cases r1.1 with
        | tup h1 h2 => exact ⟨_, _, rfl, .inr ⟨vw_le.sqT h1, k _ _ H1 s1 as1 st1 ok1 (wk_enumT h1 h2) w2⟩⟩
    | [], _, _, w1 => exact w1.elim
    | _ :: _ :: _, _, _, w1 => exact w1.elim⟩
/-- zip of two lists, of two tuples -/
theorem wk_zip {K : PySem.W.Frag} {F : Hp} {a b : Addr} {xs ys : List V} {ds es : List D} (h : SqL K F a xs) (r : RepL K F xs ds) (h' : SqL K F b ys) (r' : RepL K F ys es) : Wk K (Itz K a b) (zipD ds es) F :=
  wk_pair (walk_zip (K := K) (a := a) (b := b) rfl) (fun H le => ⟨le.sqL h, le.sqL h'⟩) (by rw [List.length_zip, r.len, r'.len]) (fun i v hi e => r.getV e) fun i v hi e => r'.getV e
theorem wk_zipT {K : PySem.W.Frag} {F : Hp} {a b : Addr} {xs ys : List V} {ds es : List D} (h : SqT K F a xs) (r : RepL K F xs ds) (h' : SqT K F b ys) (r' : RepL K F ys es) : Wk K (RZ.ItzT K a b) (zipD ds es) F := by
  refine wk_pair (n := min xs.length ys.length) (G := fun H => SqT K H a xs ∧ SqT K H b ys) (xs := fun i => xs[i]?) (ys := fun i => ys[i]?) ⟨fun i H hi q => ?_, fun H q => ⟨xs, ys, q.1, q.2, by omega⟩, fun i H v H' hi q y => ?_⟩ (fun H le => ⟨le.sqT h, le.sqT h'⟩) (by rw [List.length_zip, r.len, r'.len]) (fun i v hi e => r.getV e) fun i v hi e => r'.getV e
  · exact ⟨xs, ys, xs[i]'(by omega), ys[i]'(by omega), q.1, q.2, by simp [show i < xs.length by omega], by simp [show i < ys.length by omega]⟩
  · obtain ⟨T, x, z, h1, h2, h3, h4, h5⟩ := y
    exact ⟨T, x, z, h1, h2, h3, h4 xs q.1, h5 ys q.2⟩
def zipG (d e : D) (k : List D → Prop) : Prop := match d, e with
  | .lst ds, .lst es => k (zipD ds es)
  | .tup ds, .tup es => k (zipD ds es)
  | _, _ => False
def wiZip (wa : WA) : WI := fun s R => wa s fun ps s1 => match ps with
  | [.dat d, .dat e] => zipG d e fun ds => R ds s1
  | _ => False
theorem i_zip {e e2 : Expr} (hg : Gl X "zip") (hm : X.mg "zip" = none) (ha : PA X [e, e2] (upA X.K wa)) (hs : starEach [e, e2] X.env = (false, eval e X.env) :: starEach [e2] X.env := by rfl) (hpl : (backTo pos (starEach [e2] X.env)).any (·.1) = false := by rfl) :
    PI X (.Tuple elts kk tpos) (.Call (.Name "zip" p) [e, e2] [] pos) (upI X.K (wiZip wa)) :=
  pi_imp (RZ.pi_zipA hg hm ha hs hpl) fun σ H R ⟨A, as, s, RI, ok, w, k⟩ => ⟨A, as, s, _, ok, w, fun vs H1 ps s1 as1 st1 ok1 r1 w1 => by
    match ps, vs, r1, w1 with
    | [.dat d, .dat e], [v, u], r1, w1 =>
      cases d <;> cases e <;> first
        | exact w1.elim
        | skip
      · cases r1.1 with
        | lst h1 h2 =>
          cases r1.2.1 with
          | lst h3 h4 => exact ⟨_, _, _, _, rfl, .inl ⟨.inl (.inl (vw_of h1).1), .inl (.inl (vw_of h3).1), k _ _ H1 s1 as1 st1 ok1 (wk_zip (.inl (.inl h1)) h2 (.inl (.inl h3)) h4) w1⟩⟩
      · cases r1.1 with
        | tup h1 h2 =>
          cases r1.2.1 with
          | tup h3 h4 => exact ⟨_, _, _, _, rfl, .inr ⟨vw_le.sqT h1, vw_le.sqT h3, k _ _ H1 s1 as1 st1 ok1 (wk_zipT h1 h2 h3 h4) w1⟩⟩⟩
end

/-! ### isinstance against built-in types -/
def tyD : D → String
  | .non => "NoneType"
  | .bl _ => "bool"
  | .int _ => "int"
  | .str _ => "str"
  | .lst _ => "list"
  | .scr _ => "list"
  | .tup _ => "tuple"
  | .dic _ _ => "dict"
  | _ => ""
def isTyS (a T : String) : Bool := a == T || (a == "bool" && T == "int")
def isTy (d : D) (T : String) : Bool := isTyS (tyD d) T
def tyable : D → Prop
  | .dct _ _ => False
  | .ins _ _ _ => False
  | _ => True
theorem Rdc.ty {K : PySem.W.Frag} {F H : Hp} {v : V} {d : D} (r : Rdc K F H v d) (t : tyable d) : TyX K H v (.type (tyD d)) := by
  cases d with
  | non => cases r; exact .base .non
  | bl b => cases r; exact .base (.bl _)
  | int b => cases r; exact .base (.int _)
  | str b => cases r; exact .base (.str _)
  | lst ds => obtain ⟨a, xs, rfl, h1, _⟩ := r; exact .base (.lst h1)
  | scr ds =>
    obtain ⟨a, xs, rfl, h1, _⟩ := r
    rcases h1 with (h | ⟨o, h⟩) | ⟨o, its, n, h, hc, _⟩
    · exact .base (.lst h)
    · exact .base (.frz h)
    · exact .kList h hc
  | tup ds =>
    obtain ⟨_, a, xs, rfl, h1, _⟩ := r
    rcases h1 with (h | ⟨o, h⟩) | ⟨o, its, n, h, hc, _⟩
    · exact .base (.tup h)
    · exact .fTuple h
    · exact .kTuple h hc
  | dic ks vs =>
    obtain ⟨a, xs, rfl, h1, _⟩ := r
    rcases h1 with h | ⟨o, h⟩
    · exact .base (.dK h)
    · exact .fDict h
  | dct ks vs => exact t.elim
  | ins C ns vs => exact t.elim
def kT (T : String) : Prop := T = "int" ∨ T = "bool" ∨ T = "str" ∨ T = "list" ∨ T = "tuple"
theorem kit_d {K : PySem.W.Frag} {d : D} {T : String} (t : tyable d) (hT : kT T) : PySem.W.kitOne K (.type (tyD d)) (.type T) = some (isTy d T) := by
  rcases hT with rfl | rfl | rfl | rfl | rfl <;> cases d <;> first
    | exact t.elim
    | (refine kit_ty ?_; simp only [tyD, isTy]; decide +kernel)
/-- isinstance(x, T) -/
def wIsi (T : String) (we : WE) : WE := fun s R => we s fun p s1 => one s1 p fun d => tyable d ∧ R (.dat (.bl (isTy d T))) s1
def isAny (d : D) : List String → Bool
  | [] => false
  | T :: Ts => isTy d T || isAny d Ts
def wIsiT (Ts : List String) (we : WE) : WE := fun s R => we s fun p s1 => one s1 p fun d => tyable d ∧ R (.dat (.bl (isAny d Ts))) s1
theorem kit_ds {K : PySem.W.Frag} {d : D} (t : tyable d) : ∀ {Ts : List String}, (∀ T ∈ Ts, kT T) → PySem.W.kitAny K (.type (tyD d)) (Ts.map Value.type) = some (isAny d Ts)
  | [], _ => rfl
  | T :: Ts, h => by
    have h1 := kit_d (K := K) t (h T (List.mem_cons_self ..))
    have h2 := kit_ds (K := K) t (Ts := Ts) fun z hz => h z (List.mem_cons_of_mem _ hz)
    show PySem.W.kitAny K _ (Value.type T :: Ts.map Value.type) = some (isTy d T || isAny d Ts)
    exact kitAny_cons h1 (fun e => by rw [e, Bool.false_or]; exact h2) fun e => by rw [e, Bool.true_or]
section
variable {X : Cx} {a : Expr} {wa : WE} {p pos pt : Pos}
theorem e_isi (T : String) (hT : kT T) (hg : Gl X "isinstance") (hm : X.mg "isinstance" = none) (ha : PE X a (up X.K wa)) (hgT : Gl X (Str.ofString T)) (hmT : X.mg (Str.ofString T) = none) (hv : bootBuiltins (Str.ofString T) = some (.type T)) (hn : Str.ofString T ≠ "__name__" := by decide) (hd : (Str.ofString T == ("__debug__" : Str)) = false := by decide)
    (he : starEach [a, .Name (Str.ofString T) pt] X.env = (false, eval a X.env) :: starEach [.Name (Str.ofString T) pt] X.env := by rfl) (he2 : starEach [.Name (Str.ofString T) pt] X.env = [(false, eval (.Name (Str.ofString T) pt) X.env)] := by rfl)
    (hpl : (backTo pos (starEach [.Name (Str.ofString T) pt] X.env)).any (·.1) = false := by rfl) : PE X (.Call (.Name "isinstance" p) [a, .Name (Str.ofString T) pt] [] pos) (up X.K (wIsi T wa)) :=
  pe_imp (pe_callB call_isi hg hm boot_isinstance (pa_cons ha (pa_cons (pe_bltn (v := .ty T) hgT hmT hv rfl hn hd) pa_nil he2) he) (by decide) (by decide) he hpl) fun σ H Q ⟨A, as, s, R, ok, w, k⟩ =>
    ⟨A, as, s, _, ok, w, fun v1 H1 p s1 as1 st1 ok1 r1 w1 => by
      obtain ⟨d, e, w2⟩ := optK_of w1
      have r := ok1.rdc r1 e
      exact ⟨v1, .ty T, _, _, _, rfl, .ty T, r.ty w2.1, kit_d w2.1 hT, k _ H1 (.dat (.bl _)) s1 as1 st1 ok1 .bl w2.2⟩⟩
end
end Gd
namespace Gd
open PySem PySem.Spec PyProof.Rows L2
/-! ### ghost steps -/
def cut1 (n : Nat) : Option Sl → Option Sl
  | some (.cel j) => if j < n then some (.cel j) else none
  | r => r
def cutC (n : Nat) : List (Option Sl) → List (Option Sl)
  | [] => []
  | r :: rs => cut1 n r :: cutC n rs
theorem cutC_get {n : Nat} : ∀ {Γ : List (Option Sl)} {i : Nat} {r : Sl}, (cutC n Γ)[i]? = some (some r) → Γ[i]? = some (some r) ∧ ∀ j, r = .cel j → j < n
  | [], i, r, h => by simp [cutC] at h
  | q :: Γ, 0, r, h => by
    have h : cut1 n q = some r := by simpa [cutC] using h
    cases q with
    | none => cases h
    | some q =>
      cases q with
      | dat d => cases h; exact ⟨rfl, fun j e => nomatch e⟩
      | val d => cases h; exact ⟨rfl, fun j e => nomatch e⟩
      | cel j =>
        have h : (if j < n then some (Sl.cel j) else none) = some r := h
        by_cases hj : j < n
        · rw [if_pos hj] at h
          cases h
          exact ⟨rfl, fun j' e => by cases e; exact hj⟩
        · rw [if_neg hj] at h
          cases h
  | q :: Γ, i + 1, r, h => by
    obtain ⟨h1, h2⟩ := cutC_get (Γ := Γ) (i := i) (by simpa [cutC] using h)
    exact ⟨by simpa using h1, h2⟩
theorem cutC_len (n : Nat) : ∀ Γ : List (Option Sl), (cutC n Γ).length = Γ.length
  | [] => rfl
  | _ :: Γ => congrArg Nat.succ (cutC_len n Γ)
/-- only the first n that may be written stay so -/
def tr (n : Nat) (s : S) (k : S → Prop) : Prop := belowAll n (s.μ.take n) ∧ k ⟨cutC n s.Γ, s.μ.take n⟩
theorem tr_ok {K : PySem.W.Frag} {A : Amb} {as as1 : List Addr} {s s1 : S} {σ σ1 : L2.St} {H H1 : Hp} (ok : Ok K A as s σ H) (p : as <+: as1) (ok1 : Ok K A as1 s1 σ1 H1) (hb : belowAll s.μ.length (s1.μ.take s.μ.length)) : Ok K A as ⟨cutC s.μ.length s1.Γ, s1.μ.take s.μ.length⟩ σ1 H1 := by
  obtain ⟨h1, le, h3⟩ := ok.exit p ok1 hb
  refine ⟨h1.len, h1.nd, h1.dj, h1.tr, h1.m0, h1.pin, fun i r h => ?_, h1.mem, ?_, h1.own, h1.he⟩
  · obtain ⟨h4, h5⟩ := cutC_get h
    obtain ⟨v, h6, h7⟩ := ok1.env i r h4
    refine ⟨v, h6, ?_⟩
    cases r with
    | dat d => exact Rep.mono le d h7
    | val u => exact h7
    | cel j =>
      obtain ⟨a, e, ev⟩ := h7
      refine ⟨a, ?_, ev⟩
      rw [← h3, List.getElem?_take_of_lt (h5 j rfl)]
      exact e
  · show (cutC s.μ.length s1.Γ).length = σ1.length
    rw [cutC_len]
    exact ok1.ln
def wScope (w : WS) : WS := fun D s => w { nx := fun s1 => tr s.μ.length s1 D.nx, rt := D.rt, bk := fun s1 => tr s.μ.length s1 D.bk, ct := fun s1 => tr s.μ.length s1 D.ct } s
theorem s_scope {X : Cx} {sts : List Stmt} {w : WS} (h : PSs X sts (upS X.K w)) : PSs X sts (upS X.K (wScope w)) := pss_imp h fun D σ H ⟨A, as, s, d, ok, w, cn, cr, cb, cc⟩ =>
  ⟨A, as, s, _, ok, w, fun σ1 H1 s1 as1 p1 ok1 z => cn σ1 H1 _ as (List.prefix_refl _) (tr_ok ok p1 ok1 z.1) z.2, cr, fun σ1 H1 s1 as1 p1 ok1 z => cb σ1 H1 _ as (List.prefix_refl _) (tr_ok ok p1 ok1 z.1) z.2,
    fun σ1 H1 s1 as1 p1 ok1 z => cc σ1 H1 _ as (List.prefix_refl _) (tr_ok ok p1 ok1 z.1) z.2⟩
/-- the name's thing is written no more -/
def frzN (i : Nat) (s : S) (k : S → Prop) : Prop := optK (nth s.Γ i) fun p => match p with
  | .cel j => optK (nth s.μ j) fun o => o.plain ∧ k ⟨put s.Γ i (.dat o.d), s.μ.set j none⟩
  | _ => k s
def wGF (i : Nat) (w : WS) : WS := fun D s => frzN i s fun s1 => w D s1
theorem s_ghost {X : Cx} {sts : List Stmt} {w : WS} (i : Nat) (h : PSs X sts (upS X.K w)) : PSs X sts (upS X.K (wGF i w)) := pss_imp h fun D σ H ⟨A, as, s, d, ok, w, cn, cr, cb, cc⟩ => by
  obtain ⟨p, e, w⟩ := optK_of w
  cases p with
  | dat d1 => exact ⟨A, as, s, d, ok, w, cn, cr, cb, cc⟩
  | val d1 => exact ⟨A, as, s, d, ok, w, cn, cr, cb, cc⟩
  | cel j =>
    obtain ⟨o, e2, pl, w⟩ := optK_of w
    obtain ⟨v, h1, a, h2, rfl⟩ := ok.env i _ (nth_eq _ _ e)
    obtain ⟨st, ok', r⟩ := ok.freeze h2 (nth_eq _ _ e2) pl
    refine ⟨A, as, ⟨put s.Γ i (.dat o.d), s.μ.set j none⟩, d, ?_, w, cn, cr, cb, cc⟩
    have := ok'.named (r := .dat o.d) r i
    rw [show σ.set i (some (.ref a)) = σ by
      refine List.ext_getElem? fun m => ?_
      by_cases hm : i = m
      · subst hm
        rw [List.getElem?_set_self (List.getElem?_eq_some_iff.mp h1).1, h1]
      · rw [List.getElem?_set_ne hm]] at this
    exact this
/-! isinstance(x, (T1, T2)) -/
section
variable {X : Cx} {a : Expr} {wa : WE} {p pos p1 p2 p3 : Pos} {k : Nat}
theorem e_isi2 (T1 T2 : String) (hT1 : kT T1) (hT2 : kT T2) (hg : Gl X "isinstance") (hm : X.mg "isinstance" = none) (ha : PE X a (up X.K wa))
    (hg1 : Gl X (Str.ofString T1)) (hm1 : X.mg (Str.ofString T1) = none) (hv1 : bootBuiltins (Str.ofString T1) = some (.type T1)) (hg2 : Gl X (Str.ofString T2)) (hm2 : X.mg (Str.ofString T2) = none) (hv2 : bootBuiltins (Str.ofString T2) = some (.type T2))
    (hn1 : Str.ofString T1 ≠ "__name__" := by decide) (hd1 : (Str.ofString T1 == ("__debug__" : Str)) = false := by decide) (hn2 : Str.ofString T2 ≠ "__name__" := by decide) (hd2 : (Str.ofString T2 == ("__debug__" : Str)) = false := by decide)
    (he : starEach [a, .Tuple [.Name (Str.ofString T1) p1, .Name (Str.ofString T2) p2] k p3] X.env = (false, eval a X.env) :: starEach [.Tuple [.Name (Str.ofString T1) p1, .Name (Str.ofString T2) p2] k p3] X.env := by rfl)
    (he2 : starEach [.Tuple [.Name (Str.ofString T1) p1, .Name (Str.ofString T2) p2] k p3] X.env = [(false, eval (.Tuple [.Name (Str.ofString T1) p1, .Name (Str.ofString T2) p2] k p3) X.env)] := by rfl)
    (he3 : starEach [.Name (Str.ofString T1) p1, .Name (Str.ofString T2) p2] X.env = (false, eval (.Name (Str.ofString T1) p1) X.env) :: starEach [.Name (Str.ofString T2) p2] X.env := by rfl) (he4 : starEach [.Name (Str.ofString T2) p2] X.env = [(false, eval (.Name (Str.ofString T2) p2) X.env)] := by rfl)
    (hpl : (backTo pos (starEach [.Tuple [.Name (Str.ofString T1) p1, .Name (Str.ofString T2) p2] k p3] X.env)).any (·.1) = false := by rfl) :
    PE X (.Call (.Name "isinstance" p) [a, .Tuple [.Name (Str.ofString T1) p1, .Name (Str.ofString T2) p2] k p3] [] pos) (up X.K (wIsiT [T1, T2] wa)) :=
  pe_imp (pe_callB call_isiT hg hm boot_isinstance (pa_cons ha (pa_cons (pe_tup (pa_cons (pe_bltn (v := .ty T1) hg1 hm1 hv1 rfl hn1 hd1) (pa_cons (pe_bltn (v := .ty T2) hg2 hm2 hv2 rfl hn2 hd2) pa_nil he4) he3)) pa_nil he2) he) (by decide) (by decide) he hpl) fun σ H Q ⟨A, as, s, R, ok, w, k⟩ =>
    ⟨A, as, s, _, ok, w, fun v1 H1 p s1 as1 st1 ok1 r1 w1 => by
      obtain ⟨d, e, w2⟩ := optK_of w1
      refine ⟨by show 2 ≤ sizeLine; decide, fun q hq => ?_⟩
      obtain ⟨st2, ok2, _⟩ := ok1.new hq (.tup [.ty T1, .ty T2])
      have r := ok2.rdc (r1.mono st2.le st2.pre) e
      exact ⟨v1, q, [.ty T1, .ty T2], _, [.type T1, .type T2], _, rfl, upd_same, .cons (.ty T1) (.cons (.ty T2) .nil), r.ty w2.1, kit_ds w2.1 (Ts := [T1, T2]) (fun T hT => by
        rcases List.mem_cons.mp hT with rfl | hT
        · exact hT1
        · rw [List.mem_singleton.mp hT]
          exact hT2), k _ _ (.dat (.bl _)) s1 as1 (st1.trans st2) ok2 .bl w2.2⟩⟩
end
end Gd
namespace Gd
open PySem PySem.Spec PyProof.Rows L2
section
variable {X : Cx} {a : Expr} {wa : WE} {pos : Pos} {f : F1} {r : V → Hp → VK → Prop}
theorem e_un {op : UnaryOp} (ho : UnR X (unaryOp op) r) (hs : UnS X.K f r) (ha : PE X a (up X.K wa)) : PE X (.UnaryOp op a pos) (up X.K (wUn f wa)) := pe_imp (pe_un ho ha) (up_un hs)
end
/-- less, of numbers, of tuples of numbers -/
def ltG (d e : D) (s : S) (R : Sl → S → Prop) : Prop := match d, e with
  | .int i, .int j => R (.dat (.bl (decide (i < j)))) s
  | .tup xs, .tup ys => ∃ is js, xs = dI is ∧ ys = dI js ∧ R (.dat (.bl (HT.lexLt is js))) s
  | _, _ => False
def ltF : F2 := fun p q s R => two s p q fun d e => ltG d e s R
def rLtAll (K : PySem.W.Frag) : R2 := fun x y H Q => (rI0 fun i j => .bl (decide (i < j))) x y H Q ∨ rLtT K x y H Q
theorem op_ltAll {X : Cx} (hu : X.A.units < cLine) : OpR X (compareOp .Lt) (rLtAll X.K) := OpR.or op_lt (op_ltT hu)
theorem ops_lt {K : PySem.W.Frag} : OpS K ltF (rLtAll K) := OpS.of fun A as s σ H x y d e R Q ok rx ry w k => by
  cases d <;> cases e <;> first
    | exact w.elim
    | skip
  · cases rx; cases ry
    exact .inl ⟨_, _, rfl, rfl, k.here ok (r := .dat (.bl _)) .bl w⟩
  · obtain ⟨is, js, rfl, rfl, w⟩ := w
    obtain ⟨_, a, xs, rfl, h1, h2⟩ := rx
    obtain ⟨_, b, ys, rfl, h3, h4⟩ := ry
    cases h2.nums
    cases h4.nums
    exact .inr ⟨a, b, is, js, rfl, rfl, h1, h3, k.here ok (r := .dat (.bl _)) .bl w⟩
/-- x in a list, of plain data; a sign in a text -/
def inG (neg : Bool) (d e : D) (s : S) (R : Sl → S → Prop) : Prop := match e with
  | .lst ds => (d.fit ∧ (D.lst ds).fit) ∧ R (.dat (.bl (neg ^^ (pds ds).any fun z => PyData.eqv z d.pd))) s
  | .tup ds => match d with
    | .int i => ∃ is, ds = dI is ∧ R (.dat (.bl (neg ^^ decide (i ∈ is)))) s
    | _ => False
  | _ => False
def inF (neg : Bool) : F2 := fun p q s R => two s p q fun d e => inG neg d e s R
def rInAll (K : PySem.W.Frag) : R2 := fun x y H Q => rInD K x y H Q ∨ rIn K false x y H Q
def rNotInAll (K : PySem.W.Frag) : R2 := fun x y H Q => rNotInD K x y H Q ∨ rIn K true x y H Q
theorem op_inAll {X : Cx} (hu : X.A.units + 65 < cLine) : OpR X (compareOp .In) (rInAll X.K) := OpR.or (op_inD hu) op_in_seq
theorem op_notInAll {X : Cx} (hu : X.A.units + 65 < cLine) : OpR X (compareOp .NotIn) (rNotInAll X.K) := OpR.or (op_notInD hu) op_notIn_seq
theorem inV_nums (i : Int) (is : List Int) : inV (.int i) (is.map V.int) = decide (i ∈ is) := by
  unfold inV
  induction is with
  | nil => simp
  | cons j is ih =>
    rw [List.map_cons, List.any_cons, ih]
    by_cases e : j = i
    · subst e
      simp [eqV]
    · have e' : ¬ i = j := fun z => e z.symm
      simp [eqV, e, e']
theorem in_gen {K : PySem.W.Frag} {neg : Bool} {A : Amb} {as : List Addr} {s : S} {σ : L2.St} {H : Hp} {x y : V} {d e : D} {R : Sl → S → Prop} {Q : VK} (ok : Ok K A as s σ H) (rx : Rdc K (vw A as s.μ H) H x d) (ry : Rdc K (vw A as s.μ H) H y e) (w : inG neg d e s R) (k : Kon K A as s σ H R Q) :
    (∃ d ds, Dp K H x d ∧ Dp K H y (.list ds) ∧ SeqAt.shaped d = true ∧ SeqAt.shaped (.list ds) = true ∧ Q (.bl (neg ^^ ds.any fun z => PyData.eqv z d)) H) ∨
    ∃ p xs, y = .ref p ∧ (SqL K H p xs ∨ SqT K H p xs) ∧ flatV x = true ∧ xs.all flatV = true ∧ Q (.bl (neg ^^ inV x xs)) H := by
  cases e with
  | lst ds =>
    obtain ⟨⟨f1, f2⟩, w⟩ := w
    exact .inl ⟨d.pd, pds ds, rx.dp vw_le (SeqAt.canLay_of_shaped f1), ry.dp vw_le (SeqAt.canLay_of_shaped f2), f1, f2, k.here ok (r := .dat (.bl _)) .bl w⟩
  | tup ds =>
    cases d with
    | int i =>
      obtain ⟨is, rfl, w⟩ := w
      cases rx
      obtain ⟨_, a, xs, rfl, h1, h2⟩ := ry
      cases h2.nums
      refine .inr ⟨a, _, rfl, .inr h1, rfl, ?_, ?_⟩
      · rw [List.all_eq_true]
        intro y hy
        obtain ⟨z, _, rfl⟩ := List.mem_map.mp hy
        rfl
      · rw [inV_nums]
        exact k.here ok (r := .dat (.bl _)) .bl w
    | _ => exact w.elim
  | _ => exact w.elim
theorem ops_in {K : PySem.W.Frag} : OpS K (inF false) (rInAll K) := OpS.of fun A as s σ H x y d e R Q ok rx ry w k => by
  rcases in_gen ok rx ry w k with ⟨d, ds, h1, h2, h3, h4, h5⟩ | ⟨p, xs, h1, h2, h3, h4, h5⟩
  · rw [Bool.false_xor] at h5
    exact .inl ⟨d, ds, h1, h2, h3, h4, h5⟩
  · rw [Bool.false_xor] at h5
    exact .inr ⟨p, xs, h1, h2, h3, h4, by simpa using h5⟩
theorem ops_notIn {K : PySem.W.Frag} : OpS K (inF true) (rNotInAll K) := OpS.of fun A as s σ H x y d e R Q ok rx ry w k => by
  rcases in_gen ok rx ry w k with ⟨d, ds, h1, h2, h3, h4, h5⟩ | ⟨p, xs, h1, h2, h3, h4, h5⟩
  · rw [Bool.true_xor] at h5
    exact .inl ⟨d, ds, h1, h2, h3, h4, h5⟩
  · rw [Bool.true_xor] at h5
    exact .inr ⟨p, xs, h1, h2, h3, h4, by simpa using h5⟩
/-- the built-in names as they are -/
structure Bts (mg : Str → Option Value) : Prop where
  len : mg "len" = none
  abs : mg "abs" = none
  int : mg "int" = none
  bool : mg "bool" = none
  str : mg "str" = none
  max : mg "max" = none
  min : mg "min" = none
  sum : mg "sum" = none
  all : mg "all" = none
  any : mg "any" = none
  list : mg "list" = none
  tuple : mg "tuple" = none
  dict : mg "dict" = none
  set : mg "set" = none
  sorted : mg "sorted" = none
  range : mg "range" = none
  enumerate : mg "enumerate" = none
  zip : mg "zip" = none
  isinstance : mg "isinstance" = none
  repr : mg "repr" = none
theorem hu64 {A : Around} {k : Nat} (hr : Room k A) : A.units + 64 < cLine := hr.units
theorem hu65 {A : Around} {k : Nat} (hr : Room k A) : A.units + 65 < cLine := by
  have := hr.un
  omega
theorem FnK.mono {P : Program} {w : World} {K : PySem.W.Frag} {mg : Str → Option Value} {base : Heap} {x : Str} {j k n : Nat} {fs : FS} (G : FnK P w K mg base x j n fs) (h : j ≤ k) : FnK P w K mg base x k n fs := by
  obtain ⟨f, fd, ps, F, r⟩ := G.ex
  exact ⟨f, fd, ps, F.mono h, r⟩
/-- whole defs -/
def qn (i : Nat) (p : Program) : Stmt := p.main.body.getD i (.Pass ⟨0, 0, 0, 0⟩)
end Gd
namespace Gd
open PySem PySem.Spec PyProof.Rows L2
/-- what of a list stays -/
def tk {α β : Type} (l : List α) (m : List β) : List β := m.take l.length
section
variable {α β : Type} {y z : Option α} {t t' : List (Option α)} {x : α} {i : Nat}
theorem n_p0 : put (y :: t) 0 x = some x :: t := rfl
theorem n_p1 (h : put t i x = t') : put (y :: t) (i + 1) x = y :: t' := congrArg (y :: ·) h
theorem n_t0 {m : List β} : tk (α := α) [] m = [] := rfl
theorem n_t1 {a : α} {l : List α} {b : β} {m m' : List β} (h : tk l m = m') : tk (a :: l) (b :: m) = b :: m' := congrArg (b :: ·) h
theorem n_s0 : (y :: t).set 0 z = z :: t := rfl
theorem n_s1 (h : t.set i z = t') : (y :: t).set (i + 1) z = y :: t' := congrArg (y :: ·) h
theorem n_a0 : ([] : List (Option α)) ++ [z] = [z] := rfl
theorem n_a1 (h : t ++ [z] = t') : y :: t ++ [z] = y :: t' := congrArg (y :: ·) h
theorem n_l0 : ([] : List (Option α)).length = 0 := rfl
theorem n_l1 {n m : Nat} (h : t.length = n) (e : n + 1 = m) : (y :: t).length = m := (congrArg (· + 1) h).trans e
end
section
variable {n : Nat} {Γ Γ' Γ2 : List (Option Sl)} {d : D} {z : V} {i : Nat} {is : List Nat}
theorem n_c0 : cutC n [] = [] := rfl
theorem n_cN (h : cutC n Γ = Γ') : cutC n (none :: Γ) = none :: Γ' := congrArg (none :: ·) h
theorem n_cD (h : cutC n Γ = Γ') : cutC n (some (.dat d) :: Γ) = some (.dat d) :: Γ' := by
  rw [← h]
  rfl
theorem n_cV (h : cutC n Γ = Γ') : cutC n (some (.val z) :: Γ) = some (.val z) :: Γ' := by
  rw [← h]
  rfl
theorem n_cM {n : Nat} {y : Option D} {Γ Γ' : List (Option Sl)} (h : cutC n Γ = Γ') : cutC n (Option.map Sl.dat y :: Γ) = Option.map Sl.dat y :: Γ' := by
  rw [← h]
  cases y <;> rfl
theorem n_cC (e : i < n) (h : cutC n Γ = Γ') : cutC n (some (.cel i) :: Γ) = some (.cel i) :: Γ' := by
  show cut1 n (some (.cel i)) :: _ = _
  rw [h]
  simp [cut1, e]
theorem n_cX (e : ¬ i < n) (h : cutC n Γ = Γ') : cutC n (some (.cel i) :: Γ) = none :: Γ' := by
  show cut1 n (some (.cel i)) :: _ = _
  rw [h]
  simp [cut1, e]
theorem n_w0 : wip Γ [] = Γ := rfl
theorem n_w1 (h : wip Γ is = Γ') (h2 : Γ'.set i none = Γ2) : wip Γ (i :: is) = Γ2 := by
  unfold wip
  rw [h]
  exact h2
end
/-- the caller goes on -/
def retP (s : S) (R : Sl → S → Prop) : Sl → List (Option MO) → Prop := fun r μ => plainAll μ ∧ R (shf s.μ.length r) ⟨s.Γ, s.μ ++ μ⟩
def retB (i : Nat) (s : S) (R : Sl → S → Prop) : Sl → List (Option MO) → Prop := fun r μ => match μ with
  | [some o'] => o'.plain ∧ (match r with
    | .cel _ => False
    | r => R r ⟨s.Γ, put s.μ i o'⟩)
  | _ => False
def wgA (f : Int → Int → Int) (i : Nat) (x : Int) (q : Sl) (s1 : S) (R : S → Prop) : Prop := match q with
  | .dat (.int n) => R ⟨put s1.Γ i (.dat (.int (f x n))), s1.μ⟩
  | _ => False
def trl (μ : List (Option MO)) (s : S) (k : S → Prop) : Prop := tr μ.length s k
def frzB (s s1 : S) (R : S → Prop) : Prop := belowAll s.μ.length (s1.μ.take s.μ.length) ∧ R (back s s1)
def toI : List D → List Int
  | .int i :: t => i :: toI t
  | _ :: t => 0 :: toI t
  | [] => []
def lcP (n : Nat) (r : Sl) (R : D → Prop) : Prop := match r with
  | .dat d => sz n ∧ R d
  | _ => False
def enK (ps : List Sl) (s : S) (R : List D → S → Prop) : Prop := match ps with
  | [p] => seqD p fun ds => R (enumD ds) s
  | _ => False
def zpK (ps : List Sl) (s : S) (R : List D → S → Prop) : Prop := match ps with
  | [.dat d, .dat e] => zipG d e fun ds => R ds s
  | _ => False
def r1K (ps : List Sl) (s : S) (R : List D → S → Prop) : Prop := match ps with
  | [.dat (.int j)] => fits j ∧ R (rg 0 j.toNat) s
  | _ => False
def r2K (ps : List Sl) (s : S) (R : List D → S → Prop) : Prop := match ps with
  | [.dat (.int i), .dat (.int j)] => (fits i ∧ fits j) ∧ R (rg i (j - i).toNat) s
  | _ => False
def oK (d : D) (s : S) (R : Option Int → S → Prop) : Prop := match d with
  | .int i => R (some i) s
  | _ => False
def wgP (i j : Nat) (ps : List Sl) (s : S) (R : S → Prop) : Prop := match ps with
  | [p, q] => R ⟨put (put s.Γ i p) j q, s.μ⟩
  | _ => False
def isK (T : String) (d : D) (s : S) (R : Sl → S → Prop) : Prop := tyable d ∧ R (.dat (.bl (isTy d T))) s
def isKT (Ts : List String) (d : D) (s : S) (R : Sl → S → Prop) : Prop := tyable d ∧ R (.dat (.bl (isAny d Ts))) s
def ntK (k : Bool) (s : S) (R : Sl → S → Prop) : Prop := R (.dat (.bl (!k))) s
def lcK (vs : List Nat) (g : WG) (wt : WT) (we : WE) (ds : List D) (s : S) (R : Sl → S → Prop) : Prop := lcW vs g wt we s.Γ ds [] s.μ fun acc μ => nw (.lst acc) ⟨s.Γ, μ⟩ R
section
variable {a : Str} {i : Nat} {l : List (Str × Nat)} {l' : List Nat}
theorem n_m0 : List.map (fun (x : Str × Nat) => x.snd) [] = [] := rfl
theorem n_m1 (h : List.map (fun (x : Str × Nat) => x.snd) l = l') : List.map (fun (x : Str × Nat) => x.snd) ((a, i) :: l) = i :: l' := congrArg (i :: ·) h
end
/-! ### one step of a reading -/
section
variable {D' : Dn} {s s1 : S} {R : Sl → S → Prop} {RB : Bool → S → Prop} {RA : List Sl → S → Prop} {RS : S → Prop} {w1 w2 wb : WS} {we wa wc wo wi : WE} {wt wu : WT} {wr : WA} {wl wh : WO} {g : WG} {f f' : F2} {f1 : F1} {fn : FN} {fm : FM} {i j n : Nat} {p q r : Sl} {ps qs : List Sl} {d e : D} {ds es : List D} {is js : List Int} {k b : Bool} {A B : Prop} {x y : Int} {o : MO} {u v : Str} {W : WI} {Γ Γ' : List (Option Sl)} {μ μ' μ1 : List (Option MO)} {m : Nat} {fs : FS} {μ2 : List (Option Sl)}
theorem r_seq (h : w1 { D' with nx := fun s1 => w2 D' s1 } s) : wSeq w1 w2 D' s := h
theorem r_nx (h : D'.nx s) : wNx D' s := h
theorem r_bk (h : D'.bk s) : wBk D' s := h
theorem r_ct (h : D'.ct s) : wCt D' s := h
theorem r_ret (h : we s fun r s1 => D'.rt r s1) : wRet we D' s := h
theorem r_retN (h : D'.rt (.dat .non) s) : wRetN D' s := h
theorem r_drop (h : we s fun _ s1 => D'.nx s1) : wDrop we D' s := h
theorem r_ifS (h : wt s fun k s1 => if k = true then w1 D' s1 else w2 D' s1) : wIfS wt w1 w2 D' s := h
theorem r_asg (h : we s fun r s1 => g r s1 D'.nx) : wAsg we g D' s := h
theorem r_gN (hN : put Γ i r = Γ') (h : RS ⟨Γ', μ⟩) : wgN i r ⟨Γ, μ⟩ RS := by
  subst hN
  exact h
theorem r_gT {is is' : List Nat} (hv : is = is') (h1 : rd ⟨Γ, μ⟩ r = some (.tup ds)) (h : puts is' ds Γ fun Γ => RS ⟨Γ, μ⟩) : wgT is r ⟨Γ, μ⟩ RS := by
  subst hv
  show optK (rd _ r) _
  rw [h1]
  exact h
theorem r_puts0 {Γ : List (Option Sl)} {RP : List (Option Sl) → Prop} (h : RP Γ) : puts [] [] Γ RP := h
theorem r_puts1 {is : List Nat} {RP : List (Option Sl) → Prop} (hN : put Γ i (.dat d) = Γ') (h : puts is ds Γ' RP) : puts (i :: is) (d :: ds) Γ RP := by
  subst hN
  exact h
theorem r_gS (h : wo s fun p s1 => wi s1 fun q s2 => setG p q d s2 RS) : wgS wo wi (.dat d) s RS := h
theorem r_set (h1 : nth μ j = some (.lst ds)) (h2 : ixN ds.length x = some n) (hN : put μ j (.lst (ds.set n d)) = μ') (h : RS ⟨Γ, μ'⟩) : setG (.cel j) (.dat (.int x)) d ⟨Γ, μ⟩ RS := by
  subst hN
  show optK (nth μ j) _
  rw [h1]
  show optK (ixN ds.length x) _
  rw [h2]
  exact h
theorem r_par (h : wr s fun ps s1 => wgP i j ps s1 D'.nx) : wPar i j wr D' s := h
theorem r_put2 (h1 : put Γ i p = Γ') (h2 : put Γ' j q = μ2) (h : RS ⟨μ2, μ⟩) : wgP i j [p, q] ⟨Γ, μ⟩ RS := by
  subst h1 h2
  exact h
theorem r_aug {f : Int → Int → Int} (h1 : nth s.Γ i = some (.dat (.int x))) (h : we s fun q s1 => wgA f i x q s1 D'.nx) : wAug f i we D' s := by
  show optK (nth s.Γ i) _
  rw [h1]
  exact h
theorem r_gA {f : Int → Int → Int} (hN : put Γ i (.dat (.int (f x y))) = Γ') (h : RS ⟨Γ', μ⟩) : wgA f i x (.dat (.int y)) ⟨Γ, μ⟩ RS := by
  subst hN
  exact h
theorem r_for (h : W s fun ds s1 => forW g wb ds D' s1) : wFor W g wb D' s := h
theorem r_scope (h : w1 { nx := fun s1 => trl μ s1 D'.nx, rt := D'.rt, bk := fun s1 => trl μ s1 D'.bk, ct := fun s1 => trl μ s1 D'.ct } ⟨Γ, μ⟩) : wScope w1 D' ⟨Γ, μ⟩ := h
theorem r_tr (hl : μ.length = n) (hm : tk μ μ1 = μ') (h1 : belowAll n μ') (hc : cutC n Γ = Γ') (h : RS ⟨Γ', μ'⟩) : trl μ ⟨Γ, μ1⟩ RS := by
  subst hl hm hc
  exact ⟨h1, h⟩
theorem r_gf (h1 : nth Γ i = some (.cel j)) (h2 : nth μ j = some o) (h3 : o.plain) (hd : o.d = d) (hN : put Γ i (.dat d) = Γ') (hM : μ.set j none = μ') (h : w1 D' ⟨Γ', μ'⟩) : wGF i w1 D' ⟨Γ, μ⟩ := by
  subst hd hN hM
  show optK (nth Γ i) _
  rw [h1]
  show optK (nth μ j) _
  rw [h2]
  exact ⟨h3, h⟩
theorem r_gf0 (h1 : nth s.Γ i = some (.dat d)) (h : w1 D' s) : wGF i w1 D' s := by
  show optK (nth s.Γ i) _
  rw [h1]
  exact h
theorem r_for0 (h : D'.nx s) : forW g wb [] D' s := h
theorem r_for1 (h : g (.dat d) s fun s1 => wb { D' with nx := fun s2 => forW g wb ds D' s2, ct := fun s2 => forW g wb ds D' s2, bk := D'.nx } s1) : forW g wb (d :: ds) D' s := h
-- expressions
theorem r_var (h1 : nth s.Γ i = some r) (h : R r s) : wVar i s R := by
  show optK (nth s.Γ i) _
  rw [h1]
  exact h
theorem r_c (h : R (.dat d) s) : wC d s R := h
theorem r_v {z : V} (h : R (.val z) s) : wV z s R := h
theorem r_op (h : wa s fun p s1 => wc s1 fun q s2 => f p q s2 R) : wOp f wa wc s R := h
theorem r_tst (h : we s fun r s1 => isB r fun b => RB b s1) : wTst we s RB := h
theorem r_isB {RP : Bool → Prop} (h : RP b) : isB (.dat (.bl b)) RP := h
theorem r_chain (h : wa s fun p s1 => wc s1 fun q s2 => f p q s2 fun z s3 => isB z fun k => if k = true then we s3 (fun t s4 => f' q t s4 R) else R (.dat (.bl false)) s3) : wChain f f' wa wc we s R := h
theorem r_un (h : we s fun p s1 => f1 p s1 R) : wUn f1 we s R := h
theorem r_and (h : wa s fun p s1 => tru s1 p fun k => if k = true then wc s1 R else R p s1) : wAnd wa wc s R := h
theorem r_or (h : wa s fun p s1 => tru s1 p fun k => if k = true then R p s1 else wc s1 R) : wOr wa wc s R := h
theorem r_not (h : wa s fun p s1 => tru s1 p fun k => ntK k s1 R) : wNot wa s R := h
theorem r_nt (hb : (!k) = b) (h : R (.dat (.bl b)) s) : ntK k s R := by
  subst hb
  exact h
theorem r_tru (h : wa s fun p s1 => tru s1 p fun k => RB k s1) : wTru wa s RB := h
theorem r_andT (h : wt s fun k s1 => if k = true then wu s1 RB else RB false s1) : wAndT wt wu s RB := h
theorem r_orT (h : wt s fun k s1 => if k = true then RB true s1 else wu s1 RB) : wOrT wt wu s RB := h
theorem r_notT (h : wt s fun k s1 => RB (!k) s1) : wNotT wt s RB := h
theorem r_if (h : wt s fun k s1 => if k = true then wa s1 R else wc s1 R) : wIf wt wa wc s R := h
theorem r_frz (h : we s fun r s1 => frz s r s1 R) : wFrz we s R := h
theorem r_frzD (hl : μ.length = n) (hm : tk μ μ1 = μ') (h1 : belowAll n μ') (h : R (.dat d) ⟨Γ, μ'⟩) : frz ⟨Γ, μ⟩ (.dat d) ⟨Γ', μ1⟩ R := by
  subst hl hm
  exact ⟨h1, h⟩
theorem r_frzV {z : V} (hl : μ.length = n) (hm : tk μ μ1 = μ') (h1 : belowAll n μ') (h : R (.val z) ⟨Γ, μ'⟩) : frz ⟨Γ, μ⟩ (.val z) ⟨Γ', μ1⟩ R := by
  subst hl hm
  exact ⟨h1, h⟩
theorem r_frzC (hl : μ.length = n) (h0 : ¬ i < n) (hm : tk μ μ1 = μ') (h1 : belowAll n μ') (h2 : nth μ1 i = some o) (h3 : o.plain) (hd : o.d = d) (h : R (.dat d) ⟨Γ, μ'⟩) : frz ⟨Γ, μ⟩ (.cel i) ⟨Γ', μ1⟩ R := by
  subst hl hm hd
  refine ⟨h1, ?_⟩
  show (if i < μ.length then R (.cel i) (back _ _) else optK (nth μ1 i) _)
  rw [if_neg h0, h2]
  exact ⟨h3, h⟩
theorem r_frzO (hl : μ.length = n) (h0 : i < n) (hm : tk μ μ1 = μ') (h1 : belowAll n μ') (h : R (.cel i) ⟨Γ, μ'⟩) : frz ⟨Γ, μ⟩ (.cel i) ⟨Γ', μ1⟩ R := by
  subst hl hm
  refine ⟨h1, ?_⟩
  show (if i < μ.length then R (.cel i) (back _ _) else optK (nth μ1 i) _)
  rw [if_pos h0]
  exact h
theorem r_frzT (h : wt s fun b s1 => frzB s s1 fun s2 => RB b s2) : wFrzT wt s RB := h
theorem r_frzB (hl : μ.length = n) (hm : tk μ μ1 = μ') (h1 : belowAll n μ') (h : RS ⟨Γ, μ'⟩) : frzB ⟨Γ, μ⟩ ⟨Γ', μ1⟩ RS := by
  subst hl hm
  exact ⟨h1, h⟩
theorem r_bN {n : Nat} : belowAll n [] := trivial
theorem r_b0 {n : Nat} {μ : List (Option MO)} (h : belowAll n μ) : belowAll n (none :: μ) := h
theorem r_b1 {n : Nat} {μ : List (Option MO)} (h : belowAll n μ) : belowAll n (some (.lst ds) :: μ) := ⟨trivial, h⟩
theorem r_anil (h : RA [] s) : waNil s RA := h
theorem r_acons (h : we s fun p s1 => wr s1 fun ps s2 => RA (p :: ps) s2) : waCons we wr s RA := h
theorem r_tup (h : wr s fun ps s1 => dats ps fun ds => sz ds.length ∧ R (.dat (.tup ds)) s1) : wTup wr s R := h
theorem r_lst (h : wr s fun ps s1 => dats ps fun ds => sz ds.length ∧ nw (.lst ds) s1 R) : wLst wr s R := h
theorem r_dats0 {RP : List D → Prop} (h : RP []) : dats [] RP := h
theorem r_dats1 {RP : List D → Prop} (h : dats ps fun ds => RP (d :: ds)) : dats (.dat d :: ps) RP := h
theorem r_nw (hl : μ.length = n) (hm : μ ++ [some o] = μ') (h : R (.cel n) ⟨Γ, μ'⟩) : nw o ⟨Γ, μ⟩ R := by
  subst hl hm
  exact h
theorem r_yes (h : RB true s) : wYes s RB := h
theorem r_sl (h : we s fun p s1 => wl s1 fun l s2 => wh s2 fun u s3 => slF p l u s3 R) : wSl we wl wh s R := h
theorem r_oN {RO : Option Int → S → Prop} (h : RO none s) : woN s RO := h
theorem r_oS {RO : Option Int → S → Prop} (h : we s fun p s1 => one s1 p fun d => oK d s1 RO) : woS we s RO := h
theorem r_oI {RO : Option Int → S → Prop} (h : RO (some x) s) : oK (.int x) s RO := h
theorem r_one {RP : D → Prop} (h1 : rd s p = some d) (h : RP d) : one s p RP := by
  show optK (rd s p) _
  rw [h1]
  exact h
theorem r_two {RP : D → D → Prop} (h1 : rd s p = some d) (h2 : rd s q = some e) (h : RP d e) : two s p q RP := by
  unfold two
  rw [h1, h2]
  exact h
theorem r_optK {α : Type} {z : Option α} {t : α} {RP : α → Prop} (h1 : z = some t) (h : RP t) : optK z RP := by
  rw [h1]
  exact h
theorem r_cb (h : wr s fun ps s1 => fn ps s1 R) : wCB fn wr s R := h
theorem r_arg1 {RP : D → Prop} (h : one s p RP) : arg1 s [p] RP := h
theorem r_arg2 {RP : D → D → Prop} (h : two s p q RP) : arg2 s [p, q] RP := h
theorem r_callP {m : Nat} {fs : FS} (h : wr s fun ps s1 => callP m fs ps s1 R) : wCallP m fs wr s R := h
theorem r_cP {m : Nat} {fs : FS} (h1 : ps.length = m) (h2 : noCel ps) (h : fs ps [] (retP s R)) : callP m fs ps s R := ⟨h1, h2, h⟩
theorem r_rPd (h : R (.dat d) ⟨Γ, μ⟩) : retP ⟨Γ, μ⟩ R (.dat d) [] := by
  refine ⟨trivial, ?_⟩
  show R _ ⟨Γ, μ ++ []⟩
  rw [List.append_nil]
  exact h
theorem r_rPv {z : V} (h : R (.val z) ⟨Γ, μ⟩) : retP ⟨Γ, μ⟩ R (.val z) [] := by
  refine ⟨trivial, ?_⟩
  show R _ ⟨Γ, μ ++ []⟩
  rw [List.append_nil]
  exact h
theorem r_rPc (h1 : o.plain) (hl : μ.length = n) (hm : μ ++ [some o] = μ') (h : R (.cel n) ⟨Γ, μ'⟩) : retP ⟨Γ, μ⟩ R (.cel 0) [some o] := by
  subst hl hm
  exact ⟨⟨h1, trivial⟩, h⟩
theorem r_cB {m : Nat} {fs : FS} (h1 : ps.length = m) (h2 : nth s.μ i = some o) (h3 : o.plain) (h : toC i ps fun qs => fs qs [some o] (retB i s R)) : callB i m fs ps s R := by
  refine ⟨h1, ?_⟩
  rw [h2]
  exact ⟨h3, h⟩
theorem r_tC0 {RP : List Sl → Prop} (h : RP []) : toC i [] RP := h
theorem r_tCc {RP : List Sl → Prop} (h1 : j = i) (h : toC i ps fun qs => RP (.cel 0 :: qs)) : toC i (.cel j :: ps) RP := ⟨h1, h⟩
theorem r_tCd {RP : List Sl → Prop} (h : toC i ps fun qs => RP (.dat d :: qs)) : toC i (.dat d :: ps) RP := h
theorem r_rBd (h1 : o.plain) (hm : put μ i o = μ') (h : R (.dat d) ⟨Γ, μ'⟩) : retB i ⟨Γ, μ⟩ R (.dat d) [some o] := by
  subst hm
  exact ⟨h1, h⟩
theorem r_callB {m : Nat} {fs : FS} (h : wr s fun ps s1 => callB i m fs ps s1 R) : wCallB i m fs wr s R := h
theorem r_m (h : wo s fun p s1 => isLst s1 p ∧ wr s1 fun ps s2 => fm p ps s2 R) : wM fm wo wr s R := h
theorem r_m0 (h : wo s fun p s1 => isLst s1 p ∧ fm p [] s1 R) : wM0 fm wo s R := h
theorem r_isLst (h1 : rd s p = some (.lst ds)) : isLst s p := by
  unfold isLst
  rw [h1]
  exact trivial
theorem r_onLst {RP : Nat → List D → Prop} (h1 : nth s.μ j = some (.lst ds)) (h : RP j ds) : onLst (.cel j) s RP := by
  show optK (nth s.μ j) _
  rw [h1]
  exact h
theorem r_isi {T : String} (h : we s fun p s1 => one s1 p fun d => isK T d s1 R) : wIsi T we s R := h
theorem r_isK {T : String} (h1 : tyable d) (hb : isTy d T = b) (h : R (.dat (.bl b)) s) : isK T d s R := by
  subst hb
  exact ⟨h1, h⟩
theorem r_isKT {Ts : List String} (h1 : tyable d) (hb : isAny d Ts = b) (h : R (.dat (.bl b)) s) : isKT Ts d s R := by
  subst hb
  exact ⟨h1, h⟩
theorem r_isiT {Ts : List String} (h : we s fun p s1 => one s1 p fun d => isKT Ts d s1 R) : wIsiT Ts we s R := h
theorem r_lc {vs : List Nat} (h : W s fun ds s1 => lcK vs g wt we ds s1 R) : wLc W g wt we vs s R := h
theorem r_lcK {vs vs' : List Nat} (hv : vs = vs') (h : lcW vs' g wt we Γ ds [] μ fun acc μ1 => nw (.lst acc) ⟨Γ, μ1⟩ R) : lcK vs g wt we ds ⟨Γ, μ⟩ R := by
  subst hv
  exact h
theorem r_wSeq {RI : List D → S → Prop} (h : we s fun p s1 => itemsOf p fun ds => RI ds s1) : wiSeq we s RI := h
theorem r_itL {RP : List D → Prop} (h : RP ds) : itemsOf (.dat (.lst ds)) RP := h
theorem r_itT {RP : List D → Prop} (h : RP ds) : itemsOf (.dat (.tup ds)) RP := h
theorem r_itC {RP : List D → Prop} (h : RP ds) : itemsOf (.dat (.scr ds)) RP := h
theorem r_itS {RP : List D → Prop} (h : RP (signs u)) : itemsOf (.dat (.str u)) RP := h
theorem r_sqL {RP : List D → Prop} (h : RP ds) : seqD (.dat (.lst ds)) RP := h
theorem r_sqT {RP : List D → Prop} (h : RP ds) : seqD (.dat (.tup ds)) RP := h
theorem r_sqC {RP : List D → Prop} (h : RP ds) : seqD (.dat (.scr ds)) RP := h
theorem r_rng1 {RI : List D → S → Prop} (h : wr s fun ps s1 => r1K ps s1 RI) : wiR1 wr s RI := h
theorem r_r1 {RI : List D → S → Prop} (h1 : fits x) (h : RI (rg 0 x.toNat) s) : r1K [.dat (.int x)] s RI := ⟨h1, h⟩
theorem r_rng2 {RI : List D → S → Prop} (h : wr s fun ps s1 => r2K ps s1 RI) : wiR2 wr s RI := h
theorem r_r2 {RI : List D → S → Prop} (h1 : fits x ∧ fits y) (h : RI (rg x (y - x).toNat) s) : r2K [.dat (.int x), .dat (.int y)] s RI := ⟨h1, h⟩
theorem r_enum {RI : List D → S → Prop} (h : wr s fun ps s1 => enK ps s1 RI) : wiEnum wr s RI := h
theorem r_en {RI : List D → S → Prop} (h : seqD p fun ds => RI (enumD ds) s) : enK [p] s RI := h
theorem r_zip {RI : List D → S → Prop} (h : wr s fun ps s1 => zpK ps s1 RI) : wiZip wr s RI := h
theorem r_zgL {RP : List D → Prop} (h : RP (zipD ds es)) : zipG (.lst ds) (.lst es) RP := h
theorem r_zgT {RP : List D → Prop} (h : RP (zipD ds es)) : zipG (.tup ds) (.tup es) RP := h
theorem r_zp {RI : List D → S → Prop} (h : zipG d e fun ds => RI ds s) : zpK [.dat d, .dat e] s RI := h
-- tests
theorem r_iteT (h : A) : if true = true then A else B := h
theorem r_iteF (h : B) : if false = true then A else B := h
theorem r_iteD {P : Prop} {hP : Decidable P} (h1 : P → A) (h2 : ¬ P → B) : if decide P = true then A else B := by
  by_cases z : P
  · rw [decide_eq_true z]
    exact h1 z
  · rw [decide_eq_false z]
    exact h2 z
theorem r_iteN (h : if k = true then B else A) : if (!k) = true then A else B := by
  cases k <;> exact h
theorem r_iteZ (h1 : x ≠ 0 → A) (h2 : x = 0 → B) : if (x != 0) = true then A else B := by
  by_cases z : x = 0
  · subst z
    exact h2 rfl
  · have e : (x != 0) = true := by simp [z]
    rw [e]
    exact h1 z
theorem r_iteE {α : Type} {l : List α} (h1 : l = [] → A) (h2 : l ≠ [] → B) : if l.isEmpty = true then A else B := by
  cases l with
  | nil => exact h1 rfl
  | cons y t => exact h2 (List.cons_ne_nil _ _)
theorem r_ite (h1 : k = true → A) (h2 : k = false → B) : if k = true then A else B := by
  cases k with
  | true => exact h1 rfl
  | false => exact h2 rfl
-- operations
theorem r_add (h1 : rd s p = some d) (h2 : rd s q = some e) (h : addG d e s R) : addF p q s R := r_two h1 h2 h
theorem r_addI (h : R (.dat (.int (x + y))) s) : addG (.int x) (.int y) s R := h
theorem r_addS (h1 : sz (u.length + v.length)) (h : R (.dat (.str (u ++ v))) s) : addG (.str u) (.str v) s R := ⟨h1, h⟩
theorem r_addL (h1 : sz (ds.length + es.length)) (h : nw (.lst (ds ++ es)) s R) : addG (.lst ds) (.lst es) s R := ⟨h1, h⟩
theorem r_addT (h1 : sz (ds.length + es.length)) (h : R (.dat (.tup (ds ++ es))) s) : addG (.tup ds) (.tup es) s R := ⟨h1, h⟩
theorem r_sub (h1 : rd s p = some (.int x)) (h2 : rd s q = some (.int y)) (h : R (.dat (.int (x - y))) s) : subF p q s R := r_two h1 h2 h
theorem r_mul (h1 : rd s p = some d) (h2 : rd s q = some e) (h : mulG d e s R) : mulF p q s R := r_two h1 h2 h
theorem r_mulI (h1 : CMul x y) (h : R (.dat (.int (x * y))) s) : mulG (.int x) (.int y) s R := ⟨h1, h⟩
theorem r_mulL (h1 : -(2 ^ 63) ≤ x ∧ x < 2 ^ 63 ∧ sz (ds.length * x.toNat)) (h : nw (.lst (reps x ds)) s R) : mulG (.lst ds) (.int x) s R := ⟨h1, h⟩
theorem r_mulT (h1 : ds ≠ [] ∧ 2 ≤ x ∧ x ≤ 1000 ∧ ds.length ≤ 1000) (h : R (.dat (.tup (reps x ds))) s) : mulG (.tup ds) (.int x) s R := ⟨h1, h⟩
theorem r_i {C : Int → Int → Prop} {z : Int → Int → Int} (h1 : rd s p = some (.int x)) (h2 : rd s q = some (.int y)) (h3 : C x y) (h : R (.dat (.int (z x y))) s) : iF C z p q s R := r_two h1 h2 ⟨h3, h⟩
theorem r_b {z : Int → Int → Bool} (h1 : rd s p = some (.int x)) (h2 : rd s q = some (.int y)) (h : R (.dat (.bl (z x y))) s) : bF z p q s R := r_two h1 h2 h
theorem r_neg (h1 : rd s p = some (.int x)) (h : R (.dat (.int (-x))) s) : negF p s R := r_one h1 h
theorem r_lt (h1 : rd s p = some d) (h2 : rd s q = some e) (h : ltG d e s R) : ltF p q s R := r_two h1 h2 h
theorem r_ltI (h : R (.dat (.bl (decide (x < y)))) s) : ltG (.int x) (.int y) s R := h
theorem r_ltT (h : R (.dat (.bl (HT.lexLt is js))) s) : ltG (.tup (dI is)) (.tup (dI js)) s R := ⟨is, js, rfl, rfl, h⟩
theorem r_eq {neg : Bool} (h1 : rd s p = some d) (h2 : rd s q = some e) (h : eqG neg d e s R) : eqF neg p q s R := r_two h1 h2 h
theorem r_eqI (h : R (.dat (.bl (decide (x = y)))) s) : eqG false (.int x) (.int y) s R := by
  show R (.dat (.bl (false ^^ decide (x = y)))) s
  rw [Bool.false_xor]
  exact h
theorem r_neI (h : R (.dat (.bl (!decide (x = y)))) s) : eqG true (.int x) (.int y) s R := by
  show R (.dat (.bl (true ^^ decide (x = y)))) s
  rw [Bool.true_xor]
  exact h
theorem r_eqS (h : R (.dat (.bl (decide (u = v)))) s) : eqG false (.str u) (.str v) s R := by
  show R (.dat (.bl (false ^^ decide (u = v)))) s
  rw [Bool.false_xor]
  exact h
theorem r_neS (h : R (.dat (.bl (!decide (u = v)))) s) : eqG true (.str u) (.str v) s R := by
  show R (.dat (.bl (true ^^ decide (u = v)))) s
  rw [Bool.true_xor]
  exact h
theorem r_eqB {b1 : Bool} (hb : decide (k = b) = b1) (h : R (.dat (.bl b1)) s) : eqG false (.bl k) (.bl b) s R := by
  subst hb
  show R (.dat (.bl (false ^^ decide (k = b)))) s
  rw [Bool.false_xor]
  exact h
theorem r_neB {b1 : Bool} (hb : (!decide (k = b)) = b1) (h : R (.dat (.bl b1)) s) : eqG true (.bl k) (.bl b) s R := by
  subst hb
  show R (.dat (.bl (true ^^ decide (k = b)))) s
  rw [Bool.true_xor]
  exact h
theorem r_eqL (h1 : (D.lst ds).fit ∧ (D.lst es).fit) (h : R (.dat (.bl (PyData.eqvAll (pds ds) (pds es)))) s) : eqG false (.lst ds) (.lst es) s R := by
  refine ⟨h1, ?_⟩
  rw [Bool.false_xor]
  exact h
theorem r_neL (h1 : (D.lst ds).fit ∧ (D.lst es).fit) (h : R (.dat (.bl (!PyData.eqvAll (pds ds) (pds es)))) s) : eqG true (.lst ds) (.lst es) s R := by
  refine ⟨h1, ?_⟩
  rw [Bool.true_xor]
  exact h
theorem r_eqT (h1 : (D.tup ds).fit ∧ (D.tup es).fit) (h : R (.dat (.bl (PyData.eqvAll (pds ds) (pds es)))) s) : eqG false (.tup ds) (.tup es) s R := by
  refine ⟨h1, ?_⟩
  rw [Bool.false_xor]
  exact h
theorem r_neT (h1 : (D.tup ds).fit ∧ (D.tup es).fit) (h : R (.dat (.bl (!PyData.eqvAll (pds ds) (pds es)))) s) : eqG true (.tup ds) (.tup es) s R := by
  refine ⟨h1, ?_⟩
  rw [Bool.true_xor]
  exact h
theorem r_isN (h1 : rd s p = some d) (hb : d.isN = b) (h : R (.dat (.bl b)) s) : isNF false p (.dat .non) s R := by
  subst hb
  refine r_one h1 ?_
  rw [Bool.false_xor]
  exact h
theorem r_notN (h1 : rd s p = some d) (hb : (!d.isN) = b) (h : R (.dat (.bl b)) s) : isNF true p (.dat .non) s R := by
  subst hb
  refine r_one h1 ?_
  rw [Bool.true_xor]
  exact h
theorem r_in {neg : Bool} (h1 : rd s p = some d) (h2 : rd s q = some e) (h : inG neg d e s R) : inF neg p q s R := r_two h1 h2 h
theorem r_inT {neg : Bool} (h1 : dI (toI ds) = ds) (hb : (neg ^^ decide (x ∈ toI ds)) = b) (h : R (.dat (.bl b)) s) : inG neg (.int x) (.tup ds) s R := by
  subst hb
  exact ⟨toI ds, h1.symm, h⟩
theorem r_inF (h1 : dI (toI ds) = ds) (h : R (.dat (.bl (decide (x ∈ toI ds)))) s) : inG false (.int x) (.tup ds) s R := by
  refine ⟨toI ds, h1.symm, ?_⟩
  rw [Bool.false_xor]
  exact h
theorem r_inN (h1 : dI (toI ds) = ds) (h : R (.dat (.bl (!decide (x ∈ toI ds)))) s) : inG true (.int x) (.tup ds) s R := by
  refine ⟨toI ds, h1.symm, ?_⟩
  rw [Bool.true_xor]
  exact h
theorem r_ix (h1 : rd s p = some d) (h2 : rd s q = some e) (h : ixG d e s R) : ixF p q s R := r_two h1 h2 h
theorem r_ixL (h1 : atI ds x = some d) (h : R (.dat d) s) : ixG (.lst ds) (.int x) s R := by
  show optK (atI ds x) _
  rw [h1]
  exact h
theorem r_ixC (h1 : atI ds x = some d) (h : R (.dat d) s) : ixG (.scr ds) (.int x) s R := by
  show optK (atI ds x) _
  rw [h1]
  exact h
theorem r_ixT (h1 : atI ds x = some d) (h : R (.dat d) s) : ixG (.tup ds) (.int x) s R := by
  show optK (atI ds x) _
  rw [h1]
  exact h
theorem r_slL {lo hi : Option Int} (h1 : rd s p = some (.lst ds)) (h : nw (.lst (cutD ds lo hi)) s R) : slF p lo hi s R := r_one h1 h
theorem r_slC {lo hi : Option Int} (h1 : rd s p = some (.scr ds)) (h : nw (.lst (cutD ds lo hi)) s R) : slF p lo hi s R := r_one h1 h
theorem r_slT {lo hi : Option Int} (h1 : rd s p = some (.tup ds)) (h : R (.dat (.tup (cutD ds lo hi))) s) : slF p lo hi s R := r_one h1 h
theorem r_slS {lo hi : Option Int} (h1 : rd s p = some (.str u)) (h2 : sz u.length) (h : R (.dat (.str (cutS u lo hi))) s) : slF p lo hi s R := r_one h1 ⟨h2, h⟩
-- built-ins
theorem r_lenL (h1 : rd s p = some (.lst ds)) (h : R (.dat (.int (ds.length : Int))) s) : lenF [p] s R := r_one h1 h
theorem r_lenC (h1 : rd s p = some (.scr ds)) (h : R (.dat (.int (ds.length : Int))) s) : lenF [p] s R := r_one h1 h
theorem r_lenT (h1 : rd s p = some (.tup ds)) (h : R (.dat (.int (ds.length : Int))) s) : lenF [p] s R := r_one h1 h
theorem r_lenS (h1 : rd s p = some (.str u)) (h2 : sz u.length) (h : R (.dat (.int (u.length : Int))) s) : lenF [p] s R := r_one h1 ⟨h2, h⟩
theorem r_abs (h1 : rd s p = some (.int x)) (h : R (.dat (.int (if x < 0 then -x else x))) s) : absF [p] s R := r_one h1 h
theorem r_intI (h1 : rd s p = some (.int x)) (h : R (.dat (.int x)) s) : intF [p] s R := r_one h1 h
theorem r_intB (h1 : rd s p = some (.bl b)) (h : R (.dat (.int (if b then 1 else 0))) s) : intF [p] s R := r_one h1 h
theorem r_max2 (h1 : rd s p = some (.int x)) (h2 : rd s q = some (.int y)) (h : R (.dat (.int (maxI x y))) s) : max2F [p, q] s R := r_two h1 h2 h
theorem r_min2 (h1 : rd s p = some (.int x)) (h2 : rd s q = some (.int y)) (h : R (.dat (.int (minI x y))) s) : min2F [p, q] s R := r_two h1 h2 h
theorem r_listL (h1 : rd s p = some (.lst ds)) (h : nw (.lst ds) s R) : listF [p] s R := r_one h1 h
theorem r_listC (h1 : rd s p = some (.scr ds)) (h : nw (.lst ds) s R) : listF [p] s R := r_one h1 h
theorem r_listT (h1 : rd s p = some (.tup ds)) (h : nw (.lst ds) s R) : listF [p] s R := r_one h1 h
theorem r_tupL (h1 : rd s p = some (.lst ds)) (h : R (.dat (.tup ds)) s) : tupF [p] s R := r_one h1 h
theorem r_tupC (h1 : rd s p = some (.scr ds)) (h : R (.dat (.tup ds)) s) : tupF [p] s R := r_one h1 h
theorem r_tupT (h1 : rd s p = some (.tup ds)) (h : R (.dat (.tup ds)) s) : tupF [p] s R := r_one h1 h
theorem r_sum (h1 : rd s p = some (.lst (dI is))) (h : R (.dat (.int is.sum)) s) : sumF [p] s R := r_one h1 ⟨is, rfl, h⟩
theorem r_all {bs : List Bool} (h1 : rd s p = some (.lst (dB bs))) (h : R (.dat (.bl (bs.all id))) s) : allF [p] s R := r_one h1 ⟨bs, rfl, h⟩
theorem r_allT {m : Nat} (h1 : rd s p = some (.lst (dB (List.replicate m true)))) (h : R (.dat (.bl true)) s) : allF [p] s R := by
  refine r_one h1 ⟨List.replicate m true, rfl, ?_⟩
  have e : (List.replicate m true).all id = true := by simp
  show R (.dat (.bl ((List.replicate m true).all id))) s
  rw [e]
  exact h
theorem r_any {bs : List Bool} (h1 : rd s p = some (.lst (dB bs))) (h : R (.dat (.bl (bs.any id))) s) : anyF [p] s R := r_one h1 ⟨bs, rfl, h⟩
theorem r_app (h1 : nth μ j = some (.lst ds)) (h2 : sz (ds.length + 1)) (hm : put μ j (.lst (ds ++ [d])) = μ') (h : R (.dat .non) ⟨Γ, μ'⟩) : appF (.cel j) [.dat d] ⟨Γ, μ⟩ R := by
  subst hm
  exact r_onLst h1 ⟨h2, h⟩
theorem r_ext (h1 : nth μ j = some (.lst ds)) (h4 : sz (ds.length + es.length)) (hm : put μ j (.lst (ds ++ es)) = μ') (h : R (.dat .non) ⟨Γ, μ'⟩) : extF (.cel j) [.dat (.lst es)] ⟨Γ, μ⟩ R := by
  subst hm
  exact r_onLst h1 ⟨trivial, r_one (d := .lst es) rfl ⟨h4, h⟩⟩
-- truth
theorem r_truB {RP : Bool → Prop} (h1 : rd s p = some (.bl b)) (h : RP b) : tru s p RP := r_one h1 h
theorem r_truI {RP : Bool → Prop} (h1 : rd s p = some (.int x)) (h : RP (x != 0)) : tru s p RP := r_one h1 h
theorem r_truL {RP : Bool → Prop} (h1 : rd s p = some (.lst ds)) (h : RP (!ds.isEmpty)) : tru s p RP := r_one h1 h
theorem r_truT {RP : Bool → Prop} (h1 : rd s p = some (.tup ds)) (h : RP (!ds.isEmpty)) : tru s p RP := r_one h1 h
theorem r_truN {RP : Bool → Prop} (h1 : rd s p = some .non) (h : RP false) : tru s p RP := r_one h1 h
-- the end
theorem r_out {fr : Bool} {R0 : Sl → List (Option MO) → Prop} (h : out fr n R0 r s) : (Dn.of fr n R0).rt r s := h
theorem r_outN {fr : Bool} {R0 : Sl → List (Option MO) → Prop} (h : out fr n R0 (.dat .non) s) : (Dn.of fr n R0).nx s := h
theorem r_outD {R0 : Sl → List (Option MO) → Prop} {fr : Bool} (hm : μ1.take n = μ') (h1 : belowAll n μ') (h : R0 (.dat d) μ') : out fr n R0 (.dat d) ⟨Γ, μ1⟩ := by
  subst hm
  exact ⟨h1, h⟩
theorem r_outC {R0 : Sl → List (Option MO) → Prop} (h0 : ¬ i < n) (h1 : nth μ1 i = some o) (hm : μ1.take n = μ') (h2 : belowAll n μ') (h3 : o.plain) (hd : o.d = d) (h : R0 (.dat d) μ') : out false n R0 (.cel i) ⟨Γ, μ1⟩ := by
  subst hm hd
  show (if i < n then _ else optK (nth μ1 i) _)
  rw [if_neg h0, h1]
  exact ⟨h2, h3, h⟩
theorem r_outF {R0 : Sl → List (Option MO) → Prop} (h0 : ¬ i < n) (h1 : nth μ1 i = some o) (hm : μ1.take n = μ') (h2 : belowAll n μ') (h3 : o.plain) (hl : μ' ++ [some o] = μ) (h : R0 (.cel n) μ) : out true n R0 (.cel i) ⟨Γ, μ1⟩ := by
  subst hm hl
  show (if i < n then _ else optK (nth μ1 i) _)
  rw [if_neg h0, h1]
  exact ⟨h2, h3, h⟩
theorem r_outB {R0 : Sl → List (Option MO) → Prop} {fr : Bool} (h0 : i < n) (hm : μ1.take n = μ') (h2 : belowAll n μ') (h : R0 (.cel i) μ') : out fr n R0 (.cel i) ⟨Γ, μ1⟩ := by
  subst hm
  show (if i < n then _ else optK (nth μ1 i) _)
  rw [if_pos h0]
  exact ⟨h2, h⟩
theorem n_k2 {α : Type} {y : α} {l : List α} {z : Option MO} (h : List.take l.length μ = μ') : List.take (y :: l).length (z :: μ) = z :: μ' := congrArg (z :: ·) h
theorem n_k3 {α : Type} : (List.take ([] : List α).length μ) = [] := rfl
theorem n_k0 : (List.take 0 μ) = [] := rfl
theorem n_k1 {z : Option MO} (h : List.take n μ = μ') : List.take (n + 1) (z :: μ) = z :: μ' := congrArg (z :: ·) h
theorem o_lst : (MO.lst ds).d = .lst ds := rfl
theorem o_dic {ks : List Key} {vs : List D} : (MO.dic ks vs).d = .dic ks vs := rfl
theorem o_dct {ks : List (List Key)} {vs : List D} : (MO.dct ks vs).d = .dct ks vs := rfl
/-- a loop over data that are not known one by one -/
theorem r_forI (I : List D → S → Prop) (h0 : I ds s) (hs : ∀ d ds s, I (d :: ds) s → (∀ s', I ds s' → forW g wb ds D' s') → g (.dat d) s fun s1 => wb { D' with nx := fun s2 => forW g wb ds D' s2, ct := fun s2 => forW g wb ds D' s2, bk := D'.nx } s1) (hn : ∀ s, I [] s → D'.nx s) : forW g wb ds D' s := by
  induction ds generalizing s with
  | nil => exact hn s h0
  | cons d ds ih => exact hs d ds s h0 fun s' h => ih h
theorem r_lcI {vs : List Nat} {RM : List D → List (Option MO) → Prop} (I : List D → List D → List (Option MO) → Prop) {acc : List D} (hw : wip Γ vs = Γ') (h0 : I ds acc μ)
    (hs : ∀ d ds acc μ, I (d :: ds) acc μ → (∀ acc' μ', I ds acc' μ' → lcW vs g wt we Γ ds acc' μ' RM) → g (.dat d) ⟨Γ', μ⟩ fun s1 => wt s1 fun b s2 =>
      if b = true then we s2 fun r s3 => lcP (acc.length + 1) r fun e => lcW vs g wt we Γ ds (acc ++ [e]) s3.μ RM else lcW vs g wt we Γ ds acc s2.μ RM)
    (hn : ∀ acc μ, I [] acc μ → RM acc μ) : lcW vs g wt we Γ ds acc μ RM := by
  subst hw
  induction ds generalizing acc μ with
  | nil => exact hn acc μ h0
  | cons d ds ih => exact hs d ds acc μ h0 fun acc' μ' h => ih h
theorem r_lcP {RP : D → Prop} (h1 : sz n) (h : RP d) : lcP n (.dat d) RP := ⟨h1, h⟩
theorem r_lc0 {vs : List Nat} {RM : List D → List (Option MO) → Prop} {acc : List D} (h : RM acc μ) : lcW vs g wt we Γ [] acc μ RM := h
theorem r_lc1 {vs : List Nat} {RM : List D → List (Option MO) → Prop} {acc : List D} (hN : wip Γ vs = Γ') (h : g (.dat d) ⟨Γ', μ⟩ fun s1 => wt s1 fun b s2 =>
      if b = true then we s2 fun r s3 => lcP (acc.length + 1) r fun e => lcW vs g wt we Γ ds (acc ++ [e]) s3.μ RM else lcW vs g wt we Γ ds acc s2.μ RM) : lcW vs g wt we Γ (d :: ds) acc μ RM := by
  subst hN
  exact h
end
end Gd
namespace Gd
open PySem PySem.Spec PyProof.Rows L2
/-! ### plain facts about data -/
theorem ixN_nn {n : Nat} {i : Int} (h0 : 0 ≤ i) (h1 : i < n) : ixN n i = some i.toNat := by
  unfold ixN
  rw [if_pos h0, if_pos h1]
theorem ixN_neg {n : Nat} {i : Int} (h0 : i < 0) (h1 : -(n : Int) ≤ i) : ixN n i = some (i + n).toNat := by
  unfold ixN
  rw [if_neg (by omega), if_pos h1]
theorem atI_nn {α : Type} {xs : List α} {i : Int} {x : α} (h0 : 0 ≤ i) (h1 : xs[i.toNat]? = some x) : atI xs i = some x := by
  unfold atI
  have h2 : i.toNat < xs.length := by
    rcases Nat.lt_or_ge i.toNat xs.length with h | h
    · exact h
    · rw [List.getElem?_eq_none h] at h1
      cases h1
  rw [ixN_nn h0 (by omega)]
  exact h1
theorem atI_neg {α : Type} {xs : List α} {i : Int} {x : α} (h0 : i < 0) (hn : -(xs.length : Int) ≤ i) (h1 : xs[(i + xs.length).toNat]? = some x) : atI xs i = some x := by
  unfold atI
  rw [ixN_neg h0 hn]
  exact h1
theorem dI_len (is : List Int) : (dI is).length = is.length := List.length_map ..
theorem dI_get {is : List Int} {k : Nat} {x : Int} (h : is[k]? = some x) : (dI is)[k]? = some (.int x) := by
  unfold dI
  rw [List.getElem?_map, h]
  rfl
theorem atI_dI {is : List Int} {i : Int} (h0 : 0 ≤ i) (h1 : i < is.length) : ∃ x, is[i.toNat]? = some x ∧ atI (dI is) i = some (.int x) := by
  have h2 : i.toNat < is.length := by omega
  exact ⟨is[i.toNat], List.getElem?_eq_getElem h2, atI_nn h0 (dI_get (List.getElem?_eq_getElem h2))⟩
theorem dI_set (is : List Int) (k : Nat) (x : Int) : (dI is).set k (.int x) = dI (is.set k x) := by
  unfold dI
  rw [List.map_set]
theorem dI_app (is js : List Int) : dI is ++ dI js = dI (is ++ js) := by
  unfold dI
  rw [List.map_append]
theorem dI_mem {is : List Int} {d : D} (h : d ∈ dI is) : ∃ x, x ∈ is ∧ d = .int x := by
  unfold dI at h
  obtain ⟨x, h1, h2⟩ := List.mem_map.mp h
  exact ⟨x, h1, h2.symm⟩
def cutL {α : Type} (ds : List α) (lo hi : Option Int) : List α := (ds.drop (HT.sIx ds.length 0 lo)).take (HT.sIx ds.length ds.length hi - HT.sIx ds.length 0 lo)
theorem cutD_dI (is : List Int) (lo hi : Option Int) : cutD (dI is) lo hi = dI (cutL is lo hi) := by
  unfold cutD cutL
  rw [dI_len]
  unfold dI
  rw [List.map_take, List.map_drop]
theorem cutL_hi {α : Type} (is : List α) (k : Nat) : cutL is none (some (k : Int)) = is.take k := by
  unfold cutL
  rw [HT.sIx_none, HT.sIx_nat, List.drop_zero, Nat.sub_zero]
  rcases Nat.le_total k is.length with h | h
  · rw [Nat.min_eq_left h]
  · rw [Nat.min_eq_right h, List.take_of_length_le h, List.take_of_length_le (Nat.le_refl _)]
theorem cutL_lo {α : Type} (is : List α) (k : Nat) : cutL is (some (k : Int)) none = is.drop k := by
  unfold cutL
  rw [HT.sIx_none, HT.sIx_nat]
  rcases Nat.le_total k is.length with h | h
  · rw [Nat.min_eq_left h, List.take_of_length_le (by rw [List.length_drop]; exact Nat.le_refl _)]
  · rw [Nat.min_eq_right h, List.drop_of_length_le h, List.drop_of_length_le (Nat.le_refl _)]
    exact List.take_nil
theorem cutL_len {α : Type} (is : List α) (j k : Nat) : (cutL is (some (j : Int)) (some (k : Int))).length = min k is.length - min j is.length := by
  unfold cutL
  rw [HT.sIx_nat, HT.sIx_nat, List.length_take, List.length_drop]
  omega
theorem enum_mem {ds : List D} {d : D} (h : d ∈ enumD ds) : ∃ (i : Nat) (e : D), ds[i]? = some e ∧ d = .tup [.int i, e] := by
  unfold enumD at h
  obtain ⟨⟨a, b⟩, h1, rfl⟩ := List.mem_map.mp h
  obtain ⟨i, hi⟩ := List.getElem?_of_mem h1
  rw [List.getElem?_zip_eq_some] at hi
  have h2 : i < ds.length := by
    rcases Nat.lt_or_ge i ds.length with h | h
    · exact h
    · rw [List.getElem?_eq_none h] at hi
      cases hi.2
  rw [rg_get _ _ _ h2] at hi
  refine ⟨i, b, hi.2, ?_⟩
  have h3 := hi.1
  simp only [Option.some.injEq] at h3
  rw [← h3, Int.zero_add]
theorem rg_mem {n : Nat} {lo : Int} {d : D} (h : d ∈ rg lo n) : ∃ i : Int, lo ≤ i ∧ i < lo + n ∧ d = .int i := by
  obtain ⟨i, hi⟩ := List.getElem?_of_mem h
  have h2 : i < n := by
    rcases Nat.lt_or_ge i n with h | h
    · exact h
    · rw [List.getElem?_eq_none (by rw [rg_len]; exact h)] at hi
      cases hi
  rw [rg_get _ _ _ h2] at hi
  exact ⟨lo + i, by omega, by omega, (Option.some.inj hi).symm⟩
theorem fmod2 (x : Int) {c : Int} (h : 0 < c) : 0 ≤ x.fmod c ∧ x.fmod c < c := ⟨Int.fmod_nonneg_of_pos x h, Int.fmod_lt_of_pos x h⟩
theorem dB_len (bs : List Bool) : (dB bs).length = bs.length := List.length_map ..
theorem dB_true (k : Nat) : dB (List.replicate k true) ++ [.bl true] = dB (List.replicate (k + 1) true) := by
  unfold dB
  rw [List.replicate_succ', List.map_append]
  rfl
theorem all_true (k : Nat) : (List.replicate k true).all id = true := by
  induction k with
  | zero => rfl
  | succ k ih => rw [List.replicate_succ, List.all_cons, ih]; rfl
theorem zip_self {ds : List D} {p : D} (h : p ∈ zipD ds ds) : ∃ a, a ∈ ds ∧ p = .tup [a, a] := by
  unfold zipD at h
  obtain ⟨⟨a, b⟩, h1, rfl⟩ := List.mem_map.mp h
  obtain ⟨i, hi⟩ := List.getElem?_of_mem h1
  rw [List.getElem?_zip_eq_some] at hi
  have e : a = b := Option.some.inj (hi.1.symm.trans hi.2)
  exact ⟨a, List.mem_of_getElem? hi.1, by rw [← e]⟩
theorem cmul_bit (a : Int) (k : Bool) : CMul a (if k = true then 1 else 0) := .inr (by cases k <;> decide)
/-- places and numbers -/
def enI (k : Int) : List Int → List D
  | [] => []
  | x :: t => .tup [.int k, .int x] :: enI (k + 1) t
theorem enum_dI (is : List Int) : enumD (dI is) = enI 0 is := by
  have h : ∀ (is : List Int) (k : Int), ((rg k (dI is).length).zip (dI is)).map (fun q => D.tup [q.1, q.2]) = enI k is := by
    intro is
    induction is with
    | nil => intro k; rfl
    | cons x t ih =>
      intro k
      show D.tup [.int k, .int x] :: ((rg (k + 1) (dI t).length).zip (dI t)).map (fun q => D.tup [q.1, q.2]) = _
      rw [ih]
      rfl
  exact h is 0
theorem zip_dI {xs ys : List Int} {p : D} (h : p ∈ zipD (dI xs) (dI ys)) : ∃ q : Int × Int, q ∈ xs.zip ys ∧ p = .tup [.int q.1, .int q.2] := by
  unfold zipD at h
  obtain ⟨⟨a, b⟩, h1, rfl⟩ := List.mem_map.mp h
  unfold dI at h1
  rw [List.zip_map] at h1
  obtain ⟨q, h2, h3⟩ := List.mem_map.mp h1
  cases h3
  exact ⟨q, h2, rfl⟩
theorem zip_dI_len (xs ys : List Int) : (zipD (dI xs) (dI ys)).length = min xs.length ys.length := by
  unfold zipD
  rw [List.length_map, List.length_zip, dI_len, dI_len]
theorem atI_last {α : Type} (ds : List α) (d : α) (i : Int) (h : i = ds.length) : atI (ds ++ [d]) i = some d := by
  subst h
  refine atI_nn (by omega) ?_
  rw [Int.toNat_natCast, List.getElem?_append_right (Nat.le_refl _), Nat.sub_self]
  rfl
theorem lay_ints : ∀ is : List Int, PyData.canLayAll0 (pds (dI is)) = true
  | [] => rfl
  | x :: t => lay_ints t
theorem dep_ints : ∀ is : List Int, PyData.depthAll (pds (dI is)) ≤ 1
  | [] => Nat.zero_le _
  | x :: t => by
    have h := dep_ints t
    show max (PyData.depth (.int x)) (PyData.depthAll (pds (dI t))) ≤ 1
    have e : PyData.depth (.int x) ≤ 1 := by simp [PyData.depth]
    omega
theorem fit_l (is : List Int) : (D.lst (dI is)).fit := by
  refine Bool.and_eq_true_iff.mpr ⟨lay_ints is, decide_eq_true ?_⟩
  have h := dep_ints is
  show PyData.depth (.list (pds (dI is))) ≤ 64
  simp only [PyData.depth]
  omega
theorem fit_t (is : List Int) : (D.tup (dI is)).fit := by
  refine Bool.and_eq_true_iff.mpr ⟨lay_ints is, decide_eq_true ?_⟩
  have h := dep_ints is
  show PyData.depth (.tuple (pds (dI is))) ≤ 64
  simp only [PyData.depth]
  omega
theorem eqv_dI : ∀ xs ys : List Int, PyData.eqvAll (pds (dI xs)) (pds (dI ys)) = decide (xs = ys)
  | [], [] => rfl
  | [], _ :: _ => by simp [PyData.eqvAll, pds, dI]
  | _ :: _, [] => by simp [PyData.eqvAll, pds, dI]
  | x :: xs, y :: ys => by
    have ih := eqv_dI xs ys
    show (PyData.eqv (.int x) (.int y) && PyData.eqvAll (pds (dI xs)) (pds (dI ys))) = _
    rw [ih]
    by_cases e1 : x = y <;> by_cases e2 : xs = ys <;> simp [PyData.eqv, e1, e2]
def toB : List D → List Bool
  | .bl i :: t => i :: toB t
  | _ :: t => false :: toB t
  | [] => []
theorem r_allQ {s : S} {p : Sl} {ds : List D} {R : Sl → S → Prop} (h1 : rd s p = some (.lst ds)) (h2 : dB (toB ds) = ds) (h3 : ∀ x ∈ toB ds, x = true) (h : R (.dat (.bl true)) s) : allF [p] s R := by
  refine r_one h1 ⟨toB ds, h2.symm, ?_⟩
  have e : (toB ds).all id = true := List.all_eq_true.mpr h3
  show R (.dat (.bl ((toB ds).all id))) s
  rw [e]
  exact h
/-- a box of draws -/
def Box (n : Nat) (o : MO) : Prop := ∃ x y z : Int, o = .lst [.int x, .int y, .int z] ∧ 0 ≤ x ∧ 17 ≤ y ∧ y ≤ 2 ^ 62 ∧ 0 ≤ z ∧ z ≤ (n : Int)
theorem Box.mono {n m : Nat} {o : MO} (h : Box n o) (l : n ≤ m) : Box m o := by
  obtain ⟨x, y, z, h1, h2, h3, h4, h5, h6⟩ := h
  exact ⟨x, y, z, h1, h2, h3, h4, h5, by omega⟩
/-- where a box with so many draws stands -/
theorem Box.below {n m : Nat} {o : MO} (h : Box n o) : o.below m := by
  obtain ⟨x, y, z, rfl, _⟩ := h
  trivial
theorem Box.plain {n : Nat} {o : MO} (h : Box n o) : o.plain := by
  obtain ⟨x, y, z, rfl, _⟩ := h
  trivial
end Gd
namespace Gd
open PySem PySem.Spec PyProof.Rows L2
/-! ### calls with keywords, calls that leave defaults -/
def upK (K : PySem.W.Frag) (w : WA) : TA := upA K w
section
variable {X : Cx} {e : Expr} {es : List Expr} {kws : List Keyword} {we : WE} {wr wa wk : WA} {nm : Option Str} {kpos : Pos}
theorem pk_imp {a a' : TA} (h : PK X kws a) (i : ∀ σ H Q, a' σ H Q → a σ H Q) : PK X kws a' := ⟨fun p pins s σ H Q I w => h.run p pins s σ H Q I (i σ H Q w)⟩
theorem k_nil : PK X [] (upK X.K waNil) := pk_imp pk_nil fun σ H Q ⟨A, as, s, R, ok, w, k⟩ => k [] H [] s as Stp.refl ok trivial w
theorem k_cons (ha : PE X e (up X.K we)) (hr : PK X kws (upK X.K wr)) : PK X (⟨nm, e, kpos⟩ :: kws) (upK X.K (waCons we wr)) :=
  pk_imp (pk_cons ha hr) fun σ H Q ⟨A, as, s, R, ok, w, k⟩ =>
    ⟨A, as, s, _, ok, w, fun v1 H1 p s1 as1 st1 ok1 r1 w1 => ⟨A, as1, s1, _, ok1, w1, fun vs H2 ps s2 as2 st2 ok2 r2 w2 => k (v1 :: vs) H2 (p :: ps) s2 as2 (st1.trans st2) ok2 ⟨r1.mono st2.le st2.pre, r2⟩ w2⟩⟩
theorem RepSs.app {K : PySem.W.Frag} {F : Hp} {as : List Addr} : ∀ {vs ws : List V} {ps qs : List Sl}, RepSs K F as vs ps → RepSs K F as ws qs → RepSs K F as (vs ++ ws) (ps ++ qs)
  | [], _, [], _, _, h => h
  | _ :: _, _, _ :: _, _, h1, h => ⟨h1.1, RepSs.app h1.2 h⟩
  | [], _, _ :: _, _, h, _ => h.elim
  | _ :: _, _, [], _, h, _ => h.elim
theorem RepSs.monoS {K : PySem.W.Frag} {F F' : Hp} {as as' : List Addr} (le : Le F F') (p : as <+: as') : ∀ {vs : List V} {ps : List Sl}, RepSs K F as vs ps → RepSs K F' as' vs ps
  | [], [], _ => trivial
  | _ :: _, _ :: _, h => ⟨h.1.mono le p, RepSs.monoS le p h.2⟩
  | [], _ :: _, h => h.elim
  | _ :: _, [], h => h.elim
end
/-- what binds values and then keywords' values -/
def kg {α : Type} (a b : List α) : List α := a ++ b
structure FnKw (P : Program) (w : World) (K : PySem.W.Frag) (mg : Str → Option Value) (base : Heap) (x : Str) (k n a : Nat) (ks : List Str) (fs : FS) : Prop where
  ex : ∃ (f : Addr) (fd : FuncData) (ps : List Str), FnOk P w K mg base CX0 k f fd ps (spD K n fs) ∧ mg x = some (.ref f) ∧ PySem.W.keepIn K (.ref f) = true ∧ KBn K fd ps a ks (kg (α := Value)) (kg (α := V))
/-- plain data that a def's head holds -/
def atomV : D → V
  | .bl b => .bl b
  | .int i => .int i
  | .str x => .str x
  | _ => .non
def isAtom : D → Prop
  | .bl _ => True
  | .int _ => True
  | .str _ => True
  | .non => True
  | _ => False
theorem atom_rep {K : PySem.W.Frag} {F : Hp} {as : List Addr} : ∀ {dd : List D}, (∀ d ∈ dd, isAtom d) → RepSs K F as (dd.map atomV) (dd.map .dat)
  | [], _ => trivial
  | d :: dd, h => by
    refine ⟨?_, atom_rep fun x hx => h x (List.mem_cons_of_mem _ hx)⟩
    have h1 := h d (List.mem_cons_self ..)
    cases d with
    | non => exact .non
    | bl b => exact .bl
    | int b => exact .int
    | str b => exact .str
    | _ => exact h1.elim
structure FnDf (P : Program) (w : World) (K : PySem.W.Frag) (mg : Str → Option Value) (base : Heap) (x : Str) (k n : Nat) (dd : List D) (fs : FS) : Prop where
  ex : ∃ (f : Addr) (fd : FuncData) (ps : List Str) (ds : List Value), FnOk P w K mg base CX0 k f fd ps (spD K n fs) ∧ mg x = some (.ref f) ∧ PySem.W.keepIn K (.ref f) = true ∧ Binds K fd ps ds ∧ Vals (dd.map atomV) ds ∧ ∀ d ∈ dd, isAtom d
section
variable {X : Cx} {x : Str} {e : Expr} {es : List Expr} {kws : List Keyword} {p pos : Pos} {wa wk : WA} {k n a : Nat} {ks : List Str} {fs : FS} {dd : List D}
def wCallK (n a b : Nat) (f : FS) (wa wk : WA) : WE := fun s R => wa s fun ps s1 => wk s1 fun qs s2 => (ps.length = a ∧ qs.length = b) ∧ callP n f (ps ++ qs) s2 R
def wCallD (n : Nat) (f : FS) (dd : List D) (wa : WA) : WE := fun s R => wa s fun ps s1 => callP n f (ps ++ dd.map .dat) s1 R
theorem e_callK (G : FnKw X.prog X.w X.K X.mg X.base x k n a ks fs) (hr : Room k X.A) (hg : Gl X x) (ha : PA X (e :: es) (upA X.K wa)) (hkw : PK X kws (upK X.K wk)) (hall : (backToKw pos (keywordEach kws X.env)).all (·.1.isSome) = true := by rfl) (hks : (backToKw pos (keywordEach kws X.env)).filterMap (·.1) = ks := by rfl)
    (hdb : (x == ("__debug__" : Str)) = false := by decide) (he : starEach (e :: es) X.env = (false, eval e X.env) :: starEach es X.env := by rfl)
    (hpl : ((backTo pos (starEach (e :: es) X.env)).any (·.1) || (backToKw pos (keywordEach kws X.env)).any (·.1.isNone)) = false := by rfl) :
    PE X (.Call (.Name x p) (e :: es) kws pos) (up X.K (wCallK n a ks.length fs wa wk)) := by
  obtain ⟨f, fd, ps, F, hm, hk, hb⟩ := G.ex
  exact pe_imp (pe_callN F hr hg hm hk hb L2.pass0 ha hkw hall hks hdb he hpl) fun σ H Q ⟨A, as, s, R, ok, w, kk⟩ =>
    ⟨A, as, s, _, ok, w, fun vs H1 ps s1 as1 st1 ok1 r1 w1 => ⟨A, as1, s1, _, ok1, w1, fun zs H2 qs s2 as2 st2 ok2 r2 w2 =>
      ⟨r1.len.trans w2.1.1, r2.len.trans w2.1.2, callP_ok ok2 ((r1.monoS st2.le st2.pre).app r2) w2.2 fun v3 H3 t s3 as3 st3 ok3 r3 w3 => kk v3 H3 t s3 as3 (st1.trans (st2.trans st3)) ok3 r3 w3⟩⟩⟩
theorem e_callD (G : FnDf X.prog X.w X.K X.mg X.base x k n dd fs) (hr : Room k X.A) (hg : Gl X x) (ha : PA X (e :: es) (upA X.K wa)) (hdb : (x == ("__debug__" : Str)) = false := by decide) (he : starEach (e :: es) X.env = (false, eval e X.env) :: starEach es X.env := by rfl)
    (hpl : (backTo pos (starEach es X.env)).any (·.1) = false := by rfl) : PE X (.Call (.Name x p) (e :: es) [] pos) (up X.K (wCallD n fs dd wa)) := by
  obtain ⟨f, fd, ps, ds, F, hm, hk, hb, hv, hd⟩ := G.ex
  exact pe_imp (pe_call F hr hg hm hk hb hv L2.pass0 ha hdb he hpl) fun σ H Q ⟨A, as, s, R, ok, w, kk⟩ =>
    ⟨A, as, s, _, ok, w, fun vs H1 ps s1 as1 st1 ok1 r1 w1 =>
      callP_ok ok1 (r1.app (atom_rep hd)) w1 fun v3 H3 t s3 as3 st3 ok3 r3 w3 => kk v3 H3 t s3 as3 (st1.trans st3) ok3 r3 w3⟩
theorem FnKw.mono {P : Program} {w : World} {K : PySem.W.Frag} {mg : Str → Option Value} {base : Heap} {j : Nat} (G : FnKw P w K mg base x j n a ks fs) (h : j ≤ k) : FnKw P w K mg base x k n a ks fs := by
  obtain ⟨f, fd, ps, F, r⟩ := G.ex
  exact ⟨f, fd, ps, F.mono h, r⟩
theorem FnDf.mono {P : Program} {w : World} {K : PySem.W.Frag} {mg : Str → Option Value} {base : Heap} {j : Nat} (G : FnDf P w K mg base x j n dd fs) (h : j ≤ k) : FnDf P w K mg base x k n dd fs := by
  obtain ⟨f, fd, ps, ds, F, r⟩ := G.ex
  exact ⟨f, fd, ps, ds, F.mono h, r⟩
/-- every parameter is written, the last ones by keyword -/
theorem kbn_all {K : PySem.W.Frag} {qual : Str} {params : Arguments} {body : List Stmt} {scope : Scope} {kws : List (Str × V)} {f : Addr} {fd : FuncData} {ps : List Str} (F : FunD K x qual params body scope [] kws f fd)
    (h : ∀ (kV doc pm : Value) (an : Option Addr) (cdv ct : Value) (us ws : List Value), us.length = a → ws.length = ks.length → bindArgs (PySem.W.fnOf x qual params body scope .none kV doc pm an cdv ct) ⟨us, ks.zip ws⟩ = pure (ps.zip (us ++ ws))) : KBn K fd ps a ks (kg (α := Value)) (kg (α := V)) := by
  obtain ⟨oc, od, dV, kV, doc, pm, an, cdv, ct, osl, rfl, lk, hcd, hD, hK⟩ := F.ex
  rcases hD with ⟨_, rfl⟩ | ⟨e, _⟩
  · exact ⟨fun s us ws _ l1 l2 => .of_eq (h kV doc pm an cdv ct us ws l1 l2), fun r1 r2 => r1.append r2⟩
  · exact absurd rfl e
end
section
variable {s : S} {R : Sl → S → Prop} {n a b : Nat} {fs : FS} {wa wk : WA} {ps qs : List Sl} {dd : List D}
def ckK (n a b : Nat) (f : FS) (ps qs : List Sl) (s : S) (R : Sl → S → Prop) : Prop := (ps.length = a ∧ qs.length = b) ∧ callP n f (ps ++ qs) s R
def cdK (n : Nat) (f : FS) (dd : List D) (ps : List Sl) (s : S) (R : Sl → S → Prop) : Prop := callP n f (ps ++ dd.map Sl.dat) s R
theorem r_callK (h : wa s fun ps s1 => wk s1 fun qs s2 => ckK n a b fs ps qs s2 R) : wCallK n a b fs wa wk s R := h
theorem r_cK (h1 : ps.length = a) (h2 : qs.length = b) (h3 : noCel (ps ++ qs)) (h4 : (ps ++ qs).length = n) (h : fs (ps ++ qs) [] (retP s R)) : ckK n a b fs ps qs s R := ⟨⟨h1, h2⟩, h4, h3, h⟩
theorem r_callD (h : wa s fun ps s1 => cdK n fs dd ps s1 R) : wCallD n fs dd wa s R := h
theorem r_cD (h3 : noCel (ps ++ dd.map Sl.dat)) (h4 : (ps ++ dd.map Sl.dat).length = n) (h : fs (ps ++ dd.map Sl.dat) [] (retP s R)) : cdK n fs dd ps s R := ⟨h4, h3, h⟩
end
/-- a statement that is not reached -/
def wNo : WS := fun _ _ => False
theorem s_no {X : Cx} {st : Stmt} : PS X st (upS X.K wNo) := ⟨fun _ _ _ _ _ _ ⟨_, _, _, _, _, w, _⟩ => w.elim⟩
/-! ### the law's own def, as it is called -/
def fs_law : FS := fun args μ R => ∃ is : List Int, args = [.dat (.scr (dI is))] ∧ is.length ≤ 63 ∧ μ = [] ∧ R (.dat (.bl true)) []
theorem law_in {K : PySem.W.Frag} {H : Hp} {a : Addr} {ns : List Int} {E : XK} (hS : SqL K H a (ns.map V.int)) (hl : ns.length ≤ 63) : spD K 1 fs_law [.ref a] H (fun v _ => v = .bl true) E := by
  have hL : RepL K (vw { M0 := fun _ => False, H0 := H, pin := H, as0 := [], He := H } [] [] H) (ns.map V.int) (dI ns) := by
    clear hS hl
    induction ns with
    | nil => exact .nil
    | cons x t ih => exact .cons .int ih
  have hv : ∀ a, vw { M0 := fun _ => False, H0 := H, pin := H, as0 := [], He := H } [] [] H a = H a := fun a => by
    unfold vw
    rw [if_neg]
    rintro (h | ⟨i, o, h, _⟩)
    · exact h
    · cases h
  have hve : vw { M0 := fun _ => False, H0 := H, pin := H, as0 := [], He := H } [] [] H = H := funext hv
  refine ⟨{ M0 := fun _ => False, H0 := H, pin := H, as0 := [], He := H }, [], [.dat (.scr (dI ns))], [], fun r _ => r = .dat (.bl true), rfl, rfl, rfl, ?_, ⟨ns, rfl, hl, rfl, rfl⟩, ?_⟩
  · refine ⟨rfl, List.nodup_nil, (fun a h => nomatch h), (fun a h => nomatch h), (fun a h => h.elim), ?_, fun i r h => ?_, (fun i a o h => by cases h), rfl, (fun a h => nomatch h), fun a h => h⟩
    · show Le H (vw { M0 := fun _ => False, H0 := H, pin := H, as0 := [], He := H } [] [] H)
      rw [hve]
      exact Le.refl _
    · cases i with
      | zero =>
        cases h
        refine ⟨.ref a, rfl, ?_⟩
        show Rep K (vw { M0 := fun _ => False, H0 := H, pin := H, as0 := [], He := H } [] [] H) (.ref a) (.scr (dI ns))
        rw [hve] at hL ⊢
        exact .scr hS hL
      | succ i => cases h
  · rintro v H' r μ' as' _ _ _ hr rfl
    cases hr
    rfl
end Gd
namespace K38
open PySem PySem.Spec PyProof.Rows L2 Gd
/-! ### great lines: the mathematics -/
/-- (free, shut) ways of so many persons -/
def ends (lf : Bool) : Nat → Int × Int
  | 0 => (1, 1)
  | n + 1 => ((ends lf n).1 + (if n = 0 ∧ lf = false then 0 else (ends lf n).2), (ends lf n).1)
def zz (lf : Bool) (n : Nat) : Int := (ends lf n).1
def sh (lf : Bool) (n : Nat) : Int := (ends lf n).2
theorem zz_pos (lf : Bool) : ∀ n, 1 ≤ zz lf n ∧ 1 ≤ sh lf n
  | 0 => by cases lf <;> decide
  | n + 1 => by
    have h := zz_pos lf n
    unfold zz sh at h ⊢
    simp only [ends]
    split <;> omega
theorem sh_succ (lf : Bool) (n : Nat) : sh lf (n + 1) = zz lf n := rfl
theorem zz_succ (lf : Bool) (n : Nat) : zz lf (n + 1) = zz lf n + (if n = 0 ∧ lf = false then 0 else sh lf n) := rfl
/-- what stays free to be counted -/
def bnd (lf fr : Bool) (r : Nat) : Int := if fr then zz lf r else sh lf r
def greedy (lf : Bool) : Nat → Int → List Int
  | 0, _ => []
  | r + 1, n => if zz lf r ≤ n then 1 :: greedy lf r (n - zz lf r) else 0 :: greedy lf r n
def val (lf : Bool) : List Int → Int
  | [] => 0
  | b :: t => (if b = 1 then zz lf t.length else 0) + val lf t
def Gd1 (lf : Bool) : Bool → List Int → Prop
  | _, [] => True
  | fr, b :: t => (b = 0 ∧ Gd1 lf true t) ∨ (b = 1 ∧ fr = true ∧ (t.length = 0 ∧ lf = false → False) ∧ Gd1 lf false t)
theorem greedy_len (lf : Bool) : ∀ (r : Nat) (n : Int), (greedy lf r n).length = r
  | 0, _ => rfl
  | r + 1, n => by
    unfold greedy
    split <;> exact congrArg Nat.succ (greedy_len lf r _)
theorem greedy_ok (lf : Bool) : ∀ (r : Nat) (fr : Bool) (n : Int), 0 ≤ n → n < bnd lf fr r → Gd1 lf fr (greedy lf r n) ∧ val lf (greedy lf r n) = n
  | 0, fr, n, h0, h1 => by
    refine ⟨trivial, ?_⟩
    have : bnd lf fr 0 = 1 := by cases fr <;> cases lf <;> decide
    show (0 : Int) = n
    omega
  | r + 1, fr, n, h0, h1 => by
    unfold greedy
    by_cases hz : zz lf r ≤ n
    · rw [if_pos hz]
      have hfr : fr = true := by
        cases fr with
        | true => rfl
        | false =>
          unfold bnd at h1
          rw [if_neg (by decide), sh_succ] at h1
          omega
      subst hfr
      unfold bnd at h1
      rw [if_pos rfl, zz_succ] at h1
      have hn : ¬ (r = 0 ∧ lf = false) := fun e => by
        rw [if_pos e] at h1
        omega
      rw [if_neg hn] at h1
      obtain ⟨h2, h3⟩ := greedy_ok lf r false (n - zz lf r) (by omega) (by unfold bnd; rw [if_neg (by decide)]; omega)
      refine ⟨.inr ⟨rfl, rfl, ?_, h2⟩, ?_⟩
      · rw [greedy_len]
        exact hn
      · show (if (1 : Int) = 1 then zz lf (greedy lf r (n - zz lf r)).length else 0) + val lf (greedy lf r (n - zz lf r)) = n
        rw [if_pos rfl, greedy_len, h3]
        omega
    · rw [if_neg hz]
      obtain ⟨h2, h3⟩ := greedy_ok lf r true n h0 (by unfold bnd; rw [if_pos rfl]; omega)
      refine ⟨.inl ⟨rfl, h2⟩, ?_⟩
      show (if (0 : Int) = 1 then zz lf (greedy lf r n).length else 0) + val lf (greedy lf r n) = n
      rw [if_neg (by decide), h3]
      omega
theorem val_ok (lf : Bool) : ∀ (bs : List Int) (fr : Bool), Gd1 lf fr bs → 0 ≤ val lf bs ∧ val lf bs < bnd lf fr bs.length ∧ greedy lf bs.length (val lf bs) = bs
  | [], fr, _ => by
    refine ⟨Int.le_refl _, ?_, rfl⟩
    cases fr <;> cases lf <;> decide
  | b :: t, fr, h => by
    rcases h with ⟨rfl, h⟩ | ⟨rfl, rfl, hn, h⟩
    · obtain ⟨h1, h2, h3⟩ := val_ok lf t true h
      have e : val lf (0 :: t) = val lf t := by
        show (if (0 : Int) = 1 then zz lf t.length else 0) + val lf t = val lf t
        rw [if_neg (by decide)]
        omega
      rw [e]
      unfold bnd at h2
      rw [if_pos rfl] at h2
      have hp := zz_pos lf t.length
      refine ⟨h1, ?_, ?_⟩
      · unfold bnd
        cases fr with
        | true =>
          rw [if_pos rfl, List.length_cons, zz_succ]
          split <;> omega
        | false =>
          rw [if_neg (by decide), List.length_cons, sh_succ]
          exact h2
      · rw [List.length_cons]
        unfold greedy
        rw [if_neg (by omega), h3]
    · obtain ⟨h1, h2, h3⟩ := val_ok lf t false h
      have e : val lf (1 :: t) = zz lf t.length + val lf t := by
        show (if (1 : Int) = 1 then zz lf t.length else 0) + val lf t = _
        rw [if_pos rfl]
      rw [e]
      unfold bnd at h2 ⊢
      rw [if_neg (by decide)] at h2
      have hp := zz_pos lf t.length
      refine ⟨by omega, ?_, ?_⟩
      · rw [if_pos rfl, List.length_cons, zz_succ, if_neg hn]
        omega
      · rw [List.length_cons]
        unfold greedy
        rw [if_pos (by omega), show zz lf t.length + val lf t - zz lf t.length = val lf t by omega, h3]
theorem greedy_lt (lf : Bool) : ∀ (r : Nat) (fr : Bool) (a b : Int), 0 ≤ a → a < b → b < bnd lf fr r → HT.lexLt (greedy lf r a) (greedy lf r b) = true
  | 0, fr, a, b, h0, h1, h2 => by
    have : bnd lf fr 0 = 1 := by cases fr <;> cases lf <;> decide
    omega
  | r + 1, fr, a, b, h0, h1, h2 => by
    unfold greedy
    have hp := zz_pos lf r
    by_cases ha : zz lf r ≤ a
    · rw [if_pos ha, if_pos (by omega)]
      have h3 : b - zz lf r < bnd lf false r := by
        unfold bnd at h2 ⊢
        rw [if_neg (by decide)]
        cases fr with
        | true =>
          rw [if_pos rfl, zz_succ] at h2
          split at h2 <;> omega
        | false =>
          rw [if_neg (by decide), sh_succ] at h2
          omega
      have ih := greedy_lt lf r false (a - zz lf r) (b - zz lf r) (by omega) (by omega) h3
      simp [HT.lexLt, ih]
    · rw [if_neg ha]
      by_cases hb : zz lf r ≤ b
      · rw [if_pos hb]
        simp [HT.lexLt]
      · rw [if_neg hb]
        have ih := greedy_lt lf r true a b h0 h1 (by unfold bnd; rw [if_pos rfl]; omega)
        simp [HT.lexLt, ih]
/-! whole lines and rings -/
def rest (ring : Bool) : Nat → Int → List Int
  | 0, _ => []
  | r + 1, n => if ring then (if zz true r ≤ n then 1 :: greedy false r (n - zz true r) else 0 :: greedy true r n) else greedy false (r + 1) n
theorem rest_t (r : Nat) (n : Int) : rest true (r + 1) n = if zz true r ≤ n then 1 :: greedy false r (n - zz true r) else 0 :: greedy true r n := by
  rw [rest]
  exact if_pos rfl
def num (ring : Bool) : List Int → Int
  | [] => 0
  | b :: t => if ring then (if b = 1 then zz true t.length + val false t else val true t) else val false (b :: t)
def cnt (ring : Bool) (m : Nat) : Int := if ring then zz true (m - 1) + sh false (m - 1) else zz false m
def GoodR (ring : Bool) : List Int → Prop
  | [] => True
  | b :: t => if ring then (b = 1 ∧ Gd1 false false t) ∨ (b = 0 ∧ Gd1 true true t) else Gd1 false true (b :: t)
theorem rest_len (ring : Bool) (m : Nat) (n : Int) : (rest ring m n).length = m := by
  cases m with
  | zero => rfl
  | succ r =>
    cases ring with
    | false => exact greedy_len _ _ _
    | true =>
      rw [rest_t]
      split <;> exact congrArg Nat.succ (greedy_len _ r _)
theorem rest_ok (ring : Bool) (r : Nat) (n : Int) (h0 : 0 ≤ n) (h1 : n < cnt ring (r + 1)) : GoodR ring (rest ring (r + 1) n) ∧ num ring (rest ring (r + 1) n) = n := by
  cases ring with
  | false =>
    have h := greedy_ok false (r + 1) true n h0 (by unfold bnd; rw [if_pos rfl]; exact h1)
    have e : rest false (r + 1) n = greedy false (r + 1) n := rfl
    rw [e]
    cases hg : greedy false (r + 1) n with
    | nil =>
      have := greedy_len false (r + 1) n
      rw [hg] at this
      cases this
    | cons b t =>
      rw [hg] at h
      exact h
  | true =>
    unfold cnt at h1
    rw [if_pos rfl, Nat.add_sub_cancel] at h1
    rw [rest_t]
    by_cases hz : zz true r ≤ n
    · rw [if_pos hz]
      have h := greedy_ok false r false (n - zz true r) (by omega) (by show n - zz true r < sh false r; omega)
      refine ⟨.inl ⟨rfl, h.1⟩, ?_⟩
      show (if (1 : Int) = 1 then zz true (greedy false r (n - zz true r)).length + val false (greedy false r (n - zz true r)) else val true (greedy false r (n - zz true r))) = n
      rw [if_pos rfl, greedy_len, h.2]
      omega
    · rw [if_neg hz]
      have h := greedy_ok true r true n h0 (by unfold bnd; rw [if_pos rfl]; omega)
      exact ⟨.inr ⟨rfl, h.1⟩, h.2⟩
theorem rest_lt (ring : Bool) (r : Nat) (a b : Int) (h0 : 0 ≤ a) (h : a < b) (h1 : b < cnt ring (r + 1)) : HT.lexLt (rest ring (r + 1) a) (rest ring (r + 1) b) = true := by
  cases ring with
  | false => exact greedy_lt false (r + 1) true a b h0 h (by unfold bnd; rw [if_pos rfl]; exact h1)
  | true =>
    unfold cnt at h1
    rw [if_pos rfl, Nat.add_sub_cancel] at h1
    rw [rest_t, rest_t]
    by_cases ha : zz true r ≤ a
    · rw [if_pos ha, if_pos (by omega)]
      have ih := greedy_lt false r false (a - zz true r) (b - zz true r) (by omega) (by omega) (by show b - zz true r < sh false r; omega)
      simp [HT.lexLt, ih]
    · rw [if_neg ha]
      by_cases hb : zz true r ≤ b
      · rw [if_pos hb]
        simp [HT.lexLt]
      · rw [if_neg hb]
        have ih := greedy_lt true r true a b h0 h (by unfold bnd; rw [if_pos rfl]; omega)
        simp [HT.lexLt, ih]
/-- a line's row is a ring's row, too -/
theorem Gd1.lf : ∀ {bs : List Int} {fr : Bool}, Gd1 false fr bs → Gd1 true fr bs
  | [], _, _ => trivial
  | b :: t, fr, h => by
    rcases h with ⟨h1, h2⟩ | ⟨h1, h2, h3, h4⟩
    · exact .inl ⟨h1, h2.lf⟩
    · exact .inr ⟨h1, h2, (fun e => nomatch e.2), h4.lf⟩
theorem ring_back (b : Int) (t : List Int) (h : GoodR false (b :: t)) : num true (b :: t) < cnt true (t.length + 1) ∧ 0 ≤ num true (b :: t) ∧ rest true (t.length + 1) (num true (b :: t)) = b :: t := by
  have hg : Gd1 false true (b :: t) := h
  clear h
  unfold cnt
  rw [if_pos rfl, Nat.add_sub_cancel]
  have hp := zz_pos false t.length
  have hq := zz_pos true t.length
  rcases hg with ⟨rfl, h⟩ | ⟨rfl, _, h3, h⟩
  · obtain ⟨h1, h2, h3⟩ := val_ok true t true h.lf
    have e : num true (0 :: t) = val true t := rfl
    unfold bnd at h2
    rw [if_pos rfl] at h2
    rw [e]
    refine ⟨by omega, h1, ?_⟩
    rw [rest_t, if_neg (by omega), h3]
  · obtain ⟨h1, h2, h3⟩ := val_ok false t false h
    have e : num true (1 :: t) = zz true t.length + val false t := rfl
    unfold bnd at h2
    rw [if_neg (by decide)] at h2
    rw [e]
    refine ⟨by omega, by omega, ?_⟩
    rw [rest_t, if_pos (by omega), show zz true t.length + val false t - zz true t.length = val false t by omega, h3]
/-- the row's own law -/
def lat (ring : Bool) : List Int → List Int
  | [] => []
  | b :: t => t ++ [if ring then b else 1]
theorem pairs_ok (lf : Bool) (e : Int) (he : lf = true → e = 0) : ∀ (bs : List Int) (fr : Bool), Gd1 lf fr bs → ∀ p ∈ bs.zip (bs.tail ++ [e]), (p.1 = 0 ∨ p.1 = 1) ∧ p.1 * p.2 = 0
  | [], _, _, p, hp => by cases hp
  | [b], fr, h, p, hp => by
    simp only [List.tail_cons, List.nil_append, List.zip_cons_cons, List.zip_nil_left, List.mem_singleton] at hp
    subst hp
    rcases h with ⟨rfl, _⟩ | ⟨rfl, _, h3, _⟩
    · exact ⟨.inl rfl, Int.zero_mul _⟩
    · refine ⟨.inr rfl, ?_⟩
      cases lf with
      | false => exact (h3 ⟨rfl, rfl⟩).elim
      | true => rw [he rfl]; rfl
  | b :: c :: t, fr, h, p, hp => by
    simp only [List.tail_cons, List.cons_append, List.zip_cons_cons, List.mem_cons] at hp
    rcases h with ⟨rfl, h⟩ | ⟨rfl, _, h3, h⟩
    · rcases hp with rfl | hp
      · exact ⟨.inl rfl, Int.zero_mul _⟩
      · exact pairs_ok lf e he (c :: t) true h p (by simpa using hp)
    · rcases hp with rfl | hp
      · refine ⟨.inr rfl, ?_⟩
        rcases h with ⟨rfl, _⟩ | ⟨_, z, _⟩
        · rfl
        · cases z
      · exact pairs_ok lf e he (c :: t) false h p (by simpa using hp)
theorem Gd1.bits {lf : Bool} : ∀ {bs : List Int} {fr : Bool}, Gd1 lf fr bs → ∀ x ∈ bs, x = 0 ∨ x = 1
  | b :: t, fr, h, x, hx => by
    rcases h with ⟨h1, h2⟩ | ⟨h1, _, _, h2⟩
    · rcases List.mem_cons.mp hx with rfl | hx
      · exact .inl h1
      · exact h2.bits x hx
    · rcases List.mem_cons.mp hx with rfl | hx
      · exact .inr h1
      · exact h2.bits x hx
theorem good_bits {ring : Bool} {bs : List Int} (h : GoodR ring bs) : ∀ x ∈ bs, x = 0 ∨ x = 1 := by
  cases bs with
  | nil => intro x hx; cases hx
  | cons b t =>
    cases ring with
    | false => exact Gd1.bits (bs := b :: t) h
    | true =>
      intro x hx
      rcases h with ⟨h1, h2⟩ | ⟨h1, h2⟩ <;> rcases List.mem_cons.mp hx with rfl | hx
      · exact .inr h1
      · exact h2.bits x hx
      · exact .inl h1
      · exact h2.bits x hx
theorem good_pairs {ring : Bool} {bs : List Int} (h : GoodR ring bs) (hl : 2 ≤ bs.length) : ∀ p ∈ bs.zip (lat ring bs), (p.1 = 0 ∨ p.1 = 1) ∧ p.1 * p.2 = 0 := by
  cases bs with
  | nil => intro p hp; cases hp
  | cons b t =>
    cases ring with
    | false => exact pairs_ok false 1 (fun e => by cases e) (b :: t) true h
    | true =>
      rcases h with ⟨rfl, h⟩ | ⟨rfl, h⟩
      · refine pairs_ok false 1 (fun e => by cases e) (1 :: t) true (.inr ⟨rfl, rfl, fun e => ?_, h⟩)
        rw [List.length_cons] at hl
        omega
      · exact pairs_ok true 0 (fun _ => rfl) (0 :: t) true (.inl ⟨rfl, h⟩)
/-- as the code goes -/
def lfOf (ring : Bool) (done : List Int) : Bool := ring && !decide (done.take 1 = [1])
def run (ring : Bool) : List Int → Nat → Int → List Int
  | _, 0, _ => []
  | done, r + 1, n => (if zz (lfOf ring done) r ≤ n then 1 else 0) :: run ring (done ++ [if zz (lfOf ring done) r ≤ n then 1 else 0]) r (n - zz (lfOf ring done) r * (if zz (lfOf ring done) r ≤ n then 1 else 0))
theorem run_succ (ring : Bool) (done : List Int) (r : Nat) (n : Int) : run ring done (r + 1) n = (if zz (lfOf ring done) r ≤ n then 1 else 0) :: run ring (done ++ [if zz (lfOf ring done) r ≤ n then 1 else 0]) r (n - zz (lfOf ring done) r * (if zz (lfOf ring done) r ≤ n then 1 else 0)) := rfl
theorem lfOf_app (ring : Bool) (done : List Int) (b : Int) (h : done ≠ []) : lfOf ring (done ++ [b]) = lfOf ring done := by
  cases done with
  | nil => exact absurd rfl h
  | cons x t => rfl
theorem run_greedy (ring : Bool) : ∀ (r : Nat) (done : List Int) (n : Int), done ≠ [] → run ring done r n = greedy (lfOf ring done) r n
  | 0, _, _, _ => rfl
  | r + 1, done, n, h => by
    rw [run_succ, run_greedy ring r _ _ (by simp), lfOf_app ring done _ h, greedy]
    by_cases z : zz (lfOf ring done) r ≤ n
    · rw [if_pos z, if_pos z, Int.mul_one]
    · rw [if_neg z, if_neg z, Int.mul_zero, Int.sub_zero]
theorem run_rest (ring : Bool) (m : Nat) (n : Int) : [] ++ run ring [] m n = rest ring m n := by
  rw [List.nil_append]
  cases m with
  | zero => rfl
  | succ r =>
    rw [run_succ, run_greedy ring r _ _ (by simp)]
    cases ring with
    | false =>
      show _ = greedy false (r + 1) n
      have e : ∀ l, lfOf false l = false := fun l => rfl
      rw [e, e, greedy]
      by_cases z : zz false r ≤ n
      · rw [if_pos z, if_pos z, Int.mul_one]
      · rw [if_neg z, if_neg z, Int.mul_zero, Int.sub_zero]
    | true =>
      rw [rest_t]
      have e : lfOf true [] = true := by decide
      rw [e]
      by_cases z : zz true r ≤ n
      · rw [if_pos z, if_pos z, Int.mul_one]
        rfl
      · rw [if_neg z, if_neg z, Int.mul_zero, Int.sub_zero]
        rfl
/-- the number, as the code goes -/
def lfN (ring : Bool) (bs : List Int) : Bool := ring && decide (bs[0]? = some 0)
def cAt (ring : Bool) (bs pre : List Int) : Bool := if pre.length = 0 then ring else lfN ring bs
def tailv (ring : Bool) (bs pre suf : List Int) : Int := if pre.length = 0 then num ring bs else val (lfN ring bs) suf
theorem tail_app (ring : Bool) (bs pre : List Int) (v : Int) (t : List Int) : tailv ring bs (pre ++ [v]) t = val (lfN ring bs) t := by
  unfold tailv
  rw [if_neg (by simp)]
theorem tail_nil (ring : Bool) (bs pre : List Int) (h : 2 ≤ pre.length) : tailv ring bs pre [] = 0 := by
  unfold tailv
  rw [if_neg (by omega)]
  rfl
theorem tail_step (ring : Bool) (bs pre : List Int) (v : Int) (t : List Int) (h : bs = pre ++ v :: t) (hb : ∀ x ∈ bs, x = 0 ∨ x = 1) :
    tailv ring bs pre (v :: t) = (if v = 1 then zz (cAt ring bs pre) t.length else 0) + val (lfN ring bs) t := by
  cases pre with
  | cons a r =>
    have e1 : tailv ring bs (a :: r) (v :: t) = val (lfN ring bs) (v :: t) := if_neg (by simp)
    have e2 : cAt ring bs (a :: r) = lfN ring bs := if_neg (by simp)
    rw [e1, e2]
    rfl
  | nil =>
    have e : bs = v :: t := h
    subst e
    show num ring (v :: t) = (if v = 1 then zz ring t.length else 0) + val (lfN ring (v :: t)) t
    unfold lfN
    rcases hb v (List.mem_cons_self ..) with rfl | rfl <;> cases ring <;> simp [num, val]
/-- a line ends by a nought -/
theorem Gd1.last : ∀ {bs : List Int} {fr : Bool}, Gd1 false fr bs → bs ≠ [] → bs[bs.length - 1]? = some 0
  | [b], fr, h, _ => by
    rcases h with ⟨rfl, _⟩ | ⟨rfl, _, h3, _⟩
    · rfl
    · exact (h3 ⟨rfl, rfl⟩).elim
  | b :: c :: t, fr, h, _ => by
    have e : (b :: c :: t)[(b :: c :: t).length - 1]? = (c :: t)[(c :: t).length - 1]? := by
      simp
    rw [e]
    rcases h with ⟨_, h⟩ | ⟨_, _, _, h⟩
    · exact Gd1.last h (List.cons_ne_nil _ _)
    · exact Gd1.last h (List.cons_ne_nil _ _)
/-- the sums: 1, 2, 3, 5, .. -/
theorem cnt_line (m : Nat) : cnt false m = zz false m := rfl
theorem zz_two (n : Nat) : zz false (n + 3) = zz false (n + 2) + zz false (n + 1) := by
  rw [zz_succ, if_neg (by omega), sh_succ]
theorem zz_tf : ∀ n, zz true n = zz false (n + 1) ∧ (sh true n = sh false (n + 1))
  | 0 => by decide
  | n + 1 => by
    obtain ⟨h1, h2⟩ := zz_tf n
    refine ⟨?_, ?_⟩
    · rw [zz_succ, zz_succ, if_neg (by simp), if_neg (by simp), h1, h2]
    · rw [sh_succ, sh_succ, h1]
theorem zz_le (lf : Bool) : ∀ n, zz lf n ≤ 2 ^ n ∧ sh lf n ≤ 2 ^ n
  | 0 => by cases lf <;> decide
  | n + 1 => by
    obtain ⟨h1, h2⟩ := zz_le lf n
    have := zz_pos lf n
    rw [zz_succ, sh_succ]
    have e : (2 : Int) ^ (n + 1) = 2 ^ n * 2 := Int.pow_succ ..
    split <;> omega
/-- the list of sums, so long -/
def sums : Nat → List Int
  | 0 => []
  | n + 1 => sums n ++ [zz false (n + 1)]
theorem sums_len : ∀ n, (sums n).length = n
  | 0 => rfl
  | n + 1 => by
    show (sums n ++ [_]).length = _
    rw [List.length_append, sums_len n]
    rfl
theorem sums_get : ∀ (n i : Nat), i < n → (sums n)[i]? = some (zz false (i + 1))
  | n + 1, i, h => by
    show (sums n ++ [zz false (n + 1)])[i]? = _
    rcases Nat.lt_or_ge i n with h1 | h1
    · rw [List.getElem?_append_left (by rw [sums_len]; exact h1)]
      exact sums_get n i h1
    · have e : i = n := by omega
      subst e
      rw [List.getElem?_append_right (by rw [sums_len]; exact Nat.le_refl _), sums_len, Nat.sub_self]
      rfl
open PySem PySem.Spec PyProof.Rows L2 Gd
local macro_rules | `(tactic| walk_at "p") => `(tactic| first | exact trivial | assumption | exact Box.plain (by assumption) | exact ⟨Box.below (by assumption), trivial⟩ | (refine ⟨Box.below (by assumption), ?_⟩; simp [belowAll, MO.below, MO.plain]; done) | (simp [belowAll, MO.below, MO.plain]; done))
local macro_rules | `(tactic| walk_at "n") => `(tactic| first
  | (with_reducible exact n_p0)
  | (with_reducible exact n_t0)
  | (with_reducible exact n_s0)
  | (with_reducible exact n_a0)
  | (with_reducible exact n_l0)
  | (with_reducible exact n_c0)
  | (with_reducible exact n_w0)
  | (with_reducible exact n_m0)
  | (with_reducible exact n_k3)
  | (with_reducible exact n_k0)
  | ((with_reducible refine' n_p1 ?n0); (case n0 => walk_at "n"))
  | ((with_reducible refine' n_t1 ?n0); (case n0 => walk_at "n"))
  | ((with_reducible refine' n_s1 ?n0); (case n0 => walk_at "n"))
  | ((with_reducible refine' n_a1 ?n0); (case n0 => walk_at "n"))
  | ((with_reducible refine' n_cN ?n0); (case n0 => walk_at "n"))
  | ((with_reducible refine' n_cD ?n0); (case n0 => walk_at "n"))
  | ((with_reducible refine' n_cV ?n0); (case n0 => walk_at "n"))
  | ((with_reducible refine' n_cM ?n0); (case n0 => walk_at "n"))
  | ((with_reducible refine' n_m1 ?n0); (case n0 => walk_at "n"))
  | ((with_reducible refine' n_k2 ?n0); (case n0 => walk_at "n"))
  | ((with_reducible refine' n_k1 ?n0); (case n0 => walk_at "n"))
  | ((with_reducible refine' n_l1 ?n0 ?n1); (case n0 => walk_at "n"); (case n1 => exact rfl))
  | ((with_reducible refine' n_cC ?n0 ?n1); (case n0 => simp; done); (case n1 => walk_at "n"))
  | ((with_reducible refine' n_cX ?n0 ?n1); (case n0 => simp; done); (case n1 => walk_at "n"))
  | ((with_reducible refine' n_w1 ?k0 ?k1); (case k0 => walk_at "n"); (case k1 => walk_at "n")))
local macro_rules | `(tactic| walk_at "s") => `(tactic| first
  | (with_reducible refine r_seq ?g0)
  | ((with_reducible refine' r_var ?k0 ?g0); (case k0 => exact rfl))
  | (with_reducible refine r_c ?g0)
  | (with_reducible refine r_op ?g0)
  | (with_reducible refine r_asg ?g0)
  | ((with_reducible refine' r_gN ?k0 ?g0); (case k0 => walk_at "n"))
  | (with_reducible refine r_frz ?g0)
  | ((with_reducible refine' r_frzD ?k0 ?k1 ?k2 ?g0); (case k0 => walk_at "n"); (case k1 => walk_at "n"); (case k2 => walk_at "p"))
  | (with_reducible refine r_acons ?g0)
  | (with_reducible refine r_anil ?g0)
  | (with_reducible refine r_ret ?g0)
  | (with_reducible refine r_nx ?g0)
  | (with_reducible refine r_ifS ?g0)
  | (with_reducible refine r_tst ?g0)
  | (with_reducible refine r_isB ?g0)
  | (with_reducible refine r_iteT ?g0)
  | (with_reducible refine r_iteF ?g0)
  | ((with_reducible refine r_iteD ?g0 ?g1) <;> intro)
  | (with_reducible refine r_iteN ?g0)
  | ((with_reducible refine r_iteZ ?g0 ?g1) <;> intro)
  | ((with_reducible refine r_iteE ?g0 ?g1) <;> intro)
  | ((with_reducible refine' r_add ?k0 ?k1 ?g0); (case k0 => exact rfl); (case k1 => exact rfl))
  | (with_reducible refine r_addI ?g0)
  | (with_reducible refine r_addL ?g0 ?g1)
  | (with_reducible refine r_addT ?g0 ?g1)
  | (with_reducible refine r_addS ?g0 ?g1)
  | ((with_reducible refine' r_sub ?k0 ?k1 ?g0); (case k0 => exact rfl); (case k1 => exact rfl))
  | ((with_reducible refine' r_mul ?k0 ?k1 ?g0); (case k0 => exact rfl); (case k1 => exact rfl))
  | (with_reducible refine r_mulI ?g0 ?g1)
  | (with_reducible refine r_mulL ?g0 ?g1)
  | (with_reducible refine r_mulT ?g0 ?g1)
  | ((with_reducible refine' r_i ?k0 ?k1 ?g0 ?g1); (case k0 => exact rfl); (case k1 => exact rfl))
  | ((with_reducible refine' r_b ?k0 ?k1 ?g0); (case k0 => exact rfl); (case k1 => exact rfl))
  | ((with_reducible refine' r_neg ?k0 ?g0); (case k0 => exact rfl))
  | ((with_reducible refine' r_lt ?k0 ?k1 ?g0); (case k0 => exact rfl); (case k1 => exact rfl))
  | (with_reducible refine r_ltI ?g0)
  | (with_reducible refine r_ltT ?g0)
  | ((with_reducible refine' r_eq ?k0 ?k1 ?g0); (case k0 => exact rfl); (case k1 => exact rfl))
  | (with_reducible refine r_eqI ?g0)
  | (with_reducible refine r_neI ?g0)
  | (with_reducible refine r_eqS ?g0)
  | (with_reducible refine r_neS ?g0)
  | ((with_reducible refine' r_eqB ?k0 ?g0); (case k0 => first | exact (rfl : _ = true) | exact (rfl : _ = false) | exact rfl))
  | ((with_reducible refine' r_neB ?k0 ?g0); (case k0 => first | exact (rfl : _ = true) | exact (rfl : _ = false) | exact rfl))
  | (with_reducible refine r_eqL ?g0 ?g1)
  | (with_reducible refine r_neL ?g0 ?g1)
  | (with_reducible refine r_eqT ?g0 ?g1)
  | (with_reducible refine r_neT ?g0 ?g1)
  | ((with_reducible refine' r_isN ?k0 ?k1 ?g0); (case k0 => exact rfl); (case k1 => first | exact (rfl : _ = true) | exact (rfl : _ = false) | exact rfl))
  | ((with_reducible refine' r_notN ?k0 ?k1 ?g0); (case k0 => exact rfl); (case k1 => first | exact (rfl : _ = true) | exact (rfl : _ = false) | exact rfl))
  | ((with_reducible refine' r_in ?k0 ?k1 ?g0); (case k0 => exact rfl); (case k1 => exact rfl))
  | ((with_reducible refine' r_inF ?k0 ?g0); (case k0 => exact rfl))
  | ((with_reducible refine' r_inN ?k0 ?g0); (case k0 => exact rfl))
  | ((with_reducible refine' r_ix ?k0 ?k1 ?g0); (case k0 => exact rfl); (case k1 => exact rfl))
  | ((with_reducible refine' r_ixL ?k0 ?g0); (case k0 => exact rfl))
  | ((with_reducible refine' r_ixT ?k0 ?g0); (case k0 => exact rfl))
  | ((with_reducible refine' r_ixC ?k0 ?g0); (case k0 => exact rfl))
  | ((with_reducible refine' r_slL ?k0 ?g0); (case k0 => exact rfl))
  | ((with_reducible refine' r_slT ?k0 ?g0); (case k0 => exact rfl))
  | ((with_reducible refine' r_slC ?k0 ?g0); (case k0 => exact rfl))
  | ((with_reducible refine' r_slS ?k0 ?g0 ?g1); (case k0 => exact rfl))
  | (with_reducible refine r_sl ?g0)
  | (with_reducible refine r_oN ?g0)
  | (with_reducible refine r_oS ?g0)
  | (with_reducible refine r_oI ?g0)
  | ((with_reducible refine' r_one ?k0 ?g0); (case k0 => exact rfl))
  | (with_reducible refine r_cb ?g0)
  | ((with_reducible refine' r_lenL ?k0 ?g0); (case k0 => exact rfl))
  | ((with_reducible refine' r_lenT ?k0 ?g0); (case k0 => exact rfl))
  | ((with_reducible refine' r_lenC ?k0 ?g0); (case k0 => exact rfl))
  | ((with_reducible refine' r_lenS ?k0 ?g0 ?g1); (case k0 => exact rfl))
  | ((with_reducible refine' r_abs ?k0 ?g0); (case k0 => exact rfl))
  | ((with_reducible refine' r_intI ?k0 ?g0); (case k0 => exact rfl))
  | ((with_reducible refine' r_intB ?k0 ?g0); (case k0 => exact rfl))
  | ((with_reducible refine' r_max2 ?k0 ?k1 ?g0); (case k0 => exact rfl); (case k1 => exact rfl))
  | ((with_reducible refine' r_min2 ?k0 ?k1 ?g0); (case k0 => exact rfl); (case k1 => exact rfl))
  | ((with_reducible refine' r_listL ?k0 ?g0); (case k0 => exact rfl))
  | ((with_reducible refine' r_listT ?k0 ?g0); (case k0 => exact rfl))
  | ((with_reducible refine' r_listC ?k0 ?g0); (case k0 => exact rfl))
  | ((with_reducible refine' r_tupL ?k0 ?g0); (case k0 => exact rfl))
  | ((with_reducible refine' r_tupT ?k0 ?g0); (case k0 => exact rfl))
  | ((with_reducible refine' r_tupC ?k0 ?g0); (case k0 => exact rfl))
  | (with_reducible refine r_tup ?g0)
  | (with_reducible refine r_lst ?g0)
  | (with_reducible refine r_dats1 ?g0)
  | (with_reducible refine r_dats0 ?g0)
  | ((with_reducible refine' r_nw ?k0 ?k1 ?g0); (case k0 => walk_at "n"); (case k1 => walk_at "n"))
  | (with_reducible refine r_callP ?g0)
  | ((with_reducible refine' r_cP ?k0 ?k1 ?g0); (case k0 => exact rfl); (case k1 => walk_at "p"))
  | (with_reducible refine r_rPd ?g0)
  | (with_reducible refine r_rPv ?g0)
  | ((with_reducible refine' r_rPc ?k0 ?k1 ?k2 ?g0); (case k0 => walk_at "p"); (case k1 => walk_at "n"); (case k2 => walk_at "n"))
  | (with_reducible refine r_callK ?g0)
  | ((with_reducible refine' r_cK ?k0 ?k1 ?k2 ?k3 ?g0); (case k0 => exact rfl); (case k1 => exact rfl); (case k2 => walk_at "p"); (case k3 => exact rfl))
  | (with_reducible refine r_callD ?g0)
  | ((with_reducible refine' r_cD ?k0 ?k1 ?g0); (case k0 => walk_at "p"); (case k1 => exact rfl))
  | (with_reducible refine r_callB ?g0)
  | ((with_reducible refine' r_cB ?k0 ?k1 ?k2 ?g0); (case k0 => exact rfl); (case k1 => exact rfl); (case k2 => walk_at "p"))
  | (with_reducible refine r_tC0 ?g0)
  | ((with_reducible refine' r_tCc ?k0 ?g0); (case k0 => exact rfl))
  | (with_reducible refine r_tCd ?g0)
  | ((with_reducible refine' r_rBd ?k0 ?k1 ?g0); (case k0 => walk_at "p"); (case k1 => walk_at "n"))
  | (with_reducible refine r_if ?g0)
  | (with_reducible refine r_tru ?g0)
  | ((with_reducible refine' r_truB ?k0 ?g0); (case k0 => exact rfl))
  | ((with_reducible refine' r_truI ?k0 ?g0); (case k0 => exact rfl))
  | ((with_reducible refine' r_truL ?k0 ?g0); (case k0 => exact rfl))
  | ((with_reducible refine' r_truT ?k0 ?g0); (case k0 => exact rfl))
  | ((with_reducible refine' r_truN ?k0 ?g0); (case k0 => exact rfl))
  | (with_reducible refine r_and ?g0)
  | (with_reducible refine r_or ?g0)
  | (with_reducible refine r_not ?g0)
  | ((with_reducible refine' r_nt ?k0 ?g0); (case k0 => first | exact (rfl : _ = true) | exact (rfl : _ = false) | exact rfl))
  | (with_reducible refine r_andT ?g0)
  | (with_reducible refine r_orT ?g0)
  | (with_reducible refine r_notT ?g0)
  | (with_reducible refine r_chain ?g0)
  | (with_reducible refine r_un ?g0)
  | ((with_reducible refine' r_frzC ?k0 ?k1 ?k2 ?k3 ?k4 ?k5 ?k6 ?g0); (case k0 => walk_at "n"); (case k1 => (simp; done)); (case k2 => walk_at "n"); (case k3 => walk_at "p"); (case k4 => exact rfl); (case k5 => walk_at "p"); (case k6 => first | exact o_lst | exact o_dic | exact o_dct | exact rfl))
  | ((with_reducible refine' r_frzO ?k0 ?k1 ?k2 ?k3 ?g0); (case k0 => walk_at "n"); (case k1 => (simp; done)); (case k2 => walk_at "n"); (case k3 => walk_at "p"))
  | ((with_reducible refine' r_frzV ?k0 ?k1 ?k2 ?g0); (case k0 => walk_at "n"); (case k1 => walk_at "n"); (case k2 => walk_at "p"))
  | (with_reducible refine r_frzT ?g0)
  | ((with_reducible refine' r_frzB ?k0 ?k1 ?k2 ?g0); (case k0 => walk_at "n"); (case k1 => walk_at "n"); (case k2 => walk_at "p"))
  | (with_reducible refine r_isi ?g0)
  | ((with_reducible refine' r_isK ?k0 ?k1 ?g0); (case k0 => walk_at "p"); (case k1 => first | exact (rfl : _ = true) | exact (rfl : _ = false) | exact rfl))
  | ((with_reducible refine' r_isKT ?k0 ?k1 ?g0); (case k0 => walk_at "p"); (case k1 => first | exact (rfl : _ = true) | exact (rfl : _ = false) | exact rfl))
  | (with_reducible refine r_isiT ?g0)
  | (with_reducible refine r_retN ?g0)
  | (with_reducible refine r_drop ?g0)
  | ((with_reducible refine' r_gT ?k0 ?k1 ?g0); (case k0 => first | walk_at "n" | with_reducible exact rfl); (case k1 => exact rfl))
  | ((with_reducible refine' r_puts1 ?k0 ?g0); (case k0 => walk_at "n"))
  | (with_reducible refine r_puts0 ?g0)
  | (with_reducible refine r_gS ?g0)
  | ((with_reducible refine' r_set ?k0 ?k1 ?k2 ?g0); (case k0 => exact rfl); (case k1 => exact rfl); (case k2 => walk_at "n"))
  | (with_reducible refine r_par ?g0)
  | ((with_reducible refine' r_put2 ?k0 ?k1 ?g0); (case k0 => walk_at "n"); (case k1 => walk_at "n"))
  | ((with_reducible refine' r_aug ?k0 ?g0); (case k0 => exact rfl))
  | ((with_reducible refine' r_gA ?k0 ?g0); (case k0 => walk_at "n"))
  | (with_reducible refine r_for ?g0)
  | (with_reducible refine r_scope ?g0)
  | ((with_reducible refine' r_tr ?k0 ?k1 ?k2 ?k3 ?g0); (case k0 => walk_at "n"); (case k1 => walk_at "n"); (case k2 => walk_at "p"); (case k3 => walk_at "n"))
  | ((with_reducible refine' r_gf0 ?k0 ?g0); (case k0 => exact rfl))
  | ((with_reducible refine' r_gf ?k0 ?k1 ?k2 ?k3 ?k4 ?k5 ?g0); (case k0 => exact rfl); (case k1 => exact rfl); (case k2 => walk_at "p"); (case k3 => first | exact o_lst | exact o_dic | exact o_dct | exact rfl); (case k4 => walk_at "n"); (case k5 => walk_at "n"))
  | (with_reducible refine r_for0 ?g0)
  | (with_reducible refine r_m ?g0)
  | (with_reducible refine r_m0 ?g0)
  | ((with_reducible refine' r_app ?k0 ?k1 ?k2 ?g0); (case k0 => exact rfl); (case k2 => walk_at "n"))
  | ((with_reducible refine' r_ext ?k0 ?k1 ?k2 ?g0); (case k0 => exact rfl); (case k2 => walk_at "n"))
  | (with_reducible refine r_lc ?g0)
  | ((with_reducible refine' r_lcK ?k0 ?g0); (case k0 => first | walk_at "n" | with_reducible exact rfl))
  | (with_reducible refine r_lcP ?g0 ?g1)
  | (with_reducible refine r_lc0 ?g0)
  | ((with_reducible refine' r_lc1 ?k0 ?g0); (case k0 => walk_at "n"))
  | (with_reducible refine r_wSeq ?g0)
  | (with_reducible refine r_itL ?g0)
  | (with_reducible refine r_itT ?g0)
  | (with_reducible refine r_itC ?g0)
  | (with_reducible refine r_itS ?g0)
  | (with_reducible refine r_sqL ?g0)
  | (with_reducible refine r_sqT ?g0)
  | (with_reducible refine r_sqC ?g0)
  | (with_reducible refine r_rng1 ?g0)
  | (with_reducible refine r_r1 ?g0 ?g1)
  | (with_reducible refine r_rng2 ?g0)
  | (with_reducible refine r_r2 ?g0 ?g1)
  | (with_reducible refine r_enum ?g0)
  | (with_reducible refine r_en ?g0)
  | (with_reducible refine r_zip ?g0)
  | (with_reducible refine r_zgL ?g0)
  | (with_reducible refine r_zgT ?g0)
  | (with_reducible refine r_zp ?g0)
  | (with_reducible refine r_v ?g0)
  | (with_reducible refine r_yes ?g0)
  | (with_reducible refine r_bk ?g0)
  | (with_reducible refine r_ct ?g0)
  | (with_reducible refine r_out ?g0)
  | (with_reducible refine r_outN ?g0)
  | ((with_reducible refine' r_outD ?k0 ?k1 ?g0); (case k0 => walk_at "n"); (case k1 => walk_at "p"))
  | ((with_reducible refine' r_outF ?k0 ?k1 ?k2 ?k3 ?k4 ?k5 ?g0); (case k0 => (simp; done)); (case k1 => exact rfl); (case k2 => walk_at "n"); (case k3 => walk_at "p"); (case k4 => walk_at "p"); (case k5 => walk_at "n"))
  | ((with_reducible refine' r_outC ?k0 ?k1 ?k2 ?k3 ?k4 ?k5 ?g0); (case k0 => (simp; done)); (case k1 => exact rfl); (case k2 => walk_at "n"); (case k3 => walk_at "p"); (case k4 => walk_at "p"); (case k5 => first | exact o_lst | exact o_dic | exact o_dct | exact rfl))
  | ((with_reducible refine' r_outB ?k0 ?k1 ?k2 ?g0); (case k0 => (simp; done)); (case k1 => walk_at "n"); (case k2 => walk_at "p"))
  | ((with_reducible refine' r_isLst ?k0); (case k0 => exact rfl))
  | ((with_reducible refine r_ite ?g0 ?g1) <;> intro)
  | ((with_reducible refine And.intro ?g0 ?g1)))
def topS (i : Nat) : Stmt := PySem.Challenge.pw_lesserhall_k38_great_lines.main.body.getD i (.Pass ⟨0, 0, 0, 0⟩)
section
variable {P : Program} {w : World} {K : PySem.W.Frag} {mg : Str → Option Value} {base : Heap}
/-! ### _law_dip -/
abbrev st_law_dip : Stmt := topS 8
abbrev N_law_dip : List Str := ["_law_script", "_law_k", "_law_cell"]
theorem sc_law_dip : FnScope N_law_dip ["_law_script", "_law_k"] (defScope st_law_dip) := ⟨rfl, rfl, rfl, by decide +kernel, rfl, by decide +kernel, by decide +kernel⟩
def fs_law_dip : FS := fun args μ R => ∃ (is : List Int) (k : Nat), args = [.dat (.lst (dI is)), .dat (.int k)] ∧ k ≤ 100 ∧ μ = [] ∧ ∀ o, Box 0 o → R (.cel 0) [some o]
set_option maxHeartbeats 4000000 in
theorem ok_law_dip {fa : Addr} {fd : FuncData} (F : Fun K "_law_dip" "_law_dip" st_law_dip fa fd) (B : Bts mg) : FnOk P w K mg base CX0 1 fa fd ["_law_script", "_law_k"] (spD K 2 fs_law_dip) := by
  refine fn_ok true F sc_law_dip rfl fun cdv A outer s H E hr => ⟨_, (s_cons (s_set 2 sc_law_dip.nd (e_if (t_cmp (op_ltAll hr.units0) ops_lt (e_var 1) (e_cb call_len cbs_len (by rfl) B.len PySem.boot_len (a_cons (e_var 0) a_nil)) (nomark _)) (e_ix (e_var 0) (e_var 1)) e_int))
      (s_one (s_ret (e_lst (a_cons (e_frz (e_op op_mulAll ops_mul (e_cb call_abs cbs_abs (by rfl) B.abs boot_abs (a_cons (e_var 2) a_nil)) (e_ct call_int1 cbs_int (by rfl) B.int PyProof.Rows.boot_int (a_cons (e_cmp op_ge ops_b (e_cb call_abs cbs_abs (by rfl) B.abs boot_abs (a_cons (e_var 2) a_nil)) (e_op op_pow ops_i e_int e_int) (nomark _)) a_nil)))) (a_cons (e_frz (e_op op_addAll ops_add (e_op op_addAll ops_add (e_op op_modN ops_i (e_var 2) e_int) (e_op op_mulAll ops_mul e_int (e_var 1))) e_int)) (a_cons e_int a_nil))))))), fun args μ R hn h => ?_⟩
  obtain ⟨is, k, rfl, h0, rfl, h⟩ := h
  show (?w : Dn → S → Prop) ?d ⟨[some _, some _, none], _⟩
  have fin : ∀ x : Int, Box 0 (.lst [.int ((if x < 0 then -x else x) * if decide (10 ^ Int.toNat 18 ≤ if x < 0 then -x else x) = true then 1 else 0), .int (Int.fmod x 2305843009213693951 + 39373 * ↑k + 17), .int 0]) := fun x => by
    have h1 := fmod2 x (c := 2305843009213693951) (by decide)
    refine ⟨_, _, _, rfl, ?_, by omega, by omega, by omega, by omega⟩
    refine Int.mul_nonneg ?_ ?_ <;> split <;> omega
  repeat' walk_at "s"
  case' _ =>
    obtain ⟨x, h1, h2⟩ := atI_dI (is := is) (i := k) (by omega) (by rename_i a; rw [dI_len] at a; exact a)
    refine r_ixL h2 ?_
    repeat' walk_at "s"
  all_goals try exact h _ (fin _)
  all_goals first
    | (clear h fin; decide)
    | (clear h fin; exact ⟨by decide, by decide, by decide⟩)
    | (clear h fin; exact .inl ⟨by decide, by decide⟩)
    | (clear h fin; exact cmul_bit _ _)
    | (clear h fin; simp [sz]; done)
/-! ### _law_take -/
abbrev st_law_take : Stmt := topS 9
abbrev N_law_take : List Str := ["_law_box", "_law_many", "_law_found", "_law_once", "_law_pair"]
theorem sc_law_take : FnScope N_law_take ["_law_box", "_law_many"] (defScope st_law_take) := ⟨rfl, rfl, rfl, by decide +kernel, rfl, by decide +kernel, by decide +kernel⟩
def fs_law_take : FS := fun args μ R => ∃ (c : Int) (n : Nat) (o : MO), args = [.cel 0, .dat (.int c)] ∧ 0 < c ∧ c ≤ 10 ^ 9 ∧ n ≤ 1000000 ∧ μ = [some o] ∧ Box n o ∧ ∀ r o', 0 ≤ r → r < c → Box (n + 1) o' → R (.dat (.int r)) [some o']
set_option maxHeartbeats 4000000 in
theorem ok_law_take {fa : Addr} {fd : FuncData} (F : Fun K "_law_take" "_law_take" st_law_take fa fd) (B : Bts mg) : FnOk P w K mg base CX0 1 fa fd ["_law_box", "_law_many"] (spD K 2 fs_law_take) := by
  refine fn_ok false F sc_law_take rfl fun cdv A outer s H E hr => ⟨_, (s_cons (s_if (t_cmp op_gt ops_b (e_ix (e_var 0) e_int) e_int (nomark _)) (s_cons (s_set 2 sc_law_take.nd (e_op op_modN ops_i (e_ix (e_var 0) e_int) (e_var 1)))
      (s_cons (s_asg (e_op op_fdivN ops_i (e_ix (e_var 0) e_int) (e_var 1)) (g_sub (e_var 0) e_int))
      (s_one (s_ret (e_var 2))))) s_nil)
      (s_cons (s_asg (e_frz (e_op op_addAll ops_add (e_ix (e_var 0) e_int) e_int)) (g_sub (e_var 0) e_int))
      (s_cons (s_set 3 sc_law_take.nd (e_frz (e_op op_modN ops_i (e_op op_pow ops_i (e_op op_addAll ops_add (e_ix (e_var 0) e_int) (e_op op_mulAll ops_mul e_int (e_ix (e_var 0) e_int))) e_int) e_int)))
      (s_cons (s_set 4 sc_law_take.nd (e_frz (e_op op_modN ops_i (e_op op_mulAll ops_mul (e_op op_addAll ops_add (e_op op_addAll ops_add (e_var 3) (e_ix (e_var 0) e_int)) (e_op op_fdivN ops_i (e_ix (e_var 0) e_int) e_int)) (e_op op_addAll ops_add (e_op op_addAll ops_add (e_op op_modN ops_i (e_var 3) e_int) e_int) (e_ix (e_var 0) e_int))) e_int)))
      (s_one (s_ret (e_op op_modN ops_i (e_op op_fdivN ops_i (e_op op_modN ops_i (e_op op_addAll ops_add (e_op op_mulAll ops_mul (e_var 4) e_int) (e_var 3)) e_int) e_int) (e_var 1)))))))), fun args μ R hn h => ?_⟩
  obtain ⟨c, n, o, rfl, h0, h1, h2, rfl, ⟨x, y, z, rfl, hx, hy, hy2, hz, hz2⟩, h⟩ := h
  show (?w : Dn → S → Prop) ?d ⟨[some _, some _, none, none, none], _⟩
  repeat' walk_at "s"
  all_goals have f1 := fun x => @fmod2 x
  all_goals have f2 := fun x => f1 x (c := 40009) (by decide)
  all_goals first
    | (clear h; decide)
    | (clear h; omega)
    | (clear h; exact ⟨by omega, by omega⟩)
    | (clear h; exact ⟨by decide, by decide, by omega⟩)
    | (clear h; exact .inl ⟨by decide, by decide⟩)
    | (clear h; exact .inr ⟨by decide, by decide⟩)
    | (clear h; exact .inr ⟨by have := f2 (((y + 39373 * (z + 1)) ^ Int.toNat 5).fmod 2147483647); omega, by have := f2 (((y + 39373 * (z + 1)) ^ Int.toNat 5).fmod 2147483647); omega⟩)
    | exact h _ _ (f1 _ h0).1 (f1 _ h0).2 ⟨_, _, _, rfl, Int.fdiv_nonneg hx (Int.le_of_lt h0), hy, hy2, hz, by omega⟩
    | exact h _ _ (f1 _ h0).1 (f1 _ h0).2 ⟨_, _, _, rfl, hx, hy, hy2, by omega, by omega⟩
/-! ### _law_folded -/
abbrev st_law_folded : Stmt := topS 10
abbrev N_law_folded : List Str := ["_law_script", "_law_many", "_law_cells", "_law_k", "_law_cell"]
theorem sc_law_folded : FnScope N_law_folded ["_law_script", "_law_many"] (defScope st_law_folded) := ⟨rfl, rfl, rfl, by decide +kernel, rfl, by decide +kernel, by decide +kernel⟩
def fs_law_folded : FS := fun args μ R => ∃ (is : List Int) (c : Nat), args = [.dat (.scr (dI is)), .dat (.int c)] ∧ 0 < c ∧ c ≤ 4 ∧ is.length ≤ 63 ∧ μ = [] ∧ ∀ js : List Int, js.length ≤ c → R (.dat (.lst (dI js))) []
set_option maxHeartbeats 4000000 in
theorem ok_law_folded {fa : Addr} {fd : FuncData} (F : Fun K "_law_folded" "_law_folded" st_law_folded fa fd) (B : Bts mg) : FnOk P w K mg base CX0 1 fa fd ["_law_script", "_law_many"] (spD K 2 fs_law_folded) := by
  refine fn_ok false F sc_law_folded rfl fun cdv A outer s H E hr => ⟨_, (s_cons (s_set 2 sc_law_folded.nd (e_ct call_list_of cbs_list (by rfl) B.list boot_list (a_cons (e_frz (e_sl (e_var 0) o_none (o_some (e_var 1)))) a_nil)))
      (s_cons (s_for PassesOwn.never rfl (i_enum rfl B.enumerate (a_cons (e_frz (e_sl (e_var 0) (o_some (e_var 1)) (o_some e_int))) a_nil)) (g_tup rfl (gs_cons 3 sc_law_folded.nd (gs_cons 4 sc_law_folded.nd gs_nil))) (s_scope (s_one (s_asg (e_frz (e_op op_addAll ops_add (e_ix (e_var 2) (e_op op_modN ops_i (e_var 3) (e_var 1))) (e_op op_mulAll ops_mul (e_var 4) (e_op op_addAll ops_add (e_var 3) e_int)))) (g_sub (e_var 2) (e_op op_modN ops_i (e_var 3) (e_var 1)))))))
      (s_ghost 2 (s_one (s_ret (e_var 2)))))), fun args μ R hn h => ?_⟩
  obtain ⟨is, c, rfl, h0, h1, h2, rfl, h⟩ := h
  show (?w : Dn → S → Prop) ?d ⟨[some _, some _, none, none, none], _⟩
  repeat' walk_at "s"
  refine r_forI (fun rest s => ∃ (js : List Int) (a b : Option Sl), s = ⟨[some (.dat (.scr (dI is))), some (.dat (.int c)), some (.cel 0), a, b], [some (.lst (dI js))]⟩ ∧ js.length ≤ c ∧
      ∀ d ∈ rest, js.length = c ∧ ∃ i x : Int, 0 ≤ i ∧ i < 63 ∧ d = .tup [.int i, .int x]) ?_ ?_ ?_
  · rw [cutD_dI, cutD_dI, cutL_hi]
    refine ⟨is.take c, none, none, rfl, by rw [List.length_take]; omega, fun d hd => ?_⟩
    obtain ⟨i, e, h4, rfl⟩ := enum_mem hd
    have h5 : i < (dI (cutL is (some ↑c) (some 63))).length := by
      rcases Nat.lt_or_ge i (dI (cutL is (some ↑c) (some 63))).length with h | h
      · exact h
      · rw [List.getElem?_eq_none h] at h4
        cases h4
    rw [dI_len, show (63 : Int) = ((63 : Nat) : Int) from rfl, cutL_len] at h5
    obtain ⟨x, _, rfl⟩ := dI_mem (List.mem_of_getElem? h4)
    exact ⟨by rw [List.length_take]; omega, i, x, by omega, by omega, rfl⟩
  · rintro d ds s ⟨js, a, b, rfl, hl, hd⟩ ih
    obtain ⟨hc, i, x, hi, hi2, rfl⟩ := hd d (List.mem_cons_self ..)
    have f1 := fmod2 i (c := c) (by omega)
    obtain ⟨y, _, h2⟩ := atI_dI (is := js) (i := i.fmod c) (by omega) (by omega)
    repeat' walk_at "s"
    all_goals try (clear h ih; omega)
    refine r_ixL h2 ?_
    repeat' walk_at "s"
    all_goals try exact .inr ⟨by omega, by omega⟩
    all_goals try (clear h ih; omega)
    refine r_set rfl (ixN_nn (by omega) (by rw [dI_len]; omega)) n_p0 ?_
    repeat' walk_at "s"
    rw [dI_set]
    exact ih _ ⟨_, _, _, rfl, by rw [List.length_set]; exact hl, fun d hd' => ⟨by rw [List.length_set]; exact hc, (hd d (List.mem_cons_of_mem _ hd')).2⟩⟩
  · rintro s ⟨js, a, b, rfl, hl, hd⟩
    repeat' walk_at "s"
    exact h js hl
/-! ### _law_same -/
abbrev st_law_same : Stmt := topS 11
abbrev N_law_same : List Str := ["_law_found", "_law_due", "_law_one", "_law_two"]
theorem sc_law_same : FnScope N_law_same ["_law_found", "_law_due"] (defScope st_law_same) := ⟨rfl, rfl, rfl, by decide +kernel, rfl, by decide +kernel, by decide +kernel⟩
def sameD : Nat → D → Prop
  | 0, _ => False
  | m + 1, .lst ds => sz ds.length ∧ ∀ d ∈ ds, sameD m d
  | m + 1, .tup ds => sz ds.length ∧ ∀ d ∈ ds, sameD m d
  | _ + 1, .non => True
  | _ + 1, .bl _ => True
  | _ + 1, .int _ => True
  | _ + 1, .str _ => True
  | _, _ => False
def fs_law_same (m : Nat) : FS := fun args μ R => ∃ d, args = [.dat d, .dat d] ∧ μ = [] ∧ sameD m d ∧ R (.dat (.bl true)) []
set_option maxHeartbeats 4000000 in
theorem ok_law_same {m : Nat} {fa : Addr} {fd : FuncData} (F : Fun K "_law_same" "_law_same" st_law_same fa fd) (B : Bts mg) (G_law_same : FnK P w K mg base "_law_same" m 2 (fs_law_same m)) : FnOk P w K mg base CX0 (m + 1) fa fd ["_law_found", "_law_due"] (spD K 2 (fs_law_same (m + 1))) := by
  refine fn_ok false F sc_law_same rfl fun cdv A outer s H E hr => ⟨_, (s_cons (s_if (t_tru (e_isi2 "list" "tuple" (by unfold kT; simp) (by unfold kT; simp) rfl B.isinstance (e_var 1) rfl B.list boot_list rfl B.tuple boot_tuple)) (s_cons (s_if (PW.pt (t_or (t_cmp (op_neAll (hu64 hr)) ops_ne (e_isi "list" (by unfold kT; simp) rfl B.isinstance (e_var 0) rfl B.list boot_list) (e_isi "list" (by unfold kT; simp) rfl B.isinstance (e_var 1) rfl B.list boot_list) (nomark _)) (t_or1 (t_cmp (op_neAll (hu64 hr)) ops_ne (e_isi "tuple" (by unfold kT; simp) rfl B.isinstance (e_var 0) rfl B.tuple boot_tuple) (e_isi "tuple" (by unfold kT; simp) rfl B.isinstance (e_var 1) rfl B.tuple boot_tuple) (nomark _))))) (s_one (s_ret e_bl)) s_nil)
      (s_one (s_ret (e_and (e_cmp (op_eqAll (hu64 hr)) ops_eq (e_cb call_len cbs_len (by rfl) B.len PySem.boot_len (a_cons (e_var 0) a_nil)) (e_cb call_len cbs_len (by rfl) B.len PySem.boot_len (a_cons (e_var 1) a_nil)) (nomark _)) (e_one (e_cb (cr_all rfl) cbs_all (by rfl) B.all boot_all (a_cons (e_lc (own := [("_law_one", 2), ("_law_two", 3)]) rfl sc_law_same.nd (i_zip rfl B.zip (a_cons (e_var 0) (a_cons (e_var 1) a_nil))) (blkOk_by (N := N_law_same) (sc := (defScope st_law_same)) (by decide +kernel)) rfl (fun _ _ _ _ _ => (g_tup rfl (gs_cons 2 sc_law_same.nd (gs_cons 3 sc_law_same.nd gs_nil)))) (fun _ _ _ _ _ => ts_nil) (fun _ _ _ _ _ => (e_frz (e_call (G_law_same.mono (by first | exact Nat.le_refl _ | decide)) hr (by rfl) (a_cons (e_var 2) (a_cons (e_var 3) a_nil)))))) a_nil))))))) s_nil)
      (s_cons (s_if (PW.pt (t_or (t_cmp op_isN ops_isN (e_var 1) e_non (nomark _)) (t_or1 (t_cmp op_isN ops_isN (e_var 0) e_non (nomark _))))) (s_one (s_ret (e_and (e_cmp op_isN ops_isN (e_var 1) e_non (nomark _)) (e_one (e_cmp op_isN ops_isN (e_var 0) e_non (nomark _)))))) s_nil)
      (s_cons (s_if (PW.pt (t_or (t_tru (e_isi "bool" (by unfold kT; simp) rfl B.isinstance (e_var 1) rfl B.bool boot_bool)) (t_or1 (t_tru (e_isi "str" (by unfold kT; simp) rfl B.isinstance (e_var 1) rfl B.str boot_str))))) (s_one (s_ret (e_and (e_cmp (op_eqAll (hu64 hr)) ops_eq (e_isi "bool" (by unfold kT; simp) rfl B.isinstance (e_var 0) rfl B.bool boot_bool) (e_isi "bool" (by unfold kT; simp) rfl B.isinstance (e_var 1) rfl B.bool boot_bool) (nomark _)) (e_one (e_cmp (op_eqAll (hu64 hr)) ops_eq (e_var 0) (e_var 1) (nomark _)))))) s_nil)
      (s_one (s_ret (e_and (e_isi "int" (by unfold kT; simp) rfl B.isinstance (e_var 0) rfl B.int boot_int) (e_and (e_not (e_isi "bool" (by unfold kT; simp) rfl B.isinstance (e_var 0) rfl B.bool boot_bool)) (e_one (e_cmp (op_eqAll (hu64 hr)) ops_eq (e_var 0) (e_var 1) (nomark _)))))))))), fun args μ R hn h => ?_⟩
  obtain ⟨d, rfl, rfl, hd, h⟩ := h
  show (?w : Dn → S → Prop) ?d ⟨[some _, some _, none, none], _⟩
  cases d with
  | lst ds =>
    repeat' walk_at "s"
    · refine r_lcI (fun rest acc μ => μ = [] ∧ ∃ k, acc = dB (List.replicate k true) ∧ k + rest.length = ds.length ∧ ∀ p ∈ rest, ∃ d, p = .tup [d, d] ∧ sameD m d) (by walk_at "n") ?_ ?_ ?_
      · refine ⟨rfl, 0, rfl, by simp [zipD], fun p hp => ?_⟩
        obtain ⟨a, h1, rfl⟩ := zip_self hp
        exact ⟨a, rfl, hd.2 a h1⟩
      · rintro p ps acc μ ⟨rfl, k, rfl, hk, hp⟩ ih
        obtain ⟨d, rfl, hd2⟩ := hp _ (List.mem_cons_self ..)
        have hk1 := hd.1
        simp only [List.length_cons] at hk
        repeat' walk_at "s"
        refine ⟨d, rfl, rfl, hd2, ?_⟩
        repeat' walk_at "s"
        · unfold sz at hk1 ⊢
          rw [dB_len, List.length_replicate]
          omega
        · exact ih _ _ ⟨rfl, k + 1, dB_true k, by omega, fun p h => hp p (List.mem_cons_of_mem _ h)⟩
      · rintro acc μ ⟨rfl, k, rfl, hk, hp⟩
        repeat' walk_at "s"
        refine r_all rfl ?_
        repeat' walk_at "s"
        rw [all_true]
        exact h
    · exact absurd rfl ‹_›
  | tup ds =>
    repeat' walk_at "s"
    · refine r_lcI (fun rest acc μ => μ = [] ∧ ∃ k, acc = dB (List.replicate k true) ∧ k + rest.length = ds.length ∧ ∀ p ∈ rest, ∃ d, p = .tup [d, d] ∧ sameD m d) (by walk_at "n") ?_ ?_ ?_
      · refine ⟨rfl, 0, rfl, by simp [zipD], fun p hp => ?_⟩
        obtain ⟨a, h1, rfl⟩ := zip_self hp
        exact ⟨a, rfl, hd.2 a h1⟩
      · rintro p ps acc μ ⟨rfl, k, rfl, hk, hp⟩ ih
        obtain ⟨d, rfl, hd2⟩ := hp _ (List.mem_cons_self ..)
        have hk1 := hd.1
        simp only [List.length_cons] at hk
        repeat' walk_at "s"
        refine ⟨d, rfl, rfl, hd2, ?_⟩
        repeat' walk_at "s"
        · unfold sz at hk1 ⊢
          rw [dB_len, List.length_replicate]
          omega
        · exact ih _ _ ⟨rfl, k + 1, dB_true k, by omega, fun p h => hp p (List.mem_cons_of_mem _ h)⟩
      · rintro acc μ ⟨rfl, k, rfl, hk, hp⟩
        repeat' walk_at "s"
        refine r_all rfl ?_
        repeat' walk_at "s"
        rw [all_true]
        exact h
    · exact absurd rfl ‹_›
  | non =>
    repeat' walk_at "s"
    exact h
  | bl b =>
    repeat' walk_at "s"
    simpa using h
  | int b =>
    repeat' walk_at "s"
    simpa using h
  | str b =>
    repeat' walk_at "s"
    simpa using h
  | _ => exact hd.elim
end
open PySem PySem.Spec PyProof.Rows L2 Gd
section
variable {P : Program} {w : World} {K : PySem.W.Frag} {mg : Str → Option Value} {base : Heap}
/-! ### endings -/
abbrev st_endings : Stmt := topS 3
abbrev N_endings : List Str := ["left", "is_free", "last_free", "free_ways", "shut_ways", "behind", "ones"]
theorem sc_endings : FnScope N_endings ["left", "is_free", "last_free"] (defScope st_endings) := ⟨rfl, rfl, rfl, by decide +kernel, rfl, by decide +kernel, by decide +kernel⟩
def fs_endings : FS := fun args μ R => ∃ (n : Nat) (fr lf : Bool), args = [.dat (.int n), .dat (.bl fr), .dat (.bl lf)] ∧ n ≤ 70 ∧ μ = [] ∧ R (.dat (.int (bnd lf fr n))) []
set_option maxHeartbeats 4000000 in
theorem ok_endings {fa : Addr} {fd : FuncData} (F : Fun K "endings" "endings" st_endings fa fd) (B : Bts mg) : FnOk P w K mg base CX0 1 fa fd ["left", "is_free", "last_free"] (spD K 3 fs_endings) := by
  refine fn_ok false F sc_endings rfl fun cdv A outer s H E hr => ⟨_, (s_cons (s_asg (e_tup (a_cons e_int (a_cons e_int a_nil))) (g_tup rfl (gs_cons 3 sc_endings.nd (gs_cons 4 sc_endings.nd gs_nil))))
      (s_cons (s_for PassesOwn.never rfl (i_rng1 rfl B.range (a_cons (e_var 0) a_nil)) (g_name 5 sc_endings.nd) (s_scope (s_cons (s_set 6 sc_endings.nd (e_if (PW.pt (t_or (t_cmp op_gt ops_b (e_var 5) e_int (nomark _)) (t_or1 (t_tru (e_var 2))))) (e_var 4) e_int))
      (s_one (s_par rfl sc_endings.nd (i := 3) (j := 4) rfl rfl (by decide) rfl rfl (a_cons (e_frz (e_op op_addAll ops_add (e_var 3) (e_var 6))) (a_cons (e_var 3) a_nil)))))))
      (s_one (s_ret (e_if (t_tru (e_var 1)) (e_var 3) (e_var 4)))))), fun args μ R hn h => ?_⟩
  obtain ⟨n, fr, lf, rfl, hn, rfl, h⟩ := h
  show (?w : Dn → S → Prop) ?d ⟨[some _, some _, some _, none, none, none, none], _⟩
  repeat' walk_at "s"
  · simp [sz]
  · exact ⟨by omega, by omega⟩
  refine r_forI (fun rest s => ∃ (k : Nat) (x y : Option Sl), k + rest.length = n ∧ rest = rg k rest.length ∧ s = ⟨[some (.dat (.int n)), some (.dat (.bl fr)), some (.dat (.bl lf)), some (.dat (.int (ends lf k).1)), some (.dat (.int (ends lf k).2)), x, y], []⟩) ?_ ?_ ?_
  · exact ⟨0, none, none, by rw [rg_len]; omega, by rw [rg_len]; rfl, rfl⟩
  · rintro d ds s ⟨k, x, y, hk, hr, rfl⟩ ih
    rw [List.length_cons] at hk hr
    obtain ⟨rfl, e2⟩ := List.cons.inj (hr : d :: ds = .int k :: rg (k + 1) ds.length)
    repeat' walk_at "s"
    · refine ih _ ⟨k + 1, some (.dat (.int k)), some (.dat (.int (ends lf k).2)), by omega, e2, ?_⟩
      have hk0 : ¬ k = 0 := by omega
      simp [ends, hk0]
    · rename_i hl
      subst hl
      refine ih _ ⟨k + 1, some (.dat (.int k)), some (.dat (.int (ends true k).2)), by omega, e2, ?_⟩
      simp [ends]
    · rename_i h0 hl
      subst hl
      have hk0 : k = 0 := by omega
      subst hk0
      refine ih _ ⟨1, some (.dat (.int 0)), some (.dat (.int 0)), by omega, e2, ?_⟩
      simp [ends]
  · rintro s ⟨k, x, y, hk, hr, rfl⟩
    have hk : k = n := hk
    subst hk
    repeat' walk_at "s"
    · rename_i e
      subst e
      exact h
    · rename_i e
      subst e
      exact h
/-! ### line_counts -/
abbrev st_line_counts : Stmt := topS 4
abbrev N_line_counts : List Str := ["many", "ring"]
theorem sc_line_counts : FnScope N_line_counts ["many", "ring"] (defScope st_line_counts) := ⟨rfl, rfl, rfl, by decide +kernel, rfl, by decide +kernel, by decide +kernel⟩
def fs_line_counts : FS := fun args μ R => ∃ (m : Nat) (ring : Bool), args = [.dat (.int m), .dat (.bl ring)] ∧ 2 ≤ m ∧ m ≤ 70 ∧ μ = [] ∧ R (.dat (.int (cnt ring m))) []
set_option maxHeartbeats 4000000 in
theorem ok_line_counts {fa : Addr} {fd : FuncData} (F : FunD K "line_counts" "line_counts" (defArgs st_line_counts) (defBody st_line_counts) (defScope st_line_counts) [] [("ring", .bl false)] fa fd) (B : Bts mg) (G_endings : FnK P w K mg base "endings" 1 3 fs_endings) : FnOk P w K mg base CX0 2 fa fd ["many", "ring"] (spD K 2 fs_line_counts) := by
  refine fn_okD false F sc_line_counts rfl fun cdv A outer s H E hr => ⟨_, (s_cons (s_if (PW.pt (t_and (t_tru (e_var 1)) (t_and1 (t_cmp op_gt ops_b (e_var 0) e_int (nomark _))))) (s_one (s_ret (e_op op_addAll ops_add (e_call (G_endings.mono (by first | exact Nat.le_refl _ | decide)) hr (by rfl) (a_cons (e_op op_sub ops_sub (e_var 0) e_int) (a_cons e_bl (a_cons e_bl a_nil)))) (e_call (G_endings.mono (by first | exact Nat.le_refl _ | decide)) hr (by rfl) (a_cons (e_op op_sub ops_sub (e_var 0) e_int) (a_cons e_bl (a_cons e_bl a_nil))))))) s_nil)
      (s_one (s_ret (e_call (G_endings.mono (by first | exact Nat.le_refl _ | decide)) hr (by rfl) (a_cons (e_var 0) (a_cons e_bl (a_cons e_bl a_nil))))))), fun args μ R hn h => ?_⟩
  obtain ⟨m, ring, rfl, h2, hm, rfl, h⟩ := h
  show (?w : Dn → S → Prop) ?d ⟨[some _, some _], _⟩
  obtain ⟨m', rfl⟩ : ∃ m', m = m' + 1 := ⟨m - 1, by omega⟩
  cases ring
  all_goals repeat' walk_at "s"
  · refine ⟨m' + 1, true, false, rfl, by omega, rfl, ?_⟩
    repeat' walk_at "s"
    exact h
  · refine ⟨m', true, true, ?_, by omega, rfl, ?_⟩
    · rw [show ((m' + 1 : Nat) : Int) - 1 = (m' : Int) by omega]
    repeat' walk_at "s"
    refine ⟨m', false, false, ?_, by omega, rfl, ?_⟩
    · rw [show ((m' + 1 : Nat) : Int) - 1 = (m' : Int) by omega]
    repeat' walk_at "s"
    exact h
  · exfalso
    omega
/-! ### line_rest -/
abbrev st_line_rest : Stmt := topS 5
abbrev N_line_rest : List Str := ["many", "number", "ring", "found", "left", "place", "noughts"]
theorem sc_line_rest : FnScope N_line_rest ["many", "number", "ring"] (defScope st_line_rest) := ⟨rfl, rfl, rfl, by decide +kernel, rfl, by decide +kernel, by decide +kernel⟩
def fs_line_rest : FS := fun args μ R => ∃ (m : Nat) (k : Int) (ring : Bool), args = [.dat (.int m), .dat (.int k), .dat (.bl ring)] ∧ 2 ≤ m ∧ m ≤ 70 ∧ 0 ≤ k ∧ k < cnt ring m ∧ μ = [] ∧ R (.dat (.tup (dI (rest ring m k)))) []
set_option maxHeartbeats 4000000 in
theorem ok_line_rest {fa : Addr} {fd : FuncData} (F : FunD K "line_rest" "line_rest" (defArgs st_line_rest) (defBody st_line_rest) (defScope st_line_rest) [] [("ring", .bl false)] fa fd) (B : Bts mg) (G_endings : FnK P w K mg base "endings" 1 3 fs_endings) (GK1_line_counts : FnKw P w K mg base "line_counts" 2 2 1 ["ring"] fs_line_counts) : FnOk P w K mg base CX0 3 fa fd ["many", "number", "ring"] (spD K 3 fs_line_rest) := by
  refine fn_okD false F sc_line_rest rfl fun cdv A outer s H E hr => ⟨_, (s_cons (s_if (t_frz (t_not (t_chain op_le ops_b (op_ltAll hr.units0) ops_lt e_int (e_var 1) (e_callK (GK1_line_counts.mono (by first | exact Nat.le_refl _ | decide)) hr (by rfl) (a_cons (e_var 0) a_nil) (k_cons (e_var 2) k_nil))))) (s_one s_no) s_nil)
      (s_cons (s_par rfl sc_line_rest.nd (i := 3) (j := 4) rfl rfl (by decide) rfl rfl (a_cons (e_lst a_nil) (a_cons (e_var 1) a_nil)))
      (s_cons (s_for PassesOwn.never rfl (i_rng1 rfl B.range (a_cons (e_var 0) a_nil)) (g_name 5 sc_line_rest.nd) (s_scope (s_cons (s_set 6 sc_line_rest.nd (e_frz (e_call (G_endings.mono (by first | exact Nat.le_refl _ | decide)) hr (by rfl) (a_cons (e_op op_sub ops_sub (e_op op_sub ops_sub (e_var 0) e_int) (e_var 5)) (a_cons e_bl (a_cons (e_frz (e_and (e_var 2) (e_one (e_cmp (op_neAll (hu64 hr)) ops_ne (e_sl (e_var 3) o_none (o_some e_int)) (e_lst (a_cons e_int a_nil)) (nomark _))))) a_nil))))))
      (s_cons (s_expr (e_m PySem.F.slot_list_append PySem.F.type_list_append mt_append mts_app (e_var 3) (a_cons (e_ct call_int1 cbs_int (by rfl) B.int PyProof.Rows.boot_int (a_cons (e_cmp op_ge ops_b (e_var 4) (e_var 6) (nomark _)) a_nil)) a_nil)))
      (s_one (s_aug 4 sc_line_rest.nd ip_sub (e_op op_mulAll ops_mul (e_var 6) (e_ix (e_var 3) (e_var 5)))))))))
      (s_ghost 3 (s_one (s_ret (e_ct call_tuple_of cbs_tup (by rfl) B.tuple boot_tuple (a_cons (e_var 3) a_nil)))))))), fun args μ R hn h => ?_⟩
  obtain ⟨m, k, ring, rfl, h2, hm, hk, hk2, rfl, h⟩ := h
  show (?w : Dn → S → Prop) ?d ⟨[some _, some _, some _, none, none, none, none], _⟩
  repeat' walk_at "s"
  · refine ⟨m, ring, rfl, h2, hm, rfl, ?_⟩
    repeat' walk_at "s"
    · simp [sz]
    · exact ⟨by omega, by omega⟩
    · refine r_forI (fun rs s => ∃ (j : Nat) (left : Int) (done : List Int) (x y : Option Sl), j + rs.length = m ∧ rs = rg j rs.length ∧ done.length = j ∧ 0 ≤ left ∧ done ++ run ring done rs.length left = rest ring m k ∧
        s = ⟨[some (.dat (.int m)), some (.dat (.int k)), some (.dat (.bl ring)), some (.cel 0), some (.dat (.int left)), x, y], [some (.lst (dI done))]⟩) ?_ ?_ ?_
      · exact ⟨0, k, [], none, none, by rw [rg_len]; omega, by rw [rg_len]; rfl, rfl, hk, by rw [rg_len]; exact run_rest ring m k, rfl⟩
      · rintro d ds s ⟨j, left, done, x, y, hj, hr, hd, hl, hrun, rfl⟩ ih
        rw [List.length_cons] at hj hr hrun
        obtain ⟨rfl, e2⟩ := List.cons.inj (hr : d :: ds = .int j :: rg (j + 1) ds.length)
        have hfin : ∀ (b : Int), b = (if zz (lfOf ring done) ds.length ≤ left then 1 else 0) → ∃ (j' : Nat) (left' : Int) (done' : List Int) (x y : Option Sl), j' + ds.length = m ∧ ds = rg j' ds.length ∧ done'.length = j' ∧ 0 ≤ left' ∧ done' ++ run ring done' ds.length left' = rest ring m k ∧
          S.mk [some (.dat (.int m)), some (.dat (.int k)), some (.dat (.bl ring)), some (.cel 0), some (.dat (.int (left - zz (lfOf ring done) ds.length * b))), some (.dat (.int j)), some (.dat (.int (zz (lfOf ring done) ds.length)))] [some (.lst (dI done ++ [.int b]))] =
          ⟨[some (.dat (.int m)), some (.dat (.int k)), some (.dat (.bl ring)), some (.cel 0), some (.dat (.int left')), x, y], [some (.lst (dI done'))]⟩ := fun b hb => by
          have hz := zz_pos (lfOf ring done) ds.length
          refine ⟨j + 1, left - zz (lfOf ring done) ds.length * b, done ++ [b], some (.dat (.int j)), some (.dat (.int (zz (lfOf ring done) ds.length))), by omega, e2, by rw [List.length_append, hd]; rfl, ?_, ?_, ?_⟩
          · subst hb
            split <;> omega
          · rw [← hrun, run_succ, ← hb, List.append_assoc]
            rfl
          · rw [← dI_app]
            rfl
        have hcall : ∀ (c : Bool) (RR : Sl → List (Option MO) → Prop), c = lfOf ring done → RR (.dat (.int (zz (lfOf ring done) ds.length))) [] → fs_endings [.dat (.int ((m : Int) - 1 - j)), .dat (.bl true), .dat (.bl c)] [] RR := fun c RR hc hR => by
          subst hc
          refine ⟨ds.length, true, lfOf ring done, ?_, by omega, rfl, hR⟩
          rw [show (m : Int) - 1 - j = (ds.length : Int) by omega]
        have hb : ∀ b : Bool, b = decide (zz (lfOf ring done) ds.length ≤ left) → (if b = true then (1 : Int) else 0) = (if zz (lfOf ring done) ds.length ≤ left then 1 else 0) := fun b e => by
          subst e
          by_cases z : zz (lfOf ring done) ds.length ≤ left <;> simp [z]
        have hcut : Gd.cutD (dI done) none (some 1) = dI (done.take 1) := by
          rw [cutD_dI]
          exact congrArg dI (cutL_hi done 1)
        have hlast : ∀ b : Int, atI (dI done ++ [D.int b]) (j : Int) = some (.int b) := fun b => atI_last _ _ _ (by rw [dI_len, hd])
        have hbit : ∀ b : Bool, CMul (zz (lfOf ring done) ds.length) (if b = true then 1 else 0) := fun b => cmul_bit _ _
        cases ring
        · repeat' walk_at "s"
          refine hcall _ _ rfl ?_
          repeat' walk_at "s"
          · simp [sz, dI_len]
            omega
          refine r_ixL (hlast _) ?_
          repeat' walk_at "s"
          · exact hbit _
          · exact ih _ (hfin _ (hb _ rfl))
        · repeat' walk_at "s"
          · simp [sz]
          · rw [hcut]
            exact fit_l _
          · exact fit_l [1]
          rw [hcut]
          refine hcall _ _ (congrArg (fun b => !b) (eqv_dI _ [1])) ?_
          repeat' walk_at "s"
          · simp [sz, dI_len]
            omega
          refine r_ixL (hlast _) ?_
          repeat' walk_at "s"
          · exact hbit _
          · exact ih _ (hfin _ (hb _ rfl))
      · rintro s ⟨j, left, done, x, y, hj, hr, hd, hl, hrun, rfl⟩
        have hj : j = m := hj
        repeat' walk_at "s"
        have e : done = rest ring m k := by
          rw [← hrun]
          exact (List.append_nil _).symm
        rw [e]
        exact h
    · contradiction
  · contradiction
/-! ### line_number -/
abbrev st_line_number : Stmt := topS 6
abbrev N_line_number : List Str := ["rest", "ring", "found", "place", "shown"]
theorem sc_line_number : FnScope N_line_number ["rest", "ring"] (defScope st_line_number) := ⟨rfl, rfl, rfl, by decide +kernel, rfl, by decide +kernel, by decide +kernel⟩
def fs_line_number : FS := fun args μ R => ∃ (bs : List Int) (ring : Bool), args = [.dat (.tup (dI bs)), .dat (.bl ring)] ∧ 2 ≤ bs.length ∧ bs.length ≤ 70 ∧ (∀ x ∈ bs, x = 0 ∨ x = 1) ∧ μ = [] ∧ R (.dat (.int (num ring bs))) []
set_option maxHeartbeats 4000000 in
theorem ok_line_number {fa : Addr} {fd : FuncData} (F : FunD K "line_number" "line_number" (defArgs st_line_number) (defBody st_line_number) (defScope st_line_number) [] [("ring", .bl false)] fa fd) (B : Bts mg) (G_endings : FnK P w K mg base "endings" 1 3 fs_endings) : FnOk P w K mg base CX0 2 fa fd ["rest", "ring"] (spD K 2 fs_line_number) := by
  refine fn_okD false F sc_line_number rfl fun cdv A outer s H E hr => ⟨_, (s_cons (s_set 2 sc_line_number.nd e_int)
      (s_cons (s_for PassesOwn.never rfl (i_enum rfl B.enumerate (a_cons (e_var 0) a_nil)) (g_tup rfl (gs_cons 3 sc_line_number.nd (gs_cons 4 sc_line_number.nd gs_nil))) (s_scope (s_one (s_if (t_cmp (op_eqAll (hu64 hr)) ops_eq (e_var 4) e_int (nomark _)) (s_one (s_aug 2 sc_line_number.nd ip_add (e_call (G_endings.mono (by first | exact Nat.le_refl _ | decide)) hr (by rfl) (a_cons (e_op op_sub ops_sub (e_op op_sub ops_sub (e_cb call_len cbs_len (by rfl) B.len PySem.boot_len (a_cons (e_var 0) a_nil)) e_int) (e_var 3)) (a_cons e_bl (a_cons (e_and (e_var 1) (e_one (e_or (e_cmp (op_eqAll (hu64 hr)) ops_eq (e_var 3) e_int (nomark _)) (e_one (e_cmp (op_eqAll (hu64 hr)) ops_eq (e_ix (e_var 0) e_int) e_int (nomark _)))))) a_nil)))))) s_nil))))
      (s_one (s_ret (e_var 2))))), fun args μ R hn h => ?_⟩
  obtain ⟨bs, ring, rfl, h2, hm, hbits, rfl, h⟩ := h
  show (?w : Dn → S → Prop) ?d ⟨[some _, some _, none, none, none], _⟩
  repeat' walk_at "s"
  rw [enum_dI]
  refine r_forI (fun rs s => ∃ (pre suf : List Int) (f : Int) (x y : Option Sl), bs = pre ++ suf ∧ rs = enI pre.length suf ∧ f + tailv ring bs pre suf = num ring bs ∧ s = ⟨[some (.dat (.tup (dI bs))), some (.dat (.bl ring)), some (.dat (.int f)), x, y], []⟩) ?_ ?_ ?_
  · exact ⟨[], bs, 0, none, none, rfl, rfl, Int.zero_add _, rfl⟩
  · rintro d ds s ⟨pre, suf, f, x, y, hbs, hrs, hf, rfl⟩ ih
    cases suf with
    | nil => cases hrs
    | cons v t =>
      obtain ⟨rfl, e2⟩ := List.cons.inj (hrs : d :: ds = .tup [.int pre.length, .int v] :: enI (pre.length + 1) t)
      have hstep := tail_step ring bs pre v t hbs hbits
      have hlen : bs.length = pre.length + 1 + t.length := by
        rw [hbs, List.length_append, List.length_cons]
        omega
      have hcall : ∀ (c : Bool) (RR : Sl → List (Option MO) → Prop), c = cAt ring bs pre → RR (.dat (.int (zz (cAt ring bs pre) t.length))) [] → fs_endings [.dat (.int (((dI bs).length : Int) - 1 - (pre.length : Int))), .dat (.bl true), .dat (.bl c)] [] RR := fun c RR hc hR => by
        subst hc
        refine ⟨t.length, true, cAt ring bs pre, ?_, by omega, rfl, hR⟩
        rw [dI_len, hlen, show ((pre.length + 1 + t.length : Nat) : Int) - 1 - (pre.length : Int) = (t.length : Int) by omega]
      obtain ⟨b0, bt, hb0⟩ : ∃ b0 bt, bs = b0 :: bt := by
        cases bs with
        | nil => cases h2
        | cons b0 bt => exact ⟨b0, bt, rfl⟩
      have h0 : atI (dI bs) 0 = some (.int b0) := by
        rw [hb0]
        exact atI_nn (by decide) rfl
      have hend : ∀ f' : Int, f' = f + (if v = 1 then zz (cAt ring bs pre) t.length else 0) → ∃ (pre' suf' : List Int) (f'' : Int) (x y : Option Sl), bs = pre' ++ suf' ∧ ds = enI pre'.length suf' ∧ f'' + tailv ring bs pre' suf' = num ring bs ∧
          S.mk [some (.dat (.tup (dI bs))), some (.dat (.bl ring)), some (.dat (.int f')), some (.dat (.int pre.length)), some (.dat (.int v))] [] = ⟨[some (.dat (.tup (dI bs))), some (.dat (.bl ring)), some (.dat (.int f'')), x, y], []⟩ := fun f' hf' => by
        refine ⟨pre ++ [v], t, f', some (.dat (.int pre.length)), some (.dat (.int v)), by rw [hbs, List.append_assoc]; rfl, ?_, ?_, rfl⟩
        · rw [e2, List.length_append]
          rfl
        · rw [tail_app, hf', ← hf, hstep]
          omega
      by_cases hv : v = 1
      · subst hv
        have hgo : ∀ (c : Bool), c = cAt ring bs pre → ∀ RR : Sl → S → Prop, RR (.dat (.int (zz (cAt ring bs pre) t.length))) ⟨[some (.dat (.tup (dI bs))), some (.dat (.bl ring)), some (.dat (.int f)), some (.dat (.int pre.length)), some (.dat (.int 1))], []⟩ →
            fs_endings [.dat (.int (((dI bs).length : Int) - 1 - (pre.length : Int))), .dat (.bl true), .dat (.bl c)] [] (retP ⟨[some (.dat (.tup (dI bs))), some (.dat (.bl ring)), some (.dat (.int f)), some (.dat (.int pre.length)), some (.dat (.int 1))], []⟩ RR) := fun c hc RR hR => hcall _ _ hc (r_rPd hR)
        cases ring with
        | false =>
          repeat' walk_at "s"
          · refine hgo _ (by simp [cAt, lfN]) _ ?_
            repeat' walk_at "s"
            exact ih _ (hend _ (by rw [if_pos rfl]))
          · contradiction
        | true =>
          by_cases hp0 : pre.length = 0
          · repeat' walk_at "s"
            · refine hgo _ (by simp [cAt, hp0]) _ ?_
              repeat' walk_at "s"
              exact ih _ (hend _ (by rw [if_pos rfl]))
            · exfalso
              omega
            · contradiction
          · repeat' walk_at "s"
            · exfalso
              omega
            · refine r_ixT h0 ?_
              repeat' walk_at "s"
              refine hgo _ (by simp [cAt, lfN, hp0, hb0]) _ ?_
              repeat' walk_at "s"
              exact ih _ (hend _ (by rw [if_pos rfl]))
            · contradiction
      · repeat' walk_at "s"
        all_goals first
          | contradiction
          | exact ih _ (hend _ (by rw [if_neg hv]; omega))
  · rintro s ⟨pre, suf, f, x, y, hbs, hrs, hf, rfl⟩
    cases suf with
    | cons v t => cases hrs
    | nil =>
      repeat' walk_at "s"
      rw [← hf, tail_nil ring bs pre (by rw [hbs, List.append_nil] at h2; exact h2), Int.add_zero] at h
      exact h
/-! ### _law_sums -/
abbrev st_law_sums : Stmt := topS 12
abbrev N_law_sums : List Str := ["_law_many", "_law_found"]
theorem sc_law_sums : FnScope N_law_sums ["_law_many"] (defScope st_law_sums) := ⟨rfl, rfl, rfl, by decide +kernel, rfl, by decide +kernel, by decide +kernel⟩
def fs_law_sums : FS := fun args μ R => ∃ n : Nat, args = [.dat (.int n)] ∧ 1 ≤ n ∧ n ≤ 61 ∧ μ = [] ∧ R (.dat (.lst (dI (sums (n + 1))))) []
set_option maxHeartbeats 4000000 in
theorem ok_law_sums {fa : Addr} {fd : FuncData} (F : Fun K "_law_sums" "_law_sums" st_law_sums fa fd) (B : Bts mg) : FnOk P w K mg base CX0 1 fa fd ["_law_many"] (spD K 1 fs_law_sums) := by
  refine fn_ok false F sc_law_sums rfl fun cdv A outer s H E hr => ⟨_, (s_cons (s_set 1 sc_law_sums.nd (e_lst (a_cons e_int (a_cons e_int a_nil))))
      (s_cons (s_while PassesOwn.never (t_frz (t_cmp (op_ltAll hr.units0) ops_lt (e_cb call_len cbs_len (by rfl) B.len PySem.boot_len (a_cons (e_var 1) a_nil)) (e_op op_addAll ops_add (e_var 0) e_int) (nomark _))) (s_scope (s_one (s_expr (e_m PySem.F.slot_list_append PySem.F.type_list_append mt_append mts_app (e_var 1) (a_cons (e_frz (e_op op_addAll ops_add (e_ix (e_var 1) (e_un un_neg uns_neg e_int)) (e_ix (e_var 1) (e_un un_neg uns_neg e_int)))) a_nil))))))
      (s_ghost 1 (s_one (s_ret (e_var 1)))))), fun args μ R hn h => ?_⟩
  obtain ⟨n, rfl, h1, hn, rfl, h⟩ := h
  show (?w : Dn → S → Prop) ?d ⟨[some _, none], _⟩
  repeat' walk_at "s"
  · simp [sz]
  · refine ⟨fun m s => ∃ k : Nat, 2 ≤ k ∧ k + m = n + 1 ∧ s = ⟨[some (.dat (.int n)), some (.cel 0)], [some (.lst (dI (sums k)))]⟩, n - 1, ⟨2, by omega, by omega, rfl⟩, ?_⟩
    rintro m s ⟨k, hk, hkm, rfl⟩
    have hlen : (sums k).length = k := sums_len k
    have hd : (dI (sums k)).length = k := by rw [dI_len, hlen]
    have g1 : atI (dI (sums k)) (-1) = some (.int (zz false k)) := by
      refine atI_neg (by decide) (by omega) ?_
      rw [hd]
      have := sums_get k (k - 1) (by omega)
      rw [show (k - 1) + 1 = k by omega] at this
      rw [show ((-1 : Int) + k).toNat = k - 1 by omega]
      exact dI_get this
    have g2 : atI (dI (sums k)) (-2) = some (.int (zz false (k - 1))) := by
      refine atI_neg (by decide) (by omega) ?_
      rw [hd]
      have := sums_get k (k - 2) (by omega)
      rw [show (k - 2) + 1 = k - 1 by omega] at this
      rw [show ((-2 : Int) + k).toNat = k - 2 by omega]
      exact dI_get this
    repeat' walk_at "s"
    · refine r_ixL g1 ?_
      repeat' walk_at "s"
      refine r_ixL g2 ?_
      rename_i a
      rw [hd] at a
      repeat' walk_at "s"
      · rw [hd]
        unfold sz
        omega
      · refine ⟨m - 1, by omega, k + 1, by omega, by omega, ?_⟩
        obtain ⟨k', rfl⟩ : ∃ k', k = k' + 2 := ⟨k - 2, by omega⟩
        show S.mk _ [some (.lst (dI (sums (k' + 2)) ++ dI [_]))] = S.mk _ [some (.lst (dI (sums (k' + 2) ++ [zz false (k' + 3)])))]
        rw [dI_app, zz_two]
        rfl
    · rename_i a
      rw [hd] at a
      rw [show k = n + 1 by omega]
      exact h
/-! ### _law_is_rest -/
abbrev st_law_is_rest : Stmt := topS 13
abbrev N_law_is_rest : List Str := ["_law_row", "_law_is_ring", "_law_later", "_law_here", "_law_there"]
theorem sc_law_is_rest : FnScope N_law_is_rest ["_law_row", "_law_is_ring"] (defScope st_law_is_rest) := ⟨rfl, rfl, rfl, by decide +kernel, rfl, by decide +kernel, by decide +kernel⟩
def fs_law_is_rest : FS := fun args μ R => ∃ (bs : List Int) (ring : Bool), args = [.dat (.tup (dI bs)), .dat (.bl ring)] ∧ 2 ≤ bs.length ∧ bs.length ≤ 70 ∧ GoodR ring bs ∧ μ = [] ∧ R (.dat (.bl true)) []
set_option maxHeartbeats 4000000 in
theorem ok_law_is_rest {fa : Addr} {fd : FuncData} (F : Fun K "_law_is_rest" "_law_is_rest" st_law_is_rest fa fd) (B : Bts mg) : FnOk P w K mg base CX0 1 fa fd ["_law_row", "_law_is_ring"] (spD K 2 fs_law_is_rest) := by
  refine fn_ok false F sc_law_is_rest rfl fun cdv A outer s H E hr => ⟨_, (s_cons (s_set 2 sc_law_is_rest.nd (e_frz (e_op op_addAll ops_add (e_sl (e_var 0) (o_some e_int) o_none) (e_if (t_tru (e_var 1)) (e_sl (e_var 0) o_none (o_some e_int)) (e_tup (a_cons e_int a_nil))))))
      (s_cons (s_if (t_frz (t_not (t_tru (e_cb (cr_all rfl) cbs_all (by rfl) B.all boot_all (a_cons (e_lc (own := [("_law_here", 3), ("_law_there", 4)]) rfl sc_law_is_rest.nd (i_zip rfl B.zip (a_cons (e_var 0) (a_cons (e_var 2) a_nil))) (blkOk_by (N := N_law_is_rest) (sc := (defScope st_law_is_rest)) (by decide +kernel)) rfl (fun _ _ _ _ _ => (g_tup rfl (gs_cons 3 sc_law_is_rest.nd (gs_cons 4 sc_law_is_rest.nd gs_nil)))) (fun _ _ _ _ _ => ts_nil) (fun _ _ _ _ _ => (e_frz (e_and (e_cmp (op_inAll (hu65 hr)) ops_in (e_var 3) (e_tup (a_cons e_int (a_cons e_int a_nil))) (by rfl)) (e_one (e_cmp (op_eqAll (hu64 hr)) ops_eq (e_op op_mulAll ops_mul (e_var 3) (e_var 4)) e_int (nomark _))))))) a_nil))))) (s_one (s_ret e_bl)) s_nil)
      (s_one (s_ret (e_or (e_var 1) (e_one (e_cmp (op_eqAll (hu64 hr)) ops_eq (e_ix (e_var 0) (e_un un_neg uns_neg e_int)) e_int (nomark _)))))))), fun args μ R hn h => ?_⟩
  obtain ⟨bs, ring, rfl, h2, hm, hg, rfl, h⟩ := h
  show (?w : Dn → S → Prop) ?d ⟨[some _, some _, none, none, none], _⟩
  have hpair := good_pairs hg h2
  have c1 : Gd.cutD (dI bs) (some 1) none = dI (bs.drop 1) := by
    rw [cutD_dI]
    exact congrArg dI (cutL_lo bs 1)
  have c2 : Gd.cutD (dI bs) none (some 1) = dI (bs.take 1) := by
    rw [cutD_dI]
    exact congrArg dI (cutL_hi bs 1)
  cases ring
  · have hl : Gd.cutD (dI bs) (some 1) none ++ [D.int 1] = dI (lat false bs) := by
      rw [c1]
      show dI (bs.drop 1) ++ dI [1] = _
      rw [dI_app]
      cases bs with
      | nil => cases h2
      | cons b t => rfl
    repeat' walk_at "s"
    · simp [sz]
    · rw [c1, dI_len, List.length_drop]
      simp [sz]
      omega
    rw [hl]
    refine r_lcI (fun rs acc μ => μ = [] ∧ ∃ k, acc = dB (List.replicate k true) ∧ k + rs.length ≤ 70 ∧ ∀ p ∈ rs, ∃ q : Int × Int, ((q.1 = 0 ∨ q.1 = 1) ∧ q.1 * q.2 = 0) ∧ p = .tup [.int q.1, .int q.2]) (by walk_at "n") ?_ ?_ ?_
    · refine ⟨rfl, 0, rfl, by rw [zip_dI_len]; omega, fun p hp => ?_⟩
      obtain ⟨q, hq, rfl⟩ := zip_dI hp
      exact ⟨q, hpair q hq, rfl⟩
    · rintro p ps acc μ ⟨rfl, k, rfl, hk, hp⟩ ih
      obtain ⟨q, ⟨hq1, hq2⟩, rfl⟩ := hp _ (List.mem_cons_self ..)
      rw [List.length_cons] at hk
      have hsz : sz ((dB (List.replicate k true)).length + 1) := by
        rw [dB_len, List.length_replicate]
        unfold sz
        omega
      repeat' walk_at "s"
      all_goals try (simp [sz]; done)
      all_goals try exact hsz
      all_goals try exact .inl ⟨by omega, by omega⟩
      · rw [decide_eq_true hq2]
        exact ih _ _ ⟨rfl, k + 1, dB_true k, by omega, fun p h => hp p (List.mem_cons_of_mem _ h)⟩
      · rename_i a
        refine absurd ?_ a
        rcases hq1 with e | e <;> rw [e] <;> decide
    · rintro acc μ ⟨rfl, k, rfl, hk, hp⟩
      repeat' walk_at "s"
      refine r_allT rfl ?_
      repeat' walk_at "s"
      refine r_ixT (atI_neg (x := .int 0) (by decide) (by rw [dI_len]; omega) ?_) ?_
      · rw [dI_len, show ((-1 : Int) + bs.length).toNat = bs.length - 1 by omega]
        cases bs with
        | nil => cases h2
        | cons b t => exact dI_get (Gd1.last (fr := true) hg (List.cons_ne_nil _ _))
      repeat' walk_at "s"
      simpa using h
  · have hl : Gd.cutD (dI bs) (some 1) none ++ Gd.cutD (dI bs) none (some 1) = dI (lat true bs) := by
      rw [c1, c2, dI_app]
      cases bs with
      | nil => cases h2
      | cons b t => rfl
    repeat' walk_at "s"
    · rw [c1, c2, dI_len, dI_len, List.length_drop, List.length_take]
      simp [sz]
      omega
    rw [hl]
    refine r_lcI (fun rs acc μ => μ = [] ∧ ∃ k, acc = dB (List.replicate k true) ∧ k + rs.length ≤ 70 ∧ ∀ p ∈ rs, ∃ q : Int × Int, ((q.1 = 0 ∨ q.1 = 1) ∧ q.1 * q.2 = 0) ∧ p = .tup [.int q.1, .int q.2]) (by walk_at "n") ?_ ?_ ?_
    · refine ⟨rfl, 0, rfl, by rw [zip_dI_len]; omega, fun p hp => ?_⟩
      obtain ⟨q, hq, rfl⟩ := zip_dI hp
      exact ⟨q, hpair q hq, rfl⟩
    · rintro p ps acc μ ⟨rfl, k, rfl, hk, hp⟩ ih
      obtain ⟨q, ⟨hq1, hq2⟩, rfl⟩ := hp _ (List.mem_cons_self ..)
      rw [List.length_cons] at hk
      have hsz : sz ((dB (List.replicate k true)).length + 1) := by
        rw [dB_len, List.length_replicate]
        unfold sz
        omega
      repeat' walk_at "s"
      all_goals try (simp [sz]; done)
      all_goals try exact hsz
      all_goals try exact .inl ⟨by omega, by omega⟩
      · rw [decide_eq_true hq2]
        exact ih _ _ ⟨rfl, k + 1, dB_true k, by omega, fun p h => hp p (List.mem_cons_of_mem _ h)⟩
      · rename_i a
        refine absurd ?_ a
        rcases hq1 with e | e <;> rw [e] <;> decide
    · rintro acc μ ⟨rfl, k, rfl, hk, hp⟩
      repeat' walk_at "s"
      refine r_allT rfl ?_
      repeat' walk_at "s"
      exact h
end
open PySem PySem.Spec PyProof.Rows L2 Gd
theorem zz_ge (n : Nat) : 3 ≤ zz false (n + 4) := by
  have h1 := zz_pos false n
  have h2 := zz_pos false (n + 1)
  have e1 := zz_two (n + 1)
  have e2 := zz_two n
  rw [show n + 1 + 3 = n + 4 by omega, show n + 1 + 2 = n + 3 by omega, show n + 1 + 1 = n + 2 by omega] at e1
  have h3 := zz_pos false (n + 2)
  omega
theorem cnt_ge (b : Bool) (r : Nat) : 3 ≤ cnt b (9 + r) := by
  have h1 := zz_ge (r + 5)
  rw [show r + 5 + 4 = 9 + r by omega] at h1
  cases b with
  | false => exact h1
  | true =>
    have h2 := zz_pos false (8 + r)
    show 3 ≤ zz true (9 + r - 1) + sh false (9 + r - 1)
    rw [show 9 + r - 1 = 8 + r by omega, (zz_tf (8 + r)).1, show 8 + r + 1 = 9 + r by omega]
    omega
theorem row_back (r : Nat) (z : Int) (h0 : 0 ≤ z) (h1 : z < cnt false (9 + r)) : num true (rest false (9 + r) z) < cnt true (9 + r) ∧ 0 ≤ num true (rest false (9 + r) z) ∧ rest true (9 + r) (num true (rest false (9 + r) z)) = rest false (9 + r) z := by
  obtain ⟨m, hm⟩ : ∃ m, 9 + r = m + 1 := ⟨8 + r, by omega⟩
  rw [hm] at h1 ⊢
  have hg := (rest_ok false m z h0 h1).1
  have hl := rest_len false (m + 1) z
  cases hr : rest false (m + 1) z with
  | nil =>
    rw [hr] at hl
    cases hl
  | cons a t =>
    rw [hr] at hg hl
    have ht : t.length = m := Nat.succ.inj hl
    have h := ring_back a t hg
    rw [ht] at h
    exact h
theorem rest_ok' (b : Bool) (r : Nat) (z : Int) (h0 : 0 ≤ z) (h1 : z < cnt b (9 + r)) : GoodR b (rest b (9 + r) z) ∧ num b (rest b (9 + r) z) = z := by
  obtain ⟨m, hm⟩ : ∃ m, 9 + r = m + 1 := ⟨8 + r, by omega⟩
  rw [hm] at h1 ⊢
  exact rest_ok b m z h0 h1
theorem rest_lt' (b : Bool) (r : Nat) (z y : Int) (h0 : 0 ≤ z) (h : z < y) (h1 : y < cnt b (9 + r)) : HT.lexLt (rest b (9 + r) z) (rest b (9 + r) y) = true := by
  obtain ⟨m, hm⟩ : ∃ m, 9 + r = m + 1 := ⟨8 + r, by omega⟩
  rw [hm] at h1 ⊢
  exact rest_lt b m z y h0 h h1
section
variable {P : Program} {w : World} {K : PySem.W.Frag} {mg : Str → Option Value} {base : Heap}
/-! ### _law_right -/
abbrev st_law_right : Stmt := topS 14
abbrev N_law_right : List Str := ["_law_box", "_law_many", "_law_sums_here", "_law_counts", "_law_is_ring", "_law_size", "_law_numbers", "_law_turn", "_law_k", "_law_pair", "_law_row"]
theorem sc_law_right : FnScope N_law_right ["_law_box"] (defScope st_law_right) := ⟨rfl, rfl, rfl, by decide +kernel, rfl, by decide +kernel, by decide +kernel⟩
def fs_law_right : FS := fun args μ R => ∃ o, args = [.cel 0] ∧ μ = [some o] ∧ Box 0 o ∧ ∀ o', o'.plain → R (.dat (.bl true)) [some o']
set_option maxHeartbeats 4000000 in
theorem ok_law_right {fa : Addr} {fd : FuncData} (F : Fun K "_law_right" "_law_right" st_law_right fa fd) (B : Bts mg) (G_law_sums : FnK P w K mg base "_law_sums" 1 1 fs_law_sums) (G_law_same : FnK P w K mg base "_law_same" 3 2 (fs_law_same 3)) (G_law_take : FnK P w K mg base "_law_take" 1 2 fs_law_take) (GD1_line_counts : FnDf P w K mg base "line_counts" 2 2 [.bl false] fs_line_counts) (GK1_line_counts : FnKw P w K mg base "line_counts" 2 2 1 ["ring"] fs_line_counts) (GK2_line_rest : FnKw P w K mg base "line_rest" 3 3 2 ["ring"] fs_line_rest) (G_law_is_rest : FnK P w K mg base "_law_is_rest" 1 2 fs_law_is_rest) (GK1_line_number : FnKw P w K mg base "line_number" 2 2 1 ["ring"] fs_line_number) : FnOk P w K mg base CX0 4 fa fd ["_law_box"] (spD K 1 fs_law_right) := by
  refine fn_ok false F sc_law_right rfl fun cdv A outer s H E hr => ⟨_, (s_cons (s_asg (e_frz (e_tup (a_cons (e_frz (e_op op_addAll ops_add e_int (e_callB 0 (G_law_take.mono (by first | exact Nat.le_refl _ | decide)) hr (by rfl) (a_cons (e_var 0) (a_cons e_int a_nil))))) (a_cons (e_frz (e_call (G_law_sums.mono (by first | exact Nat.le_refl _ | decide)) hr (by rfl) (a_cons e_int a_nil))) a_nil)))) (g_tup rfl (gs_cons 1 sc_law_right.nd (gs_cons 2 sc_law_right.nd gs_nil))))
      (s_cons (s_set 3 sc_law_right.nd (e_frz (e_lst (a_cons (e_ix (e_var 2) (e_op op_sub ops_sub (e_var 1) e_int)) (a_cons (e_frz (e_op op_addAll ops_add (e_ix (e_var 2) (e_op op_sub ops_sub (e_var 1) e_int)) (e_ix (e_var 2) (e_op op_sub ops_sub (e_var 1) e_int)))) a_nil)))))
      (s_cons (s_if (t_frz (t_not (t_tru (e_call (G_law_same.mono (by first | exact Nat.le_refl _ | decide)) hr (by rfl) (a_cons (e_frz (e_lst (a_cons (e_frz (e_callD (GD1_line_counts.mono (by first | exact Nat.le_refl _ | decide)) hr (by rfl) (a_cons (e_var 1) a_nil))) (a_cons (e_frz (e_callK (GK1_line_counts.mono (by first | exact Nat.le_refl _ | decide)) hr (by rfl) (a_cons (e_var 1) a_nil) (k_cons e_bl k_nil))) a_nil)))) (a_cons (e_var 3) a_nil)))))) (s_one (s_ret e_bl)) s_nil)
      (s_cons (s_for PassesOwn.never rfl (i_seq (e_tup (a_cons e_bl (a_cons e_bl a_nil)))) (g_name 4 sc_law_right.nd) (s_scope (s_cons (s_par rfl sc_law_right.nd (i := 5) (j := 6) rfl rfl (by decide) rfl rfl (a_cons (e_ix (e_var 3) (e_ct call_int1 cbs_int (by rfl) B.int PyProof.Rows.boot_int (a_cons (e_var 4) a_nil))) (a_cons (e_lst (a_cons e_int a_nil)) a_nil)))
      (s_cons (s_for PassesOwn.never rfl (i_rng1 rfl B.range (a_cons e_int a_nil)) (g_name 7 sc_law_right.nd) (s_scope (s_one (s_expr (e_m PySem.F.slot_list_append PySem.F.type_list_append mt_append mts_app (e_var 6) (a_cons (e_frz (e_op op_modN ops_i (e_op op_addAll ops_add (e_op op_mulAll ops_mul (e_callB 0 (G_law_take.mono (by first | exact Nat.le_refl _ | decide)) hr (by rfl) (a_cons (e_var 0) (a_cons (e_op op_pow ops_i e_int e_int) a_nil))) (e_op op_pow ops_i e_int e_int)) (e_callB 0 (G_law_take.mono (by first | exact Nat.le_refl _ | decide)) hr (by rfl) (a_cons (e_var 0) (a_cons (e_op op_pow ops_i e_int e_int) a_nil)))) (e_op op_sub ops_sub (e_var 5) e_int))) a_nil))))))
      (s_ghost 6 (s_one (s_for PassesOwn.never rfl (i_seq (e_frz (e_op op_addAll ops_add (e_var 6) (e_lst (a_cons (e_op op_sub ops_sub (e_var 5) e_int) a_nil))))) (g_name 8 sc_law_right.nd) (s_scope (s_cons (s_set 9 sc_law_right.nd (e_frz (e_lst (a_cons (e_frz (e_callK (GK2_line_rest.mono (by first | exact Nat.le_refl _ | decide)) hr (by rfl) (a_cons (e_var 1) (a_cons (e_var 8) a_nil)) (k_cons (e_var 4) k_nil))) (a_cons (e_frz (e_callK (GK2_line_rest.mono (by first | exact Nat.le_refl _ | decide)) hr (by rfl) (a_cons (e_var 1) (a_cons (e_frz (e_op op_addAll ops_add (e_var 8) e_int)) a_nil)) (k_cons (e_var 4) k_nil))) a_nil)))))
      (s_cons (s_if (t_frz (PW.pt (t_or (t_not (t_tru (e_cb (cr_all rfl) cbs_all (by rfl) B.all boot_all (a_cons (e_lc (own := [("_law_row", 10)]) rfl sc_law_right.nd (i_seq (e_var 9)) (blkOk_by (N := N_law_right) (sc := (defScope st_law_right)) (by decide +kernel)) rfl (fun _ _ _ _ _ => (g_name 10 sc_law_right.nd)) (fun _ _ _ _ _ => ts_nil) (fun _ _ _ _ _ => (e_and (e_isi "tuple" (by unfold kT; simp) rfl B.isinstance (e_var 10) rfl B.tuple boot_tuple) (e_one (e_cmp (op_eqAll (hu64 hr)) ops_eq (e_cb call_len cbs_len (by rfl) B.len PySem.boot_len (a_cons (e_var 10) a_nil)) (e_var 1) (nomark _)))))) a_nil)))) (t_or1 (t_not (t_cmp (op_ltAll hr.units0) ops_lt (e_ix (e_var 9) e_int) (e_ix (e_var 9) e_int) (nomark _))))))) (s_one (s_ret e_bl)) s_nil)
      (s_cons (s_if (t_frz (t_not (t_tru (e_cb (cr_all rfl) cbs_all (by rfl) B.all boot_all (a_cons (e_lc (own := [("_law_row", 10)]) rfl sc_law_right.nd (i_seq (e_var 9)) (blkOk_by (N := N_law_right) (sc := (defScope st_law_right)) (by decide +kernel)) rfl (fun _ _ _ _ _ => (g_name 10 sc_law_right.nd)) (fun _ _ _ _ _ => ts_nil) (fun _ _ _ _ _ => (e_frz (e_call (G_law_is_rest.mono (by first | exact Nat.le_refl _ | decide)) hr (by rfl) (a_cons (e_var 10) (a_cons (e_var 4) a_nil)))))) a_nil))))) (s_one (s_ret e_bl)) s_nil)
      (s_cons (s_if (t_frz (t_not (t_tru (e_call (G_law_same.mono (by first | exact Nat.le_refl _ | decide)) hr (by rfl) (a_cons (e_frz (e_lc (own := [("_law_row", 10)]) rfl sc_law_right.nd (i_seq (e_var 9)) (blkOk_by (N := N_law_right) (sc := (defScope st_law_right)) (by decide +kernel)) rfl (fun _ _ _ _ _ => (g_name 10 sc_law_right.nd)) (fun _ _ _ _ _ => ts_nil) (fun _ _ _ _ _ => (e_frz (e_callK (GK1_line_number.mono (by first | exact Nat.le_refl _ | decide)) hr (by rfl) (a_cons (e_var 10) a_nil) (k_cons (e_var 4) k_nil)))))) (a_cons (e_frz (e_lst (a_cons (e_var 8) (a_cons (e_frz (e_op op_addAll ops_add (e_var 8) e_int)) a_nil)))) a_nil)))))) (s_one (s_ret e_bl)) s_nil)
      (s_one (s_if (t_frz (PW.pt (t_and (t_not (t_tru (e_var 4))) (t_and1 (t_cmp (op_neAll (hu64 hr)) ops_ne (e_callK (GK2_line_rest.mono (by first | exact Nat.le_refl _ | decide)) hr (by rfl) (a_cons (e_var 1) (a_cons (e_frz (e_callK (GK1_line_number.mono (by first | exact Nat.le_refl _ | decide)) hr (by rfl) (a_cons (e_ix (e_var 9) e_int) a_nil) (k_cons e_bl k_nil))) a_nil)) (k_cons e_bl k_nil)) (e_ix (e_var 9) e_int) (nomark _)))))) (s_one (s_ret e_bl)) s_nil))))))))))))))
      (s_one (s_ret e_bl)))))), fun args μ R hn h => ?_⟩
  obtain ⟨o, rfl, rfl, hb, h⟩ := h
  show (?w : Dn → S → Prop) ?d ⟨[some _, none, none, none, none, none, none, none, none, none, none], _⟩
  have hp := hb.plain
  repeat' walk_at "s"
  refine ⟨52, 0, o, rfl, by decide, by decide, by decide, rfl, hb, fun r o1 hr0 hr1 hb1 => ?_⟩
  have hp1 := hb1.plain
  obtain ⟨r, rfl⟩ := Int.eq_ofNat_of_zero_le hr0
  repeat' walk_at "s"
  refine ⟨61, rfl, by decide, by decide, rfl, ?_⟩
  have hs1 : ∀ i : Int, i = 9 + (r : Int) - 1 → atI (dI (sums 62)) i = some (.int (zz false (9 + r))) := fun i hi => by
    refine atI_nn (by omega) (dI_get ?_)
    rw [show i.toNat = 8 + r by omega, sums_get 62 (8 + r) (by omega), show 8 + r + 1 = 9 + r by omega]
  have hs3 : ∀ i : Int, i = 9 + (r : Int) - 3 → atI (dI (sums 62)) i = some (.int (zz false (7 + r))) := fun i hi => by
    refine atI_nn (by omega) (dI_get ?_)
    rw [show i.toNat = 6 + r by omega, sums_get 62 (6 + r) (by omega), show 6 + r + 1 = 7 + r by omega]
  repeat' walk_at "s"
  · simp [sz]
  refine r_ixL (hs1 _ rfl) ?_
  repeat' walk_at "s"
  refine r_ixL (hs1 _ rfl) ?_
  repeat' walk_at "s"
  refine r_ixL (hs3 _ rfl) ?_
  repeat' walk_at "s"
  · simp [sz]
  · refine ⟨9 + r, false, rfl, by omega, by omega, rfl, ?_⟩
    repeat' walk_at "s"
    refine ⟨9 + r, true, rfl, by omega, by omega, rfl, ?_⟩
    have hct : cnt true (9 + r) = zz false (9 + r) + zz false (7 + r) := by
      rw [cnt, if_pos rfl, show 9 + r - 1 = 8 + r by omega, (zz_tf (8 + r)).1, show 8 + r = (7 + r) + 1 by omega, sh_succ, show 7 + r + 1 + 1 = 9 + r by omega]
    have hcf : cnt false (9 + r) = zz false (9 + r) := rfl
    rw [← hct, ← hcf]
    repeat' walk_at "s"
    · simp [sz]
    refine ⟨_, rfl, rfl, by simp [sameD, sz], ?_⟩
    repeat' walk_at "s"
    · simp [sz]
    refine r_forI (fun rs s => ∃ (o : MO) (n : Nat) (x1 x2 x3 x4 x5 x6 x7 : Option D), Box n o ∧ n + 8 * rs.length ≤ 100 ∧ (∀ d ∈ rs, ∃ b : Bool, d = .bl b) ∧
      s = ⟨[some (.cel 0), some (.dat (.int (9 + r))), some (.dat (.lst (dI (sums 62)))), some (.dat (.lst [.int (cnt false (9 + r)), .int (cnt true (9 + r))])), Option.map Sl.dat x1, Option.map Sl.dat x2, Option.map Sl.dat x3, Option.map Sl.dat x4, Option.map Sl.dat x5, Option.map Sl.dat x6, Option.map Sl.dat x7], [some o]⟩) ?_ ?_ ?_
    · exact ⟨o1, 1, none, none, none, none, none, none, none, hb1, by decide, by simp, rfl⟩
    · rintro d ds s ⟨o2, n2, x1, x2, x3, x4, x5, x6, x7, hb2, hn2, hds, rfl⟩ ih
      obtain ⟨b, rfl⟩ := hds _ (List.mem_cons_self ..)
      rw [List.length_cons] at hn2
      have hp2 := hb2.plain
      have hix : atI [D.int (cnt false (9 + r)), D.int (cnt true (9 + r))] (if b = true then 1 else 0) = some (.int (cnt b (9 + r))) := by
        cases b <;> exact atI_nn (by decide) rfl
      have hge := cnt_ge b r
      repeat' walk_at "s"
      refine r_ixL hix ?_
      repeat' walk_at "s"
      · simp [sz]
      · exact ⟨by decide, by decide⟩
      have hpw : (10 : Int) ^ Int.toNat 9 = 1000000000 := by decide
      refine r_forI (fun rs s => ∃ (o : MO) (n : Nat) (ns : List Int) (y : Option D), Box n o ∧ n + 2 * rs.length ≤ n2 + 8 ∧ (∀ d ∈ rs, ∃ z : Int, d = .int z) ∧ ns.length + rs.length ≤ 5 ∧ (∀ z ∈ ns, 0 ≤ z ∧ z < cnt b (9 + r) - 1) ∧
        s = ⟨[some (.cel 0), some (.dat (.int (9 + r))), some (.dat (.lst (dI (sums 62)))), some (.dat (.lst [.int (cnt false (9 + r)), .int (cnt true (9 + r))])), some (.dat (.bl b)), some (.dat (.int (cnt b (9 + r)))), some (.cel 1), Option.map Sl.dat y, Option.map Sl.dat x5, Option.map Sl.dat x6, Option.map Sl.dat x7], [some o, some (.lst (dI ns))]⟩) ?_ ?_ ?_
      · refine ⟨o2, n2, [0], x4, hb2, by rw [rg_len]; simp, fun d hd => ?_, by rw [rg_len]; decide, ?_, rfl⟩
        · obtain ⟨z, _, _, e⟩ := rg_mem hd
          exact ⟨z, e⟩
        · intro z hz
          rw [List.mem_singleton.mp hz]
          omega
      · rintro d ds s ⟨o3, n3, ns, y, hb3, hn3, hd3, hl3, hns, rfl⟩ ih2
        obtain ⟨z, rfl⟩ := hd3 _ (List.mem_cons_self ..)
        rw [List.length_cons] at hn3 hl3
        have hp3 := hb3.plain
        repeat' walk_at "s"
        all_goals try exact ⟨by decide, by decide, by decide⟩
        refine ⟨_, n3, o3, rfl, by decide, by decide, by omega, rfl, hb3, fun q1 o4 hq1 hq2 hb4 => ?_⟩
        have hp4 := hb4.plain
        rw [hpw] at hq2
        repeat' walk_at "s"
        all_goals try exact ⟨by decide, by decide, by decide⟩
        · exact .inl ⟨by omega, by omega⟩
        refine ⟨_, n3 + 1, o4, rfl, by decide, by decide, by omega, rfl, hb4, fun q2 o5 hq3 hq4 hb5 => ?_⟩
        have hp5 := hb5.plain
        rw [hpw] at hq4
        repeat' walk_at "s"
        · omega
        · rw [dI_len]
          unfold sz
          omega
        · have f := fmod2 (q1 * 10 ^ Int.toNat 9 + q2) (c := cnt b (9 + r) - 1) (by omega)
          refine ih2 _ ⟨o5, n3 + 2, ns ++ [(q1 * 10 ^ Int.toNat 9 + q2).fmod (cnt b (9 + r) - 1)], some (.int z), hb5, by omega, fun d hd => hd3 d (List.mem_cons_of_mem _ hd), by rw [List.length_append]; simp; omega, fun z hz => ?_, ?_⟩
          · rcases List.mem_append.mp hz with hz | hz
            · exact hns z hz
            · rw [List.mem_singleton.mp hz]
              exact f
          · rw [← dI_app]
            rfl
      · rintro s ⟨o3, n3, ns, y, hb3, hn3, hd3, hl3, hns, rfl⟩
        have hp3 := hb3.plain
        repeat' walk_at "s"
        · simp [sz]
        · rw [dI_len]
          simp [sz]
          omega
        refine r_forI (fun rs s => ∃ (y1 y2 y3 : Option D), (∀ d ∈ rs, ∃ z : Int, d = .int z ∧ 0 ≤ z ∧ z + 1 < cnt b (9 + r)) ∧
          s = ⟨[some (.cel 0), some (.dat (.int (9 + r))), some (.dat (.lst (dI (sums 62)))), some (.dat (.lst [.int (cnt false (9 + r)), .int (cnt true (9 + r))])), some (.dat (.bl b)), some (.dat (.int (cnt b (9 + r)))), some (.dat (.lst (dI ns))), Option.map Sl.dat y, Option.map Sl.dat y1, Option.map Sl.dat y2, Option.map Sl.dat y3], [some o3, none]⟩) ?_ ?_ ?_
        · refine ⟨x5, x6, x7, fun d hd => ?_, rfl⟩
          rcases List.mem_append.mp hd with hd | hd
          · obtain ⟨z, hz, rfl⟩ := dI_mem hd
            have := hns z hz
            exact ⟨z, rfl, by omega, by omega⟩
          · exact ⟨_, List.mem_singleton.mp hd, by omega, by omega⟩
        · rintro d ds s ⟨y1, y2, y3, hd, rfl⟩ ih3
          obtain ⟨z, rfl, hz0, hz1⟩ := hd _ (List.mem_cons_self ..)
          have hlen1 := rest_len b (9 + r) z
          have hlen2 := rest_len b (9 + r) (z + 1)
          obtain ⟨hg1, hv1⟩ := rest_ok' b r z hz0 (by omega)
          obtain ⟨hg2, hv2⟩ := rest_ok' b r (z + 1) (by omega) hz1
          have hlt := rest_lt' b r z (z + 1) hz0 (by omega) hz1
          repeat' walk_at "s"
          refine ⟨9 + r, z, b, rfl, by omega, by omega, hz0, by omega, rfl, ?_⟩
          repeat' walk_at "s"
          refine ⟨9 + r, z + 1, b, rfl, by omega, by omega, by omega, hz1, rfl, ?_⟩
          repeat' walk_at "s"
          all_goals try (simp [sz]; done)
          refine r_allQ rfl rfl (by simp [toB, dI_len, hlen1, hlen2]) ?_
          repeat' walk_at "s"
          all_goals first
            | (exfalso; rename_i e; rw [hlt] at e; exact Bool.noConfusion e)
            | skip
          refine ⟨_, b, rfl, by omega, by omega, hg1, rfl, ?_⟩
          repeat' walk_at "s"
          all_goals try (simp [sz]; done)
          refine ⟨_, b, rfl, by omega, by omega, hg2, rfl, ?_⟩
          repeat' walk_at "s"
          all_goals try (simp [sz]; done)
          refine r_allQ rfl rfl (by simp [toB]) ?_
          repeat' walk_at "s"
          refine ⟨_, b, rfl, by omega, by omega, good_bits hg1, rfl, ?_⟩
          rw [hv1]
          repeat' walk_at "s"
          all_goals try (simp [sz]; done)
          refine ⟨_, b, rfl, by omega, by omega, good_bits hg2, rfl, ?_⟩
          rw [hv2]
          repeat' walk_at "s"
          all_goals try (simp [sz]; done)
          refine ⟨_, rfl, rfl, by simp [sameD, sz], ?_⟩
          repeat' walk_at "s"
          · exact ih3 _ ⟨some (.int z), (some (.lst [.tup (dI (rest b (9 + r) z)), .tup (dI (rest b (9 + r) (z + 1)))])), y3, fun d hd' => hd d (List.mem_cons_of_mem _ hd'), rfl⟩
          · rename_i e
            subst e
            have hbk := row_back r z hz0 (by omega)
            refine ⟨_, true, rfl, by omega, by omega, good_bits hg1, rfl, ?_⟩
            repeat' walk_at "s"
            refine ⟨9 + r, _, true, rfl, by omega, by omega, hbk.2.1, hbk.1, rfl, ?_⟩
            rw [hbk.2.2]
            repeat' walk_at "s"
            · exact fit_t _
            · exact fit_t _
            · exact ih3 _ ⟨some (.int z), (some (.lst [.tup (dI (rest false (9 + r) z)), .tup (dI (rest false (9 + r) (z + 1)))])), y3, fun d hd' => hd d (List.mem_cons_of_mem _ hd'), rfl⟩
            · exfalso
              rename_i e
              rw [eqv_dI, decide_eq_true rfl] at e
              exact Bool.noConfusion e
        · rintro s ⟨y1, y2, y3, hd, rfl⟩
          repeat' walk_at "s"
          have hn3' : n3 + 2 * 0 ≤ n2 + 8 := hn3
          exact ih _ ⟨o3, n3, some (.bl b), some (.int (cnt b (9 + r))), some (.lst (dI ns)), y, y1, y2, y3, hb3, by omega, fun d hd => hds d (List.mem_cons_of_mem _ hd), rfl⟩
    · rintro s ⟨o2, n2, x1, x2, x3, x4, x5, x6, x7, hb2, hn2, hds, rfl⟩
      have hp2 := hb2.plain
      repeat' walk_at "s"
      exact h _ hp2
/-! ### law -/
abbrev st_law : Stmt := topS 15
abbrev N_law : List Str := ["_law_script", "_law_cells", "_law_k"]
theorem sc_law : FnScope N_law ["_law_script"] (defScope st_law) := ⟨rfl, rfl, rfl, by decide +kernel, rfl, by decide +kernel, by decide +kernel⟩
set_option maxHeartbeats 4000000 in
theorem ok_law {fa : Addr} {fd : FuncData} (F : Fun K "law" "law" st_law fa fd) (B : Bts mg) (G_law_folded : FnK P w K mg base "_law_folded" 1 2 fs_law_folded) (G_law_right : FnK P w K mg base "_law_right" 4 1 fs_law_right) (G_law_dip : FnK P w K mg base "_law_dip" 1 2 fs_law_dip) : FnOk P w K mg base CX0 5 fa fd ["_law_script"] (spD K 1 fs_law) := by
  refine fn_ok false F sc_law rfl fun cdv A outer s H E hr => ⟨_, (s_cons (s_set 1 sc_law.nd (e_frz (e_call (G_law_folded.mono (by first | exact Nat.le_refl _ | decide)) hr (by rfl) (a_cons (e_var 0) (a_cons e_int a_nil)))))
      (s_one (s_ret (e_cb (cr_all rfl) cbs_all (by rfl) B.all boot_all (a_cons (e_lc (own := [("_law_k", 2)]) rfl sc_law.nd (i_rng1 rfl B.range (a_cons (e_cb (call_max2 rfl) cbs_max2 (by rfl) B.max boot_max (a_cons e_int (a_cons (e_cb call_len cbs_len (by rfl) B.len PySem.boot_len (a_cons (e_var 1) a_nil)) a_nil))) a_nil)) (blkOk_by (N := N_law) (sc := (defScope st_law)) (by decide +kernel)) rfl (fun _ _ _ _ _ => (g_name 2 sc_law.nd)) (fun _ _ _ _ _ => ts_nil) (fun _ _ _ _ _ => (e_frz (e_callB 0 (G_law_right.mono (by first | exact Nat.le_refl _ | decide)) hr (by rfl) (a_cons (e_call (G_law_dip.mono (by first | exact Nat.le_refl _ | decide)) hr (by rfl) (a_cons (e_var 1) (a_cons (e_var 2) a_nil))) a_nil))))) a_nil))))), fun args μ R hn h => ?_⟩
  obtain ⟨is, rfl, hl, rfl, h⟩ := h
  show (?w : Dn → S → Prop) ?d ⟨[some _, none, none], _⟩
  repeat' walk_at "s"
  refine ⟨is, 3, rfl, by decide, by decide, hl, rfl, fun js hj => ?_⟩
  have hmx : maxI 1 ((dI js).length : Int) ≤ 3 ∧ 0 ≤ maxI 1 ((dI js).length : Int) := by
    rw [dI_len]
    unfold maxI
    split <;> omega
  repeat' walk_at "s"
  · exact ⟨by omega, by omega⟩
  refine r_lcI (fun rs acc μ => μ = [] ∧ ∃ k, acc = dB (List.replicate k true) ∧ k + rs.length ≤ 3 ∧ ∀ p ∈ rs, ∃ i : Nat, i ≤ 100 ∧ p = .int i) (by walk_at "n") ?_ ?_ ?_
  · refine ⟨rfl, 0, rfl, by rw [rg_len]; omega, fun p hp => ?_⟩
    obtain ⟨i, h1, h3, rfl⟩ := rg_mem hp
    exact ⟨i.toNat, by omega, by rw [Int.toNat_of_nonneg h1]⟩
  · rintro p ps acc μ ⟨rfl, k, rfl, hk, hp⟩ ih
    obtain ⟨i, hi, rfl⟩ := hp _ (List.mem_cons_self ..)
    rw [List.length_cons] at hk
    repeat' walk_at "s"
    refine ⟨js, i, rfl, hi, rfl, fun o ho => ?_⟩
    have hpl := ho.plain
    repeat' walk_at "s"
    refine ⟨o, rfl, rfl, ho, fun o' hp' => ?_⟩
    repeat' walk_at "s"
    · rw [dB_len, List.length_replicate]
      unfold sz
      omega
    · exact ih _ _ ⟨rfl, k + 1, dB_true k, by omega, fun p h => hp p (List.mem_cons_of_mem _ h)⟩
  · rintro acc μ ⟨rfl, k, rfl, hk, hp⟩
    repeat' walk_at "s"
    refine r_allT rfl ?_
    repeat' walk_at "s"
    exact h
end
open PySem PySem.Spec PyProof.Rows L2 Gd
/-! ### what the top has written; the law's own head -/
theorem all_mk {l : PySem.W.OpenLaw} {w : World} {K : PySem.W.Frag} {h : Heap} {mg : Str → Option Value} {fa f0 f1 f2 f3 f4 f5 f6 f7 f8 f9 f10 f11 : Addr} (X : K.In h) (G : h.Ns mainGlobals mg) (hfa : mg "law" = some (.ref fa))
    {od0 an0 : Option Addr} {sl0 : Array (Option Value)} {oc0 kV0 dc0 pm0 cd0 ct0 : Value}
    (a0 : PySem.W.nsIn K mainGlobals "endings" = some (some (.ref f0))) (l0 : K.lookup f0 = some ⟨oc0, od0, .func (PySem.W.fnOf "endings" "endings" (defArgs st_endings) (defBody st_endings) (defScope st_endings) .none kV0 dc0 pm0 an0 cd0 ct0), sl0⟩) (c0 : PySem.W.codeIn K cd0 "endings" = true) (k0 : PySem.W.keepIn K (.ref f0) = true)
    {od1 an1 : Option Addr} {sl1 : Array (Option Value)} {oc1 dc1 pm1 cd1 ct1 : Value} {D1 : Addr}
    (a1 : PySem.W.nsIn K mainGlobals "line_counts" = some (some (.ref f1))) (l1 : K.lookup f1 = some ⟨oc1, od1, .func (PySem.W.fnOf "line_counts" "line_counts" (defArgs st_line_counts) (defBody st_line_counts) (defScope st_line_counts) .none (.ref D1) dc1 pm1 an1 cd1 ct1), sl1⟩) (c1 : PySem.W.codeIn K cd1 "line_counts" = true) (k1 : PySem.W.keepIn K (.ref f1) = true)
    (n1_0 : PySem.W.nsIn K D1 "ring" = some (some (.bool false)))
    {od2 an2 : Option Addr} {sl2 : Array (Option Value)} {oc2 dc2 pm2 cd2 ct2 : Value} {D2 : Addr}
    (a2 : PySem.W.nsIn K mainGlobals "line_rest" = some (some (.ref f2))) (l2 : K.lookup f2 = some ⟨oc2, od2, .func (PySem.W.fnOf "line_rest" "line_rest" (defArgs st_line_rest) (defBody st_line_rest) (defScope st_line_rest) .none (.ref D2) dc2 pm2 an2 cd2 ct2), sl2⟩) (c2 : PySem.W.codeIn K cd2 "line_rest" = true) (k2 : PySem.W.keepIn K (.ref f2) = true)
    (n2_0 : PySem.W.nsIn K D2 "ring" = some (some (.bool false)))
    {od3 an3 : Option Addr} {sl3 : Array (Option Value)} {oc3 dc3 pm3 cd3 ct3 : Value} {D3 : Addr}
    (a3 : PySem.W.nsIn K mainGlobals "line_number" = some (some (.ref f3))) (l3 : K.lookup f3 = some ⟨oc3, od3, .func (PySem.W.fnOf "line_number" "line_number" (defArgs st_line_number) (defBody st_line_number) (defScope st_line_number) .none (.ref D3) dc3 pm3 an3 cd3 ct3), sl3⟩) (c3 : PySem.W.codeIn K cd3 "line_number" = true) (k3 : PySem.W.keepIn K (.ref f3) = true)
    (n3_0 : PySem.W.nsIn K D3 "ring" = some (some (.bool false)))
    {od4 an4 : Option Addr} {sl4 : Array (Option Value)} {oc4 kV4 dc4 pm4 cd4 ct4 : Value}
    (a4 : PySem.W.nsIn K mainGlobals "_law_dip" = some (some (.ref f4))) (l4 : K.lookup f4 = some ⟨oc4, od4, .func (PySem.W.fnOf "_law_dip" "_law_dip" (defArgs st_law_dip) (defBody st_law_dip) (defScope st_law_dip) .none kV4 dc4 pm4 an4 cd4 ct4), sl4⟩) (c4 : PySem.W.codeIn K cd4 "_law_dip" = true) (k4 : PySem.W.keepIn K (.ref f4) = true)
    {od5 an5 : Option Addr} {sl5 : Array (Option Value)} {oc5 kV5 dc5 pm5 cd5 ct5 : Value}
    (a5 : PySem.W.nsIn K mainGlobals "_law_take" = some (some (.ref f5))) (l5 : K.lookup f5 = some ⟨oc5, od5, .func (PySem.W.fnOf "_law_take" "_law_take" (defArgs st_law_take) (defBody st_law_take) (defScope st_law_take) .none kV5 dc5 pm5 an5 cd5 ct5), sl5⟩) (c5 : PySem.W.codeIn K cd5 "_law_take" = true) (k5 : PySem.W.keepIn K (.ref f5) = true)
    {od6 an6 : Option Addr} {sl6 : Array (Option Value)} {oc6 kV6 dc6 pm6 cd6 ct6 : Value}
    (a6 : PySem.W.nsIn K mainGlobals "_law_folded" = some (some (.ref f6))) (l6 : K.lookup f6 = some ⟨oc6, od6, .func (PySem.W.fnOf "_law_folded" "_law_folded" (defArgs st_law_folded) (defBody st_law_folded) (defScope st_law_folded) .none kV6 dc6 pm6 an6 cd6 ct6), sl6⟩) (c6 : PySem.W.codeIn K cd6 "_law_folded" = true) (k6 : PySem.W.keepIn K (.ref f6) = true)
    {od7 an7 : Option Addr} {sl7 : Array (Option Value)} {oc7 kV7 dc7 pm7 cd7 ct7 : Value}
    (a7 : PySem.W.nsIn K mainGlobals "_law_same" = some (some (.ref f7))) (l7 : K.lookup f7 = some ⟨oc7, od7, .func (PySem.W.fnOf "_law_same" "_law_same" (defArgs st_law_same) (defBody st_law_same) (defScope st_law_same) .none kV7 dc7 pm7 an7 cd7 ct7), sl7⟩) (c7 : PySem.W.codeIn K cd7 "_law_same" = true) (k7 : PySem.W.keepIn K (.ref f7) = true)
    {od8 an8 : Option Addr} {sl8 : Array (Option Value)} {oc8 kV8 dc8 pm8 cd8 ct8 : Value}
    (a8 : PySem.W.nsIn K mainGlobals "_law_sums" = some (some (.ref f8))) (l8 : K.lookup f8 = some ⟨oc8, od8, .func (PySem.W.fnOf "_law_sums" "_law_sums" (defArgs st_law_sums) (defBody st_law_sums) (defScope st_law_sums) .none kV8 dc8 pm8 an8 cd8 ct8), sl8⟩) (c8 : PySem.W.codeIn K cd8 "_law_sums" = true) (k8 : PySem.W.keepIn K (.ref f8) = true)
    {od9 an9 : Option Addr} {sl9 : Array (Option Value)} {oc9 kV9 dc9 pm9 cd9 ct9 : Value}
    (a9 : PySem.W.nsIn K mainGlobals "_law_is_rest" = some (some (.ref f9))) (l9 : K.lookup f9 = some ⟨oc9, od9, .func (PySem.W.fnOf "_law_is_rest" "_law_is_rest" (defArgs st_law_is_rest) (defBody st_law_is_rest) (defScope st_law_is_rest) .none kV9 dc9 pm9 an9 cd9 ct9), sl9⟩) (c9 : PySem.W.codeIn K cd9 "_law_is_rest" = true) (k9 : PySem.W.keepIn K (.ref f9) = true)
    {od10 an10 : Option Addr} {sl10 : Array (Option Value)} {oc10 kV10 dc10 pm10 cd10 ct10 : Value}
    (a10 : PySem.W.nsIn K mainGlobals "_law_right" = some (some (.ref f10))) (l10 : K.lookup f10 = some ⟨oc10, od10, .func (PySem.W.fnOf "_law_right" "_law_right" (defArgs st_law_right) (defBody st_law_right) (defScope st_law_right) .none kV10 dc10 pm10 an10 cd10 ct10), sl10⟩) (c10 : PySem.W.codeIn K cd10 "_law_right" = true) (k10 : PySem.W.keepIn K (.ref f10) = true)
    {od11 an11 : Option Addr} {sl11 : Array (Option Value)} {oc11 kV11 dc11 pm11 cd11 ct11 : Value}
    (a11 : PySem.W.nsIn K mainGlobals "law" = some (some (.ref f11))) (l11 : K.lookup f11 = some ⟨oc11, od11, .func (PySem.W.fnOf "law" "law" (defArgs st_law) (defBody st_law) (defScope st_law) .none kV11 dc11 pm11 an11 cd11 ct11), sl11⟩) (c11 : PySem.W.codeIn K cd11 "law" = true) (k11 : PySem.W.keepIn K (.ref f11) = true)
    (z_len : PySem.W.nsIn K mainGlobals "len" = some none)
    (z_abs : PySem.W.nsIn K mainGlobals "abs" = some none)
    (z_int : PySem.W.nsIn K mainGlobals "int" = some none)
    (z_bool : PySem.W.nsIn K mainGlobals "bool" = some none)
    (z_str : PySem.W.nsIn K mainGlobals "str" = some none)
    (z_max : PySem.W.nsIn K mainGlobals "max" = some none)
    (z_min : PySem.W.nsIn K mainGlobals "min" = some none)
    (z_sum : PySem.W.nsIn K mainGlobals "sum" = some none)
    (z_all : PySem.W.nsIn K mainGlobals "all" = some none)
    (z_any : PySem.W.nsIn K mainGlobals "any" = some none)
    (z_list : PySem.W.nsIn K mainGlobals "list" = some none)
    (z_tuple : PySem.W.nsIn K mainGlobals "tuple" = some none)
    (z_dict : PySem.W.nsIn K mainGlobals "dict" = some none)
    (z_set : PySem.W.nsIn K mainGlobals "set" = some none)
    (z_sorted : PySem.W.nsIn K mainGlobals "sorted" = some none)
    (z_range : PySem.W.nsIn K mainGlobals "range" = some none)
    (z_enumerate : PySem.W.nsIn K mainGlobals "enumerate" = some none)
    (z_zip : PySem.W.nsIn K mainGlobals "zip" = some none)
    (z_isinstance : PySem.W.nsIn K mainGlobals "isinstance" = some none)
    (z_repr : PySem.W.nsIn K mainGlobals "repr" = some none) :
    ∃ fd : FuncData, (∀ (s : Shared) (v : Value), BindsTo s fd ⟨[v], []⟩ [("_law_script", v)]) ∧ ∀ base : Heap, K.In base → base.Ns mainGlobals mg → FnOk l.prog w K mg base CX0 5 fa fd ["_law_script"] (spD K 1 fs_law) := by
  have e := hfa.symm.trans (PySem.W.mg_of X G a11)
  cases e
  have B : Bts mg := ⟨PySem.W.mg_none_of X G z_len, PySem.W.mg_none_of X G z_abs, PySem.W.mg_none_of X G z_int, PySem.W.mg_none_of X G z_bool, PySem.W.mg_none_of X G z_str, PySem.W.mg_none_of X G z_max, PySem.W.mg_none_of X G z_min, PySem.W.mg_none_of X G z_sum, PySem.W.mg_none_of X G z_all, PySem.W.mg_none_of X G z_any, PySem.W.mg_none_of X G z_list, PySem.W.mg_none_of X G z_tuple, PySem.W.mg_none_of X G z_dict, PySem.W.mg_none_of X G z_set, PySem.W.mg_none_of X G z_sorted, PySem.W.mg_none_of X G z_range, PySem.W.mg_none_of X G z_enumerate, PySem.W.mg_none_of X G z_zip, PySem.W.mg_none_of X G z_isinstance, PySem.W.mg_none_of X G z_repr⟩
  have F0 := fun_mk (st := st_endings) l0 c0 k0
  have b0 := F0.binds (ps := ["left", "is_free", "last_free"]) fun _ _ _ _ _ _ us hl => match us, hl with | [_, _, _], _ => rfl
  have F1 : FunD K "line_counts" "line_counts" (defArgs st_line_counts) (defBody st_line_counts) (defScope st_line_counts) [] [("ring", .bl false)] f1 _ := ⟨⟨_, _, _, _, _, _, _, _, _, _, rfl, l1, c1, .inl ⟨rfl, rfl⟩, .inr ⟨D1, rfl, fun q hq => by
    rcases List.mem_cons.mp hq with rfl | hq
    · exact ⟨_, n1_0, rfl⟩
    · cases hq⟩⟩, k1⟩
  obtain ⟨dD1_1, vD1_1, bD1_1⟩ := F1.binds0 (ps := ["many", "ring"]) 1 (by simp) rfl fun D doc pm an cdv ct us ks h1 h2 => match us, ks, h1, h2 with | [_], [_], _, _ => ⟨_, _, _, _, _, _, rfl, rfl, rfl⟩
  have bK1_1 := kbn_all (a := 1) (ks := ["ring"]) (ps := ["many", "ring"]) F1 fun _ _ _ _ _ _ us ws h1 h2 => match us, ws, h1, h2 with | [_], [_], _, _ => rfl
  have F2 : FunD K "line_rest" "line_rest" (defArgs st_line_rest) (defBody st_line_rest) (defScope st_line_rest) [] [("ring", .bl false)] f2 _ := ⟨⟨_, _, _, _, _, _, _, _, _, _, rfl, l2, c2, .inl ⟨rfl, rfl⟩, .inr ⟨D2, rfl, fun q hq => by
    rcases List.mem_cons.mp hq with rfl | hq
    · exact ⟨_, n2_0, rfl⟩
    · cases hq⟩⟩, k2⟩
  have bK2_2 := kbn_all (a := 2) (ks := ["ring"]) (ps := ["many", "number", "ring"]) F2 fun _ _ _ _ _ _ us ws h1 h2 => match us, ws, h1, h2 with | [_, _], [_], _, _ => rfl
  have F3 : FunD K "line_number" "line_number" (defArgs st_line_number) (defBody st_line_number) (defScope st_line_number) [] [("ring", .bl false)] f3 _ := ⟨⟨_, _, _, _, _, _, _, _, _, _, rfl, l3, c3, .inl ⟨rfl, rfl⟩, .inr ⟨D3, rfl, fun q hq => by
    rcases List.mem_cons.mp hq with rfl | hq
    · exact ⟨_, n3_0, rfl⟩
    · cases hq⟩⟩, k3⟩
  have bK1_3 := kbn_all (a := 1) (ks := ["ring"]) (ps := ["rest", "ring"]) F3 fun _ _ _ _ _ _ us ws h1 h2 => match us, ws, h1, h2 with | [_], [_], _, _ => rfl
  have F4 := fun_mk (st := st_law_dip) l4 c4 k4
  have b4 := F4.binds (ps := ["_law_script", "_law_k"]) fun _ _ _ _ _ _ us hl => match us, hl with | [_, _], _ => rfl
  have F5 := fun_mk (st := st_law_take) l5 c5 k5
  have b5 := F5.binds (ps := ["_law_box", "_law_many"]) fun _ _ _ _ _ _ us hl => match us, hl with | [_, _], _ => rfl
  have F6 := fun_mk (st := st_law_folded) l6 c6 k6
  have b6 := F6.binds (ps := ["_law_script", "_law_many"]) fun _ _ _ _ _ _ us hl => match us, hl with | [_, _], _ => rfl
  have F7 := fun_mk (st := st_law_same) l7 c7 k7
  have b7 := F7.binds (ps := ["_law_found", "_law_due"]) fun _ _ _ _ _ _ us hl => match us, hl with | [_, _], _ => rfl
  have F8 := fun_mk (st := st_law_sums) l8 c8 k8
  have b8 := F8.binds (ps := ["_law_many"]) fun _ _ _ _ _ _ us hl => match us, hl with | [_], _ => rfl
  have F9 := fun_mk (st := st_law_is_rest) l9 c9 k9
  have b9 := F9.binds (ps := ["_law_row", "_law_is_ring"]) fun _ _ _ _ _ _ us hl => match us, hl with | [_, _], _ => rfl
  have F10 := fun_mk (st := st_law_right) l10 c10 k10
  have b10 := F10.binds (ps := ["_law_box"]) fun _ _ _ _ _ _ us hl => match us, hl with | [_], _ => rfl
  have F11 := fun_mk (st := st_law) l11 c11 k11
  have b11 := F11.binds (ps := ["_law_script"]) fun _ _ _ _ _ _ us hl => match us, hl with | [_], _ => rfl
  refine ⟨PySem.W.fnOf "law" "law" (defArgs st_law) (defBody st_law) (defScope st_law) .none kV11 dc11 pm11 an11 cd11 ct11, fun s v => .of_eq rfl, fun base _ _ => ?_⟩
  have O_endings := ok_endings (P := l.prog) (w := w) (base := base) F0 B 
  have G_endings : FnK l.prog w K mg base "endings" 1 3 fs_endings := ⟨⟨f0, _, ["left", "is_free", "last_free"], O_endings, PySem.W.mg_of X G a0, k0, b0⟩⟩
  have O_line_counts := ok_line_counts (P := l.prog) (w := w) (base := base) F1 B G_endings
  have GD1_line_counts : FnDf l.prog w K mg base "line_counts" 2 2 [.bl false] fs_line_counts := ⟨⟨f1, _, ["many", "ring"], dD1_1, O_line_counts, PySem.W.mg_of X G a1, k1, bD1_1, vD1_1, by simp [isAtom]⟩⟩
  have GK1_line_counts : FnKw l.prog w K mg base "line_counts" 2 2 1 ["ring"] fs_line_counts := ⟨⟨f1, _, ["many", "ring"], O_line_counts, PySem.W.mg_of X G a1, k1, bK1_1⟩⟩
  have O_line_rest := ok_line_rest (P := l.prog) (w := w) (base := base) F2 B G_endings GK1_line_counts
  have GK2_line_rest : FnKw l.prog w K mg base "line_rest" 3 3 2 ["ring"] fs_line_rest := ⟨⟨f2, _, ["many", "number", "ring"], O_line_rest, PySem.W.mg_of X G a2, k2, bK2_2⟩⟩
  have O_line_number := ok_line_number (P := l.prog) (w := w) (base := base) F3 B G_endings
  have GK1_line_number : FnKw l.prog w K mg base "line_number" 2 2 1 ["ring"] fs_line_number := ⟨⟨f3, _, ["rest", "ring"], O_line_number, PySem.W.mg_of X G a3, k3, bK1_3⟩⟩
  have O_law_dip := ok_law_dip (P := l.prog) (w := w) (base := base) F4 B 
  have G_law_dip : FnK l.prog w K mg base "_law_dip" 1 2 fs_law_dip := ⟨⟨f4, _, ["_law_script", "_law_k"], O_law_dip, PySem.W.mg_of X G a4, k4, b4⟩⟩
  have O_law_take := ok_law_take (P := l.prog) (w := w) (base := base) F5 B 
  have G_law_take : FnK l.prog w K mg base "_law_take" 1 2 fs_law_take := ⟨⟨f5, _, ["_law_box", "_law_many"], O_law_take, PySem.W.mg_of X G a5, k5, b5⟩⟩
  have O_law_folded := ok_law_folded (P := l.prog) (w := w) (base := base) F6 B 
  have G_law_folded : FnK l.prog w K mg base "_law_folded" 1 2 fs_law_folded := ⟨⟨f6, _, ["_law_script", "_law_many"], O_law_folded, PySem.W.mg_of X G a6, k6, b6⟩⟩
  have GR_law_same : ∀ m, FnK l.prog w K mg base "_law_same" m 2 (fs_law_same m) := fun m => by
    induction m with
    | zero => exact ⟨⟨f7, _, ["_law_found", "_law_due"], ⟨fun vs H Q E q => by obtain ⟨_, _, _, _, _, _, _, _, _, ⟨_, _, _, q, _⟩, _⟩ := q; exact False.elim q, fun A outer s H args us vs Q E _ _ _ _ q => by obtain ⟨_, _, _, _, _, _, _, _, _, ⟨_, _, _, q, _⟩, _⟩ := q; exact False.elim q⟩, PySem.W.mg_of X G a7, k7, b7⟩⟩
    | succ m ih => exact ⟨⟨f7, _, ["_law_found", "_law_due"], ok_law_same F7 B  ih, PySem.W.mg_of X G a7, k7, b7⟩⟩
  have G_law_same := GR_law_same 3
  have O_law_sums := ok_law_sums (P := l.prog) (w := w) (base := base) F8 B 
  have G_law_sums : FnK l.prog w K mg base "_law_sums" 1 1 fs_law_sums := ⟨⟨f8, _, ["_law_many"], O_law_sums, PySem.W.mg_of X G a8, k8, b8⟩⟩
  have O_law_is_rest := ok_law_is_rest (P := l.prog) (w := w) (base := base) F9 B 
  have G_law_is_rest : FnK l.prog w K mg base "_law_is_rest" 1 2 fs_law_is_rest := ⟨⟨f9, _, ["_law_row", "_law_is_ring"], O_law_is_rest, PySem.W.mg_of X G a9, k9, b9⟩⟩
  have O_law_right := ok_law_right (P := l.prog) (w := w) (base := base) F10 B G_law_sums G_law_same G_law_take GD1_line_counts GK1_line_counts GK2_line_rest G_law_is_rest GK1_line_number
  have G_law_right : FnK l.prog w K mg base "_law_right" 4 1 fs_law_right := ⟨⟨f10, _, ["_law_box"], O_law_right, PySem.W.mg_of X G a10, k10, b10⟩⟩
  exact ok_law F11 B G_law_folded G_law_right G_law_dip
end K38
open PySem PySem.W PyProof.Rows
set_option maxHeartbeats 0 in
theorem PySem.Challenge.cw_lesserhall_k38_great_lines_holds : PySem.Challenge.rw_lesserhall_k38_great_lines.Holds := by
  w_on; o_law; k_head; (case hw => w_witness2)
  k_fill
  refine L2.walk_of (l := PySem.Challenge.rw_lesserhall_k38_great_lines) (n := 63) (k := 5) (x := "_law_script") (CX := fun _ => L2.CX0) (sp := fun w => Gd.spD _ 1 Gd.fs_law) rfl (by decide) rfl ⟨rfl, by decide, by decide⟩ (fun w h Y => PySem.W.kIn_of Y) ?F (fun _ _ a ns hl _ hS => Gd.law_in hS hl) (fun _ _ _ _ _ h => h)
  case F =>
    intro w mg fa h KX G hmg
    refine' K38.all_mk KX G hmg ?a0 ?l0 ?c0 ?k0 ?a1 ?l1 ?c1 ?k1 ?n1_0 ?a2 ?l2 ?c2 ?k2 ?n2_0 ?a3 ?l3 ?c3 ?k3 ?n3_0 ?a4 ?l4 ?c4 ?k4 ?a5 ?l5 ?c5 ?k5 ?a6 ?l6 ?c6 ?k6 ?a7 ?l7 ?c7 ?k7 ?a8 ?l8 ?c8 ?k8 ?a9 ?l9 ?c9 ?k9 ?a10 ?l10 ?c10 ?k10 ?a11 ?l11 ?c11 ?k11 ?z_len ?z_abs ?z_int ?z_bool ?z_str ?z_max ?z_min ?z_sum ?z_all ?z_any ?z_list ?z_tuple ?z_dict ?z_set ?z_sorted ?z_range ?z_enumerate ?z_zip ?z_isinstance ?z_repr
    (case a0 => k_is); (case l0 => k_is); (case c0 => k_is); (case k0 => k_is); (case a1 => k_is); (case l1 => k_is); (case c1 => k_is); (case k1 => k_is); (case n1_0 => k_is); (case a2 => k_is); (case l2 => k_is); (case c2 => k_is); (case k2 => k_is); (case n2_0 => k_is); (case a3 => k_is); (case l3 => k_is); (case c3 => k_is); (case k3 => k_is); (case n3_0 => k_is); (case a4 => k_is); (case l4 => k_is); (case c4 => k_is); (case k4 => k_is); (case a5 => k_is); (case l5 => k_is); (case c5 => k_is); (case k5 => k_is); (case a6 => k_is); (case l6 => k_is); (case c6 => k_is); (case k6 => k_is); (case a7 => k_is); (case l7 => k_is); (case c7 => k_is); (case k7 => k_is); (case a8 => k_is); (case l8 => k_is); (case c8 => k_is); (case k8 => k_is); (case a9 => k_is); (case l9 => k_is); (case c9 => k_is); (case k9 => k_is); (case a10 => k_is); (case l10 => k_is); (case c10 => k_is); (case k10 => k_is); (case a11 => k_is); (case l11 => k_is); (case c11 => k_is); (case k11 => k_is); (case z_len => k_is); (case z_abs => k_is); (case z_int => k_is); (case z_bool => k_is); (case z_str => k_is); (case z_max => k_is); (case z_min => k_is); (case z_sum => k_is); (case z_all => k_is); (case z_any => k_is); (case z_list => k_is); (case z_tuple => k_is); (case z_dict => k_is); (case z_set => k_is); (case z_sorted => k_is); (case z_range => k_is); (case z_enumerate => k_is); (case z_zip => k_is); (case z_isinstance => k_is); (case z_repr => k_is)
