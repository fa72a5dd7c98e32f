import PyProof.Rows.All
import Wide.All
import OpenK.AllK
import Wide.FinOn
import HandS.ForMost
import HandS.Walk
import HandS.WordsExc
import HandS.Deep
import HandS.TupAny
import HandS.Wide
import HandS.Style
import HandS.TupLe
import KE.SortData
import KE.DataCmp
import HandS.IsInst
import HandS.ExcOwn
import HandS.Zip
import HandS.Conv
import KE.DataMinMax
import PyProof.Draws
import KE.GoesMore
import KE.GoesEnum
import KE.KDictKeyed
import KE.KDictSum
import KE.KDictCopyH
import HandS.Words
import PySem.Challenge.RW_griddots_k87_whole_streets_and_their_mid
set_option Elab.async false
set_option linter.all false
set_option maxRecDepth 100000
namespace L3
open PySem PySem.Spec PyProof.Rows L2

/-! ## the plain side -/
inductive SV where
  | val (d : PyData)
  | own (l : List PyData)
  | hand
  | fn (x : Str)
  | scr (l : List Int)
abbrev Rho := List (Option SV)
abbrev HSt := List PyData
abbrev Flds := List (Str × PyData)

inductive Res (α : Type) where
  | ok (a : α)
  | exc (c : Str) (m : Flds)
  | fail
def Res.bind {α β : Type} (r : Res α) (f : α → Res β) : Res β := match r with
  | .ok a => f a
  | .exc c m => .exc c m
  | .fail => .fail
@[simp] theorem Res.bind_ok {α β : Type} (a : α) (f : α → Res β) : (Res.ok a).bind f = f a := rfl
@[simp] theorem Res.bind_exc {α β : Type} (c : Str) (m : Flds) (f : α → Res β) : (Res.exc c m).bind f = .exc c m := rfl
@[simp] theorem Res.bind_fail {α β : Type} (f : α → Res β) : (Res.fail : Res α).bind f = .fail := rfl

abbrev PX := Rho → HSt → Res (PyData × HSt)
abbrev TX := Rho → HSt → Res (Bool × HSt)
abbrev AX := Rho → HSt → Res (List PyData × HSt)
inductive SRes where
  | nx (ρ : Rho) (hs : HSt)
  | rt (d : PyData) (hs : HSt)
  | exc (c : Str) (m : Flds)
  | fail
abbrev SX := Rho → HSt → SRes
abbrev FX := List SV → HSt → Res (PyData × HSt)

/-! ## heaps -/
abbrev Sub (H H' : Hp) : Prop := ∀ a o, H a = some o → H' a = some o

theorem sqT_mono {K : PySem.W.Frag} {H H' : Hp} {a : Addr} {xs : List V} (e : Sub H H') (h : SqT K H a xs) : SqT K H' a xs := by
  rcases h with (h | ⟨o, h⟩) | h
  · exact .inl (.inl (e _ _ h))
  · exact .inl (.inr ⟨o, e _ _ h⟩)
  · exact .inr h
theorem sqL_mono {K : PySem.W.Frag} {H H' : Hp} {a : Addr} {xs : List V} (e : Sub H H') (h : SqL K H a xs) : SqL K H' a xs := by
  rcases h with (h | ⟨o, h⟩) | h
  · exact .inl (.inl (e _ _ h))
  · exact .inl (.inr ⟨o, e _ _ h⟩)
  · exact .inr h
mutual
/-- a value stands for a datum: every list is tracked, a tuple may be the module's own -/
inductive Rp (K : PySem.W.Frag) (H : Hp) : V → PyData → Prop
  | non : Rp K H .non .none
  | bl (b : Bool) : Rp K H (.bl b) (.bool b)
  | int (i : Int) : Rp K H (.int i) (.int i)
  | str (x : Str) : Rp K H (.str x) (.str x)
  | lst {a : Addr} {xs : List V} {ds : List PyData} : H a = some (.lst xs) → RpA K H xs ds → Rp K H (.ref a) (.list ds)
  | tup {a : Addr} {xs : List V} {ds : List PyData} : SqT K H a xs → RpA K H xs ds → Rp K H (.ref a) (.tuple ds)
inductive RpA (K : PySem.W.Frag) (H : Hp) : List V → List PyData → Prop
  | nil : RpA K H [] []
  | cons {v : V} {vs : List V} {d : PyData} {ds : List PyData} : Rp K H v d → RpA K H vs ds → RpA K H (v :: vs) (d :: ds)
end
mutual
theorem Rp.dp {K : PySem.W.Frag} {H : Hp} : ∀ (d : PyData) (v : V), Rp K H v d → Dp K H v d
  | .none, _, h => by cases h; exact .non
  | .bool b, _, h => by cases h; exact .bl b
  | .int i, _, h => by cases h; exact .int i
  | .str x, _, h => by cases h; exact .str x
  | .list ds, _, h => by
    cases h with
    | lst h1 h2 => exact .lst (SqL.of h1) (RpA.dp ds _ h2)
  | .tuple ds, _, h => by
    cases h with
    | tup h1 h2 => exact .tup h1 (RpA.dp ds _ h2)
  | .dict _, _, h => by cases h
theorem RpA.dp {K : PySem.W.Frag} {H : Hp} : ∀ (ds : List PyData) (vs : List V), RpA K H vs ds → DpAll K H vs ds
  | [], _, h => by cases h; exact .nil
  | d :: ds, _, h => by
    cases h with
    | cons h1 h2 => exact .cons (Rp.dp d _ h1) (RpA.dp ds _ h2)
end
mutual
theorem rp_mono {K : PySem.W.Frag} {H H' : Hp} (e : Sub H H') : ∀ (d : PyData) (v : V), Rp K H v d → Rp K H' v d
  | .none, _, h => by cases h; exact .non
  | .bool b, _, h => by cases h; exact .bl b
  | .int i, _, h => by cases h; exact .int i
  | .str x, _, h => by cases h; exact .str x
  | .list ds, _, h => by
    cases h with
    | lst h1 h2 => exact .lst (e _ _ h1) (rpA_mono e ds _ h2)
  | .tuple ds, _, h => by
    cases h with
    | tup h1 h2 => exact .tup (sqT_mono e h1) (rpA_mono e ds _ h2)
  | .dict _, _, h => by cases h
theorem rpA_mono {K : PySem.W.Frag} {H H' : Hp} (e : Sub H H') : ∀ (ds : List PyData) (vs : List V), RpA K H vs ds → RpA K H' vs ds
  | [], _, h => by cases h; exact .nil
  | d :: ds, _, h => by
    cases h with
    | cons h1 h2 => exact .cons (rp_mono e d _ h1) (rpA_mono e ds _ h2)
end
theorem Sub.rp {K : PySem.W.Frag} {H H' : Hp} {d : PyData} {v : V} (e : Sub H H') (h : Rp K H v d) : Rp K H' v d := rp_mono e d v h
theorem Sub.rpA {K : PySem.W.Frag} {H H' : Hp} {d : List PyData} {v : List V} (e : Sub H H') (h : RpA K H v d) : RpA K H' v d := rpA_mono e d v h
theorem Sub.trans {H H1 H2 : Hp} (a : Sub H H1) (b : Sub H1 H2) : Sub H H2 := fun c o h => b c o (a c o h)
theorem Sub.refl (H : Hp) : Sub H H := fun _ _ h => h
theorem sub_upd {H : Hp} {p : Addr} {o : HO} (n : H p = none) : Sub H (upd H p o) := fun a u e => by
  rw [upd_ne (ne_of_none e n)]; exact e
theorem sub_upd2 {Hf H : Hp} {p : Addr} {o : HO} (s : Sub Hf H) : Sub (upd Hf p o) (upd H p o) := fun a u e => by
  by_cases h : a = p
  · subst h; rw [upd_same] at e ⊢; exact e
  · rw [upd_ne h] at e ⊢; exact s _ _ e

theorem rpA_len {K : PySem.W.Frag} {H : Hp} : ∀ {vs : List V} {ds : List PyData}, RpA K H vs ds → vs.length = ds.length
  | _, _, .nil => rfl
  | _, _, .cons _ t => by simp [rpA_len t]
theorem rpA_get {K : PySem.W.Frag} {H : Hp} : ∀ {vs : List V} {ds : List PyData} {i : Nat} {d : PyData}, RpA K H vs ds → ds[i]? = some d → ∃ v, vs[i]? = some v ∧ Rp K H v d
  | _, _, _, _, .nil, e => by simp at e
  | _, _, 0, d, .cons h t, e => by simp at e; subst e; exact ⟨_, rfl, h⟩
  | _, _, i + 1, d, .cons h t, e => by
    obtain ⟨v, h1, h2⟩ := rpA_get (i := i) (d := d) t (by simpa using e)
    exact ⟨v, by simpa using h1, h2⟩
theorem rpA_get' {K : PySem.W.Frag} {H : Hp} : ∀ {vs : List V} {ds : List PyData} {i : Nat} {v : V}, RpA K H vs ds → vs[i]? = some v → ∃ d, ds[i]? = some d ∧ Rp K H v d
  | _, _, _, _, .nil, e => by simp at e
  | _, _, 0, d, .cons h t, e => by simp at e; subst e; exact ⟨_, rfl, h⟩
  | _, _, i + 1, d, .cons h t, e => by
    obtain ⟨v, h1, h2⟩ := rpA_get' (i := i) (v := d) t (by simpa using e)
    exact ⟨v, by simpa using h1, h2⟩
theorem rpA_app {K : PySem.W.Frag} {H : Hp} : ∀ {vs ws : List V} {ds es : List PyData}, RpA K H vs ds → RpA K H ws es → RpA K H (vs ++ ws) (ds ++ es)
  | _, _, _, _, .nil, h => h
  | _, _, _, _, .cons h t, q => .cons h (rpA_app t q)
theorem rpA_set {K : PySem.W.Frag} {H : Hp} {v : V} {d : PyData} (r : Rp K H v d) : ∀ {vs : List V} {ds : List PyData} (i : Nat), RpA K H vs ds → RpA K H (vs.set i v) (ds.set i d)
  | _, _, _, .nil => .nil
  | _, _, 0, .cons _ t => .cons r t
  | _, _, i + 1, .cons q t => .cons q (rpA_set r i t)
theorem rpA_take {K : PySem.W.Frag} {H : Hp} : ∀ {vs : List V} {ds : List PyData} (n : Nat), RpA K H vs ds → RpA K H (vs.take n) (ds.take n)
  | _, _, 0, _ => .nil
  | _, _, _ + 1, .nil => .nil
  | _, _, n + 1, .cons r t => .cons r (rpA_take n t)
theorem rpA_drop {K : PySem.W.Frag} {H : Hp} : ∀ {vs : List V} {ds : List PyData} (n : Nat), RpA K H vs ds → RpA K H (vs.drop n) (ds.drop n)
  | _, _, 0, h => h
  | _, _, _ + 1, .nil => .nil
  | _, _, n + 1, .cons r t => rpA_drop n t
theorem rpA_rev {K : PySem.W.Frag} {H : Hp} : ∀ {vs : List V} {ds : List PyData}, RpA K H vs ds → RpA K H vs.reverse ds.reverse
  | _, _, .nil => .nil
  | _, _, .cons r t => by
    rw [List.reverse_cons, List.reverse_cons]
    exact rpA_app (rpA_rev t) (.cons r .nil)
theorem rpA_erase {K : PySem.W.Frag} {H : Hp} : ∀ {vs : List V} {ds : List PyData} (n : Nat), RpA K H vs ds → RpA K H (vs.eraseIdx n) (ds.eraseIdx n)
  | _, _, _, .nil => .nil
  | _, _, 0, .cons r t => t
  | _, _, n + 1, .cons r t => .cons r (rpA_erase n t)
theorem rpA_of_get {K : PySem.W.Frag} {H : Hp} : ∀ {vs : List V} {ds : List PyData}, vs.length = ds.length → (∀ (i : Nat) (v : V) (d : PyData), vs[i]? = some v → ds[i]? = some d → Rp K H v d) → RpA K H vs ds
  | [], [], _, _ => .nil
  | [], _ :: _, e, _ => by simp at e
  | _ :: _, [], e, _ => by simp at e
  | v :: vs, d :: ds, e, h => .cons (h 0 v d rfl rfl) (rpA_of_get (by simpa using e) fun i v d h1 h2 => h (i + 1) v d (by simpa using h1) (by simpa using h2))

/-- the heap grows: nothing tracked is touched; what is frozen anew is new -/
structure Gr (Hf H Hf' H' : Hp) : Prop where
  sub : Sub Hf Hf'
  up : Sub Hf' H'
  keep : Sub H H'
  new : ∀ a o, Hf' a = some o → Hf a = some o ∨ H a = none
theorem Gr.refl {Hf H : Hp} (u : Sub Hf H) : Gr Hf H Hf H := ⟨.refl _, u, .refl _, fun _ _ h => .inl h⟩
theorem Gr.trans {Hf H Hf1 H1 Hf2 H2 : Hp} (a : Gr Hf H Hf1 H1) (b : Gr Hf1 H1 Hf2 H2) : Gr Hf H Hf2 H2 :=
  ⟨a.sub.trans b.sub, b.up, a.keep.trans b.keep, fun c o h => by
    rcases b.new c o h with h1 | h1
    · exact a.new c o h1
    · right
      cases q : H c with
      | none => rfl
      | some u => rw [a.keep c u q] at h1; cases h1⟩
/-- a new object, frozen at once -/
theorem Gr.frz {Hf H : Hp} {p : Addr} {o : HO} (u : Sub Hf H) (n : H p = none) : Gr Hf H (upd Hf p o) (upd H p o) :=
  have nf : Hf p = none := by
    cases q : Hf p with
    | none => rfl
    | some z => rw [u _ _ q] at n; cases n
  ⟨sub_upd nf, sub_upd2 u, sub_upd n, fun a x h => by
    by_cases e : a = p
    · subst e; exact .inr n
    · rw [upd_ne e] at h; exact .inl h⟩
/-- a new object, not frozen -/
theorem Gr.tmp {Hf H : Hp} {p : Addr} {o : HO} (u : Sub Hf H) (n : H p = none) : Gr Hf H Hf (upd H p o) :=
  ⟨.refl _, u.trans (sub_upd n), sub_upd n, fun a x h => .inl h⟩

/-- the mutable list that is handed around -/
def HandOk (K : PySem.W.Frag) (ah : Option Addr) (Hf H : Hp) (hs : HSt) : Prop :=
  ∀ a, ah = some a → Hf a = none ∧ ∃ vs, H a = some (.lst vs) ∧ RpA K Hf vs hs
theorem Gr.hand {K : PySem.W.Frag} {ah : Option Addr} {Hf H Hf' H' : Hp} {hs : HSt} (g : Gr Hf H Hf' H') (h : HandOk K ah Hf H hs) : HandOk K ah Hf' H' hs := fun a e => by
  obtain ⟨h1, vs, h2, h3⟩ := h a e
  refine ⟨?_, vs, g.keep _ _ h2, g.sub.rpA h3⟩
  cases q : Hf' a with
  | none => rfl
  | some o =>
    rcases g.new a o q with z | z
    · rw [h1] at z; cases z
    · rw [h2] at z; cases z

/-- what an expression does to the heap: all that is tracked stays, but the hand's list -/
structure Ex (K : PySem.W.Frag) (ah : Option Addr) (Hf H Hf' H' : Hp) (hs' : HSt) : Prop where
  sub : Sub Hf Hf'
  up : Sub Hf' H'
  keep : ∀ a o, H a = some o → ah ≠ some a → H' a = some o
  new : ∀ a o, Hf' a = some o → Hf a = some o ∨ H a = none
  hand : HandOk K ah Hf' H' hs'
theorem Gr.ex {K : PySem.W.Frag} {ah : Option Addr} {Hf H Hf' H' : Hp} {hs : HSt} (g : Gr Hf H Hf' H') (h : HandOk K ah Hf H hs) : Ex K ah Hf H Hf' H' hs :=
  ⟨g.sub, g.up, fun a o e _ => g.keep a o e, g.new, g.hand h⟩
theorem Ex.refl {K : PySem.W.Frag} {ah : Option Addr} {Hf H : Hp} {hs : HSt} (u : Sub Hf H) (h : HandOk K ah Hf H hs) : Ex K ah Hf H Hf H hs := (Gr.refl u).ex h
theorem Ex.trans {K : PySem.W.Frag} {ah : Option Addr} {Hf H Hf1 H1 Hf2 H2 : Hp} {hs hs1 hs2 : HSt} (h0 : HandOk K ah Hf H hs) (a : Ex K ah Hf H Hf1 H1 hs1) (b : Ex K ah Hf1 H1 Hf2 H2 hs2) : Ex K ah Hf H Hf2 H2 hs2 :=
  ⟨a.sub.trans b.sub, b.up, fun c o h n => b.keep c o (a.keep c o h n) n, (fun c o h => by
    rcases b.new c o h with h1 | h1
    · exact a.new c o h1
    · right
      by_cases e : ah = some c
      · obtain ⟨_, vs, h2, _⟩ := a.hand c e
        rw [h2] at h1; cases h1
      · cases q : H c with
        | none => rfl
        | some u =>
          rw [a.keep c u q e] at h1
          cases h1), b.hand⟩
/-- a call of a def that doesn't know the hand -/
theorem Ex.off {K : PySem.W.Frag} {ah : Option Addr} {Hf H Hf' H' : Hp} {hs hs0 : HSt} (h0 : HandOk K ah Hf H hs) (x : Ex K none Hf H Hf' H' hs0) : Ex K ah Hf H Hf' H' hs :=
  have g : Gr Hf H Hf' H' := ⟨x.sub, x.up, fun a o e => x.keep a o e (by simp), x.new⟩
  g.ex h0

/-- what an exception bears: its own dict's fields -/
def ExcAt (K : PySem.W.Frag) (H' : Hp) (dx : Option Addr) (m : Flds) : Prop := match m with
  | [] => dx = none
  | (n, d) :: _ => ∃ a v, dx = some a ∧ H' a = some (.xd [(n, v)]) ∧ Rp K H' v d

structure Fx where
  H0 : Hp
  Hf0 : Hp
  ah0 : Option Addr
  W : WX

def SlotOk (K : PySem.W.Frag) (mg : Str → Option Value) (F : Fx) (ah : Option Addr) (Hf H : Hp) (v : V) : SV → Prop
  | .val d => Rp K Hf v d
  | .own l => ∃ a vs, v = .ref a ∧ Hf a = none ∧ F.H0 a = none ∧ ah ≠ some a ∧ H a = some (.lst vs) ∧ RpA K Hf vs l
  | .hand => ∃ a, ah = some a ∧ v = .ref a
  | .fn x => ∃ f, mg x = some (.ref f) ∧ v = .ref f
  | .scr l => ∃ a, v = .ref a ∧ SqL K Hf a (l.map V.int)

structure SR (K : PySem.W.Frag) (mg : Str → Option Value) (F : Fx) (ah : Option Addr) (Hf H : Hp) (σ : L2.St) (ρ : Rho) (hs : HSt) : Prop where
  len : σ.length = ρ.length
  up : Sub Hf H
  base : Sub F.Hf0 Hf
  fr : ∀ a o, Hf a = some o → F.Hf0 a = some o ∨ F.H0 a = none
  keep : ∀ a o, F.H0 a = some o → F.ah0 ≠ some a → H a = some o
  h0 : ∀ a, F.ah0 = some a → ah = some a
  hn : ∀ a, ah = some a → F.ah0 = some a ∨ F.H0 a = none
  hand : HandOk K ah Hf H hs
  slot : ∀ (i : Nat) (sv : SV), ρ[i]? = some (some sv) → ∃ v, σ[i]? = some (some v) ∧ SlotOk K mg F ah Hf H v sv
  dist : ∀ (i j : Nat) (l m : List PyData) (v : V), ρ[i]? = some (some (.own l)) → ρ[j]? = some (some (.own m)) → σ[i]? = some (some v) → σ[j]? = some (some v) → i = j

section
variable {K : PySem.W.Frag} {mg : Str → Option Value} {F : Fx} {ah : Option Addr} {Hf H Hf' H' : Hp} {σ : L2.St} {ρ : Rho} {hs hs' : HSt}
theorem SR.ex (s : SR K mg F ah Hf H σ ρ hs) (x : Ex K ah Hf H Hf' H' hs') : SR K mg F ah Hf' H' σ ρ hs' where
  len := s.len
  up := x.up
  base := s.base.trans x.sub
  fr := fun a o h => by
    rcases x.new a o h with h1 | h1
    · exact s.fr a o h1
    · right
      by_cases e : F.ah0 = some a
      · obtain ⟨_, vs, h2, _⟩ := s.hand a (s.h0 a e)
        rw [h2] at h1; cases h1
      · cases q : F.H0 a with
        | none => rfl
        | some u => rw [s.keep a u q e] at h1; cases h1
  keep := fun a o h n => by
    refine x.keep a o (s.keep a o h n) fun e => ?_
    rcases s.hn a e with z | z
    · exact n z
    · rw [h] at z; cases z
  h0 := s.h0
  hn := s.hn
  hand := x.hand
  slot := fun i sv e => by
    obtain ⟨v, e1, q⟩ := s.slot i sv e
    refine ⟨v, e1, ?_⟩
    cases sv with
    | val d => exact x.sub.rp q
    | own l =>
      obtain ⟨a, vs, q1, q2, q3, q4, q5, q6⟩ := q
      refine ⟨a, vs, q1, ?_, q3, q4, x.keep a _ q5 q4, x.sub.rpA q6⟩
      cases z : Hf' a with
      | none => rfl
      | some o =>
        rcases x.new a o z with z1 | z1
        · rw [q2] at z1; cases z1
        · rw [q5] at z1; cases z1
    | hand => exact q
    | fn x => exact q
    | scr l =>
      obtain ⟨a, q1, q2⟩ := q
      exact ⟨a, q1, sqL_mono x.sub q2⟩
  dist := s.dist
end

/-! ## readings -/
/-- an exception of class c leaves, as the context wants it -/
def ExW (K : PySem.W.Frag) (mg : Str → Option Value) (ah : Option Addr) (W : Value → Option Addr → Hp → Prop) (H : Hp) (c : Str) (m : Flds) : Prop :=
  ∀ C dx H', mg c = some (.ref C) → (∀ a o, H a = some o → ah ≠ some a → H' a = some o) → ExcAt K H' dx m → W (.ref C) dx H'

def rdP (K : PySem.W.Frag) (mg : Str → Option Value) (F : Fx) (f : PX) : TE := fun σ H Q => ∃ ah Hf ρ hs, SR K mg F ah Hf H σ ρ hs ∧ match f ρ hs with
  | .ok (d, hs') => ∀ v Hf' H', Ex K ah Hf H Hf' H' hs' → Rp K Hf' v d → Q v H'
  | .exc c m => ExW K mg ah (fun C dx H' => F.W C dx σ H') H c m
  | .fail => False
/-- a borrowed list: a name's own one, as it stands; else frozen data -/
def Bq (K : PySem.W.Frag) (Hf : Hp) (σ : L2.St) (ρ : Rho) (v : V) (d : PyData) : Prop := Rp K Hf v d ∨ ∃ (i : Nat) (l : List PyData), ρ[i]? = some (some (SV.own l)) ∧ σ[i]? = some (some v) ∧ d = .list l
def Bp (K : PySem.W.Frag) (Hf H : Hp) (v : V) (d : PyData) : Prop := Rp K Hf v d ∨ ∃ a vs l, v = .ref a ∧ d = .list l ∧ H a = some (.lst vs) ∧ RpA K Hf vs l
def rdB (K : PySem.W.Frag) (mg : Str → Option Value) (F : Fx) (f : PX) : TE := fun σ H Q => ∃ ah Hf ρ hs, SR K mg F ah Hf H σ ρ hs ∧ match f ρ hs with
  | .ok (d, hs') => ∀ v Hf' H', Ex K ah Hf H Hf' H' hs' → Bq K Hf' σ ρ v d → Q v H'
  | .exc c m => ExW K mg ah (fun C dx H' => F.W C dx σ H') H c m
  | .fail => False
def rdT (K : PySem.W.Frag) (mg : Str → Option Value) (F : Fx) (f : TX) : TT := fun σ H Q => ∃ ah Hf ρ hs, SR K mg F ah Hf H σ ρ hs ∧ match f ρ hs with
  | .ok (b, hs') => ∀ Hf' H', Ex K ah Hf H Hf' H' hs' → Q b H'
  | .exc c m => ExW K mg ah (fun C dx H' => F.W C dx σ H') H c m
  | .fail => False
/-- arguments: frozen data -/
def rdA (K : PySem.W.Frag) (mg : Str → Option Value) (F : Fx) (f : AX) : TA := fun σ H Q => ∃ ah Hf ρ hs, SR K mg F ah Hf H σ ρ hs ∧ match f ρ hs with
  | .ok (ds, hs') => ∀ vs Hf' H', Ex K ah Hf H Hf' H' hs' → RpA K Hf' vs ds → Q vs H'
  | .exc c m => ExW K mg ah (fun C dx H' => F.W C dx σ H') H c m
  | .fail => False
/-- .. borrowed -/
inductive BqAll (K : PySem.W.Frag) (Hf : Hp) (σ : L2.St) (ρ : Rho) : List V → List PyData → Prop
  | nil : BqAll K Hf σ ρ [] []
  | cons {v : V} {vs : List V} {d : PyData} {ds : List PyData} : Bq K Hf σ ρ v d → BqAll K Hf σ ρ vs ds → BqAll K Hf σ ρ (v :: vs) (d :: ds)
def rdAB (K : PySem.W.Frag) (mg : Str → Option Value) (F : Fx) (f : AX) : TA := fun σ H Q => ∃ ah Hf ρ hs, SR K mg F ah Hf H σ ρ hs ∧ match f ρ hs with
  | .ok (ds, hs') => ∀ vs Hf' H', Ex K ah Hf H Hf' H' hs' → BqAll K Hf' σ ρ vs ds → Q vs H'
  | .exc c m => ExW K mg ah (fun C dx H' => F.W C dx σ H') H c m
  | .fail => False

structure LP (X : Cx) (F : Fx) (e : Expr) (f : PX) : Prop where
  pe : PE X e (rdP X.K X.mg F f)
structure LB (X : Cx) (F : Fx) (e : Expr) (f : PX) : Prop where
  pe : PE X e (rdB X.K X.mg F f)
structure LT (X : Cx) (F : Fx) (e : Expr) (f : TX) : Prop where
  pt : PT X e (rdT X.K X.mg F f)
structure LW (X : Cx) (F : Fx) (e : Expr) (f : TX) : Prop where
  pw : PW X e (rdT X.K X.mg F f)
structure LA (X : Cx) (F : Fx) (es : List Expr) (f : AX) : Prop where
  pa : PA X es (rdA X.K X.mg F f)
structure LAB (X : Cx) (F : Fx) (es : List Expr) (f : AX) : Prop where
  pa : PA X es (rdAB X.K X.mg F f)

theorem pe_mono {X : Cx} {e : Expr} {t t' : TE} (h : PE X e t) (w : ∀ σ H Q, t' σ H Q → t σ H Q) : PE X e t' :=
  ⟨fun pins s σ H Q I q => h.run pins s σ H Q I (w σ H Q q)⟩
theorem pt_mono {X : Cx} {e : Expr} {t t' : TT} (h : PT X e t) (w : ∀ σ H Q, t' σ H Q → t σ H Q) : PT X e t' :=
  ⟨fun pins s σ H Q I q => h.run pins s σ H Q I (w σ H Q q)⟩
theorem pw_mono {X : Cx} {e : Expr} {t t' : TT} (h : PW X e t) (w : ∀ σ H Q, t' σ H Q → t σ H Q) : PW X e t' :=
  ⟨fun wh pins s σ H Q I q => h.run wh pins s σ H Q I (w σ H Q q)⟩
theorem pa_mono {X : Cx} {e : List Expr} {t t' : TA} (h : PA X e t) (w : ∀ σ H Q, t' σ H Q → t σ H Q) : PA X e t' :=
  ⟨fun pos pins s σ H Q I q => h.run pos pins s σ H Q I (w σ H Q q)⟩
theorem ps_mono {X : Cx} {e : Stmt} {t t' : TS} (h : PS X e t) (w : ∀ D σ H, t' D σ H → t D σ H) : PS X e t' :=
  ⟨fun pins s σ H D I q => h.run pins s σ H D I (w D σ H q)⟩
theorem pss_mono {X : Cx} {e : List Stmt} {t t' : TS} (h : PSs X e t) (w : ∀ D σ H, t' D σ H → t D σ H) : PSs X e t' :=
  ⟨fun pins s σ H D I q => h.run pins s σ H D I (w D σ H q)⟩

section
variable {X : Cx} {F : Fx} {e : Expr} {f : PX}
theorem LP.b (h : LP X F e f) : LB X F e f := by
  refine ⟨pe_mono h.pe fun σ H Q q => ?_⟩
  obtain ⟨ah, Hf, ρ, hs, s, q⟩ := q
  refine ⟨ah, Hf, ρ, hs, s, ?_⟩
  split <;> rename_i e1 <;> simp only [e1] at q
  · exact fun v Hf' H' x d => q v Hf' H' x (.inl d)
  · exact q
end

theorem ExW.after {K : PySem.W.Frag} {mg : Str → Option Value} {ah : Option Addr} {W : Value → Option Addr → Hp → Prop} {H H1 : Hp} {c : Str} {m : Flds}
    (k : ∀ a o, H a = some o → ah ≠ some a → H1 a = some o) (h : ExW K mg ah W H c m) : ExW K mg ah W H1 c m :=
  fun C dx H' hm hk hx => h C dx H' hm (fun a o e n => hk a o (k a o e n) n) hx

theorem Bq.p {K : PySem.W.Frag} {mg : Str → Option Value} {F : Fx} {ah : Option Addr} {Hf H : Hp} {σ : L2.St} {ρ : Rho} {hs : HSt} {v : V} {d : PyData} (s : SR K mg F ah Hf H σ ρ hs) (b : Bq K Hf σ ρ v d) : Bp K Hf H v d := by
  rcases b with b | ⟨i, l, h1, h2, rfl⟩
  · exact .inl b
  · obtain ⟨v', h3, a, vs, rfl, _, _, _, h4, h5⟩ := s.slot i _ h1
    rw [h2] at h3; cases h3
    exact .inr ⟨a, vs, l, rfl, rfl, h4, h5⟩
theorem Bq.mono {K : PySem.W.Frag} {Hf Hf' : Hp} {σ : L2.St} {ρ : Rho} {v : V} {d : PyData} (s : Sub Hf Hf') (b : Bq K Hf σ ρ v d) : Bq K Hf' σ ρ v d := by
  rcases b with b | b
  · exact .inl (s.rp b)
  · exact .inr b
theorem BqAll.mono {K : PySem.W.Frag} {Hf Hf' : Hp} {σ : L2.St} {ρ : Rho} (s : Sub Hf Hf') : ∀ {v : List V} {d : List PyData}, BqAll K Hf σ ρ v d → BqAll K Hf' σ ρ v d
  | _, _, .nil => .nil
  | _, _, .cons b t => .cons (b.mono s) (BqAll.mono s t)
/-- a borrowed thing, read in the heap as it stands -/
theorem Bp.rp {K : PySem.W.Frag} {Hf H : Hp} {v : V} {d : PyData} (u : Sub Hf H) (b : Bp K Hf H v d) : Rp K H v d := by
  rcases b with b | ⟨a, vs, l, rfl, rfl, h4, h5⟩
  · exact u.rp b
  · exact .lst h4 (u.rpA h5)
theorem Bp.dp {K : PySem.W.Frag} {Hf H : Hp} {v : V} {d : PyData} (u : Sub Hf H) (b : Bp K Hf H v d) : Dp K H v d := Rp.dp _ _ (b.rp u)
theorem Bp.list {K : PySem.W.Frag} {Hf H : Hp} {v : V} {l : List PyData} (u : Sub Hf H) (b : Bp K Hf H v (.list l)) : ∃ a vs, v = .ref a ∧ H a = some (.lst vs) ∧ RpA K Hf vs l := by
  rcases b with b | ⟨a, vs, l', rfl, e, h4, h5⟩
  · cases b with
    | lst h1 h2 => exact ⟨_, _, rfl, u _ _ h1, h2⟩
  · cases e
    exact ⟨a, vs, rfl, h4, h5⟩
theorem Bp.tuple {K : PySem.W.Frag} {Hf H : Hp} {v : V} {l : List PyData} (b : Bp K Hf H v (.tuple l)) : ∃ a vs, v = .ref a ∧ SqT K Hf a vs ∧ RpA K Hf vs l := by
  rcases b with b | ⟨a, vs, l', rfl, e, h4, h5⟩
  · cases b with
    | tup h1 h2 => exact ⟨_, _, rfl, h1, h2⟩
  · cases e
theorem Bp.int {K : PySem.W.Frag} {Hf H : Hp} {v : V} {i : Int} (b : Bp K Hf H v (.int i)) : v = .int i := by
  rcases b with b | ⟨a, vs, l', rfl, e, h4, h5⟩
  · cases b; rfl
  · cases e
theorem Bp.bool {K : PySem.W.Frag} {Hf H : Hp} {v : V} {i : Bool} (b : Bp K Hf H v (.bool i)) : v = .bl i := by
  rcases b with b | ⟨a, vs, l', rfl, e, h4, h5⟩
  · cases b; rfl
  · cases e
theorem Bp.str {K : PySem.W.Frag} {Hf H : Hp} {v : V} {i : Str} (b : Bp K Hf H v (.str i)) : v = .str i := by
  rcases b with b | ⟨a, vs, l', rfl, e, h4, h5⟩
  · cases b; rfl
  · cases e
theorem Bp.none {K : PySem.W.Frag} {Hf H : Hp} {v : V} (b : Bp K Hf H v .none) : v = .non := by
  rcases b with b | ⟨a, vs, l', rfl, e, h4, h5⟩
  · cases b; rfl
  · cases e

/-! ## two operands, one operand -/
/-- an operation on values as a function on data -/
def Op2 (K : PySem.W.Frag) (r : R2) (g : PyData → PyData → Res PyData) : Prop := ∀ d1 d2 d, g d1 d2 = .ok d → ∀ (Hf H : Hp) (v1 v2 : V) (Q : VK), Sub Hf H → Bp K Hf H v1 d1 → Bp K Hf H v2 d2 →
  (∀ v Hf' H', Gr Hf H Hf' H' → Rp K Hf' v d → Q v H') → r v1 v2 H Q
def Op1 (K : PySem.W.Frag) (r : V → Hp → VK → Prop) (g : PyData → Res PyData) : Prop := ∀ d1 d, g d1 = .ok d → ∀ (Hf H : Hp) (v1 : V) (Q : VK), Sub Hf H → Bp K Hf H v1 d1 →
  (∀ v Hf' H', Gr Hf H Hf' H' → Rp K Hf' v d → Q v H') → r v1 H Q
def noExc {α : Type} : Res α → Res α
  | .ok a => .ok a
  | _ => .fail
def pop2 (g : PyData → PyData → Res PyData) (f1 f2 : PX) : PX := fun ρ hs => (f1 ρ hs).bind fun (d1, hs1) => (f2 ρ hs1).bind fun (d2, hs2) => (noExc (g d1 d2)).bind fun d => .ok (d, hs2)
def pop1 (g : PyData → Res PyData) (f1 : PX) : PX := fun ρ hs => (f1 ρ hs).bind fun (d1, hs1) => (noExc (g d1)).bind fun d => .ok (d, hs1)

theorem tOp_of {K : PySem.W.Frag} {mg : Str → Option Value} {F : Fx} {r : R2} {g : PyData → PyData → Res PyData} {f1 f2 : PX} (o : Op2 K r g) {σ : L2.St} {H : Hp} {Q : VK}
    (q : rdP K mg F (pop2 g f1 f2) σ H Q) : tOp r (rdB K mg F f1) (rdB K mg F f2) σ H Q := by
  obtain ⟨ah, Hf, ρ, hs, s, q⟩ := q
  refine ⟨ah, Hf, ρ, hs, s, ?_⟩
  cases e1 : f1 ρ hs with
  | fail => simp [pop2, e1] at q
  | exc c m => simpa [pop2, e1] using q
  | ok p1 =>
    obtain ⟨d1, hs1⟩ := p1
    intro v1 Hf1 H1 x1 b1
    have s1 := s.ex x1
    refine ⟨ah, Hf1, ρ, hs1, s1, ?_⟩
    cases e2 : f2 ρ hs1 with
    | fail => simp [pop2, e1, e2] at q
    | exc c m =>
      have q : ExW K mg ah (fun C dx H' => F.W C dx σ H') H c m := by simpa [pop2, e1, e2] using q
      exact q.after x1.keep
    | ok p2 =>
      obtain ⟨d2, hs2⟩ := p2
      intro v2 Hf2 H2 x2 b2
      have s2 := s1.ex x2
      cases e3 : g d1 d2 with
      | fail => simp [pop2, e1, e2, e3, noExc] at q
      | exc c m => simp [pop2, e1, e2, e3, noExc] at q
      | ok d =>
        simp only [pop2, e1, e2, e3, noExc, Res.bind_ok] at q
        refine o d1 d2 d e3 Hf2 H2 v1 v2 Q s2.up ((b1.mono x2.sub).p s2) (b2.p s2) fun v Hf' H' gr dd => ?_
        exact q v Hf' H' (.trans s.hand x1 (.trans s1.hand x2 (gr.ex s2.hand))) dd
theorem tUn_of {K : PySem.W.Frag} {mg : Str → Option Value} {F : Fx} {r : V → Hp → VK → Prop} {g : PyData → Res PyData} {f1 : PX} (o : Op1 K r g) {σ : L2.St} {H : Hp} {Q : VK}
    (q : rdP K mg F (pop1 g f1) σ H Q) : tUn r (rdB K mg F f1) σ H Q := by
  obtain ⟨ah, Hf, ρ, hs, s, q⟩ := q
  refine ⟨ah, Hf, ρ, hs, s, ?_⟩
  cases e1 : f1 ρ hs with
  | fail => simp [pop1, e1] at q
  | exc c m => simpa [pop1, e1] using q
  | ok p1 =>
    obtain ⟨d1, hs1⟩ := p1
    intro v1 Hf1 H1 x1 b1
    have s1 := s.ex x1
    cases e3 : g d1 with
    | fail => simp [pop1, e1, e3, noExc] at q
    | exc c m => simp [pop1, e1, e3, noExc] at q
    | ok d =>
      simp only [pop1, e1, e3, noExc, Res.bind_ok] at q
      refine o d1 d e3 Hf1 H1 v1 Q s1.up (b1.p s1) fun v Hf' H' gr dd => ?_
      exact q v Hf' H' (.trans s.hand x1 (gr.ex s1.hand)) dd
end L3
namespace L3
open PySem PySem.Spec PyProof.Rows L2

/-! ## operations on data -/
/-- the greatest length -/
abbrev BIG : Nat := 16777216
def dAdd : PyData → PyData → Res PyData
  | .int i, .int j => .ok (.int (i + j))
  | .str x, .str y => if x.length + y.length ≤ BIG then .ok (.str (x ++ y)) else .fail
  | .list x, .list y => if x.length + y.length ≤ BIG then .ok (.list (x ++ y)) else .fail
  | .tuple x, .tuple y => if x.length + y.length ≤ BIG then .ok (.tuple (x ++ y)) else .fail
  | _, _ => .fail
def dSub : PyData → PyData → Res PyData
  | .int i, .int j => .ok (.int (i - j))
  | _, _ => .fail
def mulOk (i j : Int) : Bool := decide (-(2 ^ 64) < i ∧ i < 2 ^ 64) || decide (-(2 ^ 64) < j ∧ j < 2 ^ 64) || decide (i.natAbs.log2 + j.natAbs.log2 < 1000000)
def dMul : PyData → PyData → Res PyData
  | .int i, .int j => if mulOk i j = true then .ok (.int (i * j)) else .fail
  | .list x, .int k => if k < 1000000 ∧ -1000000 < k ∧ x.length * k.toNat ≤ BIG then .ok (.list (List.replicate k.toNat x).flatten) else .fail
  | _, _ => .fail
def divOk (j : Int) : Bool := decide (j.natAbs < 1073741824) || decide (0 < j ∧ j.natAbs.log2 < 9000)
def dDiv : PyData → PyData → Res PyData
  | .int i, .int j => if divOk j = true then (if 0 < j then .ok (.int (i / j)) else if j < 0 then .ok (.int (i.fdiv j)) else .fail) else .fail
  | _, _ => .fail
def dMod : PyData → PyData → Res PyData
  | .int i, .int j => if 0 < j then .ok (.int (i % j)) else if j < 0 then .ok (.int (i.fmod j)) else .fail
  | _, _ => .fail
def dPow : PyData → PyData → Res PyData
  | .int i, .int j => if 0 ≤ j ∧ j ≤ 1000000 ∧ i.natAbs < 2 ^ 64 then .ok (.int (i ^ j.toNat)) else .fail
  | _, _ => .fail
def dShl : PyData → PyData → Res PyData
  | .int i, .int j => if 0 ≤ j ∧ j ≤ 1000000 ∧ i.natAbs < 2 ^ 64 then .ok (.int (i * 2 ^ j.toNat)) else .fail
  | _, _ => .fail
def dAnd : PyData → PyData → Res PyData
  | .int i, .int j => .ok (.int (Builtin.bitAnd i j))
  | _, _ => .fail
def dNeg : PyData → Res PyData
  | .int i => .ok (.int (-i))
  | _ => .fail
def dEq (d e : PyData) : Res PyData := if SeqAt.shaped d = true ∧ SeqAt.shaped e = true then .ok (.bool (PyData.eqv d e)) else .fail
def dNe (d e : PyData) : Res PyData := if SeqAt.shaped d = true ∧ SeqAt.shaped e = true then .ok (.bool (!PyData.eqv d e)) else .fail
def intsOf : List PyData → Option (List Int)
  | [] => some []
  | .int i :: r => (intsOf r).map (i :: ·)
  | _ :: _ => none
theorem intsOf_eq : ∀ {ds : List PyData} {ns : List Int}, intsOf ds = some ns → ds = ns.map PyData.int
  | [], ns, h => by
    have e := Option.some.inj h
    rw [← e]; rfl
  | .int i :: r, ns, h => by
    cases q : intsOf r with
    | none =>
      have h : (intsOf r).map (i :: ·) = some ns := h
      rw [q] at h; cases h
    | some ms =>
      have h : (intsOf r).map (i :: ·) = some ns := h
      rw [q] at h
      have e := Option.some.inj h
      rw [← e, List.map_cons, ← intsOf_eq q]
  | .none :: _, _, h => by cases h
  | .bool _ :: _, _, h => by cases h
  | .str _ :: _, _, h => by cases h
  | .list _ :: _, _, h => by cases h
  | .tuple _ :: _, _, h => by cases h
  | .dict _ :: _, _, h => by cases h
theorem intsOf_map : ∀ ns : List Int, intsOf (ns.map PyData.int) = some ns
  | [] => rfl
  | n :: r => by
    show (intsOf (r.map PyData.int)).map (n :: ·) = _
    rw [intsOf_map r]; rfl
theorem rpA_ints {K : PySem.W.Frag} {H : Hp} : ∀ {vs : List V} {ns : List Int}, RpA K H vs (ns.map PyData.int) → vs = ns.map V.int
  | _, [], h => by cases h; rfl
  | _, n :: r, h => by
    cases h with
    | cons h1 h2 =>
      cases h1
      rw [rpA_ints h2]; rfl
/-- < and its like, of alike data -/
def cmpOk (d e : PyData) : Bool := PySem.W.alike d e && (match d with | .tuple _ => true | .list _ => true | _ => false) && decide (d.depth ≤ 60)
def dLt (d e : PyData) : Res PyData := match d, e with
  | .int i, .int j => .ok (.bool (decide (i < j)))
  | d, e => if cmpOk d e = true then .ok (.bool (PySem.W.dataLt d e)) else .fail
def dGt (d e : PyData) : Res PyData := match d, e with
  | .int i, .int j => .ok (.bool (decide (j < i)))
  | d, e => if cmpOk d e = true then .ok (.bool (PySem.W.dataLt e d)) else .fail
def dLe (d e : PyData) : Res PyData := match d, e with
  | .int i, .int j => .ok (.bool (decide (i ≤ j)))
  | d, e => if cmpOk d e = true then .ok (.bool (!PySem.W.dataLt e d)) else .fail
def dGe (d e : PyData) : Res PyData := match d, e with
  | .int i, .int j => .ok (.bool (decide (j ≤ i)))
  | d, e => if cmpOk d e = true then .ok (.bool (!PySem.W.dataLt d e)) else .fail
def dIn (d e : PyData) : Res PyData := match e with
  | .list ds => if SeqAt.shaped d = true ∧ SeqAt.shaped (.list ds) = true then .ok (.bool (ds.any fun z => PyData.eqv z d)) else .fail
  | .tuple ds => if SeqAt.shaped d = true ∧ SeqAt.shaped (.tuple ds) = true then .ok (.bool (ds.any fun z => PyData.eqv z d)) else .fail
  | _ => .fail
def dNotIn (d e : PyData) : Res PyData := match e with
  | .list ds => if SeqAt.shaped d = true ∧ SeqAt.shaped (.list ds) = true then .ok (.bool (!ds.any fun z => PyData.eqv z d)) else .fail
  | .tuple ds => if SeqAt.shaped d = true ∧ SeqAt.shaped (.tuple ds) = true then .ok (.bool (!ds.any fun z => PyData.eqv z d)) else .fail
  | _ => .fail
def isNone : PyData → Bool
  | .none => true
  | _ => false
def dIs (d e : PyData) : Res PyData := match d, e with
  | d, .none => .ok (.bool (isNone d))
  | .bool a, .bool b => .ok (.bool (decide (a = b)))
  | _, _ => .fail
def dIsNot (d e : PyData) : Res PyData := match d, e with
  | d, .none => .ok (.bool (!isNone d))
  | .bool a, .bool b => .ok (.bool (!decide (a = b)))
  | _, _ => .fail
def dIx (d e : PyData) : Res PyData := match d, e with
  | .list ds, .int i => match atI ds i with | some z => .ok z | none => .fail
  | .tuple ds, .int i => match atI ds i with | some z => .ok z | none => .fail
  | _, _ => .fail
def cutD (xs : List PyData) (lo hi : Option Int) : List PyData := (xs.drop (HT.sIx xs.length 0 lo)).take (HT.sIx xs.length xs.length hi - HT.sIx xs.length 0 lo)
def dCut (lo hi : Option Int) (d : PyData) : Res PyData := match d with
  | .list ds => .ok (.list (cutD ds lo hi))
  | .tuple ds => .ok (.tuple (cutD ds lo hi))
  | _ => .fail

/-! ## leaves -/
structure Cz (X : Cx) (k : Nat) : Prop where
  calm : X.calm = true
  nd : X.N.Nodup
  room : Room k X.A

def pVar (i : Nat) : PX := fun ρ hs => match ρ[i]? with
  | some (some (.val d)) => .ok (d, hs)
  | _ => .fail
def pOwn (i : Nat) : PX := fun ρ hs => match ρ[i]? with
  | some (some (.own l)) => .ok (.list l, hs)
  | _ => .fail
def pK (d : PyData) : PX := fun _ hs => .ok (d, hs)

section
variable {X : Cx} {F : Fx} {a b e : Expr} {f f1 f2 f3 : PX} {pos : Pos}
theorem lp_var (i : Nat) {x : Str} {pos : Pos} (hN : X.N[i]? = some x := by rfl) (hv : Vis X.env.scope x := by first | exact Or.inl rfl | exact Or.inr (Or.inl rfl) | exact Or.inr (Or.inr rfl)) (hd : (x == ("__debug__" : Str)) = false := by decide)
    (hcd : (x == ("__classdict__" : Str)) = false := by decide) : LP X F (.Name x pos) (pVar i) := by
  refine ⟨pe_mono (pe_var hN hv hd hcd) fun σ H Q q => ?_⟩
  obtain ⟨ah, Hf, ρ, hs, s, q⟩ := q
  unfold pVar at q
  split at q
  · rename_i d hs' e
    split at e
    · rename_i d' e'
      cases e
      obtain ⟨v, e1, q1⟩ := s.slot i _ e'
      exact ⟨v, e1, q v Hf H (.refl s.up s.hand) q1⟩
    · cases e
  · rename_i e; split at e <;> cases e
  · exact q.elim
theorem lb_own (i : Nat) {x : Str} {pos : Pos} (hN : X.N[i]? = some x := by rfl) (hv : Vis X.env.scope x := by first | exact Or.inl rfl | exact Or.inr (Or.inl rfl) | exact Or.inr (Or.inr rfl)) (hd : (x == ("__debug__" : Str)) = false := by decide)
    (hcd : (x == ("__classdict__" : Str)) = false := by decide) : LB X F (.Name x pos) (pOwn i) := by
  refine ⟨pe_mono (pe_var hN hv hd hcd) fun σ H Q q => ?_⟩
  obtain ⟨ah, Hf, ρ, hs, s, q⟩ := q
  unfold pOwn at q
  split at q
  · rename_i d hs' e
    split at e
    · rename_i l e'
      cases e
      obtain ⟨v, e1, q1⟩ := s.slot i _ e'
      exact ⟨v, e1, q v Hf H (.refl s.up s.hand) (.inr ⟨i, l, e', e1, rfl⟩)⟩
    · cases e
  · rename_i e; split at e <;> cases e
  · exact q.elim
theorem lp_k {d : PyData} {v : V} (h : PE X e (tC v)) (r : ∀ H, Rp X.K H v d) : LP X F e (pK d) := by
  refine ⟨pe_mono h fun σ H Q q => ?_⟩
  obtain ⟨ah, Hf, ρ, hs, s, q⟩ := q
  exact q v Hf H (.refl s.up s.hand) (r _)
theorem lp_int {i : Int} {j : Nat} : LP X F (.Constant (.int i) j pos) (pK (.int i)) := lp_k pe_int fun _ => .int i
theorem lp_bl {b : Bool} {j : Nat} : LP X F (.Constant (.bool b) j pos) (pK (.bool b)) := lp_k pe_bl fun _ => .bl b
theorem lp_non {j : Nat} : LP X F (.Constant .none j pos) (pK .none) := lp_k pe_non fun _ => .non
theorem lp_str {x : Str} {j : Nat} : LP X F (.Constant (.str x) j pos) (pK (.str x)) := lp_k pe_str fun _ => .str x
/-- a whole number of the module -/
theorem lp_globI {x : Str} {i : Int} (hg : Gl X x) (hm : ∃ t, X.mg x = some (.int i t)) (hd : (x == ("__debug__" : Str)) = false := by decide) : LP X F (.Name x pos) (pK (.int i)) := by
  obtain ⟨t, hm⟩ := hm
  exact lp_k (pe_glob (v := .int i) hg hm ⟨t, rfl⟩ hd) fun _ => .int i

/-! ## operations -/
theorem lp_op {op : Operator} {r : R2} {g : PyData → PyData → Res PyData} (ho : OpR X (binaryOp op) r) (o : Op2 X.K r g) (ha : LB X F a f1) (hb : LB X F b f2) : LP X F (.BinOp a op b pos) (pop2 g f1 f2) :=
  ⟨pe_mono (pe_op ho ha.pe hb.pe) fun _ _ _ q => tOp_of o q⟩
theorem lp_cmp {op : CmpOp} {r : R2} {g : PyData → PyData → Res PyData} (ho : OpR X (compareOp op) r) (o : Op2 X.K r g) (ha : LB X F a f1) (hb : LB X F b f2) (hm : behindInMarks op b = false) : LP X F (.Compare a [op] [b] pos) (pop2 g f1 f2) :=
  ⟨pe_mono (pe_cmpR ho ha.pe hb.pe hm) fun _ _ _ q => tOp_of o q⟩
theorem lp_un {op : UnaryOp} {r : V → Hp → VK → Prop} {g : PyData → Res PyData} (ho : UnR X (unaryOp op) r) (o : Op1 X.K r g) (ha : LB X F a f1) : LP X F (.UnaryOp op a pos) (pop1 g f1) :=
  ⟨pe_mono (pe_un ho ha.pe) fun _ _ _ q => tUn_of o q⟩
theorem OpR.four {fn : Value → Value → Sem Value} {r1 r2 r3 r4 : R2} (h1 : OpR X fn r1) (h2 : OpR X fn r2) (h3 : OpR X fn r3) (h4 : OpR X fn r4) : OpR X fn (fun x y H Q => r1 x y H Q ∨ r2 x y H Q ∨ r3 x y H Q ∨ r4 x y H Q) := h1.or (h2.or (h3.or h4))

theorem cat_new {K : PySem.W.Frag} {Hf H : Hp} {xs ys : List V} {x y : List PyData} {p : Addr} (u : Sub Hf H) (n : H p = none) (r1 : RpA K Hf xs x) (r2 : RpA K Hf ys y) : Rp K (upd Hf p (.lst (xs ++ ys))) (.ref p) (.list (x ++ y)) :=
  have nf : Hf p = none := by
    cases q : Hf p with
    | none => rfl
    | some z => rw [u _ _ q] at n; cases n
  .lst upd_same (rpA_app ((sub_upd nf).rpA r1) ((sub_upd nf).rpA r2))
theorem cat_newT {K : PySem.W.Frag} {Hf H : Hp} {xs ys : List V} {x y : List PyData} {p : Addr} (u : Sub Hf H) (n : H p = none) (r1 : RpA K Hf xs x) (r2 : RpA K Hf ys y) : Rp K (upd Hf p (.tup (xs ++ ys))) (.ref p) (.tuple (x ++ y)) :=
  have nf : Hf p = none := by
    cases q : Hf p with
    | none => rfl
    | some z => rw [u _ _ q] at n; cases n
  .tup (SqT.of upd_same) (rpA_app ((sub_upd nf).rpA r1) ((sub_upd nf).rpA r2))
theorem nofrz {Hf H : Hp} {p : Addr} (u : Sub Hf H) (n : H p = none) : Hf p = none := by
  cases q : Hf p with
  | none => rfl
  | some z => rw [u _ _ q] at n; cases n
theorem new_lst {K : PySem.W.Frag} {Hf H : Hp} {xs : List V} {x : List PyData} {p : Addr} (u : Sub Hf H) (n : H p = none) (r : RpA K Hf xs x) : Rp K (upd Hf p (.lst xs)) (.ref p) (.list x) :=
  .lst upd_same ((sub_upd (nofrz u n)).rpA r)
theorem new_tup {K : PySem.W.Frag} {Hf H : Hp} {xs : List V} {x : List PyData} {p : Addr} (u : Sub Hf H) (n : H p = none) (r : RpA K Hf xs x) : Rp K (upd Hf p (.tup xs)) (.ref p) (.tuple x) :=
  .tup (SqT.of upd_same) ((sub_upd (nofrz u n)).rpA r)

theorem o_add : Op2 X.K (fun x y H Q => rI0 (fun i j => .int (i + j)) x y H Q ∨ (∃ i j, x = .str i ∧ y = .str j ∧ i.length + j.length ≤ sizeLine ∧ Q (.str (i ++ j)) H) ∨ rCat x y H Q ∨ rCatA X.K x y H Q) dAdd := by
  intro d1 d2 d e Hf H v1 v2 Q u b1 b2 q
  unfold dAdd at e
  split at e
  · cases e
    rw [b1.int, b2.int]
    exact .inl ⟨_, _, rfl, rfl, q _ Hf H (.refl u) (.int _)⟩
  · split at e
    · rename_i hl
      cases e
      rw [b1.str, b2.str]
      exact .inr (.inl ⟨_, _, rfl, rfl, by rw [sizeLine_eq]; exact hl, q _ Hf H (.refl u) (.str _)⟩)
    · cases e
  · split at e
    · rename_i hl
      cases e
      obtain ⟨p1, vs1, rfl, h1, r1⟩ := b1.list u
      obtain ⟨p2, vs2, rfl, h2, r2⟩ := b2.list u
      exact .inr (.inr (.inl ⟨p1, p2, vs1, vs2, rfl, rfl, h1, h2, by rw [sizeLine_eq, rpA_len r1, rpA_len r2]; exact hl, fun p n => q _ _ _ (.frz u n) (cat_new u n r1 r2)⟩))
    · cases e
  · split at e
    · rename_i hl
      cases e
      obtain ⟨p1, vs1, rfl, h1, r1⟩ := b1.tuple
      obtain ⟨p2, vs2, rfl, h2, r2⟩ := b2.tuple
      refine .inr (.inr (.inr ⟨p1, p2, vs1, vs2, rfl, rfl, sqT_mono u h1, sqT_mono u h2, by rw [sizeLine_eq, rpA_len r1, rpA_len r2]; exact hl, fun e1 => ?_, fun e1 e2 => ?_, fun e1 e2 p n => ?_⟩))
      · subst e1
        cases r1
        exact q _ Hf H (.refl u) (.tup h2 r2)
      · subst e2
        cases r2
        rw [List.append_nil] at q
        exact q _ Hf H (.refl u) (.tup h1 r1)
      · exact q _ _ _ (.frz u n) (cat_newT u n r1 r2)
    · cases e
  · cases e
theorem lp_add (ha : LB X F a f1) (hb : LB X F b f2) : LP X F (.BinOp a .Add b pos) (pop2 dAdd f1 f2) := lp_op (OpR.four op_add op_add_str op_cat op_catA) o_add ha hb
theorem o_sub : Op2 X.K (rI0 fun i j => .int (i - j)) dSub := by
  intro d1 d2 d e Hf H v1 v2 Q u b1 b2 q
  unfold dSub at e
  split at e
  · cases e
    rw [b1.int, b2.int]
    exact ⟨_, _, rfl, rfl, q _ Hf H (.refl u) (.int _)⟩
  · cases e
theorem lp_sub (ha : LB X F a f1) (hb : LB X F b f2) : LP X F (.BinOp a .Sub b pos) (pop2 dSub f1 f2) := lp_op op_sub o_sub ha hb
theorem o_mul : Op2 X.K (fun x y H Q => rI CMul (fun i j => .int (i * j)) x y H Q ∨ rI CMulW (fun i j => .int (i * j)) x y H Q ∨ rRep x y H Q) dMul := by
  intro d1 d2 d e Hf H v1 v2 Q u b1 b2 q
  unfold dMul at e
  split at e
  · split at e
    · rename_i hl
      cases e
      rw [b1.int, b2.int]
      unfold mulOk at hl
      simp only [Bool.or_eq_true, decide_eq_true_eq] at hl
      rcases hl with (hl | hl) | hl
      · exact .inl ⟨_, _, rfl, rfl, .inl hl, q _ Hf H (.refl u) (.int _)⟩
      · exact .inl ⟨_, _, rfl, rfl, .inr hl, q _ Hf H (.refl u) (.int _)⟩
      · exact .inr (.inl ⟨_, _, rfl, rfl, hl, q _ Hf H (.refl u) (.int _)⟩)
    · cases e
  · split at e
    · rename_i x k hl
      cases e
      obtain ⟨p1, vs1, rfl, h1, r1⟩ := b1.list u
      rw [b2.int]
      refine .inr (.inr ⟨p1, k, vs1, rfl, rfl, h1, by omega, by omega, by rw [sizeLine_eq, rpA_len r1]; exact hl.2.2, fun p n => ?_⟩)
      refine q _ _ _ (.frz u n) (new_lst u n ?_)
      generalize k.toNat = m
      induction m with
      | zero => exact .nil
      | succ m ih =>
        rw [List.replicate_succ, List.replicate_succ, List.flatten_cons, List.flatten_cons]
        exact rpA_app r1 ih
    · cases e
  · cases e
theorem lp_mul (ha : LB X F a f1) (hb : LB X F b f2) : LP X F (.BinOp a .Mult b pos) (pop2 dMul f1 f2) := lp_op (op_mul.or (op_mulW.or op_rep)) o_mul ha hb
theorem o_div : Op2 X.K (fun x y H Q => rI CDivN (fun i j => .int (i.fdiv j)) x y H Q ∨ rI CDivW (fun i j => .int (i / j)) x y H Q) dDiv := by
  intro d1 d2 d e Hf H v1 v2 Q u b1 b2 q
  unfold dDiv at e
  split at e
  · rename_i i j
    split at e
    · rename_i hl
      rw [b1.int, b2.int]
      unfold divOk at hl
      simp only [Bool.or_eq_true, decide_eq_true_eq] at hl
      split at e
      · rename_i hj
        cases e
        rcases hl with hl | hl
        · refine .inl ⟨_, _, rfl, rfl, ⟨by omega, hl⟩, ?_⟩
          show Q (.int (i.fdiv j)) H
          rw [Int.fdiv_eq_ediv_of_nonneg i (by omega)]
          exact q _ Hf H (.refl u) (.int _)
        · exact .inr ⟨_, _, rfl, rfl, hl, q _ Hf H (.refl u) (.int _)⟩
      · split at e
        · cases e
          rcases hl with hl | hl
          · exact .inl ⟨_, _, rfl, rfl, ⟨by omega, hl⟩, q _ Hf H (.refl u) (.int _)⟩
          · omega
        · cases e
    · cases e
  · cases e
theorem lp_div (ha : LB X F a f1) (hb : LB X F b f2) : LP X F (.BinOp a .FloorDiv b pos) (pop2 dDiv f1 f2) := lp_op (op_fdivN.or op_fdivW) o_div ha hb
theorem o_mod : Op2 X.K (rI (fun _ j => j ≠ 0) fun i j => .int (i.fmod j)) dMod := by
  intro d1 d2 d e Hf H v1 v2 Q u b1 b2 q
  unfold dMod at e
  split at e
  · rename_i i j
    rw [b1.int, b2.int]
    split at e
    · cases e
      refine ⟨_, _, rfl, rfl, by omega, ?_⟩
      show Q (.int (i.fmod j)) H
      rw [Int.fmod_eq_emod_of_nonneg i (by omega)]
      exact q _ Hf H (.refl u) (.int _)
    · split at e
      · cases e
        exact ⟨_, _, rfl, rfl, by omega, q _ Hf H (.refl u) (.int _)⟩
      · cases e
  · cases e
theorem lp_mod (ha : LB X F a f1) (hb : LB X F b f2) : LP X F (.BinOp a .Mod b pos) (pop2 dMod f1 f2) := lp_op op_modN o_mod ha hb
theorem o_pow : Op2 X.K (rI CPow fun i j => .int (i ^ j.toNat)) dPow := by
  intro d1 d2 d e Hf H v1 v2 Q u b1 b2 q
  unfold dPow at e
  split at e
  · split at e
    · cases e
      rw [b1.int, b2.int]
      exact ⟨_, _, rfl, rfl, by assumption, q _ Hf H (.refl u) (.int _)⟩
    · cases e
  · cases e
theorem lp_pow (ha : LB X F a f1) (hb : LB X F b f2) : LP X F (.BinOp a .Pow b pos) (pop2 dPow f1 f2) := lp_op op_pow o_pow ha hb
theorem o_shl : Op2 X.K (rI CPow fun i j => .int (i * 2 ^ j.toNat)) dShl := by
  intro d1 d2 d e Hf H v1 v2 Q u b1 b2 q
  unfold dShl at e
  split at e
  · split at e
    · cases e
      rw [b1.int, b2.int]
      exact ⟨_, _, rfl, rfl, by assumption, q _ Hf H (.refl u) (.int _)⟩
    · cases e
  · cases e
theorem lp_shl (ha : LB X F a f1) (hb : LB X F b f2) : LP X F (.BinOp a .LShift b pos) (pop2 dShl f1 f2) := lp_op op_shl o_shl ha hb
theorem o_and : Op2 X.K (rI0 fun i j => .int (Builtin.bitAnd i j)) dAnd := by
  intro d1 d2 d e Hf H v1 v2 Q u b1 b2 q
  unfold dAnd at e
  split at e
  · cases e
    rw [b1.int, b2.int]
    exact ⟨_, _, rfl, rfl, q _ Hf H (.refl u) (.int _)⟩
  · cases e
theorem lp_band (ha : LB X F a f1) (hb : LB X F b f2) : LP X F (.BinOp a .BitAnd b pos) (pop2 dAnd f1 f2) := lp_op op_and o_and ha hb
theorem o_neg : Op1 X.K (rU fun i => .int (-i)) dNeg := by
  intro d1 d e Hf H v1 Q u b1 q
  unfold dNeg at e
  split at e
  · cases e
    rw [b1.int]
    exact ⟨_, rfl, q _ Hf H (.refl u) (.int _)⟩
  · cases e
theorem lp_neg (ha : LB X F a f1) : LP X F (.UnaryOp .USub a pos) (pop1 dNeg f1) := lp_un un_neg o_neg ha

/-! ## comparisons -/
theorem o_eq : Op2 X.K (rEqD X.K) dEq := by
  intro d1 d2 d e Hf H v1 v2 Q u b1 b2 q
  unfold dEq at e
  split at e
  · rename_i hl
    cases e
    exact ⟨d1, d2, b1.dp u, b2.dp u, hl.1, hl.2, q _ Hf H (.refl u) (.bl _)⟩
  · cases e
theorem o_ne : Op2 X.K (rNeD X.K) dNe := by
  intro d1 d2 d e Hf H v1 v2 Q u b1 b2 q
  unfold dNe at e
  split at e
  · rename_i hl
    cases e
    exact ⟨d1, d2, b1.dp u, b2.dp u, hl.1, hl.2, q _ Hf H (.refl u) (.bl _)⟩
  · cases e
variable {k : Nat}
theorem lp_eq (z : Cz X k) (ha : LB X F a f1) (hb : LB X F b f2) : LP X F (.Compare a [.Eq] [b] pos) (pop2 dEq f1 f2) := lp_cmp (op_eqD z.room.units) o_eq ha hb (nomark _)
theorem lp_ne (z : Cz X k) (ha : LB X F a f1) (hb : LB X F b f2) : LP X F (.Compare a [.NotEq] [b] pos) (pop2 dNe f1 f2) := lp_cmp (op_neD z.room.units) o_ne ha hb (nomark _)

/-- a < b of alike data, as g tells -/
def rCmpD (K : PySem.W.Frag) (g : PyData → PyData → Bool) : R2 := fun x y H Q => ∃ d e, Dp K H x d ∧ Dp K H y e ∧ cmpOk d e = true ∧ Q (.bl (g d e)) H
theorem cmpOk_at {d e : PyData} (h : cmpOk d e = true) : PySem.W.alike d e = true ∧ d ≠ .none ∧ d.depth ≤ 60 := by
  unfold cmpOk at h
  simp only [Bool.and_eq_true, decide_eq_true_eq] at h
  refine ⟨h.1.1, fun z => ?_, h.2⟩
  subst z
  have := h.1.2
  cases this
theorem op_ltD (hu : X.A.units + 64 < cLine) : OpR X (compareOp .Lt) (rCmpD X.K fun d e => PySem.W.dataLt d e) := by
  intro pins s σ H x y v u Q I rx ry h
  obtain ⟨d, e, hx, hy, ok, q⟩ := h
  obtain ⟨as, r1⟩ := Dp.reads I _ x v hx rx
  obtain ⟨bs, r2⟩ := Dp.reads I _ y u hy ry
  obtain ⟨h1, h2, h3⟩ := cmpOk_at ok
  have hmin : min d.depth e.depth ≤ d.depth := Nat.min_le_left _ _
  exact PySem.W.rcLt_alike _ _ X.A s v u as bs r1 r2 h1 h2 (by omega) X.prog X.w X.xe _ ⟨.bl _, H, I, rfl, q⟩
theorem op_gtD (hu : X.A.units + 64 < cLine) : OpR X (compareOp .Gt) (rCmpD X.K fun d e => PySem.W.dataLt e d) := by
  intro pins s σ H x y v u Q I rx ry h
  obtain ⟨d, e, hx, hy, ok, q⟩ := h
  obtain ⟨as, r1⟩ := Dp.reads I _ x v hx rx
  obtain ⟨bs, r2⟩ := Dp.reads I _ y u hy ry
  obtain ⟨h1, h2, h3⟩ := cmpOk_at ok
  have hmin : min d.depth e.depth ≤ d.depth := Nat.min_le_left _ _
  exact PySem.W.rcGt_alike _ _ X.A s v u as bs r1 r2 h1 h2 (by omega) X.prog X.w X.xe _ ⟨.bl _, H, I, rfl, q⟩
theorem op_leD (hu : X.A.units + 64 < cLine) : OpR X (compareOp .LtE) (rCmpD X.K fun d e => !PySem.W.dataLt e d) := by
  intro pins s σ H x y v u Q I rx ry h
  obtain ⟨d, e, hx, hy, ok, q⟩ := h
  obtain ⟨as, r1⟩ := Dp.reads I _ x v hx rx
  obtain ⟨bs, r2⟩ := Dp.reads I _ y u hy ry
  obtain ⟨h1, h2, h3⟩ := cmpOk_at ok
  have hmin : min d.depth e.depth ≤ d.depth := Nat.min_le_left _ _
  exact PySem.W.rcLe_alike _ _ X.A s v u as bs r1 r2 h1 h2 (by omega) X.prog X.w X.xe _ ⟨.bl _, H, I, rfl, q⟩
theorem op_geD (hu : X.A.units + 64 < cLine) : OpR X (compareOp .GtE) (rCmpD X.K fun d e => !PySem.W.dataLt d e) := by
  intro pins s σ H x y v u Q I rx ry h
  obtain ⟨d, e, hx, hy, ok, q⟩ := h
  obtain ⟨as, r1⟩ := Dp.reads I _ x v hx rx
  obtain ⟨bs, r2⟩ := Dp.reads I _ y u hy ry
  obtain ⟨h1, h2, h3⟩ := cmpOk_at ok
  have hmin : min d.depth e.depth ≤ d.depth := Nat.min_le_left _ _
  exact PySem.W.rcGe_alike _ _ X.A s v u as bs r1 r2 h1 h2 (by omega) X.prog X.w X.xe _ ⟨.bl _, H, I, rfl, q⟩
theorem o_lt : Op2 X.K (fun x y H Q => rI0 (fun i j => .bl (decide (i < j))) x y H Q ∨ rCmpD X.K (fun d e => PySem.W.dataLt d e) x y H Q) dLt := by
  intro d1 d2 d e Hf H v1 v2 Q u b1 b2 q
  unfold dLt at e
  split at e
  · cases e
    rw [b1.int, b2.int]
    exact .inl ⟨_, _, rfl, rfl, q _ Hf H (.refl u) (.bl _)⟩
  · split at e
    · rename_i hl
      cases e
      exact .inr ⟨_, _, b1.dp u, b2.dp u, hl, q _ Hf H (.refl u) (.bl _)⟩
    · cases e
theorem o_gt : Op2 X.K (fun x y H Q => rI0 (fun i j => .bl (decide (j < i))) x y H Q ∨ rCmpD X.K (fun d e => PySem.W.dataLt e d) x y H Q) dGt := by
  intro d1 d2 d e Hf H v1 v2 Q u b1 b2 q
  unfold dGt at e
  split at e
  · cases e
    rw [b1.int, b2.int]
    exact .inl ⟨_, _, rfl, rfl, q _ Hf H (.refl u) (.bl _)⟩
  · split at e
    · rename_i hl
      cases e
      exact .inr ⟨_, _, b1.dp u, b2.dp u, hl, q _ Hf H (.refl u) (.bl _)⟩
    · cases e
theorem o_le : Op2 X.K (fun x y H Q => rI0 (fun i j => .bl (decide (i ≤ j))) x y H Q ∨ rCmpD X.K (fun d e => !PySem.W.dataLt e d) x y H Q) dLe := by
  intro d1 d2 d e Hf H v1 v2 Q u b1 b2 q
  unfold dLe at e
  split at e
  · cases e
    rw [b1.int, b2.int]
    exact .inl ⟨_, _, rfl, rfl, q _ Hf H (.refl u) (.bl _)⟩
  · split at e
    · rename_i hl
      cases e
      exact .inr ⟨_, _, b1.dp u, b2.dp u, hl, q _ Hf H (.refl u) (.bl _)⟩
    · cases e
theorem o_ge : Op2 X.K (fun x y H Q => rI0 (fun i j => .bl (decide (j ≤ i))) x y H Q ∨ rCmpD X.K (fun d e => !PySem.W.dataLt d e) x y H Q) dGe := by
  intro d1 d2 d e Hf H v1 v2 Q u b1 b2 q
  unfold dGe at e
  split at e
  · cases e
    rw [b1.int, b2.int]
    exact .inl ⟨_, _, rfl, rfl, q _ Hf H (.refl u) (.bl _)⟩
  · split at e
    · rename_i hl
      cases e
      exact .inr ⟨_, _, b1.dp u, b2.dp u, hl, q _ Hf H (.refl u) (.bl _)⟩
    · cases e
theorem lp_lt (z : Cz X k) (ha : LB X F a f1) (hb : LB X F b f2) : LP X F (.Compare a [.Lt] [b] pos) (pop2 dLt f1 f2) := lp_cmp (op_lt.or (op_ltD z.room.units)) o_lt ha hb (nomark _)

/-- x in a tuple of data -/
def rInT (K : PySem.W.Frag) : R2 := fun x y H Q => ∃ d ds, Dp K H x d ∧ Dp K H y (.tuple ds) ∧ SeqAt.shaped d = true ∧ SeqAt.shaped (.tuple ds) = true ∧ Q (.bl (ds.any fun z => PyData.eqv z d)) H
def rNotInT (K : PySem.W.Frag) : R2 := fun x y H Q => ∃ d ds, Dp K H x d ∧ Dp K H y (.tuple ds) ∧ SeqAt.shaped d = true ∧ SeqAt.shaped (.tuple ds) = true ∧ Q (.bl (!ds.any fun z => PyData.eqv z d)) H
theorem shT {ds : List PyData} (h : SeqAt.shaped (.tuple ds) = true) : PyData.canLayAll0 ds = true ∧ PyData.depthAll ds ≤ 63 := by
  have h1 := SeqAt.canLay_of_shaped h
  have h2 := SeqAt.depth_of_shaped h
  rw [PyData.canLay0] at h1
  rw [PyData.depth] at h2
  exact ⟨h1, by omega⟩
theorem op_inT (hu : X.A.units + 65 < cLine) : OpR X (compareOp .In) (rInT X.K) := by
  intro pins s σ H x y v u Q I rx ry h
  obtain ⟨d, ds, hd, he, sd, se, q⟩ := h
  obtain ⟨as, r1⟩ := Dp.reads I d x v hd rx
  obtain ⟨bs, r2⟩ := Dp.reads I (.tuple ds) y u he ry
  have h1 := shT se
  refine SeqAt.in_tuple_reads r2 r1 h1.1 (SeqAt.canLay_of_shaped sd) ?_ ⟨.bl _, H, I, rfl, q⟩
  have : min (PyData.depthAll ds) d.depth ≤ PyData.depthAll ds := Nat.min_le_left _ _
  omega
theorem op_notInT (hu : X.A.units + 65 < cLine) : OpR X (compareOp .NotIn) (rNotInT X.K) := by
  intro pins s σ H x y v u Q I rx ry h
  obtain ⟨d, ds, hd, he, sd, se, q⟩ := h
  obtain ⟨as, r1⟩ := Dp.reads I d x v hd rx
  obtain ⟨bs, r2⟩ := Dp.reads I (.tuple ds) y u he ry
  have h1 := shT se
  refine SeqAt.notIn_tuple_reads r2 r1 h1.1 (SeqAt.canLay_of_shaped sd) ?_ ⟨.bl _, H, I, rfl, q⟩
  have : min (PyData.depthAll ds) d.depth ≤ PyData.depthAll ds := Nat.min_le_left _ _
  omega
theorem o_in : Op2 X.K (fun x y H Q => rInD X.K x y H Q ∨ rInT X.K x y H Q) dIn := by
  intro d1 d2 d e Hf H v1 v2 Q u b1 b2 q
  unfold dIn at e
  split at e
  · split at e
    · rename_i hl
      cases e
      exact .inl ⟨_, _, b1.dp u, b2.dp u, hl.1, hl.2, q _ Hf H (.refl u) (.bl _)⟩
    · cases e
  · split at e
    · rename_i hl
      cases e
      exact .inr ⟨_, _, b1.dp u, b2.dp u, hl.1, hl.2, q _ Hf H (.refl u) (.bl _)⟩
    · cases e
  · cases e
theorem o_notIn : Op2 X.K (fun x y H Q => rNotInD X.K x y H Q ∨ rNotInT X.K x y H Q) dNotIn := by
  intro d1 d2 d e Hf H v1 v2 Q u b1 b2 q
  unfold dNotIn at e
  split at e
  · split at e
    · rename_i hl
      cases e
      exact .inl ⟨_, _, b1.dp u, b2.dp u, hl.1, hl.2, q _ Hf H (.refl u) (.bl _)⟩
    · cases e
  · split at e
    · rename_i hl
      cases e
      exact .inr ⟨_, _, b1.dp u, b2.dp u, hl.1, hl.2, q _ Hf H (.refl u) (.bl _)⟩
    · cases e
  · cases e
theorem Cz.un65 (z : Cz X k) : X.A.units + 65 < cLine := by have := z.room.un; omega
theorem lp_in (z : Cz X k) (ha : LB X F a f1) (hb : LB X F b f2) (hm : behindInMarks .In b = false := by rfl) : LP X F (.Compare a [.In] [b] pos) (pop2 dIn f1 f2) := lp_cmp ((op_inD z.un65).or (op_inT z.un65)) o_in ha hb hm
theorem lp_notIn (z : Cz X k) (ha : LB X F a f1) (hb : LB X F b f2) (hm : behindInMarks .NotIn b = false := by rfl) : LP X F (.Compare a [.NotIn] [b] pos) (pop2 dNotIn f1 f2) := lp_cmp ((op_notInD z.un65).or (op_notInT z.un65)) o_notIn ha hb hm
theorem Bp.isN {K : PySem.W.Frag} {Hf H : Hp} {v : V} {d : PyData} (b : Bp K Hf H v d) : decide (v = .non) = isNone d := by
  rcases b with b | ⟨a, vs, l', rfl, rfl, h4, h5⟩
  · cases b <;> rfl
  · rfl
theorem o_is : Op2 X.K (fun x y H Q => (y = .non ∧ Q (.bl (decide (x = .non))) H) ∨ (∃ a b, x = .bl a ∧ y = .bl b ∧ Q (.bl (decide (a = b))) H)) dIs := by
  intro d1 d2 d e Hf H v1 v2 Q u b1 b2 q
  unfold dIs at e
  split at e
  · cases e
    refine .inl ⟨b2.none, ?_⟩
    rw [b1.isN]
    exact q _ Hf H (.refl u) (.bl _)
  · cases e
    rw [b1.bool, b2.bool]
    exact .inr ⟨_, _, rfl, rfl, q _ Hf H (.refl u) (.bl _)⟩
  · cases e
theorem o_isNot : Op2 X.K (fun x y H Q => (y = .non ∧ Q (.bl (!decide (x = .non))) H) ∨ (∃ a b, x = .bl a ∧ y = .bl b ∧ Q (.bl (!decide (a = b))) H)) dIsNot := by
  intro d1 d2 d e Hf H v1 v2 Q u b1 b2 q
  unfold dIsNot at e
  split at e
  · cases e
    refine .inl ⟨b2.none, ?_⟩
    rw [b1.isN]
    exact q _ Hf H (.refl u) (.bl _)
  · cases e
    rw [b1.bool, b2.bool]
    exact .inr ⟨_, _, rfl, rfl, q _ Hf H (.refl u) (.bl _)⟩
  · cases e
theorem lp_is (ha : LB X F a f1) (hb : LB X F b f2) : LP X F (.Compare a [.Is] [b] pos) (pop2 dIs f1 f2) := lp_cmp (op_isN.or op_is_bl) o_is ha hb (nomark _)
theorem lp_isNot (ha : LB X F a f1) (hb : LB X F b f2) : LP X F (.Compare a [.IsNot] [b] pos) (pop2 dIsNot f1 f2) := lp_cmp (op_notN.or op_isnot_bl) o_isNot ha hb (nomark _)

/-! ## subscripts -/
theorem atI_rp {K : PySem.W.Frag} {H : Hp} {vs : List V} {ds : List PyData} {i : Int} {d : PyData} (r : RpA K H vs ds) (e : atI ds i = some d) : ∃ v, atI vs i = some v ∧ Rp K H v d := by
  unfold atI at e ⊢
  rw [rpA_len r]
  cases q : ixN ds.length i with
  | none => rw [q] at e; cases e
  | some j =>
    rw [q] at e
    obtain ⟨v, h1, h2⟩ := rpA_get r (show ds[j]? = some d from e)
    exact ⟨v, h1, h2⟩
theorem o_ix : Op2 X.K (fun x y H Q => rIxL X.K x y H Q ∨ rIxT X.K x y H Q) dIx := by
  intro d1 d2 d e Hf H v1 v2 Q u b1 b2 q
  unfold dIx at e
  split at e
  · split at e
    · rename_i e1
      cases e
      obtain ⟨p1, vs1, rfl, h1, r1⟩ := b1.list u
      obtain ⟨v, h2, r2⟩ := atI_rp r1 e1
      rw [b2.int]
      exact .inl ⟨p1, vs1, _, v, rfl, rfl, SqL.of h1, h2, q v Hf H (.refl u) r2⟩
    · cases e
  · split at e
    · rename_i e1
      cases e
      obtain ⟨p1, vs1, rfl, h1, r1⟩ := b1.tuple
      obtain ⟨v, h2, r2⟩ := atI_rp r1 e1
      rw [b2.int]
      exact .inr ⟨p1, vs1, _, v, rfl, rfl, sqT_mono u h1, h2, q v Hf H (.refl u) r2⟩
    · cases e
  · cases e
theorem lp_ix (ha : LB X F a f1) (hb : LB X F b f2) (hs : PlainIx b := by exact fun _ _ => rfl) : LP X F (.Subscript a b pos) (pop2 dIx f1 f2) :=
  ⟨pe_mono (pe_ix (ix_list.or ix_tup) ha.pe hb.pe hs) fun _ _ _ q => tOp_of o_ix q⟩
/-- the bounds of a cut: numbers or nothing -/
abbrev OX := Rho → HSt → Res (Option Int × HSt)
def rdO (K : PySem.W.Frag) (mg : Str → Option Value) (F : Fx) (f : OX) : TO := fun σ H Q => ∃ ah Hf ρ hs, SR K mg F ah Hf H σ ρ hs ∧ match f ρ hs with
  | .ok (o, hs') => ∀ Hf' H', Ex K ah Hf H Hf' H' hs' → Q o H'
  | .exc c m => ExW K mg ah (fun C dx H' => F.W C dx σ H') H c m
  | .fail => False
structure LO (X : Cx) (F : Fx) (e : Option Expr) (f : OX) : Prop where
  po : PO X e (rdO X.K X.mg F f)
def oNone : OX := fun _ hs => .ok (none, hs)
def oSome (f : PX) : OX := fun ρ hs => (f ρ hs).bind fun (d, hs1) => match d with
  | .int i => .ok (some i, hs1)
  | _ => .fail
theorem po_mono {e : Option Expr} {t t' : TO} (h : PO X e t) (w : ∀ σ H Q, t' σ H Q → t σ H Q) : PO X e t' :=
  ⟨fun pins s σ H Q I q => h.run pins s σ H Q I (w σ H Q q)⟩
theorem lo_none : LO X F none oNone := by
  refine ⟨po_mono po_none fun σ H Q q => ?_⟩
  obtain ⟨ah, Hf, ρ, hs, s, q⟩ := q
  exact q Hf H (.refl s.up s.hand)
theorem lo_some (h : LP X F e f) : LO X F (some e) (oSome f) := by
  refine ⟨po_mono (po_some h.pe) fun σ H Q q => ?_⟩
  obtain ⟨ah, Hf, ρ, hs, s, q⟩ := q
  refine ⟨ah, Hf, ρ, hs, s, ?_⟩
  cases e1 : f ρ hs with
  | fail => simp [oSome, e1] at q
  | exc c m => simpa [oSome, e1] using q
  | ok p =>
    obtain ⟨d, hs1⟩ := p
    intro v Hf' H' x r
    simp only [oSome, e1, Res.bind_ok] at q
    cases d with
    | int i =>
      cases r
      exact ⟨i, rfl, q Hf' H' x⟩
    | _ => exact q.elim
def pCut (f1 : PX) (l h : OX) : PX := fun ρ hs => (f1 ρ hs).bind fun (d, hs1) => (l ρ hs1).bind fun (lo, hs2) => (h ρ hs2).bind fun (hi, hs3) => (noExc (dCut lo hi d)).bind fun z => .ok (z, hs3)
theorem cut_rp {K : PySem.W.Frag} {H : Hp} {vs : List V} {ds : List PyData} (r : RpA K H vs ds) (lo hi : Option Int) : RpA K H (cutV vs lo hi) (cutD ds lo hi) := by
  unfold cutV cutD
  rw [rpA_len r]
  exact rpA_take _ (rpA_drop _ r)
theorem cut_all {n : Nat} {lo hi : Option Int} {α : Type} (xs : List α) (e : HT.sIx xs.length 0 lo = 0 ∧ HT.sIx xs.length xs.length hi = xs.length) : (xs.drop (HT.sIx xs.length 0 lo)).take (HT.sIx xs.length xs.length hi - HT.sIx xs.length 0 lo) = xs := by
  rw [e.1, e.2]
  simp
theorem lp_cut {lo hi : Option Expr} {l h : OX} {p2 : Pos} (ha : LB X F a f1) (hl : LO X F lo l) (hh : LO X F hi h) : LP X F (.Subscript a (.Slice lo hi none p2) pos) (pCut f1 l h) := by
  refine ⟨pe_mono (pe_slice (sl_list.or sl_tupA) ha.pe hl.po hh.po) fun σ H Q q => ?_⟩
  obtain ⟨ah, Hf, ρ, hs, s, q⟩ := q
  refine ⟨ah, Hf, ρ, hs, s, ?_⟩
  cases e1 : f1 ρ hs with
  | fail => simp [pCut, e1] at q
  | exc c m => simpa [pCut, e1] using q
  | ok p =>
    obtain ⟨d, hs1⟩ := p
    intro v1 Hf1 H1 x1 b1
    have s1 := s.ex x1
    refine ⟨ah, Hf1, ρ, hs1, s1, ?_⟩
    cases e2 : l ρ hs1 with
    | fail => simp [pCut, e1, e2] at q
    | exc c m =>
      have q : ExW X.K X.mg ah (fun C dx H' => F.W C dx σ H') H c m := by simpa [pCut, e1, e2] using q
      exact q.after x1.keep
    | ok p =>
      obtain ⟨lo, hs2⟩ := p
      intro Hf2 H2 x2
      have s2 := s1.ex x2
      refine ⟨ah, Hf2, ρ, hs2, s2, ?_⟩
      cases e3 : h ρ hs2 with
      | fail => simp [pCut, e1, e2, e3] at q
      | exc c m =>
        have q : ExW X.K X.mg ah (fun C dx H' => F.W C dx σ H') H c m := by simpa [pCut, e1, e2, e3] using q
        exact (q.after x1.keep).after x2.keep
      | ok p =>
        obtain ⟨hi, hs3⟩ := p
        intro Hf3 H3 x3
        have s3 := s2.ex x3
        have b3 : Bp X.K Hf3 H3 v1 d := ((b1.mono x2.sub).mono x3.sub).p s3
        have X3 := Ex.trans s.hand x1 (.trans s1.hand x2 x3)
        cases e4 : dCut lo hi d with
        | fail => simp [pCut, e1, e2, e3, e4, noExc] at q
        | exc c m => simp [pCut, e1, e2, e3, e4, noExc] at q
        | ok z =>
          simp only [pCut, e1, e2, e3, e4, noExc, Res.bind_ok] at q
          unfold dCut at e4
          split at e4
          · cases e4
            obtain ⟨p1, vs1, rfl, h1, r1⟩ := b3.list s3.up
            exact .inl ⟨p1, vs1, rfl, SqL.of h1, fun p n => q _ _ _ (.trans s.hand X3 ((Gr.frz s3.up n).ex s3.hand)) (new_lst s3.up n (cut_rp r1 lo hi))⟩
          · rename_i ds
            cases e4
            obtain ⟨p1, vs1, rfl, h1, r1⟩ := b3.tuple
            refine .inr ⟨p1, vs1, rfl, sqT_mono s3.up h1, fun e => ?_, fun e p n => ?_⟩
            · refine q _ _ _ X3 ?_
              have e' : cutD ds lo hi = ds := by
                rw [rpA_len r1] at e
                exact cut_all (n := 0) ds e
              rw [e']
              exact .tup h1 r1
            · exact q _ _ _ (.trans s.hand X3 ((Gr.frz s3.up n).ex s3.hand)) (new_tup s3.up n (cut_rp r1 lo hi))
          · cases e4
/-- xs[::-1] of a list -/
def dRev : PyData → Res PyData
  | .list ds => .ok (.list ds.reverse)
  | _ => .fail
def rRevL (K : PySem.W.Frag) : V → Hp → VK → Prop := fun x H1 Q => ∃ a xs, x = .ref a ∧ SqL K H1 a xs ∧ ∀ p, H1 p = none → Q (.ref p) (upd H1 p (.lst xs.reverse))
theorem o_rev : Op1 X.K (rRevL X.K) dRev := by
  intro d1 d e Hf H v1 Q u b1 q
  unfold dRev at e
  split at e
  · cases e
    obtain ⟨p1, vs1, rfl, h1, r1⟩ := b1.list u
    exact ⟨p1, vs1, rfl, SqL.of h1, fun p n => q _ _ _ (.frz u n) (new_lst u n (rpA_rev r1))⟩
  · cases e
theorem lp_revL {k : Nat} {p1 p2 p3 : Pos} (ha : LB X F a f1) : LP X F (.Subscript a (.Slice none none (some (.UnaryOp .USub (.Constant (.int 1) k p1) p2)) p3) pos) (pop1 dRev f1) :=
  ⟨pe_mono (pe_revL ha.pe) fun _ _ _ q => tUn_of o_rev q⟩
end
end L3
namespace L3
open PySem PySem.Spec PyProof.Rows L2

/-! ## comparisons as values, as tests, in chains -/
def LCmp (X : Cx) (op : CmpOp) (g : PyData → PyData → Res PyData) : Prop := ∃ r, OpR X (compareOp op) r ∧ Op2 X.K r g
section
variable {X : Cx} {k : Nat}
theorem c_eq (z : Cz X k) : LCmp X .Eq dEq := ⟨_, op_eqD z.room.units, o_eq⟩
theorem c_ne (z : Cz X k) : LCmp X .NotEq dNe := ⟨_, op_neD z.room.units, o_ne⟩
theorem c_lt (z : Cz X k) : LCmp X .Lt dLt := ⟨_, op_lt.or (op_ltD z.room.units), o_lt⟩
theorem c_le (z : Cz X k) : LCmp X .LtE dLe := ⟨_, op_le.or (op_leD z.room.units), o_le⟩
theorem c_gt (z : Cz X k) : LCmp X .Gt dGt := ⟨_, op_gt.or (op_gtD z.room.units), o_gt⟩
theorem c_ge (z : Cz X k) : LCmp X .GtE dGe := ⟨_, op_ge.or (op_geD z.room.units), o_ge⟩
theorem c_in (z : Cz X k) : LCmp X .In dIn := ⟨_, (op_inD z.un65).or (op_inT z.un65), o_in⟩
theorem c_notIn (z : Cz X k) : LCmp X .NotIn dNotIn := ⟨_, (op_notInD z.un65).or (op_notInT z.un65), o_notIn⟩
theorem c_is (z : Cz X k) : LCmp X .Is dIs := ⟨_, op_isN.or op_is_bl, o_is⟩
theorem c_isNot (z : Cz X k) : LCmp X .IsNot dIsNot := ⟨_, op_notN.or op_isnot_bl, o_isNot⟩
end
def pTst (f : PX) : TX := fun ρ hs => (f ρ hs).bind fun (d, hs1) => match d with
  | .bool b => .ok (b, hs1)
  | _ => .fail
theorem rdT_tst {K : PySem.W.Frag} {mg : Str → Option Value} {F : Fx} {f : PX} {σ : L2.St} {H : Hp} {Q : Bool → Hp → Prop} (q : rdT K mg F (pTst f) σ H Q) : rdP K mg F f σ H (fun x H' => ∃ c, x = .bl c ∧ Q c H') := by
  obtain ⟨ah, Hf, ρ, hs, s, q⟩ := q
  refine ⟨ah, Hf, ρ, hs, s, ?_⟩
  cases e1 : f ρ hs with
  | fail => simp [pTst, e1] at q
  | exc c m => simpa [pTst, e1] using q
  | ok p =>
    obtain ⟨d, hs1⟩ := p
    intro v Hf' H' x r
    simp only [pTst, e1, Res.bind_ok] at q
    cases d with
    | bool b =>
      cases r
      exact ⟨b, rfl, q Hf' H' x⟩
    | _ => exact q.elim
def pChain (g1 g2 : PyData → PyData → Res PyData) (f1 f2 f3 : PX) : PX := fun ρ hs => (f1 ρ hs).bind fun (d1, hs1) => (f2 ρ hs1).bind fun (d2, hs2) => (noExc (g1 d1 d2)).bind fun c => match c with
  | .bool b => if b = true then (f3 ρ hs2).bind fun (d3, hs3) => (noExc (g2 d2 d3)).bind fun d => .ok (d, hs3) else .ok (.bool false, hs2)
  | _ => .fail
theorem tChain_of {K : PySem.W.Frag} {mg : Str → Option Value} {F : Fx} {r1 r2 : R2} {g1 g2 : PyData → PyData → Res PyData} {f1 f2 f3 : PX} (o1 : Op2 K r1 g1) (o2 : Op2 K r2 g2) {σ : L2.St} {H : Hp} {Q : VK}
    (q : rdP K mg F (pChain g1 g2 f1 f2 f3) σ H Q) : tChain r1 r2 (rdB K mg F f1) (rdB K mg F f2) (rdB K mg F f3) σ H Q := by
  obtain ⟨ah, Hf, ρ, hs, s, q⟩ := q
  refine ⟨ah, Hf, ρ, hs, s, ?_⟩
  cases e1 : f1 ρ hs with
  | fail => simp [pChain, e1] at q
  | exc c m => simpa [pChain, e1] using q
  | ok p1 =>
    obtain ⟨d1, hs1⟩ := p1
    intro v1 Hf1 H1 x1 b1
    have s1 := s.ex x1
    refine ⟨ah, Hf1, ρ, hs1, s1, ?_⟩
    cases e2 : f2 ρ hs1 with
    | fail => simp [pChain, e1, e2] at q
    | exc c m =>
      have q : ExW K mg ah (fun C dx H' => F.W C dx σ H') H c m := by simpa [pChain, e1, e2] using q
      exact q.after x1.keep
    | ok p2 =>
      obtain ⟨d2, hs2⟩ := p2
      intro v2 Hf2 H2 x2 b2
      have s2 := s1.ex x2
      cases e3 : g1 d1 d2 with
      | fail => simp [pChain, e1, e2, e3, noExc] at q
      | exc c m => simp [pChain, e1, e2, e3, noExc] at q
      | ok c =>
        simp only [pChain, e1, e2, e3, noExc, Res.bind_ok] at q
        refine o1 d1 d2 c e3 Hf2 H2 v1 v2 _ s2.up ((b1.mono x2.sub).p s2) (b2.p s2) fun v Hf3 H3 gr dd => ?_
        cases c with
        | bool b =>
          cases dd
          refine ⟨b, rfl, ?_⟩
          have X3 := Ex.trans s.hand x1 (.trans s1.hand x2 (gr.ex s2.hand))
          have s3 := s.ex X3
          cases b with
          | false =>
            simp only [Bool.false_eq_true, if_false] at q ⊢
            exact q _ Hf3 H3 X3 (.bl false)
          | true =>
            simp only [if_true] at q ⊢
            refine ⟨ah, Hf3, ρ, hs2, s3, ?_⟩
            cases e4 : f3 ρ hs2 with
            | fail => simp [e4] at q
            | exc c m =>
              simp only [e4, Res.bind_exc] at q
              exact q.after X3.keep
            | ok p4 =>
              obtain ⟨d3, hs3⟩ := p4
              intro v4 Hf4 H4 x4 b4
              have s4 := s3.ex x4
              simp only [e4, Res.bind_ok] at q
              cases e5 : g2 d2 d3 with
              | fail => simp [e5] at q
              | exc c m => simp [e5] at q
              | ok d =>
                simp only [e5, Res.bind_ok] at q
                refine o2 d2 d3 d e5 Hf4 H4 v2 v4 Q s4.up (((b2.mono gr.sub).mono x4.sub).p s4) (b4.p s4) fun v Hf5 H5 gr5 dd5 => ?_
                exact q v Hf5 H5 (.trans s.hand X3 (.trans s3.hand x4 (gr5.ex s4.hand))) dd5
        | _ => exact q.elim
section
variable {X : Cx} {F : Fx} {a b c e : Expr} {es rest : List Expr} {f f1 f2 f3 : PX} {t t1 t2 : TX} {pos : Pos} {k : Nat}
theorem lp_c {op : CmpOp} {g : PyData → PyData → Res PyData} (h : LCmp X op g) (ha : LB X F a f1) (hb : LB X F b f2) (hm : behindInMarks op b = false := by first | exact nomark _ | rfl) : LP X F (.Compare a [op] [b] pos) (pop2 g f1 f2) := by
  obtain ⟨r, h1, h2⟩ := h
  exact lp_cmp h1 h2 ha hb hm
theorem lt_c {op : CmpOp} {g : PyData → PyData → Res PyData} (h : LCmp X op g) (ha : LB X F a f1) (hb : LB X F b f2) (hm : behindInMarks op b = false := by first | exact nomark _ | rfl) : LT X F (.Compare a [op] [b] pos) (pTst (pop2 g f1 f2)) := by
  obtain ⟨r, h1, h2⟩ := h
  exact ⟨pt_mono (pt_cmpR h1 ha.pe hb.pe hm) fun _ _ _ q => tOp_of h2 (rdT_tst q)⟩
theorem lp_cc {op op' : CmpOp} {g g' : PyData → PyData → Res PyData} (h : LCmp X op g) (h' : LCmp X op' g') (ha : LB X F a f1) (hb : LB X F b f2) (hc : LB X F c f3) (hm : lastMarks [op, op'] [b, c] = false := by with_unfolding_all rfl) :
    LP X F (.Compare a [op, op'] [b, c] pos) (pChain g g' f1 f2 f3) := by
  obtain ⟨r, h1, h2⟩ := h
  obtain ⟨r', h1', h2'⟩ := h'
  exact ⟨pe_mono (pe_chain h1 h1' ha.pe hb.pe hc.pe hm) fun _ _ _ q => tChain_of h2 h2' q⟩
theorem lt_cc {op op' : CmpOp} {g g' : PyData → PyData → Res PyData} (h : LCmp X op g) (h' : LCmp X op' g') (ha : LB X F a f1) (hb : LB X F b f2) (hc : LB X F c f3) (hm : lastMarks [op, op'] [b, c] = false := by with_unfolding_all rfl) :
    LT X F (.Compare a [op, op'] [b, c] pos) (pTst (pChain g g' f1 f2 f3)) := by
  obtain ⟨r, h1, h2⟩ := h
  obtain ⟨r', h1', h2'⟩ := h'
  exact ⟨pt_mono (pt_chain h1 h1' ha.pe hb.pe hc.pe hm) fun _ _ _ q => tChain_of h2 h2' (rdT_tst q)⟩
/-- a value that is a bool, as a test -/
theorem lt_v (h : LP X F e f) (he : ∀ whole, isTrue e X.env whole = (do let v ← whole; standAt e.pos; holding [v] (truthy v)) := by intro _; rfl) : LT X F e (pTst f) :=
  ⟨pt_mono (pt_val h.pe he) fun _ _ _ q => rdT_tst q⟩

/-! ## and, or, not -/
def tAndX (t u : TX) : TX := fun ρ hs => (t ρ hs).bind fun (b, hs1) => if b = true then u ρ hs1 else .ok (false, hs1)
def tOrX (t u : TX) : TX := fun ρ hs => (t ρ hs).bind fun (b, hs1) => if b = true then .ok (true, hs1) else u ρ hs1
def tNotX (t : TX) : TX := fun ρ hs => (t ρ hs).bind fun (b, hs1) => .ok (!b, hs1)
theorem LW.tt (h : LW X F e t) : LT X F e t := ⟨h.pw.pt⟩
theorem lw_and1 (h : LT X F a t) : LW X F (.BoolOp .And [a] pos) t := ⟨pw_and1 h.pt⟩
theorem lw_or1 (h : LT X F a t) : LW X F (.BoolOp .Or [a] pos) t := ⟨pw_or1 h.pt⟩
end
/-- one test behind another -/
theorem rdT_and {K : PySem.W.Frag} {mg : Str → Option Value} {F : Fx} {t u : TX} {σ : L2.St} {H : Hp} {Q : Bool → Hp → Prop} (q : rdT K mg F (tAndX t u) σ H Q) : tAnd (rdT K mg F t) (rdT K mg F u) σ H Q := by
  obtain ⟨ah, Hf, ρ, hs, s, q⟩ := q
  refine ⟨ah, Hf, ρ, hs, s, ?_⟩
  cases e1 : t ρ hs with
  | fail => simp [tAndX, e1] at q
  | exc c m => simpa [tAndX, e1] using q
  | ok p =>
    obtain ⟨b, hs1⟩ := p
    intro Hf1 H1 x1
    have s1 := s.ex x1
    simp only [tAndX, e1, Res.bind_ok] at q
    cases b with
    | false => exact q Hf1 H1 x1
    | true =>
      simp only [if_true] at q ⊢
      refine ⟨ah, Hf1, ρ, hs1, s1, ?_⟩
      cases e2 : u ρ hs1 with
      | fail => simp [e2] at q
      | exc c m =>
        simp only [e2] at q
        exact q.after x1.keep
      | ok p2 =>
        obtain ⟨b', hs'⟩ := p2
        simp only [e2] at q
        exact fun Hf' H' x => q Hf' H' (.trans s.hand x1 x)
theorem rdT_or {K : PySem.W.Frag} {mg : Str → Option Value} {F : Fx} {t u : TX} {σ : L2.St} {H : Hp} {Q : Bool → Hp → Prop} (q : rdT K mg F (tOrX t u) σ H Q) : tOr (rdT K mg F t) (rdT K mg F u) σ H Q := by
  obtain ⟨ah, Hf, ρ, hs, s, q⟩ := q
  refine ⟨ah, Hf, ρ, hs, s, ?_⟩
  cases e1 : t ρ hs with
  | fail => simp [tOrX, e1] at q
  | exc c m => simpa [tOrX, e1] using q
  | ok p =>
    obtain ⟨b, hs1⟩ := p
    intro Hf1 H1 x1
    have s1 := s.ex x1
    simp only [tOrX, e1, Res.bind_ok] at q
    cases b with
    | true => exact q Hf1 H1 x1
    | false =>
      simp only [Bool.false_eq_true, if_false] at q ⊢
      refine ⟨ah, Hf1, ρ, hs1, s1, ?_⟩
      cases e2 : u ρ hs1 with
      | fail => simp [e2] at q
      | exc c m =>
        simp only [e2] at q
        exact q.after x1.keep
      | ok p2 =>
        obtain ⟨b', hs'⟩ := p2
        simp only [e2] at q
        exact fun Hf' H' x => q Hf' H' (.trans s.hand x1 x)
section
variable {X : Cx} {F : Fx} {a b c e : Expr} {es rest : List Expr} {f f1 f2 f3 : PX} {t t1 t2 : TX} {pos : Pos} {k : Nat}
theorem lw_and (ha : LT X F a t1) (hb : LW X F (.BoolOp .And (b :: rest) pos) t2) : LW X F (.BoolOp .And (a :: b :: rest) pos) (tAndX t1 t2) :=
  ⟨pw_mono (pw_and ha.pt hb.pw) fun _ _ _ q => rdT_and q⟩
theorem lw_or (ha : LT X F a t1) (hb : LW X F (.BoolOp .Or (b :: rest) pos) t2) : LW X F (.BoolOp .Or (a :: b :: rest) pos) (tOrX t1 t2) :=
  ⟨pw_mono (pw_or ha.pt hb.pw) fun _ _ _ q => rdT_or q⟩
theorem lt_not (ha : LT X F a t1) : LT X F (.UnaryOp .Not a pos) (tNotX t1) := by
  refine ⟨pt_mono (pt_not ha.pt) fun σ H Q q => ?_⟩
  obtain ⟨ah, Hf, ρ, hs, s, q⟩ := q
  refine ⟨ah, Hf, ρ, hs, s, ?_⟩
  cases e1 : t1 ρ hs with
  | fail => simp [tNotX, e1] at q
  | exc c m => simpa [tNotX, e1] using q
  | ok p =>
    obtain ⟨b, hs1⟩ := p
    simpa [tNotX, e1] using q

/-! ## and, or, not as values -/
def pAnd (f1 f2 : PX) : PX := fun ρ hs => (f1 ρ hs).bind fun (d, hs1) => match d with
  | .bool b => if b = true then f2 ρ hs1 else .ok (.bool false, hs1)
  | _ => .fail
def pOr (f1 f2 : PX) : PX := fun ρ hs => (f1 ρ hs).bind fun (d, hs1) => match d with
  | .bool b => if b = true then .ok (.bool true, hs1) else f2 ρ hs1
  | _ => .fail
def dNot : PyData → Res PyData
  | .bool b => .ok (.bool (!b))
  | _ => .fail
theorem lp_one {op : BoolOp} (h : LP X F a f) : LP X F (.BoolOp op [a] pos) f := ⟨pe_one h.pe⟩
theorem lp_and (ha : LP X F a f1) (hb : LP X F (.BoolOp .And (b :: rest) pos) f2) : LP X F (.BoolOp .And (a :: b :: rest) pos) (pAnd f1 f2) := by
  refine ⟨pe_mono (pe_and ha.pe hb.pe) fun σ H Q q => ?_⟩
  obtain ⟨ah, Hf, ρ, hs, s, q⟩ := q
  refine ⟨ah, Hf, ρ, hs, s, ?_⟩
  cases e1 : f1 ρ hs with
  | fail => simp [pAnd, e1] at q
  | exc c m => simpa [pAnd, e1] using q
  | ok p =>
    obtain ⟨d, hs1⟩ := p
    intro v Hf1 H1 x1 r
    have s1 := s.ex x1
    simp only [pAnd, e1, Res.bind_ok] at q
    cases d with
    | bool b =>
      cases r
      refine ⟨b, rfl, ?_⟩
      cases b with
      | false => exact q _ Hf1 H1 x1 (.bl _)
      | true =>
        simp only [if_true] at q ⊢
        refine ⟨ah, Hf1, ρ, hs1, s1, ?_⟩
        cases e2 : f2 ρ hs1 with
        | fail => simp [e2] at q
        | exc c m =>
          simp only [e2] at q
          exact q.after x1.keep
        | ok p2 =>
          obtain ⟨b', hs'⟩ := p2
          simp only [e2] at q
          exact fun v' Hf' H' x => q v' Hf' H' (.trans s.hand x1 x)
    | _ => exact q.elim
theorem lp_or (ha : LP X F a f1) (hb : LP X F (.BoolOp .Or (b :: rest) pos) f2) : LP X F (.BoolOp .Or (a :: b :: rest) pos) (pOr f1 f2) := by
  refine ⟨pe_mono (pe_or ha.pe hb.pe) fun σ H Q q => ?_⟩
  obtain ⟨ah, Hf, ρ, hs, s, q⟩ := q
  refine ⟨ah, Hf, ρ, hs, s, ?_⟩
  cases e1 : f1 ρ hs with
  | fail => simp [pOr, e1] at q
  | exc c m => simpa [pOr, e1] using q
  | ok p =>
    obtain ⟨d, hs1⟩ := p
    intro v Hf1 H1 x1 r
    have s1 := s.ex x1
    simp only [pOr, e1, Res.bind_ok] at q
    cases d with
    | bool b =>
      cases r
      refine ⟨b, rfl, ?_⟩
      cases b with
      | true => exact q _ Hf1 H1 x1 (.bl _)
      | false =>
        simp only [Bool.false_eq_true, if_false] at q ⊢
        refine ⟨ah, Hf1, ρ, hs1, s1, ?_⟩
        cases e2 : f2 ρ hs1 with
        | fail => simp [e2] at q
        | exc c m =>
          simp only [e2] at q
          exact q.after x1.keep
        | ok p2 =>
          obtain ⟨b', hs'⟩ := p2
          simp only [e2] at q
          exact fun v' Hf' H' x => q v' Hf' H' (.trans s.hand x1 x)
    | _ => exact q.elim
theorem lp_not (ha : LP X F a f1) : LP X F (.UnaryOp .Not a pos) (pop1 dNot f1) := by
  refine ⟨pe_mono (pe_not ha.pe) fun σ H Q q => ?_⟩
  obtain ⟨ah, Hf, ρ, hs, s, q⟩ := q
  refine ⟨ah, Hf, ρ, hs, s, ?_⟩
  cases e1 : f1 ρ hs with
  | fail => simp [pop1, e1] at q
  | exc c m => simpa [pop1, e1] using q
  | ok p =>
    obtain ⟨d, hs1⟩ := p
    intro v Hf1 H1 x1 r
    simp only [pop1, e1, Res.bind_ok] at q
    cases d with
    | bool b =>
      cases r
      exact ⟨b, rfl, q _ Hf1 H1 x1 (.bl _)⟩
    | _ => exact q.elim
def pIf (t : TX) (f1 f2 : PX) : PX := fun ρ hs => (t ρ hs).bind fun (b, hs1) => if b = true then f1 ρ hs1 else f2 ρ hs1
theorem lp_if (hc : LT X F c t) (ha : LP X F a f1) (hb : LP X F b f2) : LP X F (.IfExp c a b pos) (pIf t f1 f2) := by
  refine ⟨pe_mono (pe_ifExp hc.pt ha.pe hb.pe) fun σ H Q q => ?_⟩
  obtain ⟨ah, Hf, ρ, hs, s, q⟩ := q
  refine ⟨ah, Hf, ρ, hs, s, ?_⟩
  cases e1 : t ρ hs with
  | fail => simp [pIf, e1] at q
  | exc c m => simpa [pIf, e1] using q
  | ok p =>
    obtain ⟨d, hs1⟩ := p
    intro Hf1 H1 x1
    have s1 := s.ex x1
    simp only [pIf, e1, Res.bind_ok] at q
    cases d with
    | true =>
      simp only [if_true] at q ⊢
      refine ⟨ah, Hf1, ρ, hs1, s1, ?_⟩
      cases e2 : f1 ρ hs1 with
      | fail => simp [e2] at q
      | exc c m =>
        simp only [e2] at q
        exact q.after x1.keep
      | ok p2 =>
        obtain ⟨b', hs'⟩ := p2
        simp only [e2] at q
        exact fun v' Hf' H' x => q v' Hf' H' (.trans s.hand x1 x)
    | false =>
      simp only [Bool.false_eq_true, if_false] at q ⊢
      refine ⟨ah, Hf1, ρ, hs1, s1, ?_⟩
      cases e2 : f2 ρ hs1 with
      | fail => simp [e2] at q
      | exc c m =>
        simp only [e2] at q
        exact q.after x1.keep
      | ok p2 =>
        obtain ⟨b', hs'⟩ := p2
        simp only [e2] at q
        exact fun v' Hf' H' x => q v' Hf' H' (.trans s.hand x1 x)

/-! ## displays -/
def aNil : AX := fun _ hs => .ok ([], hs)
def aCons (f : PX) (g : AX) : AX := fun ρ hs => (f ρ hs).bind fun (d, hs1) => (g ρ hs1).bind fun (ds, hs2) => .ok (d :: ds, hs2)
theorem la_nil : LA X F [] aNil := by
  refine ⟨pa_mono pa_nil fun σ H Q q => ?_⟩
  obtain ⟨ah, Hf, ρ, hs, s, q⟩ := q
  exact q [] Hf H (.refl s.up s.hand) .nil
theorem la_cons {g : AX} (ha : LP X F e f) (hr : LA X F es g) (hs : starEach (e :: es) X.env = (false, eval e X.env) :: starEach es X.env := by rfl) : LA X F (e :: es) (aCons f g) := by
  refine ⟨pa_mono (pa_cons ha.pe hr.pa hs) fun σ H Q q => ?_⟩
  obtain ⟨ah, Hf, ρ, hs, s, q⟩ := q
  refine ⟨ah, Hf, ρ, hs, s, ?_⟩
  cases e1 : f ρ hs with
  | fail => simp [aCons, e1] at q
  | exc c m => simpa [aCons, e1] using q
  | ok p =>
    obtain ⟨d, hs1⟩ := p
    intro v Hf1 H1 x1 r
    have s1 := s.ex x1
    simp only [aCons, e1, Res.bind_ok] at q
    refine ⟨ah, Hf1, ρ, hs1, s1, ?_⟩
    cases e2 : g ρ hs1 with
    | fail => simp [e2] at q
    | exc c m =>
      simp only [e2, Res.bind_exc] at q
      exact q.after x1.keep
    | ok p2 =>
      obtain ⟨b', hs'⟩ := p2
      simp only [e2, Res.bind_ok] at q
      exact fun v' Hf' H' x r' => q _ Hf' H' (.trans s.hand x1 x) (.cons (x.sub.rp r) r')
def pTup (g : AX) : PX := fun ρ hs => (g ρ hs).bind fun (ds, hs1) => if ds.length ≤ BIG then .ok (.tuple ds, hs1) else .fail
theorem lp_tup {g : AX} {x1 : Nat} (h : LA X F es g) : LP X F (.Tuple es x1 pos) (pTup g) := by
  refine ⟨pe_mono (pe_tup h.pa) fun σ H Q q => ?_⟩
  obtain ⟨ah, Hf, ρ, hs, s, q⟩ := q
  refine ⟨ah, Hf, ρ, hs, s, ?_⟩
  cases e1 : g ρ hs with
  | fail => simp [pTup, e1] at q
  | exc c m => simpa [pTup, e1] using q
  | ok p =>
    obtain ⟨ds, hs1⟩ := p
    intro vs Hf1 H1 x1 r
    have s1 := s.ex x1
    simp only [pTup, e1, Res.bind_ok] at q
    split at q
    · rename_i e2
      split at e2
      · rename_i hl
        cases e2
        exact ⟨by rw [sizeLine_eq, rpA_len r]; exact hl, fun p n => q _ _ _ (.trans s.hand x1 ((Gr.frz s1.up n).ex s1.hand)) (new_tup s1.up n r)⟩
      · cases e2
    · rename_i e2; split at e2 <;> cases e2
    · exact q.elim

/-! ## new lists: not yet frozen -/
/-- a new list, not frozen, in nobody's hands -/
def Fp (K : PySem.W.Frag) (H Hf' H' : Hp) (v : V) (d : PyData) : Prop := ∃ a vs l, v = .ref a ∧ d = .list l ∧ H a = none ∧ Hf' a = none ∧ H' a = some (.lst vs) ∧ RpA K Hf' vs l
def rdF (K : PySem.W.Frag) (mg : Str → Option Value) (F : Fx) (f : PX) : TE := fun σ H Q => ∃ ah Hf ρ hs, SR K mg F ah Hf H σ ρ hs ∧ match f ρ hs with
  | .ok (d, hs') => ∀ v Hf' H', Ex K ah Hf H Hf' H' hs' → Fp K H Hf' H' v d → Q v H'
  | .exc c m => ExW K mg ah (fun C dx H' => F.W C dx σ H') H c m
  | .fail => False
structure LF (X : Cx) (F : Fx) (e : Expr) (f : PX) : Prop where
  pe : PE X e (rdF X.K X.mg F f)
/-- it is frozen -/
theorem LF.p (h : LF X F e f) : LP X F e f := by
  refine ⟨pe_mono h.pe fun σ H Q q => ?_⟩
  obtain ⟨ah, Hf, ρ, hs, s, q⟩ := q
  refine ⟨ah, Hf, ρ, hs, s, ?_⟩
  cases e1 : f ρ hs with
  | fail => simp [e1] at q
  | exc c m => simpa [e1] using q
  | ok p =>
    obtain ⟨d, hs1⟩ := p
    simp only [e1] at q
    rintro v Hf1 H1 x1 ⟨a, vs, l, rfl, rfl, n, nf, ha, r⟩
    have nah : ah ≠ some a := fun z => by
      obtain ⟨_, ws, h2, _⟩ := s.hand a z
      rw [n] at h2; cases h2
    refine q (.ref a) (upd Hf1 a (.lst vs)) H1 ⟨x1.sub.trans (sub_upd nf), fun b o h => ?_, x1.keep, fun b o h => ?_, fun b h => ?_⟩ (.lst upd_same ((sub_upd nf).rpA r))
    · by_cases e : b = a
      · subst e; rw [upd_same] at h; cases h; exact ha
      · rw [upd_ne e] at h; exact x1.up _ _ h
    · by_cases e : b = a
      · subst e; exact .inr n
      · rw [upd_ne e] at h; exact x1.new _ _ h
    · obtain ⟨h1, ws, h2, h3⟩ := x1.hand b h
      have e : b ≠ a := fun z => by subst z; exact nah h
      exact ⟨by rw [upd_ne e]; exact h1, ws, h2, (sub_upd nf).rpA h3⟩
def pLst (g : AX) : PX := fun ρ hs => (g ρ hs).bind fun (ds, hs1) => if ds.length ≤ BIG then .ok (.list ds, hs1) else .fail
theorem Ex.free {K : PySem.W.Frag} {ah : Option Addr} {Hf H Hf' H' : Hp} {hs hs' : HSt} (h : HandOk K ah Hf H hs) (x : Ex K ah Hf H Hf' H' hs') {p : Addr} (n : H' p = none) : H p = none := by
  cases q : H p with
  | none => rfl
  | some o =>
    by_cases e : ah = some p
    · obtain ⟨_, vs, h2, _⟩ := x.hand p e
      rw [n] at h2; cases h2
    · rw [x.keep p o q e] at n; cases n
theorem fp_new {K : PySem.W.Frag} {ah : Option Addr} {Hf H Hf1 H1 : Hp} {hs hs1 : HSt} {vs : List V} {l : List PyData} {p : Addr} (h : HandOk K ah Hf H hs) (x : Ex K ah Hf H Hf1 H1 hs1) (n : H1 p = none) (r : RpA K Hf1 vs l) :
    Ex K ah Hf H Hf1 (upd H1 p (.lst vs)) hs1 ∧ Fp K H Hf1 (upd H1 p (.lst vs)) (.ref p) (.list l) :=
  ⟨.trans h x ((Gr.tmp x.up n).ex x.hand), p, vs, l, rfl, rfl, x.free h n, nofrz x.up n, upd_same, r⟩
theorem lf_lst {g : AX} (h : LA X F es g) : LF X F (.List es pos) (pLst g) := by
  refine ⟨pe_mono (pe_lst h.pa) fun σ H Q q => ?_⟩
  obtain ⟨ah, Hf, ρ, hs, s, q⟩ := q
  refine ⟨ah, Hf, ρ, hs, s, ?_⟩
  cases e1 : g ρ hs with
  | fail => simp [pLst, e1] at q
  | exc c m => simpa [pLst, e1] using q
  | ok p =>
    obtain ⟨ds, hs1⟩ := p
    intro vs Hf1 H1 x1 r
    have s1 := s.ex x1
    simp only [pLst, e1, Res.bind_ok] at q
    split at q
    · rename_i e2
      split at e2
      · rename_i hl
        cases e2
        refine ⟨by rw [sizeLine_eq, rpA_len r]; exact hl, fun p n => ?_⟩
        obtain ⟨y1, y2⟩ := fp_new s.hand x1 n r
        exact q _ _ _ y1 y2
      · cases e2
    · rename_i e2; split at e2 <;> cases e2
    · exact q.elim
/-- a new list of two operands -/
def OpF2 (K : PySem.W.Frag) (r : R2) (g : PyData → PyData → Res PyData) : Prop := ∀ d1 d2 d, g d1 d2 = .ok d → ∀ (Hf H : Hp) (v1 v2 : V) (Q : VK), Sub Hf H → Bp K Hf H v1 d1 → Bp K Hf H v2 d2 →
  (∀ p vs l, d = .list l → H p = none → RpA K Hf vs l → Q (.ref p) (upd H p (.lst vs))) → r v1 v2 H Q
def OpF1 (K : PySem.W.Frag) (r : V → Hp → VK → Prop) (g : PyData → Res PyData) : Prop := ∀ d1 d, g d1 = .ok d → ∀ (Hf H : Hp) (v1 : V) (Q : VK), Sub Hf H → Bp K Hf H v1 d1 →
  (∀ p vs l, d = .list l → H p = none → RpA K Hf vs l → Q (.ref p) (upd H p (.lst vs))) → r v1 H Q
theorem tOpF_of {K : PySem.W.Frag} {mg : Str → Option Value} {F : Fx} {r : R2} {g : PyData → PyData → Res PyData} {f1 f2 : PX} (o : OpF2 K r g) {σ : L2.St} {H : Hp} {Q : VK}
    (q : rdF K mg F (pop2 g f1 f2) σ H Q) : tOp r (rdB K mg F f1) (rdB K mg F f2) σ H Q := by
  obtain ⟨ah, Hf, ρ, hs, s, q⟩ := q
  refine ⟨ah, Hf, ρ, hs, s, ?_⟩
  cases e1 : f1 ρ hs with
  | fail => simp [pop2, e1] at q
  | exc c m => simpa [pop2, e1] using q
  | ok p1 =>
    obtain ⟨d1, hs1⟩ := p1
    intro v1 Hf1 H1 x1 b1
    have s1 := s.ex x1
    refine ⟨ah, Hf1, ρ, hs1, s1, ?_⟩
    cases e2 : f2 ρ hs1 with
    | fail => simp [pop2, e1, e2] at q
    | exc c m =>
      have q : ExW K mg ah (fun C dx H' => F.W C dx σ H') H c m := by simpa [pop2, e1, e2] using q
      exact q.after x1.keep
    | ok p2 =>
      obtain ⟨d2, hs2⟩ := p2
      intro v2 Hf2 H2 x2 b2
      have s2 := s1.ex x2
      cases e3 : g d1 d2 with
      | fail => simp [pop2, e1, e2, e3, noExc] at q
      | exc c m => simp [pop2, e1, e2, e3, noExc] at q
      | ok d =>
        simp only [pop2, e1, e2, e3, noExc, Res.bind_ok] at q
        refine o d1 d2 d e3 Hf2 H2 v1 v2 Q s2.up ((b1.mono x2.sub).p s2) (b2.p s2) fun p vs l el n r => ?_
        subst el
        obtain ⟨y1, y2⟩ := fp_new s.hand (.trans s.hand x1 x2) n r
        exact q _ _ _ y1 y2
theorem tUnF_of {K : PySem.W.Frag} {mg : Str → Option Value} {F : Fx} {r : V → Hp → VK → Prop} {g : PyData → Res PyData} {f1 : PX} (o : OpF1 K r g) {σ : L2.St} {H : Hp} {Q : VK}
    (q : rdF K mg F (pop1 g f1) σ H Q) : tUn r (rdB K mg F f1) σ H Q := by
  obtain ⟨ah, Hf, ρ, hs, s, q⟩ := q
  refine ⟨ah, Hf, ρ, hs, s, ?_⟩
  cases e1 : f1 ρ hs with
  | fail => simp [pop1, e1] at q
  | exc c m => simpa [pop1, e1] using q
  | ok p1 =>
    obtain ⟨d1, hs1⟩ := p1
    intro v1 Hf1 H1 x1 b1
    have s1 := s.ex x1
    cases e3 : g d1 with
    | fail => simp [pop1, e1, e3, noExc] at q
    | exc c m => simp [pop1, e1, e3, noExc] at q
    | ok d =>
      simp only [pop1, e1, e3, noExc, Res.bind_ok] at q
      refine o d1 d e3 Hf1 H1 v1 Q s1.up (b1.p s1) fun p vs l el n r => ?_
      subst el
      obtain ⟨y1, y2⟩ := fp_new s.hand x1 n r
      exact q _ _ _ y1 y2
/-- list + list -/
def dAddL : PyData → PyData → Res PyData
  | .list x, .list y => if x.length + y.length ≤ BIG then .ok (.list (x ++ y)) else .fail
  | _, _ => .fail
theorem of_addL : OpF2 X.K rCat dAddL := by
  intro d1 d2 d e Hf H v1 v2 Q u b1 b2 q
  unfold dAddL at e
  split at e
  · split at e
    · rename_i hl
      cases e
      obtain ⟨p1, vs1, rfl, h1, r1⟩ := b1.list u
      obtain ⟨p2, vs2, rfl, h2, r2⟩ := b2.list u
      exact ⟨p1, p2, vs1, vs2, rfl, rfl, h1, h2, by rw [sizeLine_eq, rpA_len r1, rpA_len r2]; exact hl, fun p n => q p _ _ rfl n (rpA_app r1 r2)⟩
    · cases e
  · cases e
theorem lf_add (ha : LB X F a f1) (hb : LB X F b f2) : LF X F (.BinOp a .Add b pos) (pop2 dAddL f1 f2) := ⟨pe_mono (pe_op op_cat ha.pe hb.pe) fun _ _ _ q => tOpF_of of_addL q⟩
def dMulL : PyData → PyData → Res PyData
  | .list x, .int k => if k < 1000000 ∧ -1000000 < k ∧ x.length * k.toNat ≤ BIG then .ok (.list (List.replicate k.toNat x).flatten) else .fail
  | _, _ => .fail
theorem of_mulL : OpF2 X.K rRep dMulL := by
  intro d1 d2 d e Hf H v1 v2 Q u b1 b2 q
  unfold dMulL at e
  split at e
  · split at e
    · rename_i x k hl
      cases e
      obtain ⟨p1, vs1, rfl, h1, r1⟩ := b1.list u
      rw [b2.int]
      refine ⟨p1, k, vs1, rfl, rfl, h1, by omega, by omega, by rw [sizeLine_eq, rpA_len r1]; exact hl.2.2, fun p n => q p _ _ rfl n ?_⟩
      generalize k.toNat = m
      induction m with
      | zero => exact .nil
      | succ m ih =>
        rw [List.replicate_succ, List.replicate_succ, List.flatten_cons, List.flatten_cons]
        exact rpA_app r1 ih
    · cases e
  · cases e
theorem lf_mul (ha : LB X F a f1) (hb : LB X F b f2) : LF X F (.BinOp a .Mult b pos) (pop2 dMulL f1 f2) := ⟨pe_mono (pe_op op_rep ha.pe hb.pe) fun _ _ _ q => tOpF_of of_mulL q⟩
end
end L3
namespace L3
open PySem PySem.Spec PyProof.Rows L2

/-! ## built-ins of one argument, of two -/
section
variable {X : Cx} {F : Fx} {a b c e : Expr} {es : List Expr} {f f1 f2 f3 : PX} {pos p : Pos} {k : Nat} {x : Str}
theorem pa_1 (ha : LB X F a f1) (hs : starEach [a] X.env = (false, eval a X.env) :: starEach [] X.env := by rfl) : PA X [a] (tCons (rdB X.K X.mg F f1) tNil) := pa_cons ha.pe pa_nil hs
theorem lp_call1 {id : String} {r : List V → Hp → VK → Prop} {g : PyData → Res PyData} (hc : CallR X (.builtin id) r) (o : Op1 X.K (fun v H Q => r [v] H Q) g) (hg : Gl X x) (hm : X.mg x = none) (hv : bootBuiltins x = some (.builtin id)) (ha : LB X F a f1)
    (hn : x ≠ "__name__" := by decide) (hdb : (x == ("__debug__" : Str)) = false := by decide) (hs : starEach [a] X.env = (false, eval a X.env) :: starEach [] X.env := by rfl) (hpl : (backTo pos (starEach [] X.env)).any (·.1) = false := by rfl) : LP X F (.Call (.Name x p) [a] [] pos) (pop1 g f1) :=
  ⟨pe_mono (pe_callB hc hg hm hv (pa_1 ha hs) hn hdb hs hpl) fun σ H Q q => tUn_of (r := fun v H Q => r [v] H Q) o q⟩
theorem lp_callT {id : String} {r : List V → Hp → VK → Prop} {g : PyData → Res PyData} (hc : CallR X (.type id) r) (o : Op1 X.K (fun v H Q => r [v] H Q) g) (hg : Gl X x) (hm : X.mg x = none) (hv : bootBuiltins x = some (.type id)) (ha : LB X F a f1)
    (hn : x ≠ "__name__" := by decide) (hdb : (x == ("__debug__" : Str)) = false := by decide) (hs : starEach [a] X.env = (false, eval a X.env) :: starEach [] X.env := by rfl) (hpl : (backTo pos (starEach [] X.env)).any (·.1) = false := by rfl) : LP X F (.Call (.Name x p) [a] [] pos) (pop1 g f1) :=
  ⟨pe_mono (pe_callTy hc hg hm hv (pa_1 ha hs) hn hdb hs hpl) fun σ H Q q => tUn_of (r := fun v H Q => r [v] H Q) o q⟩
theorem lf_callT {id : String} {r : List V → Hp → VK → Prop} {g : PyData → Res PyData} (hc : CallR X (.type id) r) (o : OpF1 X.K (fun v H Q => r [v] H Q) g) (hg : Gl X x) (hm : X.mg x = none) (hv : bootBuiltins x = some (.type id)) (ha : LB X F a f1)
    (hn : x ≠ "__name__" := by decide) (hdb : (x == ("__debug__" : Str)) = false := by decide) (hs : starEach [a] X.env = (false, eval a X.env) :: starEach [] X.env := by rfl) (hpl : (backTo pos (starEach [] X.env)).any (·.1) = false := by rfl) : LF X F (.Call (.Name x p) [a] [] pos) (pop1 g f1) :=
  ⟨pe_mono (pe_callTy hc hg hm hv (pa_1 ha hs) hn hdb hs hpl) fun σ H Q q => tUnF_of (r := fun v H Q => r [v] H Q) o q⟩
theorem lf_call1 {id : String} {r : List V → Hp → VK → Prop} {g : PyData → Res PyData} (hc : CallR X (.builtin id) r) (o : OpF1 X.K (fun v H Q => r [v] H Q) g) (hg : Gl X x) (hm : X.mg x = none) (hv : bootBuiltins x = some (.builtin id)) (ha : LB X F a f1)
    (hn : x ≠ "__name__" := by decide) (hdb : (x == ("__debug__" : Str)) = false := by decide) (hs : starEach [a] X.env = (false, eval a X.env) :: starEach [] X.env := by rfl) (hpl : (backTo pos (starEach [] X.env)).any (·.1) = false := by rfl) : LF X F (.Call (.Name x p) [a] [] pos) (pop1 g f1) :=
  ⟨pe_mono (pe_callB hc hg hm hv (pa_1 ha hs) hn hdb hs hpl) fun σ H Q q => tUnF_of (r := fun v H Q => r [v] H Q) o q⟩
theorem lp_call2 {id : String} {r : List V → Hp → VK → Prop} {g : PyData → PyData → Res PyData} (hc : CallR X (.builtin id) r) (o : Op2 X.K (fun v w H Q => r [v, w] H Q) g) (hg : Gl X x) (hm : X.mg x = none) (hv : bootBuiltins x = some (.builtin id)) (ha : LB X F a f1) (hb : LB X F b f2)
    (hn : x ≠ "__name__" := by decide) (hdb : (x == ("__debug__" : Str)) = false := by decide) (hs : starEach [a, b] X.env = (false, eval a X.env) :: starEach [b] X.env := by rfl) (hs2 : starEach [b] X.env = (false, eval b X.env) :: starEach [] X.env := by rfl)
    (hpl : (backTo pos (starEach [b] X.env)).any (·.1) = false := by rfl) : LP X F (.Call (.Name x p) [a, b] [] pos) (pop2 g f1 f2) :=
  ⟨pe_mono (pe_callB hc hg hm hv (pa_cons ha.pe (pa_1 hb hs2) hs) hn hdb hs hpl) fun σ H Q q => tOp_of (r := fun v w H Q => r [v, w] H Q) o q⟩

def dLen : PyData → Res PyData
  | .list ds => .ok (.int ds.length)
  | .tuple ds => .ok (.int ds.length)
  | .str y => if y.length ≤ BIG then .ok (.int y.length) else .fail
  | _ => .fail
theorem o_len : Op1 X.K (fun v H Q => ∃ x n, [v] = [x] ∧ LenV X.K x H n ∧ Q (.int n) H) dLen := by
  intro d1 d e Hf H v1 Q u b1 q
  unfold dLen at e
  split at e
  · cases e
    obtain ⟨p1, vs1, rfl, h1, r1⟩ := b1.list u
    exact ⟨_, _, rfl, .inl ⟨vs1, SqL.of h1, rfl⟩, by rw [rpA_len r1]; exact q _ Hf H (.refl u) (.int _)⟩
  · cases e
    obtain ⟨p1, vs1, rfl, h1, r1⟩ := b1.tuple
    exact ⟨_, _, rfl, .inr ⟨vs1, sqT_mono u h1, rfl⟩, by rw [rpA_len r1]; exact q _ Hf H (.refl u) (.int _)⟩
  · split at e
    · rename_i hl
      cases e
      rw [b1.str]
      exact ⟨_, _, rfl, ⟨by rw [sizeLine_eq]; exact hl, rfl⟩, q _ Hf H (.refl u) (.int _)⟩
    · cases e
  · cases e
theorem lp_len (hg : Gl X "len") (hm : X.mg "len" = none) (ha : LB X F a f1) (hs : starEach [a] X.env = (false, eval a X.env) :: starEach [] X.env := by rfl) : LP X F (.Call (.Name "len" p) [a] [] pos) (pop1 dLen f1) :=
  lp_call1 call_len o_len hg hm PySem.boot_len ha (by decide) (by decide) hs rfl
def dAbs : PyData → Res PyData
  | .int i => .ok (.int (if i < 0 then -i else i))
  | _ => .fail
theorem o_abs : Op1 X.K (fun v H Q => ∃ i, [v] = [.int i] ∧ Q (.int (if i < 0 then -i else i)) H) dAbs := by
  intro d1 d e Hf H v1 Q u b1 q
  unfold dAbs at e
  split at e
  · cases e
    rw [b1.int]
    exact ⟨_, rfl, q _ Hf H (.refl u) (.int _)⟩
  · cases e
theorem lp_abs (hg : Gl X "abs") (hm : X.mg "abs" = none) (ha : LB X F a f1) (hs : starEach [a] X.env = (false, eval a X.env) :: starEach [] X.env := by rfl) : LP X F (.Call (.Name "abs" p) [a] [] pos) (pop1 dAbs f1) :=
  lp_call1 call_abs o_abs hg hm (by decide +kernel) ha (by decide) (by decide) hs rfl
def dInt : PyData → Res PyData
  | .int i => .ok (.int i)
  | .bool b => .ok (.int (if b = true then 1 else 0))
  | _ => .fail
theorem o_int : Op1 X.K (fun v H Q => (∃ i, [v] = [.int i] ∧ Q (.int i) H) ∨ ∃ k, [v] = [.bl k] ∧ Q (.int (if k then 1 else 0)) H) dInt := by
  intro d1 d e Hf H v1 Q u b1 q
  unfold dInt at e
  split at e
  · cases e
    rw [b1.int]
    exact .inl ⟨_, rfl, q _ Hf H (.refl u) (.int _)⟩
  · cases e
    rw [b1.bool]
    exact .inr ⟨_, rfl, q _ Hf H (.refl u) (.int _)⟩
  · cases e
theorem lp_int1 (hg : Gl X "int") (hm : X.mg "int" = none) (ha : LB X F a f1) (hs : starEach [a] X.env = (false, eval a X.env) :: starEach [] X.env := by rfl) : LP X F (.Call (.Name "int" p) [a] [] pos) (pop1 dInt f1) :=
  lp_callT call_int1 o_int hg hm (by decide +kernel) ha (by decide) (by decide) hs rfl
def dMax2 : PyData → PyData → Res PyData
  | .int i, .int j => .ok (.int (if j > i then j else i))
  | _, _ => .fail
def dMin2 : PyData → PyData → Res PyData
  | .int i, .int j => .ok (.int (if j < i then j else i))
  | _, _ => .fail
theorem o_max2 : Op2 X.K (fun v w H Q => ∃ i j, [v, w] = [.int i, .int j] ∧ Q (.int (if j > i then j else i)) H) dMax2 := by
  intro d1 d2 d e Hf H v1 v2 Q u b1 b2 q
  unfold dMax2 at e
  split at e
  · cases e
    rw [b1.int, b2.int]
    exact ⟨_, _, rfl, q _ Hf H (.refl u) (.int _)⟩
  · cases e
theorem o_min2 : Op2 X.K (fun v w H Q => ∃ i j, [v, w] = [.int i, .int j] ∧ Q (.int (if j < i then j else i)) H) dMin2 := by
  intro d1 d2 d e Hf H v1 v2 Q u b1 b2 q
  unfold dMin2 at e
  split at e
  · cases e
    rw [b1.int, b2.int]
    exact ⟨_, _, rfl, q _ Hf H (.refl u) (.int _)⟩
  · cases e
theorem lp_max2 (z : Cz X k) (hg : Gl X "max") (hm : X.mg "max" = none) (ha : LB X F a f1) (hb : LB X F b f2) (hs : starEach [a, b] X.env = (false, eval a X.env) :: starEach [b] X.env := by rfl) (hs2 : starEach [b] X.env = (false, eval b X.env) :: starEach [] X.env := by rfl)
    (hpl : (backTo pos (starEach [b] X.env)).any (·.1) = false := by rfl) : LP X F (.Call (.Name "max" p) [a, b] [] pos) (pop2 dMax2 f1 f2) :=
  lp_call2 (call_max2 z.calm) o_max2 hg hm (by decide +kernel) ha hb (by decide) (by decide) hs hs2 hpl
theorem lp_min2 (z : Cz X k) (hg : Gl X "min") (hm : X.mg "min" = none) (ha : LB X F a f1) (hb : LB X F b f2) (hs : starEach [a, b] X.env = (false, eval a X.env) :: starEach [b] X.env := by rfl) (hs2 : starEach [b] X.env = (false, eval b X.env) :: starEach [] X.env := by rfl)
    (hpl : (backTo pos (starEach [b] X.env)).any (·.1) = false := by rfl) : LP X F (.Call (.Name "min" p) [a, b] [] pos) (pop2 dMin2 f1 f2) :=
  lp_call2 (call_min2 z.calm) o_min2 hg hm (by decide +kernel) ha hb (by decide) (by decide) hs hs2 hpl
def dSum : PyData → Res PyData
  | .list ds => match intsOf ds with | some ns => .ok (.int ns.sum) | none => .fail
  | _ => .fail
theorem Bp.listI {K : PySem.W.Frag} {Hf H : Hp} {v : V} {l : List PyData} {ns : List Int} (u : Sub Hf H) (b : Bp K Hf H v (.list l)) (e : intsOf l = some ns) : ∃ a, v = .ref a ∧ SqL K H a (ns.map V.int) := by
  obtain ⟨a, vs, rfl, h1, r⟩ := b.list u
  rw [intsOf_eq e] at r
  rw [rpA_ints r] at h1
  exact ⟨a, rfl, SqL.of h1⟩
theorem o_sum : Op1 X.K (fun v H Q => rSum X.K [v] H Q) dSum := by
  intro d1 d e Hf H v1 Q u b1 q
  unfold dSum at e
  split at e
  · split at e
    · rename_i ns e1
      cases e
      obtain ⟨p1, rfl, h1⟩ := b1.listI u e1
      exact ⟨p1, ns, rfl, h1, q _ Hf H (.refl u) (.int _)⟩
    · cases e
  · cases e
theorem lp_sum (z : Cz X k) (hg : Gl X "sum") (hm : X.mg "sum" = none) (ha : LB X F a f1) (hs : starEach [a] X.env = (false, eval a X.env) :: starEach [] X.env := by rfl) : LP X F (.Call (.Name "sum" p) [a] [] pos) (pop1 dSum f1) :=
  lp_call1 (cr_sum z.calm) o_sum hg hm (by decide +kernel) ha (by decide) (by decide) hs rfl
def boolsOf : List PyData → Option (List Bool)
  | [] => some []
  | .bool i :: r => (boolsOf r).map (i :: ·)
  | _ :: _ => none
theorem boolsOf_eq : ∀ {ds : List PyData} {ns : List Bool}, boolsOf ds = some ns → ds = ns.map PyData.bool
  | [], ns, h => by
    have e := Option.some.inj h
    rw [← e]; rfl
  | .bool i :: r, ns, h => by
    cases q : boolsOf r with
    | none =>
      have h : (boolsOf r).map (i :: ·) = some ns := h
      rw [q] at h; cases h
    | some ms =>
      have h : (boolsOf r).map (i :: ·) = some ns := h
      rw [q] at h
      have e := Option.some.inj h
      rw [← e, List.map_cons, ← boolsOf_eq q]
  | .none :: _, _, h => by cases h
  | .int _ :: _, _, h => by cases h
  | .str _ :: _, _, h => by cases h
  | .list _ :: _, _, h => by cases h
  | .tuple _ :: _, _, h => by cases h
  | .dict _ :: _, _, h => by cases h
theorem boolsOf_map : ∀ ns : List Bool, boolsOf (ns.map PyData.bool) = some ns
  | [] => rfl
  | n :: r => by
    show (boolsOf (r.map PyData.bool)).map (n :: ·) = _
    rw [boolsOf_map r]; rfl
theorem rpA_bools {K : PySem.W.Frag} {H : Hp} : ∀ {vs : List V} {ns : List Bool}, RpA K H vs (ns.map PyData.bool) → vs = ns.map V.bl
  | _, [], h => by cases h; rfl
  | _, n :: r, h => by
    cases h with
    | cons h1 h2 =>
      cases h1
      rw [rpA_bools h2]; rfl
def dAll : PyData → Res PyData
  | .list ds => match boolsOf ds with | some bs => .ok (.bool (bs.all id)) | none => .fail
  | _ => .fail
def dAny : PyData → Res PyData
  | .list ds => match boolsOf ds with | some bs => .ok (.bool (bs.any id)) | none => .fail
  | _ => .fail
theorem o_all : Op1 X.K (fun v H Q => rAll X.K [v] H Q) dAll := by
  intro d1 d e Hf H v1 Q u b1 q
  unfold dAll at e
  split at e
  · split at e
    · rename_i ns e1
      cases e
      obtain ⟨p1, vs, rfl, h1, r⟩ := b1.list u
      rw [boolsOf_eq e1] at r
      rw [rpA_bools r] at h1
      exact ⟨p1, ns, rfl, SqL.of h1, q _ Hf H (.refl u) (.bl _)⟩
    · cases e
  · cases e
theorem o_any : Op1 X.K (fun v H Q => rAny X.K [v] H Q) dAny := by
  intro d1 d e Hf H v1 Q u b1 q
  unfold dAny at e
  split at e
  · split at e
    · rename_i ns e1
      cases e
      obtain ⟨p1, vs, rfl, h1, r⟩ := b1.list u
      rw [boolsOf_eq e1] at r
      rw [rpA_bools r] at h1
      exact ⟨p1, ns, rfl, SqL.of h1, q _ Hf H (.refl u) (.bl _)⟩
    · cases e
  · cases e
theorem lp_all (z : Cz X k) (hg : Gl X "all") (hm : X.mg "all" = none) (ha : LB X F a f1) (hs : starEach [a] X.env = (false, eval a X.env) :: starEach [] X.env := by rfl) : LP X F (.Call (.Name "all" p) [a] [] pos) (pop1 dAll f1) :=
  lp_call1 (cr_all z.calm) o_all hg hm (by decide +kernel) ha (by decide) (by decide) hs rfl
theorem lp_any (z : Cz X k) (hg : Gl X "any") (hm : X.mg "any" = none) (ha : LB X F a f1) (hs : starEach [a] X.env = (false, eval a X.env) :: starEach [] X.env := by rfl) : LP X F (.Call (.Name "any" p) [a] [] pos) (pop1 dAny f1) :=
  lp_call1 (cr_any z.calm) o_any hg hm (by decide +kernel) ha (by decide) (by decide) hs rfl
def dTuple : PyData → Res PyData
  | .list ds => .ok (.tuple ds)
  | .tuple ds => .ok (.tuple ds)
  | _ => .fail
theorem o_tuple : Op1 X.K (fun v H Q => ∃ p ys, [v] = [.ref p] ∧ ((SqL X.K H p ys ∧ ∀ l, H l = none → Q (.ref l) (upd H l (.tup ys))) ∨ (SqT X.K H p ys ∧ Q (.ref p) H))) dTuple := by
  intro d1 d e Hf H v1 Q u b1 q
  unfold dTuple at e
  split at e
  · cases e
    obtain ⟨p1, vs, rfl, h1, r⟩ := b1.list u
    exact ⟨p1, vs, rfl, .inl ⟨SqL.of h1, fun l n => q _ _ _ (.frz u n) (new_tup u n r)⟩⟩
  · cases e
    obtain ⟨p1, vs, rfl, h1, r⟩ := b1.tuple
    exact ⟨p1, vs, rfl, .inr ⟨sqT_mono u h1, q _ Hf H (.refl u) (.tup h1 r)⟩⟩
  · cases e
theorem lp_tuple (hg : Gl X "tuple") (hm : X.mg "tuple" = none) (ha : LB X F a f1) (hs : starEach [a] X.env = (false, eval a X.env) :: starEach [] X.env := by rfl) : LP X F (.Call (.Name "tuple" p) [a] [] pos) (pop1 dTuple f1) :=
  lp_callT call_tuple_of o_tuple hg hm (by decide +kernel) ha (by decide) (by decide) hs rfl
def dList : PyData → Res PyData
  | .list ds => .ok (.list ds)
  | .tuple ds => .ok (.list ds)
  | _ => .fail
theorem of_list : OpF1 X.K (fun v H Q => ∃ p ys, [v] = [.ref p] ∧ (SqL X.K H p ys ∨ SqT X.K H p ys) ∧ ∀ l, H l = none → Q (.ref l) (upd H l (.lst ys))) dList := by
  intro d1 d e Hf H v1 Q u b1 q
  unfold dList at e
  split at e
  · cases e
    obtain ⟨p1, vs, rfl, h1, r⟩ := b1.list u
    exact ⟨p1, vs, rfl, .inl (SqL.of h1), fun l n => q _ _ _ rfl n r⟩
  · cases e
    obtain ⟨p1, vs, rfl, h1, r⟩ := b1.tuple
    exact ⟨p1, vs, rfl, .inr (sqT_mono u h1), fun l n => q _ _ _ rfl n r⟩
  · cases e
theorem lf_list (hg : Gl X "list") (hm : X.mg "list" = none) (ha : LB X F a f1) (hs : starEach [a] X.env = (false, eval a X.env) :: starEach [] X.env := by rfl) : LF X F (.Call (.Name "list" p) [a] [] pos) (pop1 dList f1) :=
  lf_callT call_list_of of_list hg hm (by decide +kernel) ha (by decide) (by decide) hs rfl

/-! ## isinstance with a built-in type -/
def tyN : PyData → String
  | .none => "NoneType" | .bool _ => "bool" | .int _ => "int" | .str _ => "str" | .list _ => "list" | .tuple _ => "tuple" | .dict _ => "dict"
theorem Rp.tyX {K : PySem.W.Frag} {H : Hp} {v : V} {d : PyData} (r : Rp K H v d) : TyX K H v (.type (tyN d)) := by
  cases r with
  | non => exact .base .non
  | bl b => exact .base (.bl b)
  | int i => exact .base (.int i)
  | str x => exact .base (.str x)
  | lst h1 _ => exact .base (.lst h1)
  | tup h1 _ =>
    rcases h1 with (h | ⟨o, h⟩) | ⟨o, its, n, hk, hc, _⟩
    · exact .base (.tup h)
    · exact .fTuple h
    · exact .kTuple hk hc
def dIsi (T : String) (d : PyData) : Res PyData := match kitB (tyN d) T with
  | some b => .ok (.bool b)
  | none => .fail
theorem lp_isi {T : String} {y : Str} {py : Pos} (hg : Gl X "isinstance") (hm : X.mg "isinstance" = none) (hgy : Gl X y) (hmy : X.mg y = none) (hvy : bootBuiltins y = some (.type T)) (ha : LB X F a f1)
    (hn : y ≠ "__name__" := by decide) (hdb : (y == ("__debug__" : Str)) = false := by decide)
    (hs : starEach [a, .Name y py] X.env = (false, eval a X.env) :: starEach [.Name y py] X.env := by rfl) (hs2 : starEach [.Name y py] X.env = (false, eval (.Name y py) X.env) :: starEach [] X.env := by rfl) (hpl : (backTo pos (starEach [.Name y py] X.env)).any (·.1) = false := by rfl) :
    LP X F (.Call (.Name "isinstance" p) [a, .Name y py] [] pos) (pop1 (dIsi T) f1) := by
  refine ⟨pe_mono (pe_callB call_isi hg hm (by decide +kernel) (pa_cons ha.pe (pa_cons (pe_bltn (v := .ty T) hgy hmy hvy rfl hn hdb) pa_nil hs2) hs) (by decide) (by decide) hs hpl) fun σ H Q q => ?_⟩
  refine tUn_of (r := fun v H Q => rIsi X.K [v, .ty T] H Q) ?_ q
  intro d1 d e Hf H v1 Q u b1 q
  unfold dIsi at e
  split at e
  · rename_i b e1
    cases e
    exact ⟨v1, .ty T, _, _, b, rfl, .ty T, (b1.rp u).tyX, kit_ty e1, q _ Hf H (.refl u) (.bl _)⟩
  · cases e
/-- isinstance(x, (S, T)) -/
def dIsi2 (S T : String) (d : PyData) : Res PyData := match kitB (tyN d) S, kitB (tyN d) T with
  | some b, some c => .ok (.bool (b || c))
  | _, _ => .fail
theorem lp_isi2 {S T : String} {y1 y2 : Str} {p1 p2 p3 : Pos} {x1 : Nat} (hg : Gl X "isinstance") (hm : X.mg "isinstance" = none) (hg1 : Gl X y1) (hm1 : X.mg y1 = none) (hv1 : bootBuiltins y1 = some (.type S)) (hg2 : Gl X y2) (hm2 : X.mg y2 = none) (hv2 : bootBuiltins y2 = some (.type T)) (ha : LB X F a f1)
    (hn1 : y1 ≠ "__name__" := by decide) (hdb1 : (y1 == ("__debug__" : Str)) = false := by decide) (hn2 : y2 ≠ "__name__" := by decide) (hdb2 : (y2 == ("__debug__" : Str)) = false := by decide)
    (hs : starEach [a, .Tuple [.Name y1 p1, .Name y2 p2] x1 p3] X.env = (false, eval a X.env) :: starEach [.Tuple [.Name y1 p1, .Name y2 p2] x1 p3] X.env := by rfl)
    (hs2 : starEach [.Tuple [.Name y1 p1, .Name y2 p2] x1 p3] X.env = (false, eval (.Tuple [.Name y1 p1, .Name y2 p2] x1 p3) X.env) :: starEach [] X.env := by rfl)
    (hs3 : starEach [.Name y1 p1, .Name y2 p2] X.env = (false, eval (.Name y1 p1) X.env) :: starEach [.Name y2 p2] X.env := by rfl) (hs4 : starEach [.Name y2 p2] X.env = (false, eval (.Name y2 p2) X.env) :: starEach [] X.env := by rfl)
    (hpl : (backTo pos (starEach [.Tuple [.Name y1 p1, .Name y2 p2] x1 p3] X.env)).any (·.1) = false := by rfl) :
    LP X F (.Call (.Name "isinstance" p) [a, .Tuple [.Name y1 p1, .Name y2 p2] x1 p3] [] pos) (pop1 (dIsi2 S T) f1) := by
  refine ⟨pe_mono (pe_callB call_isiT hg hm (by decide +kernel) (pa_cons ha.pe (pa_cons (pe_tup (pa_cons (pe_bltn (v := .ty S) hg1 hm1 hv1 rfl hn1 hdb1) (pa_cons (pe_bltn (v := .ty T) hg2 hm2 hv2 rfl hn2 hdb2) pa_nil hs4) hs3)) pa_nil hs2) hs) (by decide) (by decide) hs hpl) fun σ H Q q => ?_⟩
  refine tUn_of (r := fun v H Q => ([V.ty S, V.ty T].length ≤ sizeLine) ∧ ∀ p, H p = none → rIsiT X.K [v, .ref p] (upd H p (.tup [.ty S, .ty T])) Q) ?_ q
  intro d1 d e Hf H v1 Q u b1 q
  unfold dIsi2 at e
  split at e
  · rename_i b c e1 e2
    cases e
    refine ⟨by show 2 ≤ sizeLine; rw [sizeLine_eq]; decide, fun p n => ?_⟩
    refine ⟨v1, p, [.ty S, .ty T], .type (tyN d1), [.type S, .type T], b || c, rfl, upd_same, .cons (.ty S) (.cons (.ty T) .nil), ((sub_upd n).rp (b1.rp u)).tyX, ?_, q _ Hf _ (.tmp u n) (.bl _)⟩
    refine kitAny_cons (kit_ty e1) (fun hb => kitAny_cons (kit_ty e2) (fun hc => ?_) (fun hc => ?_)) (fun hb => ?_)
    · rw [hb, hc]; exact kitAny_nil
    · rw [hb, hc]; rfl
    · rw [hb]; rfl
  · cases e
end
end L3
namespace L3
open PySem PySem.Spec PyProof.Rows L2

/-! ## slots -/
def wipeR (ρ : Rho) : List Nat → Rho
  | [] => ρ
  | v :: vs => (wipeR ρ vs).set v none
section
variable {K : PySem.W.Frag} {mg : Str → Option Value} {F : Fx} {ah : Option Addr} {Hf H Hf' H' : Hp} {σ : L2.St} {ρ : Rho} {hs hs' : HSt}
theorem SR.setNone (s : SR K mg F ah Hf H σ ρ hs) (i : Nat) : SR K mg F ah Hf H (σ.set i none) (ρ.set i none) hs where
  len := by simp [s.len]
  up := s.up
  base := s.base
  fr := s.fr
  keep := s.keep
  h0 := s.h0
  hn := s.hn
  hand := s.hand
  slot := fun j sv e => by
    by_cases h : i = j
    · subst h
      by_cases hl : i < ρ.length
      · rw [List.getElem?_set_self hl] at e; cases e
      · rw [List.getElem?_eq_none (by simpa using hl)] at e; cases e
    · rw [List.getElem?_set_ne h] at e ⊢
      exact s.slot j sv e
  dist := fun j j' l m v e1 e2 e3 e4 => by
    have ne : ∀ {j l}, (ρ.set i none)[j]? = some (some (SV.own l)) → i ≠ j := fun {j l} e h => by
      subst h
      by_cases hl : i < ρ.length
      · rw [List.getElem?_set_self hl] at e; cases e
      · rw [List.getElem?_eq_none (by simpa using hl)] at e; cases e
    have n1 := ne e1
    have n2 := ne e2
    rw [List.getElem?_set_ne n1] at e1 e3
    rw [List.getElem?_set_ne n2] at e2 e4
    exact s.dist j j' l m v e1 e2 e3 e4
theorem SR.wipe (s : SR K mg F ah Hf H σ ρ hs) : ∀ vs, SR K mg F ah Hf H (wipe σ vs) (wipeR ρ vs) hs
  | [] => s
  | v :: vs => (SR.wipe s vs).setNone v
/-- a slot gets a value -/
theorem SR.put (s : SR K mg F ah Hf H σ ρ hs) {i : Nat} {v : V} {sv : SV} (hi : i < ρ.length) (q : SlotOk K mg F ah Hf H v sv) (hd : ∀ l, sv = .own l → ∀ (j : Nat) (m : List PyData), j ≠ i → ρ[j]? = some (some (.own m)) → σ[j]? ≠ some (some v)) :
    SR K mg F ah Hf H (σ.set i (some v)) (ρ.set i (some sv)) hs where
  len := by simp [s.len]
  up := s.up
  base := s.base
  fr := s.fr
  keep := s.keep
  h0 := s.h0
  hn := s.hn
  hand := s.hand
  slot := fun j sv' e => by
    by_cases h : i = j
    · subst h
      rw [List.getElem?_set_self hi] at e
      cases e
      exact ⟨v, by rw [List.getElem?_set_self (by rw [s.len]; exact hi)], q⟩
    · rw [List.getElem?_set_ne h] at e ⊢
      exact s.slot j sv' e
  dist := fun j j' l m w e1 e2 e3 e4 => by
    by_cases h : i = j
    · by_cases h' : i = j'
      · rw [← h, ← h']
      · subst h
        rw [List.getElem?_set_self hi] at e1
        rw [List.getElem?_set_self (by rw [s.len]; exact hi)] at e3
        rw [List.getElem?_set_ne h'] at e2 e4
        have e1 := Option.some.inj (Option.some.inj e1)
        have e3 := Option.some.inj (Option.some.inj e3)
        subst e3
        exact absurd e4 (hd l e1 j' m (Ne.symm h') e2)
    · by_cases h' : i = j'
      · subst h'
        rw [List.getElem?_set_self hi] at e2
        rw [List.getElem?_set_self (by rw [s.len]; exact hi)] at e4
        rw [List.getElem?_set_ne h] at e1 e3
        have e2 := Option.some.inj (Option.some.inj e2)
        have e4 := Option.some.inj (Option.some.inj e4)
        subst e4
        exact absurd e3 (hd m e2 j l (Ne.symm h) e1)
      · rw [List.getElem?_set_ne h] at e1 e3
        rw [List.getElem?_set_ne h'] at e2 e4
        exact s.dist j j' l m w e1 e2 e3 e4
theorem SR.set (s : SR K mg F ah Hf H σ ρ hs) {i : Nat} {v : V} {d : PyData} (hi : i < ρ.length) (r : Rp K Hf v d) : SR K mg F ah Hf H (σ.set i (some v)) (ρ.set i (some (.val d))) hs :=
  s.put hi r fun l e => by cases e
/-- a temporary object changes -/
theorem SR.tmp (s : SR K mg F ah Hf H σ ρ hs) {p : Addr} {o : HO} (nf : Hf p = none) (n0 : F.H0 p = none) (na : ah ≠ some p) (no : ∀ (j : Nat) (m : List PyData), ρ[j]? = some (some (.own m)) → σ[j]? ≠ some (some (.ref p))) : SR K mg F ah Hf (upd H p o) σ ρ hs where
  len := s.len
  up := fun a o' e => by
    have : a ≠ p := fun z => by rw [z, nf] at e; cases e
    rw [upd_ne this]; exact s.up a o' e
  base := s.base
  fr := s.fr
  keep := fun a o' e n => by
    have : a ≠ p := fun z => by rw [z, n0] at e; cases e
    rw [upd_ne this]; exact s.keep a o' e n
  h0 := s.h0
  hn := s.hn
  hand := fun a e => by
    obtain ⟨h1, vs, h2, h3⟩ := s.hand a e
    have : a ≠ p := fun z => na (by rw [e, z])
    exact ⟨h1, vs, by rw [upd_ne this]; exact h2, h3⟩
  slot := fun i sv e => by
    obtain ⟨v, e1, q⟩ := s.slot i sv e
    refine ⟨v, e1, ?_⟩
    cases sv with
    | val d => exact q
    | own l =>
      obtain ⟨a, vs, rfl, q2, q3, q4, q5, q6⟩ := q
      have : a ≠ p := fun z => no i l e (by rw [← z]; exact e1)
      exact ⟨a, vs, rfl, q2, q3, q4, by rw [upd_ne this]; exact q5, q6⟩
    | hand => exact q
    | fn x => exact q
    | scr l => exact q
  dist := s.dist
theorem SR.len_lt (s : SR K mg F ah Hf H σ ρ hs) {i : Nat} {v : V} (e : σ[i]? = some (some v)) : i < ρ.length := by
  rw [← s.len]; exact (List.getElem?_eq_some_iff.mp e).1
end
theorem wipe_eq {σ σ2 : L2.St} (hl : σ2.length = σ.length) : ∀ {vs : List Nat}, (∀ j, j ∉ vs → σ2[j]? = σ[j]?) → wipe σ2 vs = wipe σ vs := fun {vs} h => by
  apply List.ext_getElem?
  intro j
  by_cases hj : j ∈ vs
  · have g : ∀ (τ : L2.St), (wipe τ vs)[j]? = if j < τ.length then some none else none := fun τ => by
      induction vs with
      | nil => cases hj
      | cons v vs ih =>
        unfold wipe
        by_cases e : v = j
        · subst e
          by_cases hv : v < τ.length
          · rw [List.getElem?_set_self (by rw [wipe_length]; exact hv), if_pos hv]
          · rw [List.getElem?_eq_none (by rw [List.length_set, wipe_length]; omega), if_neg hv]
        · rw [List.getElem?_set_ne e]
          have hj' : j ∈ vs := by
            rcases List.mem_cons.mp hj with z | z
            · exact absurd z.symm e
            · exact z
          by_cases hh : ∀ k, k ∉ vs → σ2[k]? = σ[k]?
          · exact ih hh hj'
          · clear ih hh h
            induction vs with
            | nil => cases hj'
            | cons w ws ih2 =>
              unfold wipe
              by_cases e2 : w = j
              · subst e2
                by_cases hv : w < τ.length
                · rw [List.getElem?_set_self (by rw [wipe_length]; exact hv), if_pos hv]
                · rw [List.getElem?_eq_none (by rw [List.length_set, wipe_length]; omega), if_neg hv]
              · rw [List.getElem?_set_ne e2]
                have hj2 : j ∈ ws := by
                  rcases List.mem_cons.mp hj' with z | z
                  · exact absurd z.symm e2
                  · exact z
                exact ih2 (List.mem_cons_of_mem _ hj2) hj2
    rw [g σ2, g σ, hl]
  · rw [wipe_out hj, wipe_out hj]
    exact h j hj
theorem wipe_wipe (σ : L2.St) (vs : List Nat) : wipe (wipe σ vs) vs = wipe σ vs :=
  wipe_eq (wipe_length σ vs) fun j hj => wipe_out hj

/-! ## targets -/
inductive Tg where
  | nm (i : Nat)
  | tp (l : List Tg)
mutual
def gOf (K : PySem.W.Frag) : Tg → TG
  | .nm i => gName i
  | .tp l => gTup K l.length (gsOf K l)
def gsOf (K : PySem.W.Frag) : List Tg → TGs
  | [] => gNil
  | t :: r => gCons (gOf K t) (gsOf K r)
end
mutual
def tgPut : Tg → PyData → Rho → Option Rho
  | .nm i, d, ρ => if i < ρ.length then some (ρ.set i (some (.val d))) else none
  | .tp l, .tuple ds, ρ => tgPuts l ds ρ
  | .tp _, _, _ => none
def tgPuts : List Tg → List PyData → Rho → Option Rho
  | [], [], ρ => some ρ
  | t :: r, d :: ds, ρ => match tgPut t d ρ with
    | some ρ1 => tgPuts r ds ρ1
    | none => none
  | _, _, _ => none
end
mutual
def tgSl : Tg → List Nat
  | .nm i => [i]
  | .tp l => tgSls l
def tgSls : List Tg → List Nat
  | [] => []
  | t :: r => tgSl t ++ tgSls r
end
section
variable {K : PySem.W.Frag} {mg : Str → Option Value} {F : Fx} {ah : Option Addr} {Hf H : Hp} {hs : HSt} {Q : L2.St → Hp → Prop}
mutual
theorem tg_ok : ∀ (t : Tg) (d : PyData) (v : V) (σ : L2.St) (ρ ρ' : Rho) (Q : L2.St → Hp → Prop), SR K mg F ah Hf H σ ρ hs → Rp K Hf v d → tgPut t d ρ = some ρ' →
    (∀ σ', SR K mg F ah Hf H σ' ρ' hs → σ'.length = σ.length → (∀ j, j ∉ tgSl t → σ'[j]? = σ[j]?) → Q σ' H) → gOf K t v σ H Q
  | .nm i, d, v, σ, ρ, ρ', Q, s, r, e, h => by
    unfold tgPut at e
    split at e
    · rename_i hi
      cases e
      unfold gOf gName
      refine h _ (s.set hi r) (by simp) fun j hj => ?_
      rw [List.getElem?_set_ne]
      intro z
      apply hj
      unfold tgSl
      simp [z]
    · cases e
  | .tp l, d, v, σ, ρ, ρ', Q, s, r, e, h => by
    cases d with
    | tuple ds =>
      unfold tgPut at e
      cases r with
      | tup h1 h2 =>
        rename_i a xs
        unfold gOf
        have hl : xs.length = l.length ∧ gsOf K l xs σ H Q := tgs_ok l ds xs σ ρ ρ' Q s h2 e fun σ' s' hl hj => h σ' s' hl (by unfold tgSl; exact hj)
        exact ⟨a, xs, rfl, sqT_mono s.up h1, hl.1, hl.2⟩
    | _ => unfold tgPut at e; cases e
theorem tgs_ok : ∀ (ts : List Tg) (ds : List PyData) (vs : List V) (σ : L2.St) (ρ ρ' : Rho) (Q : L2.St → Hp → Prop), SR K mg F ah Hf H σ ρ hs → RpA K Hf vs ds → tgPuts ts ds ρ = some ρ' →
    (∀ σ', SR K mg F ah Hf H σ' ρ' hs → σ'.length = σ.length → (∀ j, j ∉ tgSls ts → σ'[j]? = σ[j]?) → Q σ' H) → vs.length = ts.length ∧ gsOf K ts vs σ H Q
  | [], [], _, σ, ρ, ρ', Q, s, r, e, h => by
    cases r
    unfold tgPuts at e
    cases e
    refine ⟨rfl, ?_⟩
    unfold gsOf
    exact ⟨rfl, h σ s rfl fun _ _ => rfl⟩
  | t :: ts, d :: ds, _, σ, ρ, ρ', Q, s, r, e, h => by
    cases r with
    | cons r1 r2 =>
      rename_i v vs
      unfold tgPuts at e
      split at e
      · rename_i ρ1 e1
        have hl : vs.length = ts.length := (tgs_len ts ds vs ρ1 ρ' e (rpA_len r2))
        refine ⟨by simp [hl], ?_⟩
        unfold gsOf
        refine ⟨v, vs, rfl, tg_ok t d v σ ρ ρ1 _ s r1 e1 fun σ1 s1 l1 j1 => ?_⟩
        refine (tgs_ok ts ds vs σ1 ρ1 ρ' Q s1 r2 e fun σ' s' hl' hj => h σ' s' (hl'.trans l1) fun j hjn => ?_).2
        unfold tgSls at hjn
        rw [List.mem_append, not_or] at hjn
        exact (hj j hjn.2).trans (j1 j hjn.1)
      · cases e
  | [], _ :: _, _, σ, ρ, ρ', Q, s, r, e, h => by unfold tgPuts at e; cases e
  | _ :: _, [], _, σ, ρ, ρ', Q, s, r, e, h => by unfold tgPuts at e; cases e
theorem tgs_len : ∀ (ts : List Tg) (ds : List PyData) (vs : List V) (ρ ρ' : Rho), tgPuts ts ds ρ = some ρ' → vs.length = ds.length → vs.length = ts.length
  | [], [], vs, _, _, _, h => h
  | t :: ts, d :: ds, [], _, _, _, h => by simp at h
  | t :: ts, d :: ds, v :: vs, ρ, ρ', e, h => by
    unfold tgPuts at e
    split at e
    · rename_i ρ1 e1
      have := tgs_len ts ds vs ρ1 ρ' e (by simpa using h)
      simp [this]
    · cases e
  | [], _ :: _, _, _, _, e, _ => by unfold tgPuts at e; cases e
  | _ :: _, [], _, _, _, e, _ => by unfold tgPuts at e; cases e
end
end

/-! ## what is walked -/
/-- the items come, one a turn, while the heap holds what Hb says -/
structure Src (K : PySem.W.Frag) (J : It) (items : List PyData) (Hf1 Hb : Hp) : Prop where
  ex : ∃ (G : Hp → Prop) (Y : Nat → Hp → V → Hp → Prop), Walk J items.length G Y ∧ (∀ H, Sub Hb H → G H) ∧
    ∀ i Hf H x H' d, items[i]? = some d → Sub Hf1 Hf → Sub Hf H → Sub Hb H → Y i H x H' → ∃ Hf', Gr Hf H Hf' H' ∧ Rp K Hf' x d
  len : items.length ≤ sizeLine
def rdI (K : PySem.W.Frag) (mg : Str → Option Value) (F : Fx) (f : AX) : TI := fun σ H R => ∃ ah Hf ρ hs, SR K mg F ah Hf H σ ρ hs ∧ match f ρ hs with
  | .ok (items, hs') => ∀ J Hf' H', Ex K ah Hf H Hf' H' hs' → Src K J items Hf' Hf' → R J H'
  | .exc c m => ExW K mg ah (fun C dx H' => F.W C dx σ H') H c m
  | .fail => False
def rdIB (K : PySem.W.Frag) (mg : Str → Option Value) (F : Fx) (f : AX) : TI := fun σ H R => ∃ ah Hf ρ hs, SR K mg F ah Hf H σ ρ hs ∧ match f ρ hs with
  | .ok (items, hs') => ∀ J Hf' H' Hb, Ex K ah Hf H Hf' H' hs' → Sub Hb H' → (∀ a, ah = some a → Hb a = none) → Src K J items Hf' Hb → R J H'
  | .exc c m => ExW K mg ah (fun C dx H' => F.W C dx σ H') H c m
  | .fail => False
structure LI (X : Cx) (F : Fx) (tg e : Expr) (f : AX) : Prop where
  pi : PI X tg e (rdI X.K X.mg F f)
structure LIB (X : Cx) (F : Fx) (tg e : Expr) (f : AX) : Prop where
  pi : PI X tg e (rdIB X.K X.mg F f)
theorem pi_mono {X : Cx} {tg e : Expr} {t t' : TI} (h : PI X tg e t) (w : ∀ σ H R, t' σ H R → t σ H R) : PI X tg e t' :=
  ⟨fun pins s σ H R I q => h.run pins s σ H R I (w σ H R q)⟩
theorem LIB.i {X : Cx} {F : Fx} {tg e : Expr} {f : AX} (h : LIB X F tg e f) : LIB X F tg e f := h
theorem LI.b {X : Cx} {F : Fx} {tg e : Expr} {f : AX} (h : LI X F tg e f) : LIB X F tg e f := by
  refine ⟨pi_mono h.pi fun σ H R q => ?_⟩
  obtain ⟨ah, Hf, ρ, hs, s, q⟩ := q
  refine ⟨ah, Hf, ρ, hs, s, ?_⟩
  cases e1 : f ρ hs with
  | fail => simp [e1] at q
  | exc c m => simpa [e1] using q
  | ok p =>
    obtain ⟨ds, hs1⟩ := p
    simp only [e1] at q
    exact fun J Hf' H' x S => q J Hf' H' Hf' x x.up (fun a e => (x.hand a e).1) S
/-- a list or a tuple that is walked -/
def iSeq (K : PySem.W.Frag) (tl : TE) : TI := fun σ H R => tl σ H fun x H1 => ∃ a xs, x = .ref a ∧ ((SqL K H1 a xs ∧ (xs.length ≤ sizeLine → R (Itl K a) H1)) ∨ (SqT K H1 a xs ∧ (xs.length ≤ sizeLine → R (Itt K a) H1)))
theorem pi_seq {X : Cx} {tg l : Expr} {tl : TE} (hl : PE X l tl) : PI X tg l (iSeq X.K tl) := by
  refine ⟨fun pins s σ H R I h => ?_⟩
  refine thn (hl.run pins s σ H _ I h) fun v s1 ⟨x, H1, I1, r1, q1⟩ => ?_
  obtain ⟨a, xs, e, q⟩ := q1
  subst e
  cases r1
  rcases q with ⟨hq, q⟩ | ⟨hq, q⟩
  · obtain ⟨its, rv, p, hz⟩ := I1.list hq
    refine wpAny_pyIter_list p.isList ?_
    refine ⟨s1.heap.objs.size, [s1.heap.objs.size], _, _, H1, rfl, I1.kept (t' := s1.toks) fun b o e => Heap.get?_push_of_some _ e, turn_list a _, ⟨_, Heap.get?_push_size _ rfl, rfl, rfl⟩, fun b hb => ?_, q hz⟩
    have e : b = s1.heap.objs.size := by simpa using hb
    subst e
    exact I1.fpOk (Nat.le_refl _) (I1.hok.fresh (Nat.le_refl _))
  · obtain ⟨its, rv, p, hz⟩ := I1.tuple hq
    refine wpAny_pyIter_tuple (show s1.heap.IsTuple a its.toArray from p) ?_
    refine ⟨s1.heap.objs.size, [s1.heap.objs.size], _, _, H1, rfl, I1.kept (t' := s1.toks) fun b o e => Heap.get?_push_of_some _ e, turn_tuple a _, ⟨_, Heap.get?_push_size _ rfl, rfl, rfl⟩, fun b hb => ?_, q hz⟩
    have e : b = s1.heap.objs.size := by simpa using hb
    subst e
    exact I1.fpOk (Nat.le_refl _) (I1.hok.fresh (Nat.le_refl _))
def seqOf (d : PyData) : Res (List PyData) := match d with
  | .list ds => .ok ds
  | .tuple ds => .ok ds
  | _ => .fail
def iOf (f : PX) : AX := fun ρ hs => (f ρ hs).bind fun (d, hs1) => (seqOf d).bind fun ds => .ok (ds, hs1)
theorem src_list {K : PySem.W.Frag} {Hf Hb : Hp} {a : Addr} {xs : List V} {ds : List PyData} (h : Hb a = some (.lst xs)) (r : RpA K Hf xs ds) (hz : xs.length ≤ sizeLine) : Src K (Itl K a) ds Hf Hb where
  ex := ⟨fun H => SqL K H a xs, YAt xs, by rw [← rpA_len r]; exact walk_list, fun H u => SqL.of (u _ _ h), fun i Hf1 H x H' d e u1 u2 _ y => by
    obtain ⟨y1, y2⟩ := y
    subst y1
    obtain ⟨d', e', r'⟩ := rpA_get' r y2
    rw [e] at e'; cases e'
    exact ⟨Hf1, .refl u2, u1.rp r'⟩⟩
  len := by rw [← rpA_len r]; exact hz
theorem src_tup {K : PySem.W.Frag} {Hf Hb : Hp} {a : Addr} {xs : List V} {ds : List PyData} (h : SqT K Hb a xs) (r : RpA K Hf xs ds) (hz : xs.length ≤ sizeLine) : Src K (Itt K a) ds Hf Hb where
  ex := ⟨fun H => SqT K H a xs, YAt xs, by rw [← rpA_len r]; exact walk_tup, fun H u => sqT_mono u h, fun i Hf1 H x H' d e u1 u2 _ y => by
    obtain ⟨y1, y2⟩ := y
    subst y1
    obtain ⟨d', e', r'⟩ := rpA_get' r y2
    rw [e] at e'; cases e'
    exact ⟨Hf1, .refl u2, u1.rp r'⟩⟩
  len := by rw [← rpA_len r]; exact hz
section
variable {X : Cx} {F : Fx} {tg a b c e : Expr} {es ifs : List Expr} {f f1 f2 f3 : PX} {fi : AX} {pos p : Pos} {k : Nat} {x : Str}
theorem li_seq (h : LP X F e f) : LI X F tg e (iOf f) := by
  refine ⟨pi_mono (pi_seq h.pe) fun σ H R q => ?_⟩
  obtain ⟨ah, Hf, ρ, hs, s, q⟩ := q
  refine ⟨ah, Hf, ρ, hs, s, ?_⟩
  cases e1 : f ρ hs with
  | fail => simp [iOf, e1] at q
  | exc c m => simpa [iOf, e1] using q
  | ok p =>
    obtain ⟨d, hs1⟩ := p
    intro v Hf1 H1 x1 r
    simp only [iOf, e1, Res.bind_ok] at q
    cases d with
    | list ds =>
      cases r with
      | lst h1 h2 => exact ⟨_, _, rfl, .inl ⟨SqL.of (x1.up _ _ h1), fun hz => q _ Hf1 H1 x1 (src_list h1 h2 hz)⟩⟩
    | tuple ds =>
      cases r with
      | tup h1 h2 => exact ⟨_, _, rfl, .inr ⟨sqT_mono x1.up h1, fun hz => q _ Hf1 H1 x1 (src_tup h1 h2 hz)⟩⟩
    | _ => exact q.elim
theorem lib_seq (h : LB X F e f) : LIB X F tg e (iOf f) := by
  refine ⟨pi_mono (pi_seq h.pe) fun σ H R q => ?_⟩
  obtain ⟨ah, Hf, ρ, hs, s, q⟩ := q
  refine ⟨ah, Hf, ρ, hs, s, ?_⟩
  cases e1 : f ρ hs with
  | fail => simp [iOf, e1] at q
  | exc c m => simpa [iOf, e1] using q
  | ok p =>
    obtain ⟨d, hs1⟩ := p
    intro v Hf1 H1 x1 b
    have s1 := s.ex x1
    simp only [iOf, e1, Res.bind_ok] at q
    cases d with
    | list ds =>
      have bp := b.p s1
      obtain ⟨p1, vs1, rfl, h1, r1⟩ := bp.list s1.up
      refine ⟨_, vs1, rfl, .inl ⟨SqL.of h1, fun hz => q _ Hf1 H1 (fun c => if c = p1 then some (.lst vs1) else none) x1 (fun c o e => ?_) (fun c e => ?_) (src_list (by simp) r1 hz)⟩⟩
      · by_cases z : c = p1
        · subst z
          simp only [if_true] at e
          cases e; exact h1
        · simp only [if_neg z] at e; cases e
      · by_cases z : c = p1
        · subst z
          exfalso
          rcases b with b | ⟨i, l, b1, b2, _⟩
          · cases b with
            | lst h3 _ =>
              rw [(x1.hand c e).1] at h3; cases h3
          · obtain ⟨v', b3, a', vs', b4, _, _, b5, _⟩ := s1.slot i _ b1
            rw [b2] at b3
            have b3 := Option.some.inj (Option.some.inj b3)
            rw [← b3] at b4
            cases b4
            exact b5 e
        · simp only [if_neg z]
    | tuple ds =>
      rcases b with b | ⟨i, l, b1, b2, b3⟩
      · cases b with
        | tup h1 h2 => exact ⟨_, _, rfl, .inr ⟨sqT_mono x1.up h1, fun hz => q _ Hf1 H1 Hf1 x1 x1.up (fun a e => (x1.hand a e).1) (src_tup h1 h2 hz)⟩⟩
      · cases b3
    | _ => exact q.elim
/-- range(n), range(a, b) -/
def rngD (lo hi : Int) : List PyData := (List.range (hi - lo).toNat).map fun (i : Nat) => PyData.int (lo + (i : Int))
theorem src_range {K : PySem.W.Frag} {Hf : Hp} {lo : Int} {n : Nat} {ds : List PyData} (hd : ds = (List.range n).map fun (i : Nat) => PyData.int (lo + (i : Int))) (hz : n ≤ BIG) : Src K (Itr lo n) ds Hf Hf where
  ex := ⟨fun _ => True, YFn fun i => .int (lo + i), by subst hd; simpa using walk_range, fun _ _ => trivial, fun i Hf1 H x H' d e u1 u2 _ y => by
    obtain ⟨y1, y2⟩ := y
    subst y1 y2 hd
    refine ⟨Hf1, .refl u2, ?_⟩
    rw [List.getElem?_map] at e
    cases q : (List.range n)[i]? with
    | none => rw [q] at e; cases e
    | some j =>
      rw [q] at e
      have hj : j = i := by
        obtain ⟨h1, h2⟩ := List.getElem?_eq_some_iff.mp q
        rw [List.getElem_range] at h2
        exact h2.symm
      subst hj
      cases e
      exact .int _⟩
  len := by subst hd; rw [List.length_map, List.length_range, sizeLine_eq]; exact hz
def iRange1 (f : PX) : AX := fun ρ hs => (f ρ hs).bind fun (d, hs1) => match d with
  | .int j => if j ≤ BIG ∧ -(2 ^ 62) ≤ j then .ok (rngD 0 j, hs1) else .fail
  | _ => .fail
def iRange2 (f1 f2 : PX) : AX := fun ρ hs => (f1 ρ hs).bind fun (d1, hs1) => (f2 ρ hs1).bind fun (d2, hs2) => match d1, d2 with
  | .int i, .int j => if j ≤ 1000000 ∧ -1000000 ≤ j ∧ i ≤ 1000000 ∧ -1000000 ≤ i then .ok (rngD i j, hs2) else .fail
  | _, _ => .fail
theorem li_range1 (hg : Gl X "range") (hm : X.mg "range" = none) (ha : LP X F a f1) (hs : starEach [a] X.env = [(false, eval a X.env)] := by rfl) (hs2 : starEach [a] X.env = (false, eval a X.env) :: starEach [] X.env := by rfl) : LI X F tg (.Call (.Name "range" p) [a] [] pos) (iRange1 f1) := by
  refine ⟨pi_mono (pi_range1 hg hm (pa_cons ha.pe pa_nil hs2) hs) fun σ H R q => ?_⟩
  obtain ⟨ah, Hf, ρ, hs, s, q⟩ := q
  refine ⟨ah, Hf, ρ, hs, s, ?_⟩
  cases e1 : f1 ρ hs with
  | fail => simp [iRange1, e1] at q
  | exc c m => simpa [iRange1, e1] using q
  | ok p =>
    obtain ⟨d, hs1⟩ := p
    intro v Hf1 H1 x1 r
    simp only [iRange1, e1, Res.bind_ok] at q
    cases d with
    | int j =>
      cases r
      by_cases hj : j ≤ BIG ∧ -(2 ^ 62) ≤ j
      · simp only [if_pos hj] at q
        refine ⟨j, rfl, by omega, by have : (BIG : Int) < 2 ^ 62 := by decide
                                     omega, q _ Hf1 H1 x1 (src_range (by unfold rngD; simp) (by have := hj.1; omega))⟩
      · simp only [if_neg hj] at q
    | _ => exact q.elim
theorem li_range2 (hg : Gl X "range") (hm : X.mg "range" = none) (ha : LP X F a f1) (hb : LP X F b f2) (hs : starEach [a, b] X.env = [(false, eval a X.env), (false, eval b X.env)] := by rfl) (hs2 : starEach [b] X.env = [(false, eval b X.env)] := by rfl)
    (hs3 : starEach [a, b] X.env = (false, eval a X.env) :: starEach [b] X.env := by rfl) (hs4 : starEach [b] X.env = (false, eval b X.env) :: starEach [] X.env := by rfl) : LI X F tg (.Call (.Name "range" p) [a, b] [] pos) (iRange2 f1 f2) := by
  refine ⟨pi_mono (pi_range2 hg hm (pa_cons ha.pe (pa_cons hb.pe pa_nil hs4) hs3) hs hs2) fun σ H R q => ?_⟩
  obtain ⟨ah, Hf, ρ, hs, s, q⟩ := q
  refine ⟨ah, Hf, ρ, hs, s, ?_⟩
  cases e1 : f1 ρ hs with
  | fail => simp [iRange2, e1] at q
  | exc c m => simpa [iRange2, e1] using q
  | ok p =>
    obtain ⟨d1, hs1⟩ := p
    intro v Hf1 H1 x1 r
    have s1 := s.ex x1
    refine ⟨ah, Hf1, ρ, hs1, s1, ?_⟩
    simp only [iRange2, e1, Res.bind_ok] at q
    cases e2 : f2 ρ hs1 with
    | fail => simp [e2] at q
    | exc c m =>
      simp only [e2, Res.bind_exc] at q
      exact q.after x1.keep
    | ok p2 =>
      obtain ⟨d2, hs2⟩ := p2
      intro v2 Hf2 H2 x2 r2
      simp only [e2, Res.bind_ok] at q
      cases d1 with
      | int i =>
        cases r
        cases d2 with
        | int j =>
          cases r2
          by_cases hj : j ≤ 1000000 ∧ -1000000 ≤ j ∧ i ≤ 1000000 ∧ -1000000 ≤ i
          · simp only [if_pos hj] at q
            refine ⟨i, j, rfl, ⟨by omega, by omega, by omega, by omega⟩, q _ Hf2 H2 (.trans s.hand x1 x2) (src_range rfl (by unfold BIG; omega))⟩
          · simp only [if_neg hj] at q
        | _ => exact q.elim
      | _ => exact q.elim

/-! ## comprehensions -/
abbrev Fx.q (F : Fx) : Fx := { F with W := fun _ _ _ _ => False }
theorem SR.q {K : PySem.W.Frag} {mg : Str → Option Value} {F : Fx} {ah : Option Addr} {Hf H : Hp} {σ : L2.St} {ρ : Rho} {hs : HSt} (s : SR K mg F ah Hf H σ ρ hs) : SR K mg F.q ah Hf H σ ρ hs :=
  ⟨s.len, s.up, s.base, s.fr, s.keep, s.h0, s.hn, s.hand, s.slot, s.dist⟩
structure LTs (X : Cx) (F : Fx) (ifs : List Expr) (t : TX) : Prop where
  pts : PTs X ifs (rdT X.K X.mg F t)
def tYesX : TX := fun _ hs => .ok (true, hs)
theorem lts_nil : LTs X F [] tYesX := by
  refine ⟨⟨fun pins s σ H Q I q => pts_nil.run pins s σ H Q I ?_⟩⟩
  obtain ⟨ah, Hf, ρ, hs, s, q⟩ := q
  exact q Hf H (.refl s.up s.hand)
theorem lts_one {t : TX} (h : LT X F c t) : LTs X F [c] t := ⟨pts_one h.pt⟩
def lcGo (T : Tg) (t : TX) (f : PX) (ρ : Rho) : List PyData → HSt → Res (List PyData × HSt)
  | [], hs => .ok ([], hs)
  | d :: ds, hs => match tgPut T d ρ with
    | none => .fail
    | some ρ1 => (noExc (t ρ1 hs)).bind fun (b, hs1) =>
      if b = true then (noExc (f ρ1 hs1)).bind fun (y, hs2) => (lcGo T t f ρ ds hs2).bind fun (ys, hs3) => .ok (y :: ys, hs3)
      else lcGo T t f ρ ds hs1
def pLc (fi : AX) (T : Tg) (t : TX) (f : PX) (vs : List Nat) : PX := fun ρ hs => (fi ρ hs).bind fun (items, hs1) => (noExc (lcGo T t f (wipeR ρ vs) items hs1)).bind fun (ys, hs2) => .ok (.list ys, hs2)
theorem Ex.tmp {K : PySem.W.Frag} {ah : Option Addr} {Hf H Hf' H' : Hp} {hs' : HSt} (x : Ex K ah Hf H Hf' H' hs') {p : Addr} {o : HO} (n : H p = none) (nf : Hf' p = none) (na : ah ≠ some p) : Ex K ah Hf H Hf' (upd H' p o) hs' where
  sub := x.sub
  up := fun a u e => by
    have : a ≠ p := fun z => by rw [z, nf] at e; cases e
    rw [upd_ne this]; exact x.up a u e
  keep := fun a u e na => by
    have : a ≠ p := fun z => by rw [z, n] at e; cases e
    rw [upd_ne this]; exact x.keep a u e na
  new := x.new
  hand := fun a e => by
    obtain ⟨h1, vs, h2, h3⟩ := x.hand a e
    have : a ≠ p := fun z => na (by rw [e, z])
    exact ⟨h1, vs, by rw [upd_ne this]; exact h2, h3⟩
theorem Src.at {K : PySem.W.Frag} {J : It} {items : List PyData} {Hf1 Hb : Hp} (S : Src K J items Hf1 Hb) : ∃ (G : Hp → Prop) (Y : Nat → Hp → V → Hp → Prop), Walk J items.length G Y ∧ (∀ H, Sub Hb H → G H) ∧
    ∀ i Hf H x H' d, items[i]? = some d → Sub Hf1 Hf → Sub Hf H → Sub Hb H → Y i H x H' → ∃ Hf', Gr Hf H Hf' H' ∧ Rp K Hf' x d := S.ex
/-- the reading of a comprehension from the items -/
theorem lc_read {K : PySem.W.Frag} {mg : Str → Option Value} {J : It} {T : Tg} {t : TX} {f : PX} {vs : List Nat} {σ : L2.St} {ρ : Rho} {ah : Option Addr} {Hf H Hf1 H1 Hb : Hp} {hs hs1 hs2 : HSt} {items ys : List PyData} {D : Addr} {Qd : Hp → Prop}
    (hT : ∀ j ∈ tgSl T, j ∈ vs) (s : SR K mg F ah Hf H σ ρ hs) (x1 : Ex K ah Hf H Hf1 H1 hs1) (hb1 : Sub Hb H1) (hb2 : ∀ a, ah = some a → Hb a = none) (S : Src K J items Hf1 Hb) (nD : H1 D = none)
    (go : lcGo T t f (wipeR ρ vs) items hs1 = .ok (ys, hs2))
    (hd : ∀ Hf2 H2 acc, Ex K ah Hf H Hf2 H2 hs2 → Hf2 D = none → H2 D = some (.lst acc) → RpA K Hf2 acc ys → Qd H2) :
    ∃ W : Nat → Nat → Hp → Prop, (∃ m, W 0 m (upd H1 D (.lst []))) ∧ ∀ i m H, W i m H →
      (J.stop i H ∧ Qd H) ∨ (J.go i H ∧ ∃ Nx : Hp → Prop, (∀ H', Nx H' → ∃ m', m' < m ∧ W (i + 1) m' H') ∧ ∀ x H', J.yld i H x H' → gOf K T x (wipe σ vs) H' fun σ2 H2 => wipe σ2 vs = wipe σ vs ∧ rdT K mg F.q t σ2 H2 fun b H3 =>
        if b = true then rdP K mg F.q f σ2 H3 fun y H4 => ∃ acc, H4 D = some (.lst acc) ∧ acc.length < sizeLine ∧ Nx (upd H4 D (.lst (acc ++ [y]))) else Nx H3) := by
  obtain ⟨G, Y, wk, hG, hY⟩ := S.at
  have nD0 : H D = none := x1.free s.hand nD
  have naD : ah ≠ some D := fun z => by
    obtain ⟨_, ws, h2, _⟩ := x1.hand D z
    rw [nD] at h2; cases h2
  have n0D : F.H0 D = none := by
    cases q : F.H0 D with
    | none => rfl
    | some o =>
      by_cases e : F.ah0 = some D
      · exact absurd (s.h0 D e) naD
      · rw [s.keep D o q e] at nD0; cases nD0
  have noD : ∀ (j : Nat) (m : List PyData), ρ[j]? = some (some (.own m)) → σ[j]? ≠ some (some (.ref D)) := fun j m e z => by
    obtain ⟨v, e1, a, vs', rfl, _, _, _, e2, _⟩ := s.slot j _ e
    rw [z] at e1
    cases e1
    rw [nD0] at e2; cases e2
  let Pv : Nat → Hp → Prop := fun i Hc => ∃ Hfc hsc acc accD rest, Ex K ah Hf H Hfc Hc hsc ∧ Sub Hf1 Hfc ∧ Sub Hb Hc ∧ Hfc D = none ∧ Hc D = some (.lst acc) ∧ RpA K Hfc acc accD ∧ acc.length ≤ i ∧
    lcGo T t f (wipeR ρ vs) (items.drop i) hsc = .ok (rest, hs2) ∧ ys = accD ++ rest
  refine lc_it (vs := vs) (σ := σ) wk Pv ?_ (fun i Hc _ ⟨_, _, _, _, _, _, _, hb, _⟩ => hG Hc hb) ?_ ?_
  · have nf1 : Hf1 D = none := nofrz x1.up nD
    refine ⟨Hf1, hs1, [], [], ys, x1.tmp nD0 nf1 naD, .refl _, fun a o e => ?_, nf1, upd_same, .nil, Nat.zero_le _, by simpa using go, rfl⟩
    have : a ≠ D := fun z => by rw [z] at e; rw [hb1 _ _ e] at nD; cases nD
    rw [upd_ne this]; exact hb1 _ _ e
  · rintro i x Hc H' hi ⟨Hfc, hsc, acc, accD, rest, xc, sc, hbc, nfc, hDc, rc, hlen, goc, eys⟩ y
    have hdi : items.drop i = items[i] :: items.drop (i + 1) := (List.drop_eq_getElem_cons hi)
    obtain ⟨Hf', gr, rx⟩ := hY i Hfc Hc x H' items[i] (List.getElem?_eq_getElem hi) sc xc.up hbc y
    have s2 : SR K mg F ah Hfc Hc σ ρ hsc := s.ex xc
    have s3 : SR K mg F ah Hf' H' σ ρ hsc := s2.ex (gr.ex s2.hand)
    rw [hdi] at goc
    unfold lcGo at goc
    cases ep : tgPut T items[i] (wipeR ρ vs) with
    | none => rw [ep] at goc; cases goc
    | some ρ1 =>
      simp only [ep] at goc
      refine tg_ok T items[i] x (wipe σ vs) (wipeR ρ vs) ρ1 _ (s3.wipe vs) rx ep fun σ2 s4 hl2 hj2 => ⟨?_, ?_⟩
      · rw [← wipe_wipe σ vs]
        exact wipe_eq hl2 fun j hj => hj2 j fun z => hj (hT j z)
      · refine ⟨ah, Hf', ρ1, hsc, s4.q, ?_⟩
        cases et : t ρ1 hsc with
        | fail => simp [et, noExc] at goc
        | exc c m => simp [et, noExc] at goc
        | ok pt =>
          obtain ⟨b, hst⟩ := pt
          intro Hf4 H4 x4
          simp only [et, noExc, Res.bind_ok] at goc
          have X4 := Ex.trans s.hand (.trans s.hand xc (gr.ex s2.hand)) x4
          have keepHb : ∀ {Hq : Hp} {hq : HSt} {Hfq : Hp}, Ex K ah Hf' H' Hfq Hq hq → Sub Hb Hq := fun {Hq hq Hfq} xq a o e => by
            refine xq.keep a o (gr.keep a o (hbc a o e)) fun z => ?_
            rw [hb2 a z] at e; cases e
          have hD4 : H4 D = some (.lst acc) := x4.keep D _ (gr.keep D _ hDc) naD
          have nf4 : Hf4 D = none := by
            cases q : Hf4 D with
            | none => rfl
            | some o =>
              rcases x4.new D o q with z | z
              · rcases gr.new D o z with z1 | z1
                · rw [nfc] at z1; cases z1
                · rw [hDc] at z1; cases z1
              · rw [gr.keep D _ hDc] at z; cases z
          have s5 := s4.ex x4
          cases b with
          | false =>
            simp only [Bool.false_eq_true, if_false] at goc ⊢
            exact ⟨Hf4, hst, acc, accD, rest, X4, sc.trans (gr.sub.trans x4.sub), keepHb x4, nf4, hD4, (gr.sub.trans x4.sub).rpA rc, by omega, goc, eys⟩
          | true =>
            simp only [if_true] at goc ⊢
            refine ⟨ah, Hf4, ρ1, hst, s5.q, ?_⟩
            cases ef : f ρ1 hst with
            | fail => simp [ef] at goc
            | exc c m => simp [ef] at goc
            | ok pf =>
              obtain ⟨yd, hsf⟩ := pf
              intro v Hf5 H5 x5 r5
              simp only [ef, Res.bind_ok] at goc
              have X5 := Ex.trans s.hand X4 x5
              have hD5 : H5 D = some (.lst acc) := x5.keep D _ hD4 naD
              have nf5 : Hf5 D = none := by
                cases q : Hf5 D with
                | none => rfl
                | some o =>
                  rcases x5.new D o q with z | z
                  · rw [nf4] at z; cases z
                  · rw [hD4] at z; cases z
              have hsz : acc.length < sizeLine := by
                have := S.len
                omega
              refine ⟨acc, hD5, hsz, ?_⟩
              cases eg : lcGo T t f (wipeR ρ vs) (items.drop (i + 1)) hsf with
              | fail => simp [eg] at goc
              | exc c m => simp [eg] at goc
              | ok pg =>
                obtain ⟨rest', hse⟩ := pg
                simp only [eg, Res.bind_ok] at goc
                cases goc
                have hbq : Sub Hb H5 := keepHb (.trans s3.hand x4 x5)
                refine ⟨Hf5, hsf, acc ++ [v], accD ++ [yd], rest', X5.tmp nD0 nf5 naD, sc.trans (gr.sub.trans (x4.sub.trans x5.sub)), fun a o e => ?_, nf5, upd_same, rpA_app ((gr.sub.trans (x4.sub.trans x5.sub)).rpA rc) (.cons r5 .nil), by simp; omega, eg, by rw [eys]; simp⟩
                have : a ≠ D := fun z => by rw [z] at e; rw [hb1 _ _ e] at nD; cases nD
                rw [upd_ne this]; exact hbq _ _ e
  · rintro Hc ⟨Hfc, hsc, acc, accD, rest, xc, sc, hbc, nfc, hDc, rc, hlen, goc, eys⟩
    rw [List.drop_length] at goc
    unfold lcGo at goc
    cases goc
    rw [List.append_nil] at eys
    subst eys
    exact hd Hfc Hc acc xc nfc hDc rc
theorem lc_tLc {K : PySem.W.Frag} {mg : Str → Option Value} {T : Tg} {t : TX} {vs : List Nat} (hT : ∀ j ∈ tgSl T, j ∈ vs) {σ : L2.St} {H : Hp} {Q : VK} (q : rdF K mg F (pLc fi T t f vs) σ H Q) :
    tLc (rdIB K mg F fi) (gOf K T) (rdT K mg F.q t) (rdP K mg F.q f) vs σ H Q := by
  obtain ⟨ah, Hf, ρ, hs, s, q⟩ := q
  refine ⟨ah, Hf, ρ, hs, s, ?_⟩
  cases e1 : fi ρ hs with
  | fail => simp [pLc, e1] at q
  | exc c m => simpa [pLc, e1] using q
  | ok p =>
    obtain ⟨items, hs1⟩ := p
    intro J Hf1 H1 Hb x1 hb1 hb2 S D nD
    simp only [pLc, e1, Res.bind_ok] at q
    cases e2 : lcGo T t f (wipeR ρ vs) items hs1 with
    | fail => simp [e2, noExc] at q
    | exc c m => simp [e2, noExc] at q
    | ok p2 =>
      obtain ⟨ys, hs2⟩ := p2
      simp only [e2, noExc, Res.bind_ok] at q
      exact lc_read hT s x1 hb1 hb2 S nD e2 fun Hf2 H2 acc x2 nf hD r => q _ Hf2 H2 x2 ⟨D, acc, ys, rfl, rfl, x1.free s.hand nD, nf, hD, r⟩
theorem lf_lc {elt iter : Expr} {scope : Scope} {own : List (Str × Nat)} {T : Tg} {t : TX} (z : Cz X k) (hi : LIB X F tg iter fi) (ok : BlkOk X.N X.env.scope scope own)
    (hg : ∀ (s : Shared) (H : Hp) (C : Addr) (cl : List (Str × Addr)) (fp : List Addr), PG (X.blk s H scope (compEnvC scope cl C X.env) fp) tg (gOf X.K T)) (ht : ∀ (s : Shared) (H : Hp) (C : Addr) (cl : List (Str × Addr)) (fp : List Addr), LTs (X.blk s H scope (compEnvC scope cl C X.env) fp) F.q ifs t)
    (he : ∀ (s : Shared) (H : Hp) (C : Addr) (cl : List (Str × Addr)) (fp : List Addr), LP (X.blk s H scope (compEnvC scope cl C X.env) fp) F.q elt f) (hT : ∀ j ∈ tgSl T, j ∈ own.map (·.2)) (hs : ∀ x, foldedSetIterable iter X.env x = pure x := by intro _; rfl) :
    LF X F (.ListComp elt [⟨tg, iter, ifs, 0⟩] scope pos) (pLc fi T t f (own.map (·.2))) := by
  have ht' : ∀ (s : Shared) (H : Hp) (C : Addr) (cl : List (Str × Addr)) (fp : List Addr), PTs (X.blk s H scope (compEnvC scope cl C X.env) fp) ifs (rdT X.K X.mg F.q t) := fun s H C cl fp => (ht s H C cl fp).pts
  have he' : ∀ (s : Shared) (H : Hp) (C : Addr) (cl : List (Str × Addr)) (fp : List Addr), PE (X.blk s H scope (compEnvC scope cl C X.env) fp) elt (rdP X.K X.mg F.q f) := fun s H C cl fp => (he s H C cl fp).pe
  exact ⟨pe_mono (pe_lc z.calm z.nd hi.pi ok hg ht' he' hs) fun σ H Q q => lc_tLc hT q⟩
end
end L3
namespace L3
open PySem PySem.Spec PyProof.Rows L2

/-! ## statements -/
structure Cs (X : Cx) (F : Fx) (k : Nat) : Prop where
  z : Cz X k
  tk : Takes X F.W
  po : PassesOwn (model X.prog X.w) X.A X.env X.xe

/-- an exception leaves, as the def wants it -/
def SExc (K : PySem.W.Frag) (mg : Str → Option Value) (F : Fx) (c : Str) (m : Flds) : Prop :=
  ∀ C dx H' σ', mg c = some (.ref C) → (∀ a o, F.H0 a = some o → F.ah0 ≠ some a → H' a = some o) → ExcAt K H' dx m → F.W (.ref C) dx σ' H'
/-- what stands at a return -/
structure RO (K : PySem.W.Frag) (F : Fx) (Hf H : Hp) (hs : HSt) : Prop where
  up : Sub Hf H
  base : Sub F.Hf0 Hf
  fr : ∀ a o, Hf a = some o → F.Hf0 a = some o ∨ F.H0 a = none
  keep : ∀ a o, F.H0 a = some o → F.ah0 ≠ some a → H a = some o
  hand : HandOk K F.ah0 Hf H hs
def SPost (K : PySem.W.Frag) (mg : Str → Option Value) (F : Fx) (D : Ends) (Hf : Hp) : SRes → Prop
  | .nx ρ' hs' => ∀ ah' Hf' H' σ', Sub Hf Hf' → SR K mg F ah' Hf' H' σ' ρ' hs' → D.nx σ' H'
  | .rt d hs' => ∀ v Hf' H', RO K F Hf' H' hs' → Rp K Hf' v d → D.rt v H'
  | .exc c m => SExc K mg F c m
  | .fail => False
theorem SPost.mono {K : PySem.W.Frag} {mg : Str → Option Value} {F : Fx} {D : Ends} {Hf Hf1 : Hp} (u : Sub Hf Hf1) : ∀ {r : SRes}, SPost K mg F D Hf r → SPost K mg F D Hf1 r
  | .nx _ _, h => fun ah' Hf' H' σ' v s => h ah' Hf' H' σ' (u.trans v) s
  | .rt _ _, h => h
  | .exc _ _, h => h
  | .fail, h => h
def rdS (K : PySem.W.Frag) (mg : Str → Option Value) (F : Fx) (f : SX) : TS := fun D σ H => ∃ ah Hf ρ hs, SR K mg F ah Hf H σ ρ hs ∧ SPost K mg F D Hf (f ρ hs)
structure LS (X : Cx) (F : Fx) (st : Stmt) (f : SX) : Prop where
  ps : PS X st (rdS X.K X.mg F f)
structure LSs (X : Cx) (F : Fx) (st : List Stmt) (f : SX) : Prop where
  ps : PSs X st (rdS X.K X.mg F f)
section
variable {K : PySem.W.Frag} {mg : Str → Option Value} {F : Fx} {ah : Option Addr} {Hf H Hf' H' : Hp} {σ : L2.St} {ρ : Rho} {hs hs' : HSt}
theorem SExc.ex {c : Str} {m : Flds} (s : SR K mg F ah Hf H σ ρ hs) (h : SExc K mg F c m) : ExW K mg ah (fun C dx H' => F.W C dx σ H') H c m :=
  fun C dx H' hm hk hx => h C dx H' σ hm (fun a o e n => hk a o (s.keep a o e n) fun z => by
    rcases s.hn a z with q | q
    · exact n q
    · rw [e] at q; cases q) hx
theorem SR.ro (s : SR K mg F ah Hf H σ ρ hs) : RO K F Hf H hs := ⟨s.up, s.base, s.fr, s.keep, fun a e => s.hand a (s.h0 a e)⟩
/-- an own list changes -/
theorem SR.own (s : SR K mg F ah Hf H σ ρ hs) {i : Nat} {l l' : List PyData} {a : Addr} {vs' : List V} (e : ρ[i]? = some (some (.own l))) (ea : σ[i]? = some (some (.ref a))) (r : RpA K Hf vs' l') :
    SR K mg F ah Hf (upd H a (.lst vs')) σ (ρ.set i (some (.own l'))) hs := by
  obtain ⟨v, e1, a', vs, q1, q2, q3, q4, q5, q6⟩ := s.slot i _ e
  rw [ea] at e1
  have e1 := Option.some.inj (Option.some.inj e1)
  rw [← e1] at q1
  cases q1
  have hi : i < ρ.length := (List.getElem?_eq_some_iff.mp e).1
  refine ⟨by simp [s.len], fun b o h => ?_, s.base, s.fr, fun b o h n => ?_, s.h0, s.hn, fun b h => ?_, fun j sv h => ?_, fun j j' m m' w h1 h2 h3 h4 => ?_⟩
  · have : b ≠ a := fun z => by rw [z, q2] at h; cases h
    rw [upd_ne this]; exact s.up b o h
  · have : b ≠ a := fun z => by rw [z, q3] at h; cases h
    rw [upd_ne this]; exact s.keep b o h n
  · obtain ⟨h1, ws, h2, h3⟩ := s.hand b h
    have : b ≠ a := fun z => q4 (by rw [h, z])
    exact ⟨h1, ws, by rw [upd_ne this]; exact h2, h3⟩
  · by_cases hj : i = j
    · subst hj
      rw [List.getElem?_set_self hi] at h
      cases h
      exact ⟨.ref a, ea, a, vs', rfl, q2, q3, q4, upd_same, r⟩
    · rw [List.getElem?_set_ne hj] at h
      obtain ⟨w, f1, f2⟩ := s.slot j sv h
      refine ⟨w, f1, ?_⟩
      cases sv with
      | val d => exact f2
      | own m =>
        obtain ⟨b, ws, rfl, g2, g3, g4, g5, g6⟩ := f2
        have : b ≠ a := fun z => hj (s.dist i j l m (.ref a) e h ea (by rw [← z]; exact f1))
        exact ⟨b, ws, rfl, g2, g3, g4, by rw [upd_ne this]; exact g5, g6⟩
      | hand => exact f2
      | fn x => exact f2
      | scr l => exact f2
  · have back : ∀ {j m}, (ρ.set i (some (SV.own l')))[j]? = some (some (SV.own m)) → ∃ m0, ρ[j]? = some (some (SV.own m0)) := fun {j m} h => by
      by_cases hj : i = j
      · subst hj; exact ⟨l, e⟩
      · rw [List.getElem?_set_ne hj] at h; exact ⟨m, h⟩
    obtain ⟨m0, f1⟩ := back h1
    obtain ⟨m1, f2⟩ := back h2
    exact s.dist j j' m0 m1 w f1 f2 h3 h4
/-- an own list is frozen -/
theorem SR.freeze (s : SR K mg F ah Hf H σ ρ hs) {i : Nat} {l : List PyData} (e : ρ[i]? = some (some (.own l))) : ∃ v Hf', σ[i]? = some (some v) ∧ Sub Hf Hf' ∧ Rp K Hf' v (.list l) ∧ SR K mg F ah Hf' H σ (ρ.set i (some (.val (.list l)))) hs := by
  obtain ⟨v, e1, a, vs, rfl, q2, q3, q4, q5, q6⟩ := s.slot i _ e
  have hi : i < ρ.length := (List.getElem?_eq_some_iff.mp e).1
  have sb : Sub Hf (upd Hf a (.lst vs)) := sub_upd q2
  have rp : Rp K (upd Hf a (.lst vs)) (.ref a) (.list l) := .lst upd_same (sb.rpA q6)
  refine ⟨.ref a, upd Hf a (.lst vs), e1, sb, rp, by simp [s.len], fun b o h => ?_, s.base.trans sb, fun b o h => ?_, s.keep, s.h0, s.hn, fun b h => ?_, fun j sv h => ?_, fun j j' m m' w h1 h2 h3 h4 => ?_⟩
  · by_cases z : b = a
    · subst z; rw [upd_same] at h; cases h; exact q5
    · rw [upd_ne z] at h; exact s.up b o h
  · by_cases z : b = a
    · subst z; exact .inr q3
    · rw [upd_ne z] at h; exact s.fr b o h
  · obtain ⟨h1, ws, h2, h3⟩ := s.hand b h
    have : b ≠ a := fun z => q4 (by rw [h, z])
    exact ⟨by rw [upd_ne this]; exact h1, ws, h2, sb.rpA h3⟩
  · by_cases hj : i = j
    · subst hj
      rw [List.getElem?_set_self hi] at h
      cases h
      exact ⟨.ref a, e1, rp⟩
    · rw [List.getElem?_set_ne hj] at h
      obtain ⟨w, f1, f2⟩ := s.slot j sv h
      refine ⟨w, f1, ?_⟩
      cases sv with
      | val d => exact sb.rp f2
      | own m =>
        obtain ⟨b, ws, rfl, g2, g3, g4, g5, g6⟩ := f2
        have : b ≠ a := fun z => hj (s.dist i j l m (.ref a) e h e1 (by rw [← z]; exact f1))
        exact ⟨b, ws, rfl, by rw [upd_ne this]; exact g2, g3, g4, g5, sb.rpA g6⟩
      | hand => exact f2
      | fn x => exact f2
      | scr l =>
        obtain ⟨b, g1, g2⟩ := f2
        exact ⟨b, g1, sqL_mono sb g2⟩
  · have ne : ∀ {j m}, (ρ.set i (some (SV.val (PyData.list l))))[j]? = some (some (SV.own m)) → i ≠ j := fun {j m} h hj => by
      subst hj
      rw [List.getElem?_set_self hi] at h
      cases h
    rw [List.getElem?_set_ne (ne h1)] at h1
    rw [List.getElem?_set_ne (ne h2)] at h2
    exact s.dist j j' m m' w h1 h2 h3 h4
/-- a new list into a slot -/
theorem SR.putOwn (s : SR K mg F ah Hf H σ ρ hs) (x : Ex K ah Hf H Hf' H' hs') {i : Nat} {v : V} {l : List PyData} (hi : i < ρ.length) (f : Fp K H Hf' H' v (.list l)) : SR K mg F ah Hf' H' (σ.set i (some v)) (ρ.set i (some (.own l))) hs' := by
  obtain ⟨a, vs, l', rfl, el, n, nf, ha, r⟩ := f
  cases el
  have s1 := s.ex x
  have na : ah ≠ some a := fun z => by
    obtain ⟨_, ws, h2, _⟩ := s.hand a z
    rw [n] at h2; cases h2
  have n0 : F.H0 a = none := by
    cases q : F.H0 a with
    | none => rfl
    | some o =>
      by_cases e : F.ah0 = some a
      · exact absurd (s.h0 a e) na
      · rw [s.keep a o q e] at n; cases n
  refine s1.put hi ⟨a, vs, rfl, nf, n0, na, ha, r⟩ fun l' _ j m hj e z => ?_
  obtain ⟨v, e1, b, ws, q1, _, _, _, q5, _⟩ := s.slot j _ e
  rw [z] at e1
  have e1 := Option.some.inj (Option.some.inj e1)
  rw [q1] at e1
  cases e1
  rw [n] at q5; cases q5
end

theorem rdF_p {F : Fx} {K : PySem.W.Frag} {mg : Str → Option Value} {f : PX} {σ : L2.St} {H : Hp} {Q : VK} (q : rdP K mg F f σ H Q) : rdF K mg F f σ H Q := by
  obtain ⟨ah, Hf, ρ, hs, s, q⟩ := q
  refine ⟨ah, Hf, ρ, hs, s, ?_⟩
  cases e1 : f ρ hs with
  | fail => simp [e1] at q
  | exc c m => simpa [e1] using q
  | ok p =>
    obtain ⟨d, hs1⟩ := p
    simp only [e1] at q
    rintro v Hf1 H1 x1 ⟨a, vs, l, rfl, rfl, n, nf, ha, r⟩
    have nah : ah ≠ some a := fun z => by
      obtain ⟨_, ws, h2, _⟩ := s.hand a z
      rw [n] at h2; cases h2
    refine q (.ref a) (upd Hf1 a (.lst vs)) H1 ⟨x1.sub.trans (sub_upd nf), fun b o h => ?_, x1.keep, fun b o h => ?_, fun b h => ?_⟩ (.lst upd_same ((sub_upd nf).rpA r))
    · by_cases e : b = a
      · subst e; rw [upd_same] at h; cases h; exact ha
      · rw [upd_ne e] at h; exact x1.up _ _ h
    · by_cases e : b = a
      · subst e; exact .inr n
      · rw [upd_ne e] at h; exact x1.new _ _ h
    · obtain ⟨h1, ws, h2, h3⟩ := x1.hand b h
      have e : b ≠ a := fun z => by subst z; exact nah h
      exact ⟨by rw [upd_ne e]; exact h1, ws, h2, (sub_upd nf).rpA h3⟩

/-! ## blocks -/
def sNil : SX := fun ρ hs => .nx ρ hs
def sSeq (a b : SX) : SX := fun ρ hs => match a ρ hs with
  | .nx ρ1 hs1 => b ρ1 hs1
  | .rt d hs1 => .rt d hs1
  | .exc c m => .exc c m
  | .fail => .fail
section
variable {X : Cx} {F : Fx} {a b c e : Expr} {es ifs : List Expr} {f f1 f2 f3 : PX} {t : TX} {s1 s2 : SX} {st : Stmt} {rest l1 l2 : List Stmt} {pos p : Pos} {k : Nat} {x : Str}
theorem lss_nil : LSs X F [] sNil := by
  refine ⟨pss_mono pss_nil fun D σ H q => ?_⟩
  obtain ⟨ah, Hf, ρ, hs, s, q⟩ := q
  exact q ah Hf H σ (.refl _) s
theorem lss_cons (h1 : LS X F st s1) (h2 : LSs X F rest s2) : LSs X F (st :: rest) (sSeq s1 s2) := by
  refine ⟨pss_mono (pss_cons h1.ps h2.ps) fun D σ H q => ?_⟩
  obtain ⟨ah, Hf, ρ, hs, s, q⟩ := q
  refine ⟨ah, Hf, ρ, hs, s, ?_⟩
  cases e1 : s1 ρ hs with
  | fail => simp only [sSeq, e1] at q; exact q
  | exc c m => simp only [sSeq, e1] at q; exact q
  | rt d hs1 => simp only [sSeq, e1] at q; exact q
  | nx ρ1 hs1 =>
    intro ah' Hf' H' σ' u s'
    refine ⟨ah', Hf', ρ1, hs1, s', ?_⟩
    simp only [sSeq, e1] at q
    exact q.mono u
theorem lss_one (h1 : LS X F st s1) : LSs X F [st] s1 := ⟨pss_one h1.ps⟩
def sPass : SX := fun ρ hs => .nx ρ hs
theorem ls_pass : LS X F (.Pass pos) sPass := by
  refine ⟨ps_mono ps_pass fun D σ H q => ?_⟩
  obtain ⟨ah, Hf, ρ, hs, s, q⟩ := q
  exact q ah Hf H σ (.refl _) s
def sIf (t : TX) (a b : SX) : SX := fun ρ hs => match t ρ hs with
  | .ok (c, hs1) => if c = true then a ρ hs1 else b ρ hs1
  | .exc c m => .exc c m
  | .fail => .fail
theorem ls_if (hc : LT X F c t) (ha : LSs X F l1 s1) (hb : LSs X F l2 s2) : LS X F (.If c l1 l2 pos) (sIf t s1 s2) := by
  refine ⟨ps_mono (ps_if hc.pt ha.ps hb.ps) fun D σ H q => ?_⟩
  obtain ⟨ah, Hf, ρ, hs, s, q⟩ := q
  refine ⟨ah, Hf, ρ, hs, s, ?_⟩
  cases e1 : t ρ hs with
  | fail => simp only [sIf, e1] at q; exact q.elim
  | exc c m =>
    simp only [sIf, e1] at q
    exact SExc.ex s q
  | ok p =>
    obtain ⟨b, hs1⟩ := p
    intro Hf1 H1 x1
    have s1' := s.ex x1
    simp only [sIf, e1] at q
    cases b with
    | true =>
      simp only [if_true] at q ⊢
      exact ⟨ah, Hf1, ρ, hs1, s1', q.mono x1.sub⟩
    | false =>
      simp only [Bool.false_eq_true, if_false] at q ⊢
      exact ⟨ah, Hf1, ρ, hs1, s1', q.mono x1.sub⟩
def sExpr (f : PX) : SX := fun ρ hs => match f ρ hs with
  | .ok (_, hs1) => .nx ρ hs1
  | .exc c m => .exc c m
  | .fail => .fail
theorem ls_expr (he : LP X F e f) (hs : swapsWith e none pos.line X.env = pure false := by rfl) : LS X F (.Expr e pos) (sExpr f) := by
  refine ⟨ps_mono (ps_expr he.pe hs) fun D σ H q => ?_⟩
  obtain ⟨ah, Hf, ρ, hs, s, q⟩ := q
  refine ⟨ah, Hf, ρ, hs, s, ?_⟩
  cases e1 : f ρ hs with
  | fail => simp only [sExpr, e1] at q; exact q.elim
  | exc c m =>
    simp only [sExpr, e1] at q
    exact SExc.ex s q
  | ok p =>
    obtain ⟨d, hs1⟩ := p
    simp only [sExpr, e1] at q
    exact fun v Hf1 H1 x1 _ => q ah Hf1 H1 σ x1.sub (s.ex x1)
def sRet (f : PX) : SX := fun ρ hs => match f ρ hs with
  | .ok (d, hs1) => .rt d hs1
  | .exc c m => .exc c m
  | .fail => .fail
theorem ls_ret (he : LP X F e f) : LS X F (.Return (some e) pos) (sRet f) := by
  refine ⟨ps_mono (ps_ret he.pe) fun D σ H q => ?_⟩
  obtain ⟨ah, Hf, ρ, hs, s, q⟩ := q
  refine ⟨ah, Hf, ρ, hs, s, ?_⟩
  cases e1 : f ρ hs with
  | fail => simp only [sRet, e1] at q; exact q.elim
  | exc c m =>
    simp only [sRet, e1] at q
    exact SExc.ex s q
  | ok p =>
    obtain ⟨d, hs1⟩ := p
    simp only [sRet, e1] at q
    exact fun v Hf1 H1 x1 r => q v Hf1 H1 (s.ex x1).ro r
/-- return of an own list -/
theorem ls_retB (he : LB X F e f) : LS X F (.Return (some e) pos) (sRet f) := by
  refine ⟨ps_mono (ps_ret he.pe) fun D σ H q => ?_⟩
  obtain ⟨ah, Hf, ρ, hs, s, q⟩ := q
  refine ⟨ah, Hf, ρ, hs, s, ?_⟩
  cases e1 : f ρ hs with
  | fail => simp only [sRet, e1] at q; exact q.elim
  | exc c m =>
    simp only [sRet, e1] at q
    exact SExc.ex s q
  | ok p =>
    obtain ⟨d, hs1⟩ := p
    simp only [sRet, e1] at q
    intro v Hf1 H1 x1 r
    have s1' := s.ex x1
    rcases r with r | ⟨i, l, h1, h2, rfl⟩
    · exact q v Hf1 H1 s1'.ro r
    · obtain ⟨v', Hf2, e2, _, rp, s2'⟩ := s1'.freeze h1
      rw [h2] at e2
      cases e2
      exact q v Hf2 H1 s2'.ro rp
def sRetN : SX := fun _ hs => .rt .none hs
theorem ls_retN : LS X F (.Return none pos) sRetN := by
  refine ⟨ps_mono ps_retN fun D σ H q => ?_⟩
  obtain ⟨ah, Hf, ρ, hs, s, q⟩ := q
  exact q .non Hf H s.ro .non
/-- target = value -/
def sAsg (f : PX) (T : Tg) : SX := fun ρ hs => match f ρ hs with
  | .ok (d, hs1) => (match tgPut T d ρ with
    | some ρ1 => .nx ρ1 hs1
    | none => .fail)
  | .exc c m => .exc c m
  | .fail => .fail
theorem asg_read {K : PySem.W.Frag} {mg : Str → Option Value} {T : Tg} {D : Ends} {σ : L2.St} {H : Hp} (q : rdS K mg F (sAsg f T) D σ H) : rdP K mg F f σ H (fun x H1 => gOf K T x σ H1 D.nx) := by
  obtain ⟨ah, Hf, ρ, hs, s, q⟩ := q
  refine ⟨ah, Hf, ρ, hs, s, ?_⟩
  cases e1 : f ρ hs with
  | fail => simp only [sAsg, e1] at q; exact q.elim
  | exc c m =>
    simp only [sAsg, e1] at q
    exact SExc.ex s q
  | ok p =>
    obtain ⟨d, hs1⟩ := p
    simp only [sAsg, e1] at q
    intro v Hf1 H1 x1 r
    cases e2 : tgPut T d ρ with
    | none => simp only [e2] at q; exact q.elim
    | some ρ1 =>
      simp only [e2] at q
      exact tg_ok T d v σ ρ ρ1 _ (s.ex x1) r e2 fun σ' s' _ _ => q ah Hf1 H1 σ' x1.sub s'
theorem ls_asg {tg : Expr} {T : Tg} (he : LP X F e f) (hg : PG X tg (gOf X.K T)) (hs : swapsWithSole [tg] e pos.line X.env = pure false := by rfl) (hw : swappedStores [tg] e X.env = pure none := by rfl)
    (h1 : (assignEach [tg] X.env).map (·.2) = [assign tg X.env] := by rfl) : LS X F (.Assign [tg] e pos) (sAsg f T) :=
  ⟨ps_mono (ps_asg he.pe hg hs hw h1) fun D σ H q => asg_read q⟩
/-- name = [..], the name a local -/
theorem ls_setLc {elt iter tg : Expr} {scope : Scope} {own : List (Str × Nat)} {T : Tg} {fi : AX} {i : Nat} {y : Str} {py spos : Pos} (z : Cz X k) (hy : X.N[i]? = some y) (hyl : X.env.scope.names.lookup y = some .local)
    (hsw : swapsWith (.ListComp elt [⟨tg, iter, ifs, 0⟩] scope pos) (some (.Name y py)) spos.line X.env = pure true) (hi : LIB X F tg iter fi) (ok : BlkOk X.N X.env.scope scope own)
    (hg : ∀ (s : Shared) (H : Hp) (C : Addr) (cl : List (Str × Addr)) (fp : List Addr), PG (X.blk s H scope (compEnvC scope cl C X.env) fp) tg (gOf X.K T)) (ht : ∀ (s : Shared) (H : Hp) (C : Addr) (cl : List (Str × Addr)) (fp : List Addr), LTs (X.blk s H scope (compEnvC scope cl C X.env) fp) F.q ifs t)
    (he : ∀ (s : Shared) (H : Hp) (C : Addr) (cl : List (Str × Addr)) (fp : List Addr), LP (X.blk s H scope (compEnvC scope cl C X.env) fp) F.q elt f) (hT : ∀ j ∈ tgSl T, j ∈ own.map (·.2)) (hs : ∀ x, foldedSetIterable iter X.env x = pure x := by intro _; rfl) :
    LS X F (.Assign [.Name y py] (.ListComp elt [⟨tg, iter, ifs, 0⟩] scope pos) spos) (sAsg (pLc fi T t f (own.map (·.2))) (.nm i)) := by
  have ht' : ∀ (s : Shared) (H : Hp) (C : Addr) (cl : List (Str × Addr)) (fp : List Addr), PTs (X.blk s H scope (compEnvC scope cl C X.env) fp) ifs (rdT X.K X.mg F.q t) := fun s H C cl fp => (ht s H C cl fp).pts
  have he' : ∀ (s : Shared) (H : Hp) (C : Addr) (cl : List (Str × Addr)) (fp : List Addr), PE (X.blk s H scope (compEnvC scope cl C X.env) fp) elt (rdP X.K X.mg F.q f) := fun s H C cl fp => (he s H C cl fp).pe
  refine ⟨ps_mono (ps_setLc z.calm z.nd hy hyl hsw hi.pi ok hg ht' he' hs) fun D σ H q => lc_tLc hT ?_⟩
  exact rdF_p (asg_read q)
/-- a new list to a slot -/
def sOwn (f : PX) (i : Nat) : SX := fun ρ hs => match f ρ hs with
  | .ok (.list l, hs1) => if i < ρ.length then .nx (ρ.set i (some (.own l))) hs1 else .fail
  | .exc c m => .exc c m
  | _ => .fail
theorem own_read {K : PySem.W.Frag} {mg : Str → Option Value} {i : Nat} {D : Ends} {σ : L2.St} {H : Hp} (q : rdS K mg F (sOwn f i) D σ H) : rdF K mg F f σ H (fun x H1 => gName i x σ H1 D.nx) := by
  obtain ⟨ah, Hf, ρ, hs, s, q⟩ := q
  refine ⟨ah, Hf, ρ, hs, s, ?_⟩
  cases e1 : f ρ hs with
  | fail => simp only [sOwn, e1] at q; exact q.elim
  | exc c m =>
    simp only [sOwn, e1] at q
    exact SExc.ex s q
  | ok p =>
    obtain ⟨d, hs1⟩ := p
    simp only [sOwn, e1] at q
    intro v Hf1 H1 x1 r
    obtain ⟨a, vs, l, _, rfl, _⟩ := id r
    by_cases hi : i < ρ.length
    · simp only [if_pos hi] at q
      exact q ah Hf1 H1 _ x1.sub (s.putOwn x1 hi r)
    · simp only [if_neg hi] at q; exact q.elim
theorem ls_own {i : Nat} {y : Str} {py : Pos} (z : Cz X k) (he : LF X F e f) (hy : X.N[i]? = some y) (hx : Loc X.env.scope y) (hs : swapsWith e (some (.Name y py)) pos.line X.env = pure false := by rfl) (hf : X.fn y = true ∨ X.env.scope.names.lookup y = some .local := by first | exact .inl rfl | exact .inr rfl | assumption) :
    LS X F (.Assign [.Name y py] e pos) (sOwn f i) :=
  ⟨ps_mono (ps_set z.nd hy hx he.pe hs hf) fun D σ H q => own_read q⟩
theorem ls_ownLc {elt iter tg : Expr} {scope : Scope} {own : List (Str × Nat)} {T : Tg} {fi : AX} {i : Nat} {y : Str} {py spos : Pos} (z : Cz X k) (hy : X.N[i]? = some y) (hyl : X.env.scope.names.lookup y = some .local)
    (hsw : swapsWith (.ListComp elt [⟨tg, iter, ifs, 0⟩] scope pos) (some (.Name y py)) spos.line X.env = pure true) (hi : LIB X F tg iter fi) (ok : BlkOk X.N X.env.scope scope own)
    (hg : ∀ (s : Shared) (H : Hp) (C : Addr) (cl : List (Str × Addr)) (fp : List Addr), PG (X.blk s H scope (compEnvC scope cl C X.env) fp) tg (gOf X.K T)) (ht : ∀ (s : Shared) (H : Hp) (C : Addr) (cl : List (Str × Addr)) (fp : List Addr), LTs (X.blk s H scope (compEnvC scope cl C X.env) fp) F.q ifs t)
    (he : ∀ (s : Shared) (H : Hp) (C : Addr) (cl : List (Str × Addr)) (fp : List Addr), LP (X.blk s H scope (compEnvC scope cl C X.env) fp) F.q elt f) (hT : ∀ j ∈ tgSl T, j ∈ own.map (·.2)) (hs : ∀ x, foldedSetIterable iter X.env x = pure x := by intro _; rfl) :
    LS X F (.Assign [.Name y py] (.ListComp elt [⟨tg, iter, ifs, 0⟩] scope pos) spos) (sOwn (pLc fi T t f (own.map (·.2))) i) := by
  have ht' : ∀ (s : Shared) (H : Hp) (C : Addr) (cl : List (Str × Addr)) (fp : List Addr), PTs (X.blk s H scope (compEnvC scope cl C X.env) fp) ifs (rdT X.K X.mg F.q t) := fun s H C cl fp => (ht s H C cl fp).pts
  have he' : ∀ (s : Shared) (H : Hp) (C : Addr) (cl : List (Str × Addr)) (fp : List Addr), PE (X.blk s H scope (compEnvC scope cl C X.env) fp) elt (rdP X.K X.mg F.q f) := fun s H C cl fp => (he s H C cl fp).pe
  exact ⟨ps_mono (ps_setLc z.calm z.nd hy hyl hsw hi.pi ok hg ht' he' hs) fun D σ H q => lc_tLc hT (own_read q)⟩
/-- an own list's name to another name: frozen -/
def sAlias (i j : Nat) : SX := fun ρ hs => match ρ[j]? with
  | some (some (.own l)) => if i < ρ.length then .nx ((ρ.set j (some (.val (.list l)))).set i (some (.val (.list l)))) hs else .fail
  | _ => .fail
theorem ls_alias {i j : Nat} {y y2 : Str} {py p2 : Pos} (z : Cz X k) (hN : X.N[j]? = some y2) (hv : Vis X.env.scope y2) (hy : X.N[i]? = some y) (hx : Loc X.env.scope y) (hd : (y2 == ("__debug__" : Str)) = false := by decide) (hcd : (y2 == ("__classdict__" : Str)) = false := by decide)
    (hs : swapsWith (.Name y2 p2) (some (.Name y py)) pos.line X.env = pure false := by rfl) (hf : X.fn y = true ∨ X.env.scope.names.lookup y = some .local := by first | exact .inl rfl | exact .inr rfl | assumption) :
    LS X F (.Assign [.Name y py] (.Name y2 p2) pos) (sAlias i j) := by
  refine ⟨ps_mono (ps_set z.nd hy hx (pe_var hN hv hd hcd) hs hf) fun D σ H q => ?_⟩
  obtain ⟨ah, Hf, ρ, hs, s, q⟩ := q
  cases e1 : ρ[j]? with
  | none => simp only [sAlias, e1] at q; exact q.elim
  | some o =>
    cases o with
    | none => simp only [sAlias, e1] at q; exact q.elim
    | some sv =>
      cases sv with
      | own l =>
        by_cases hi : i < ρ.length
        · simp only [sAlias, e1, if_pos hi] at q
          obtain ⟨v, Hf', e2, u, rp, s'⟩ := s.freeze e1
          exact ⟨v, e2, q ah Hf' H _ u (s'.set (by simpa using hi) rp)⟩
        · simp only [sAlias, e1, if_neg hi] at q; exact q.elim
      | _ => simp only [sAlias, e1] at q; exact q.elim
/-- a method of one argument that changes an own list -/
def OwnM (K : PySem.W.Frag) (r : V → List V → Hp → VK → Prop) (g : List PyData → PyData → Option (List PyData)) : Prop := ∀ l d l', g l d = some l' → ∀ (Hf H : Hp) (a : Addr) (vs : List V) (v : V) (Q : VK), Sub Hf H → H a = some (.lst vs) → RpA K Hf vs l → Rp K Hf v d →
  (∀ vs', RpA K Hf vs' l' → Q .non (upd H a (.lst vs'))) → r (.ref a) [v] H Q
def gAppend (l : List PyData) (d : PyData) : Option (List PyData) := if l.length < BIG then some (l ++ [d]) else none
def gExtend (l : List PyData) (d : PyData) : Option (List PyData) := match d with
  | .list ds => if l.length + ds.length ≤ BIG then some (l ++ ds) else none
  | _ => none
theorem om_append {K : PySem.W.Frag} : OwnM K rAppend gAppend := by
  intro l d l' e Hf H a vs v Q u h r rv q
  unfold gAppend at e
  split at e
  · rename_i hl
    cases e
    exact ⟨a, vs, v, rfl, rfl, h, by rw [sizeLine_eq, rpA_len r]; exact hl, q _ (rpA_app r (.cons rv .nil))⟩
  · cases e
theorem om_extend {K : PySem.W.Frag} : OwnM K rExtend gExtend := by
  intro l d l' e Hf H a vs v Q u h r rv q
  unfold gExtend at e
  split at e
  · split at e
    · rename_i hl
      cases e
      cases rv with
      | lst h1 h2 => exact ⟨a, _, vs, _, rfl, rfl, h, u _ _ h1, by rw [sizeLine_eq, rpA_len r, rpA_len h2]; exact hl, q _ (rpA_app r h2)⟩
    · cases e
  · cases e
def sMeth (i : Nat) (f : PX) (g : List PyData → PyData → Option (List PyData)) : SX := fun ρ hs => match ρ[i]? with
  | some (some (.own l)) => (match f ρ hs with
    | .ok (d, hs1) => (match g l d with
      | some l' => .nx (ρ.set i (some (.own l'))) hs1
      | none => .fail)
    | .exc c m => .exc c m
    | .fail => .fail)
  | _ => .fail
theorem meth_read {K : PySem.W.Frag} {mg : Str → Option Value} {i : Nat} {r : V → List V → Hp → VK → Prop} {g : List PyData → PyData → Option (List PyData)} (o : OwnM K r g) {D : Ends} {σ : L2.St} {H : Hp} (q : rdS K mg F (sMeth i f g) D σ H) :
    tBM K "list" r (tVar i) (tCons (rdP K mg F f) tNil) σ H (fun _ H1 => D.nx σ H1) := by
  obtain ⟨ah, Hf, ρ, hs, s, q⟩ := q
  cases e0 : ρ[i]? with
  | none => simp only [sMeth, e0] at q; exact q.elim
  | some o' =>
    cases o' with
    | none => simp only [sMeth, e0] at q; exact q.elim
    | some sv =>
      cases sv with
      | own l =>
        obtain ⟨v, e1, a, vs, rfl, q2, q3, q4, q5, q6⟩ := s.slot i _ e0
        refine ⟨.ref a, e1, .inl ⟨rfl, vs, SqL.of q5⟩, ah, Hf, ρ, hs, s, ?_⟩
        cases e2 : f ρ hs with
        | fail => simp only [sMeth, e0, e2] at q; exact q.elim
        | exc c m =>
          simp only [sMeth, e0, e2] at q
          exact SExc.ex s q
        | ok p =>
          obtain ⟨d, hs1⟩ := p
          simp only [sMeth, e0, e2] at q
          intro v Hf1 H1 x1 rv
          have s1' := s.ex x1
          obtain ⟨v', e1', a', vs', ev, q2', q3', q4', q5', q6'⟩ := s1'.slot i _ e0
          rw [e1] at e1'
          have e1' := Option.some.inj (Option.some.inj e1')
          rw [← e1'] at ev
          cases ev
          cases e3 : g l d with
          | none => simp only [e3] at q; exact q.elim
          | some l' =>
            simp only [e3] at q
            exact o l d l' e3 Hf1 H1 a vs' v _ s1'.up q5' q6' rv fun vs'' rr => q ah Hf1 _ σ x1.sub (s1'.own e0 e1 rr)
      | _ => simp only [sMeth, e0] at q; exact q.elim
theorem ls_append {i : Nat} {y : Str} {py apos cpos : Pos} (hN : X.N[i]? = some y) (hv : Vis X.env.scope y) (he : LP X F e f) (hd : (y == ("__debug__" : Str)) = false := by decide) (hcd : (y == ("__classdict__" : Str)) = false := by decide)
    (hbase : attributeBase (.Name y py) "append" X.env (eval (.Name y py) X.env) = eval (.Name y py) X.env := by rfl)
    (hfew : ((backTo cpos (starEach [e] X.env)).all (fun x => !x.1) && (backToKw cpos (keywordEach [] X.env)).all (fun x => x.1.isSome)
      && decide ([e].length + ([] : List Keyword).length + (if ([] : List Keyword).isEmpty then 0 else 1) < 30)) = true := by rfl)
    (hline : (apos.endLine == cpos.line) = true := by rfl) (hs : starEach [e] X.env = (false, eval e X.env) :: starEach [] X.env := by rfl) (hplain : (backTo cpos (starEach [] X.env)).any (·.1) = false := by rfl)
    (hsw : swapsWith (.Call (.Attribute (.Name y py) "append" apos) [e] [] cpos) none pos.line X.env = pure false := by rfl) :
    LS X F (.Expr (.Call (.Attribute (.Name y py) "append" apos) [e] [] cpos) pos) (sMeth i f gAppend) :=
  ⟨ps_mono (ps_expr (pe_bm PySem.F.plainAttrs_list PySem.F.slot_list_append PySem.F.type_list_append mt_append (pe_var hN hv hd hcd) (pa_cons he.pe pa_nil hs) hbase hfew hline hs hplain) hsw) fun D σ H q => meth_read om_append q⟩
theorem ls_extend {i : Nat} {y : Str} {py apos cpos : Pos} (hN : X.N[i]? = some y) (hv : Vis X.env.scope y) (he : LP X F e f) (hd : (y == ("__debug__" : Str)) = false := by decide) (hcd : (y == ("__classdict__" : Str)) = false := by decide)
    (hbase : attributeBase (.Name y py) "extend" X.env (eval (.Name y py) X.env) = eval (.Name y py) X.env := by rfl)
    (hfew : ((backTo cpos (starEach [e] X.env)).all (fun x => !x.1) && (backToKw cpos (keywordEach [] X.env)).all (fun x => x.1.isSome)
      && decide ([e].length + ([] : List Keyword).length + (if ([] : List Keyword).isEmpty then 0 else 1) < 30)) = true := by rfl)
    (hline : (apos.endLine == cpos.line) = true := by rfl) (hs : starEach [e] X.env = (false, eval e X.env) :: starEach [] X.env := by rfl) (hplain : (backTo cpos (starEach [] X.env)).any (·.1) = false := by rfl)
    (hsw : swapsWith (.Call (.Attribute (.Name y py) "extend" apos) [e] [] cpos) none pos.line X.env = pure false := by rfl) :
    LS X F (.Expr (.Call (.Attribute (.Name y py) "extend" apos) [e] [] cpos) pos) (sMeth i f gExtend) :=
  ⟨ps_mono (ps_expr (pe_bm PySem.F.plainAttrs_list PySem.F.slot_list_extend PySem.F.type_list_extend mt_extend (pe_var hN hv hd hcd) (pa_cons he.pe pa_nil hs) hbase hfew hline hs hplain) hsw) fun D σ H q => meth_read om_extend q⟩
/-- target = x.pop() of an own list -/
def sPop (i : Nat) (T : Tg) : SX := fun ρ hs => match ρ[i]? with
  | some (some (.own l)) => (match l.getLast? with
    | some d => (match tgPut T d (ρ.set i (some (.own l.dropLast))) with
      | some ρ1 => .nx ρ1 hs
      | none => .fail)
    | none => .fail)
  | _ => .fail
theorem ls_pop {i : Nat} {y : Str} {py apos cpos : Pos} {tg : Expr} {T : Tg} (hN : X.N[i]? = some y) (hv : Vis X.env.scope y) (hg : PG X tg (gOf X.K T)) (hd : (y == ("__debug__" : Str)) = false := by decide) (hcd : (y == ("__classdict__" : Str)) = false := by decide)
    (hbase : attributeBase (.Name y py) "pop" X.env (eval (.Name y py) X.env) = eval (.Name y py) X.env := by rfl) (hline : (apos.endLine == cpos.line) = true := by rfl)
    (hs : swapsWithSole [tg] (.Call (.Attribute (.Name y py) "pop" apos) [] [] cpos) pos.line X.env = pure false := by rfl) (hw : swappedStores [tg] (.Call (.Attribute (.Name y py) "pop" apos) [] [] cpos) X.env = pure none := by rfl)
    (h1 : (assignEach [tg] X.env).map (·.2) = [assign tg X.env] := by rfl) : LS X F (.Assign [tg] (.Call (.Attribute (.Name y py) "pop" apos) [] [] cpos) pos) (sPop i T) := by
  refine ⟨ps_mono (ps_asg (pe_bm0 PySem.F.plainAttrs_list PySem.F.slot_list_pop PySem.F.type_list_pop mt_pop (pe_var hN hv hd hcd) hbase hline) hg hs hw h1) fun D σ H q => ?_⟩
  obtain ⟨ah, Hf, ρ, hs, s, q⟩ := q
  cases e0 : ρ[i]? with
  | none => simp only [sPop, e0] at q; exact q.elim
  | some o' =>
    cases o' with
    | none => simp only [sPop, e0] at q; exact q.elim
    | some sv =>
      cases sv with
      | own l =>
        obtain ⟨v, e1, a, vs, rfl, q2, q3, q4, q5, q6⟩ := s.slot i _ e0
        simp only [sPop, e0] at q
        cases e2 : l.getLast? with
        | none => simp only [e2] at q; exact q.elim
        | some d =>
          simp only [e2] at q
          cases e3 : tgPut T d (ρ.set i (some (.own l.dropLast))) with
          | none => simp only [e3] at q; exact q.elim
          | some ρ1 =>
            simp only [e3] at q
            have e2' : l[l.length - 1]? = some d := by rw [← List.getLast?_eq_getElem?]; exact e2
            obtain ⟨w, g1, g2⟩ := rpA_get q6 e2'
            refine ⟨.ref a, e1, .inl ⟨rfl, vs, SqL.of q5⟩, a, vs, w, rfl, rfl, q5, by rw [rpA_len q6]; exact g1, ?_⟩
            have rd : RpA X.K Hf vs.dropLast l.dropLast := by
              rw [List.dropLast_eq_take, List.dropLast_eq_take, rpA_len q6]
              exact rpA_take _ q6
            exact tg_ok T d w σ _ ρ1 _ (s.own e0 e1 rd) g2 e3 fun σ' s' _ _ => q ah Hf _ σ' (.refl _) s'
      | _ => simp only [sPop, e0] at q; exact q.elim

/-! ## loops -/
def forGo (T : Tg) (body : SX) : List PyData → SX
  | [], ρ, hs => .nx ρ hs
  | d :: ds, ρ, hs => match tgPut T d ρ with
    | none => .fail
    | some ρ1 => match body ρ1 hs with
      | .nx ρ2 hs2 => forGo T body ds ρ2 hs2
      | .rt d hs1 => .rt d hs1
      | .exc c m => .exc c m
      | .fail => .fail
def sFor (fi : AX) (T : Tg) (body : SX) : SX := fun ρ hs => match fi ρ hs with
  | .ok (items, hs1) => forGo T body items ρ hs1
  | .exc c m => .exc c m
  | .fail => .fail
theorem ls_for {iter tg : Expr} {T : Tg} {fi : AX} {body : List Stmt} {sb : SX} (C : Cs X F k) (hi : LI X F tg iter fi) (hg : PG X tg (gOf X.K T)) (hb : LSs X F body sb) (hs : ∀ x, foldedSetIterable iter X.env x = pure x := by intro _; rfl) :
    LS X F (.For tg iter body [] pos) (sFor fi T sb) := by
  refine ⟨ps_mono (ps_for C.po C.z.calm hi.pi hg hb.ps hs) fun D σ H q => ?_⟩
  obtain ⟨ah, Hf, ρ, hs, s, q⟩ := q
  refine ⟨ah, Hf, ρ, hs, s, ?_⟩
  cases e1 : fi ρ hs with
  | fail => simp only [sFor, e1] at q; exact q.elim
  | exc c m =>
    simp only [sFor, e1] at q
    exact SExc.ex s q
  | ok p =>
    obtain ⟨items, hs1⟩ := p
    simp only [sFor, e1] at q
    intro J Hf1 H1 x1 S
    obtain ⟨G, Y, wk, hG, hY⟩ := S.at
    refine for_it wk (fun i σc Hc => ∃ ahc Hfc ρc hsc, SR X.K X.mg F ahc Hfc Hc σc ρc hsc ∧ Sub Hf1 Hfc ∧ SPost X.K X.mg F D Hfc (forGo T sb (items.drop i) ρc hsc)) ?_ ?_ ?_ ?_
    · exact ⟨ah, Hf1, ρ, hs1, s.ex x1, .refl _, q.mono x1.sub⟩
    · rintro i σc Hc _ ⟨ahc, Hfc, ρc, hsc, sc, su, _⟩
      exact hG Hc (su.trans sc.up)
    · rintro i x σc Hc H' hi ⟨ahc, Hfc, ρc, hsc, sc, su, qc⟩ y
      obtain ⟨Hf', gr, rx⟩ := hY i Hfc Hc x H' items[i] (List.getElem?_eq_getElem hi) su sc.up (su.trans sc.up) y
      rw [List.drop_eq_getElem_cons hi] at qc
      unfold forGo at qc
      cases ep : tgPut T items[i] ρc with
      | none => simp only [ep] at qc; exact qc.elim
      | some ρ1 =>
        simp only [ep] at qc
        have s2 := sc.ex (gr.ex sc.hand)
        refine tg_ok T items[i] x σc ρc ρ1 _ s2 rx ep fun σ2 s3 _ _ => ?_
        refine ⟨ahc, Hf', ρ1, hsc, s3, ?_⟩
        cases eb : sb ρ1 hsc with
        | fail => simp only [eb] at qc; exact qc
        | exc c m => simp only [eb] at qc; exact qc
        | rt d hs' => simp only [eb] at qc; exact qc
        | nx ρ2 hs2 =>
          simp only [eb] at qc
          intro ah' Hf'' H'' σ' u s'
          exact ⟨ah', Hf'', ρ2, hs2, s', su.trans (gr.sub.trans u), qc.mono (gr.sub.trans u)⟩
    · rintro σc Hc ⟨ahc, Hfc, ρc, hsc, sc, su, qc⟩
      rw [List.drop_length] at qc
      unfold forGo at qc
      exact qc ahc Hfc Hc σc (.refl _) sc
/-- while, with so many turns at most -/
def whileGo (t : TX) (body : SX) : Nat → SX
  | 0, _, _ => .fail
  | n + 1, ρ, hs => match t ρ hs with
    | .ok (b, hs1) => if b = true then (match body ρ hs1 with
      | .nx ρ2 hs2 => whileGo t body n ρ2 hs2
      | .rt d hs1 => .rt d hs1
      | .exc c m => .exc c m
      | .fail => .fail) else .nx ρ hs1
    | .exc c m => .exc c m
    | .fail => .fail
def FUEL : Nat := 100000
def sWhile (t : TX) (body : SX) : SX := whileGo t body FUEL
theorem ls_while {body : List Stmt} {sb : SX} (C : Cs X F k) (hc : LT X F c t) (hb : LSs X F body sb) : LS X F (.While c body [] pos) (sWhile t sb) := by
  refine ⟨ps_mono (ps_while C.po hc.pt hb.ps) fun D σ H q => ?_⟩
  obtain ⟨ah, Hf, ρ, hs, s, q⟩ := q
  refine ⟨fun m σc Hc => ∃ ahc Hfc ρc hsc, SR X.K X.mg F ahc Hfc Hc σc ρc hsc ∧ SPost X.K X.mg F D Hfc (whileGo t sb m ρc hsc), ⟨FUEL, ah, Hf, ρ, hs, s, q⟩, ?_⟩
  rintro m σc Hc ⟨ahc, Hfc, ρc, hsc, sc, qc⟩
  refine ⟨ahc, Hfc, ρc, hsc, sc, ?_⟩
  cases m with
  | zero => unfold whileGo at qc; exact qc.elim
  | succ m =>
    unfold whileGo at qc
    cases e1 : t ρc hsc with
    | fail => simp only [e1] at qc; exact qc.elim
    | exc c m =>
      simp only [e1] at qc
      exact SExc.ex sc qc
    | ok p =>
      obtain ⟨b, hs1⟩ := p
      intro Hf1 H1 x1
      have s1' := sc.ex x1
      simp only [e1] at qc
      cases b with
      | false =>
        simp only [Bool.false_eq_true, if_false] at qc ⊢
        exact qc ahc Hf1 H1 σc x1.sub s1'
      | true =>
        simp only [if_true] at qc ⊢
        refine ⟨fun σ' H' => ∃ ahc Hfc ρc hsc, SR X.K X.mg F ahc Hfc H' σ' ρc hsc ∧ SPost X.K X.mg F D Hfc (whileGo t sb m ρc hsc), fun σ' H' h => ⟨m, Nat.lt_succ_self m, h⟩, ahc, Hf1, ρc, hs1, s1', ?_⟩
        cases eb : sb ρc hs1 with
        | fail => simp only [eb] at qc; exact qc
        | exc c m => simp only [eb] at qc; exact qc
        | rt d hs' => simp only [eb] at qc; exact qc
        | nx ρ2 hs2 =>
          simp only [eb] at qc
          intro ah' Hf'' H'' σ' u s'
          exact ⟨ah', Hf'', ρ2, hs2, s', qc.mono (x1.sub.trans u)⟩
end
end L3
namespace L3
open PySem PySem.Spec PyProof.Rows L2

/-! ## what a def promises -/
def ArgOk (K : PySem.W.Frag) (mg : Str → Option Value) (ah : Option Addr) (Hf : Hp) (v : V) : SV → Prop
  | .val d => Rp K Hf v d
  | .own _ => False
  | .hand => ∃ a, ah = some a ∧ v = .ref a
  | .fn x => ∃ f, mg x = some (.ref f) ∧ v = .ref f
  | .scr l => ∃ a, v = .ref a ∧ SqL K Hf a (l.map V.int)
inductive ArgAll (K : PySem.W.Frag) (mg : Str → Option Value) (ah : Option Addr) (Hf : Hp) : List V → List SV → Prop
  | nil : ArgAll K mg ah Hf [] []
  | cons {v : V} {vs : List V} {sv : SV} {svs : List SV} : ArgOk K mg ah Hf v sv → ArgAll K mg ah Hf vs svs → ArgAll K mg ah Hf (v :: vs) (sv :: svs)
section
variable {K : PySem.W.Frag} {mg : Str → Option Value} {ah : Option Addr} {Hf Hf' : Hp}
theorem ArgOk.mono {v : V} {sv : SV} (u : Sub Hf Hf') (h : ArgOk K mg ah Hf v sv) : ArgOk K mg ah Hf' v sv := by
  cases sv with
  | val d => exact u.rp h
  | own l => exact h
  | hand => exact h
  | fn x => exact h
  | scr l =>
    obtain ⟨a, e, q⟩ := h
    exact ⟨a, e, sqL_mono u q⟩
theorem ArgAll.len : ∀ {vs : List V} {svs : List SV}, ArgAll K mg ah Hf vs svs → vs.length = svs.length
  | _, _, .nil => rfl
  | _, _, .cons _ t => by simp [ArgAll.len t]
theorem ArgAll.get : ∀ {vs : List V} {svs : List SV} {i : Nat} {sv : SV}, ArgAll K mg ah Hf vs svs → svs[i]? = some sv → ∃ v, vs[i]? = some v ∧ ArgOk K mg ah Hf v sv
  | _, _, _, _, .nil, e => by simp at e
  | _, _, 0, sv, .cons h t, e => by simp at e; subst e; exact ⟨_, rfl, h⟩
  | _, _, i + 1, sv, .cons h t, e => by
    obtain ⟨v, h1, h2⟩ := ArgAll.get (i := i) (sv := sv) t (by simpa using e)
    exact ⟨v, by simpa using h1, h2⟩
def noHand : SV → Bool
  | .hand => false
  | _ => true
theorem ArgAll.off : ∀ {vs : List V} {svs : List SV}, ArgAll K mg ah Hf vs svs → svs.all noHand = true → ArgAll K mg none Hf vs svs
  | _, _, .nil, _ => .nil
  | _, _, .cons (sv := sv) h t, e => by
    rw [List.all_cons, Bool.and_eq_true] at e
    refine .cons ?_ (ArgAll.off t e.2)
    cases sv with
    | hand => exact absurd e.1 (by simp [noHand])
    | _ => exact h
end
def spX (K : PySem.W.Frag) (mg : Str → Option Value) (n : Nat) (g : FX) : Sp := fun vs H Q E => ∃ ah Hf hs svs, vs.length = n ∧ ArgAll K mg ah Hf vs svs ∧ Sub Hf H ∧ HandOk K ah Hf H hs ∧ match g svs hs with
  | .ok (d, hs') => ∀ v Hf' H', Ex K ah Hf H Hf' H' hs' → Rp K Hf' v d → Q v H'
  | .exc c m => ∀ C dx H', mg c = some (.ref C) → (∀ a o, H a = some o → ah ≠ some a → H' a = some o) → ExcAt K H' dx m → E (.ref C) dx H'
  | .fail => False
/-- a def of the module, at level k, as a function on data -/
structure Df (P : Program) (w : World) (K : PySem.W.Frag) (mg : Str → Option Value) (base : Heap) (k : Nat) (x : Str) (n : Nat) (g : FX) : Prop where
  ex : ∃ f fd ps, FnOk P w K mg base (L2.CX P w) k f fd ps (spX K mg n g) ∧ mg x = some (.ref f) ∧ PySem.W.keepIn K (.ref f) = true ∧ Binds K fd ps []

/-! ## arguments -/
abbrev GX := Rho → HSt → Res (List SV × HSt)
def rdG (K : PySem.W.Frag) (mg : Str → Option Value) (F : Fx) (f : GX) : TA := fun σ H Q => ∃ ah Hf ρ hs, SR K mg F ah Hf H σ ρ hs ∧ match f ρ hs with
  | .ok (svs, hs') => ∀ vs Hf' H', Ex K ah Hf H Hf' H' hs' → ArgAll K mg ah Hf' vs svs → Q vs H'
  | .exc c m => ExW K mg ah (fun C dx H' => F.W C dx σ H') H c m
  | .fail => False
structure LG (X : Cx) (F : Fx) (es : List Expr) (f : GX) : Prop where
  pa : PA X es (rdG X.K X.mg F f)
def gNilX : GX := fun _ hs => .ok ([], hs)
def gConsP (f : PX) (g : GX) : GX := fun ρ hs => (f ρ hs).bind fun (d, hs1) => (g ρ hs1).bind fun (ds, hs2) => .ok (.val d :: ds, hs2)
/-- a name handed on as it is: the hand, a def, the script -/
def gConsR (i : Nat) (g : GX) : GX := fun ρ hs => match ρ[i]? with
  | some (some .hand) => (g ρ hs).bind fun (ds, hs2) => .ok (.hand :: ds, hs2)
  | some (some (.fn x)) => (g ρ hs).bind fun (ds, hs2) => .ok (.fn x :: ds, hs2)
  | some (some (.scr l)) => (g ρ hs).bind fun (ds, hs2) => .ok (.scr l :: ds, hs2)
  | _ => .fail
/-- a def of the module handed on -/
def gConsF (x : Str) (g : GX) : GX := fun ρ hs => (g ρ hs).bind fun (ds, hs2) => .ok (.fn x :: ds, hs2)
section
variable {X : Cx} {F : Fx} {a b c e : Expr} {es : List Expr} {f f1 f2 f3 : PX} {g : GX} {pos p : Pos} {k j n : Nat} {x : Str}
theorem lg_nil : LG X F [] gNilX := by
  refine ⟨pa_mono pa_nil fun σ H Q q => ?_⟩
  obtain ⟨ah, Hf, ρ, hs, s, q⟩ := q
  exact q [] Hf H (.refl s.up s.hand) .nil
theorem lg_p (ha : LP X F e f) (hr : LG X F es g) (hs : starEach (e :: es) X.env = (false, eval e X.env) :: starEach es X.env := by rfl) : LG X F (e :: es) (gConsP f g) := by
  refine ⟨pa_mono (pa_cons ha.pe hr.pa hs) fun σ H Q q => ?_⟩
  obtain ⟨ah, Hf, ρ, hs, s, q⟩ := q
  refine ⟨ah, Hf, ρ, hs, s, ?_⟩
  cases e1 : f ρ hs with
  | fail => simp [gConsP, e1] at q
  | exc c m => simpa [gConsP, e1] using q
  | ok p =>
    obtain ⟨d, hs1⟩ := p
    intro v Hf1 H1 x1 r
    have s1 := s.ex x1
    simp only [gConsP, e1, Res.bind_ok] at q
    refine ⟨ah, Hf1, ρ, hs1, s1, ?_⟩
    cases e2 : g ρ hs1 with
    | fail => simp [e2] at q
    | exc c m =>
      simp only [e2, Res.bind_exc] at q
      exact q.after x1.keep
    | ok p2 =>
      obtain ⟨b', hs'⟩ := p2
      simp only [e2, Res.bind_ok] at q
      exact fun v' Hf' H' x r' => q _ Hf' H' (.trans s.hand x1 x) (.cons (x.sub.rp r) r')
theorem lg_raw {K : PySem.W.Frag} {mg : Str → Option Value} {sv : SV} {v : V} {σ : L2.St} {H : Hp} {Q : List V → Hp → Prop} {ah : Option Addr} {Hf : Hp} {ρ : Rho} {hs : HSt} (s : SR K mg F ah Hf H σ ρ hs) (r : ArgOk K mg ah Hf v sv)
    (q : match (g ρ hs).bind fun (ds, hs2) => Res.ok (sv :: ds, hs2) with
      | .ok (svs, hs') => ∀ vs Hf' H', Ex K ah Hf H Hf' H' hs' → ArgAll K mg ah Hf' vs svs → Q vs H'
      | .exc c m => ExW K mg ah (fun C dx H' => F.W C dx σ H') H c m
      | .fail => False) : rdG K mg F g σ H fun xs H2 => Q (v :: xs) H2 := by
  refine ⟨ah, Hf, ρ, hs, s, ?_⟩
  cases e2 : g ρ hs with
  | fail => simp [e2] at q
  | exc c m => simpa [e2] using q
  | ok p2 =>
    obtain ⟨b', hs'⟩ := p2
    simp only [e2, Res.bind_ok] at q
    exact fun v' Hf' H' x r' => q _ Hf' H' x (.cons (r.mono x.sub) r')
theorem lg_r (i : Nat) {y : Str} {py : Pos} (hr : LG X F es g) (hN : X.N[i]? = some y := by rfl) (hv : Vis X.env.scope y := by first | exact Or.inl rfl | exact Or.inr (Or.inl rfl) | exact Or.inr (Or.inr rfl)) (hd : (y == ("__debug__" : Str)) = false := by decide) (hcd : (y == ("__classdict__" : Str)) = false := by decide)
    (hs : starEach (.Name y py :: es) X.env = (false, eval (.Name y py) X.env) :: starEach es X.env := by rfl) : LG X F (.Name y py :: es) (gConsR i g) := by
  refine ⟨pa_mono (pa_cons (pe_var hN hv hd hcd) hr.pa hs) fun σ H Q q => ?_⟩
  obtain ⟨ah, Hf, ρ, hs, s, q⟩ := q
  unfold gConsR at q
  cases e0 : ρ[i]? with
  | none => simp [e0] at q
  | some o =>
    cases o with
    | none => simp [e0] at q
    | some sv =>
      obtain ⟨v, e1, r⟩ := s.slot i sv e0
      refine ⟨v, e1, ?_⟩
      cases sv with
      | val d => simp [e0] at q
      | own l => simp [e0] at q
      | hand =>
        simp only [e0] at q
        exact lg_raw s (sv := .hand) r q
      | fn x =>
        simp only [e0] at q
        exact lg_raw s (sv := .fn x) r q
      | scr l =>
        simp only [e0] at q
        exact lg_raw s (sv := .scr l) r q
theorem lg_f {y : Str} {py : Pos} {fa : Addr} (hr : LG X F es g) (hg : Gl X y) (hm : X.mg y = some (.ref fa)) (hd : (y == ("__debug__" : Str)) = false := by decide)
    (hs : starEach (.Name y py :: es) X.env = (false, eval (.Name y py) X.env) :: starEach es X.env := by rfl) : LG X F (.Name y py :: es) (gConsF y g) := by
  refine ⟨pa_mono (pa_cons (pe_glob (v := .ref fa) hg hm rfl hd) hr.pa hs) fun σ H Q q => ?_⟩
  obtain ⟨ah, Hf, ρ, hs, s, q⟩ := q
  exact lg_raw s (sv := .fn y) ⟨fa, hm, rfl⟩ q

/-! ## calls -/
def pCall (n : Nat) (h : FX) (g : GX) : PX := fun ρ hs => (g ρ hs).bind fun (svs, hs1) => if svs.length = n ∧ svs.all noHand = true then (h svs []).bind fun (d, _) => .ok (d, hs1) else .fail
def pCallH (n : Nat) (h : FX) (g : GX) : PX := fun ρ hs => (g ρ hs).bind fun (svs, hs1) => if svs.length = n then h svs hs1 else .fail
theorem lp_call {h : FX} (tk : Takes X F.W) (z : Cz X k) (G : Df X.prog X.w X.K X.mg X.base j x n h) (hj : j ≤ k) (hg : Gl X x) (ha : LG X F (e :: es) g) (hdb : (x == ("__debug__" : Str)) = false := by decide)
    (he : starEach (e :: es) X.env = (false, eval e X.env) :: starEach es X.env := by rfl) (hpl : (backTo pos (starEach es X.env)).any (·.1) = false := by rfl) : LP X F (.Call (.Name x p) (e :: es) [] pos) (pCall n h g) := by
  obtain ⟨f, fd, ps, G, hm, hk, hb⟩ := G.ex
  refine ⟨pe_mono (pe_callS (E := WE F.W) (G.mono hj) z.room hg hm hk hb (fun σ => passAt tk σ) ha.pa hdb he hpl) fun σ H Q q => ?_⟩
  obtain ⟨ah, Hf, ρ, hs, s, q⟩ := q
  refine ⟨ah, Hf, ρ, hs, s, ?_⟩
  cases e1 : g ρ hs with
  | fail => simp [pCall, e1] at q
  | exc c m => simpa [pCall, e1] using q
  | ok p =>
    obtain ⟨svs, hs1⟩ := p
    intro vs Hf1 H1 x1 r
    have s1 := s.ex x1
    simp only [pCall, e1, Res.bind_ok] at q
    by_cases hh : svs.length = n ∧ svs.all noHand = true
    · simp only [if_pos hh] at q
      refine ⟨none, Hf1, [], svs, r.len.trans hh.1, r.off hh.2, s1.up, (fun a e => nomatch e), ?_⟩
      cases e2 : h svs [] with
      | fail => simp [e2] at q
      | exc c m =>
        simp only [e2, Res.bind_exc] at q
        exact fun C dx H' h1 h2 h3 => q C dx H' h1 (fun a o ho hn => h2 a o (x1.keep a o ho hn) (fun z => nomatch z)) h3
      | ok p2 =>
        obtain ⟨d, hs2⟩ := p2
        simp only [e2, Res.bind_ok] at q
        exact fun v Hf' H' x rr => q v Hf' H' (.trans s.hand x1 (x.off s1.hand)) rr
    · simp only [if_neg hh] at q
theorem lp_callH {h : FX} (tk : Takes X F.W) (z : Cz X k) (G : Df X.prog X.w X.K X.mg X.base j x n h) (hj : j ≤ k) (hg : Gl X x) (ha : LG X F (e :: es) g) (hdb : (x == ("__debug__" : Str)) = false := by decide)
    (he : starEach (e :: es) X.env = (false, eval e X.env) :: starEach es X.env := by rfl) (hpl : (backTo pos (starEach es X.env)).any (·.1) = false := by rfl) : LP X F (.Call (.Name x p) (e :: es) [] pos) (pCallH n h g) := by
  obtain ⟨f, fd, ps, G, hm, hk, hb⟩ := G.ex
  refine ⟨pe_mono (pe_callS (E := WE F.W) (G.mono hj) z.room hg hm hk hb (fun σ => passAt tk σ) ha.pa hdb he hpl) fun σ H Q q => ?_⟩
  obtain ⟨ah, Hf, ρ, hs, s, q⟩ := q
  refine ⟨ah, Hf, ρ, hs, s, ?_⟩
  cases e1 : g ρ hs with
  | fail => simp [pCallH, e1] at q
  | exc c m => simpa [pCallH, e1] using q
  | ok p =>
    obtain ⟨svs, hs1⟩ := p
    intro vs Hf1 H1 x1 r
    have s1 := s.ex x1
    simp only [pCallH, e1, Res.bind_ok] at q
    by_cases hh : svs.length = n
    · simp only [if_pos hh] at q
      refine ⟨ah, Hf1, hs1, svs, r.len.trans hh, r, s1.up, s1.hand, ?_⟩
      cases e2 : h svs hs1 with
      | fail => simp [e2] at q
      | exc c m =>
        simp only [e2] at q
        exact fun C dx H' h1 h2 h3 => q C dx H' h1 (fun a o ho hn => h2 a o (x1.keep a o ho hn) hn) h3
      | ok p2 =>
        obtain ⟨d, hs2⟩ := p2
        simp only [e2] at q
        exact fun v Hf' H' x rr => q v Hf' H' (.trans s.hand x1 x) rr
    · simp only [if_neg hh] at q
end

/-! ## a def by its body -/
def semF (m : Nat) (body : SX) : FX := fun svs hs => match body (svs.map some ++ List.replicate (m - svs.length) none) hs with
  | .nx _ hs' => .ok (.none, hs')
  | .rt d hs' => .ok (d, hs')
  | .exc c m => .exc c m
  | .fail => .fail
theorem argSR {K : PySem.W.Frag} {mg : Str → Option Value} {ah : Option Addr} {Hf H : Hp} {hs : HSt} {vs : List V} {svs : List SV} {N : List Str} {W : WX} (r : ArgAll K mg ah Hf vs svs) (u : Sub Hf H) (hd : HandOk K ah Hf H hs) :
    SR K mg ⟨H, Hf, ah, W⟩ ah Hf H (start N vs) (svs.map some ++ List.replicate (N.length - svs.length) none) hs where
  len := by simp [L2.start, r.len]
  up := u
  base := .refl _
  fr := fun _ _ h => .inl h
  keep := fun _ _ h _ => h
  h0 := fun _ h => h
  hn := fun _ h => .inl h
  hand := hd
  slot := fun i sv e => by
    by_cases hi : i < svs.length
    · rw [List.getElem?_append_left (by simpa using hi), List.getElem?_map] at e
      have e' : svs[i]? = some sv := by
        cases q : svs[i]? with
        | none => rw [q] at e; cases e
        | some w => rw [q] at e; cases e; rfl
      obtain ⟨v, h1, h2⟩ := r.get e'
      refine ⟨v, ?_, ?_⟩
      · unfold L2.start
        rw [List.getElem?_append_left (by simpa [r.len] using hi), List.getElem?_map, h1]
        rfl
      · cases sv with
        | own l => exact h2.elim
        | _ => exact h2
    · rw [List.getElem?_append_right (by simpa using hi)] at e
      obtain ⟨h1, h2⟩ := List.getElem?_eq_some_iff.mp e
      rw [List.getElem_replicate] at h2
      cases h2
  dist := fun i j l m v e _ _ _ => by
    exfalso
    by_cases hi : i < svs.length
    · rw [List.getElem?_append_left (by simpa using hi), List.getElem?_map] at e
      have e' : svs[i]? = some (.own l) := by
        cases q : svs[i]? with
        | none => rw [q] at e; cases e
        | some w => rw [q] at e; cases e; rfl
      obtain ⟨v, h1, h2⟩ := r.get e'
      exact h2
    · rw [List.getElem?_append_right (by simpa using hi)] at e
      obtain ⟨h1, h2⟩ := List.getElem?_eq_some_iff.mp e
      rw [List.getElem_replicate] at h2
      cases h2
section
variable {P : Program} {w : World} {K : PySem.W.Frag} {mg : Str → Option Value} {base : Heap}
abbrev CxF (P : Program) (w : World) (K : PySem.W.Frag) (mg : Str → Option Value) (base : Heap) (N : List Str) (qual : Str) (st : Stmt) (f : Addr) (cdv : Value) (A : Around) (outer : List Env) (s : Shared) (H : Hp) (E : XK) : Cx :=
  cxOf (L2.CX P w) P w K mg base N qual (defScope st) f cdv A outer s H E
theorem okF {x qual : Str} {st : Stmt} {f : Addr} {fd : FuncData} {N ps : List Str} {k : Nat} {sem : SX} (Fn : Fun K x qual st f fd) (S : FnScope N ps (defScope st))
    (hb : ∀ (cdv : Value) (A : Around) (outer : List Env) (s : Shared) (H : Hp) (E : XK) (F : Fx), Cs (CxF P w K mg base N qual st f cdv A outer s H E) F k → LSs (CxF P w K mg base N qual st f cdv A outer s H E) F (defBody st) sem) :
    FnOk P w K mg base (L2.CX P w) (k + 1) f fd ps (spX K mg ps.length (semF N.length sem)) := by
  refine Fn.okX S (fun vs H Q E h => ?_) fun cdv A outer s H vs Q E hr h => ?_
  · obtain ⟨_, _, _, _, h, _⟩ := h
    exact h
  · obtain ⟨ah, Hf, hs, svs, hl, r, u, hd, q⟩ := h
    let F : Fx := ⟨H, Hf, ah, fun cls d _ H' => E cls d H'⟩
    have C : Cs (CxF P w K mg base N qual st f cdv A outer s H E) F k := ⟨⟨rfl, S.nd, hr⟩, takes_of rfl rfl rfl rfl, passes_of rfl⟩
    refine ⟨_, (hb cdv A outer s H E F C).ps, ah, Hf, _, hs, argSR (N := N) (W := F.W) r u hd, ?_⟩
    show SPost K mg F _ Hf (sem _ hs)
    unfold semF at q
    cases e : sem (svs.map some ++ List.replicate (N.length - svs.length) none) hs with
    | fail => simp only [e] at q
    | exc c m =>
      simp only [e] at q
      exact fun C dx H' σ' h1 h2 h3 => q C dx H' h1 h2 h3
    | nx ρ hs' =>
      simp only [e] at q
      intro ah' Hf' H' σ' u' s'
      have ro := s'.ro
      exact q .non Hf' H' ⟨ro.base, ro.up, ro.keep, ro.fr, ro.hand⟩ .non
    | rt d hs' =>
      simp only [e] at q
      exact fun v Hf' H' ro rr => q v Hf' H' ⟨ro.base, ro.up, ro.keep, ro.fr, ro.hand⟩ rr
theorem mkDf {x qual : Str} {st : Stmt} {f : Addr} {fd : FuncData} {N ps : List Str} {k : Nat} {sem : SX} (Fn : Fun K x qual st f fd) (S : FnScope N ps (defScope st)) (hm : mg x = some (.ref f)) (bd : Binds K fd ps [])
    (hb : ∀ (cdv : Value) (A : Around) (outer : List Env) (s : Shared) (H : Hp) (E : XK) (F : Fx), Cs (CxF P w K mg base N qual st f cdv A outer s H E) F k → LSs (CxF P w K mg base N qual st f cdv A outer s H E) F (defBody st) sem) :
    Df P w K mg base (k + 1) x ps.length (semF N.length sem) := ⟨f, fd, ps, okF Fn S hb, hm, Fn.kp, bd⟩
/-- its meaning by another function -/
theorem Df.imp {k n : Nat} {x : Str} {g g' : FX} (D : Df P w K mg base k x n g) (h : ∀ svs hs, (g' svs hs = .fail) ∨ g svs hs = g' svs hs) : Df P w K mg base k x n g' := by
  obtain ⟨f, fd, ps, G, hm, hk, hb⟩ := D.ex
  refine ⟨f, fd, ps, G.imp fun vs H Q E q => ?_, hm, hk, hb⟩
  obtain ⟨ah, Hf, hs, svs, hl, r, u, hd, q⟩ := q
  refine ⟨ah, Hf, hs, svs, hl, r, u, hd, ?_⟩
  rcases h svs hs with e | e
  · rw [e] at q; exact q.elim
  · rw [e]; exact q
theorem Df.mono {j k n : Nat} {x : Str} {g : FX} (D : Df P w K mg base j x n g) (h : j ≤ k) : Df P w K mg base k x n g := by
  obtain ⟨f, fd, ps, G, hm, hk, hb⟩ := D.ex
  exact ⟨f, fd, ps, G.mono h, hm, hk, hb⟩
end
end L3
namespace L3
open PySem PySem.Spec PyProof.Rows L2

/-! ## sorted, min, max of data -/
def tupNE : PyData → Bool
  | .tuple (_ :: _) => true
  | _ => false
def plainIt : PyData → Bool
  | .none => false
  | .tuple _ => false
  | _ => true
def alikeL (ds : List PyData) : Bool := ds.all fun d => ds.all fun e => PySem.W.alike d e
def sortOk (ds : List PyData) : Bool := alikeL ds && (ds.all tupNE || ds.all plainIt) && decide (PyData.depthAll ds ≤ 60) && decide (ds.length ≤ BIG)
def dSort (ds : List PyData) : List PyData := ds.mergeSort (PySem.W.dataLe false id)
theorem alikeL_at {ds : List PyData} (h : alikeL ds = true) {d e : PyData} (hd : d ∈ ds) (he : e ∈ ds) : PySem.W.alike d e = true :=
  List.all_eq_true.mp (List.all_eq_true.mp h d hd) e he
theorem sortOk_sortable {ds : List PyData} (h : (ds.all tupNE || ds.all plainIt) = true) : PySem.W.Sortable ds := by
  rcases Bool.or_eq_true _ _ ▸ h with h | h
  · refine .inl fun d hd => ?_
    have := List.all_eq_true.mp h d hd
    cases d with
    | tuple xs =>
      cases xs with
      | nil => cases this
      | cons x r => exact ⟨x, r, rfl⟩
    | _ => cases this
  · refine .inr fun d hd => ?_
    have := List.all_eq_true.mp h d hd
    refine ⟨fun e => ?_, fun xs e => ?_⟩ <;> subst e <;> cases this
theorem depth_mem : ∀ {ds : List PyData} {d : PyData}, d ∈ ds → d.depth ≤ PyData.depthAll ds
  | [], _, h => by cases h
  | e :: ds, d, h => by
    rw [PyData.depthAll]
    rcases List.mem_cons.mp h with q | q
    · subst q; exact Nat.le_max_left _ _
    · exact Nat.le_trans (depth_mem q) (Nat.le_max_right _ _)
theorem each_zip {K : PySem.W.Frag} {H : Hp} : ∀ {vs : List V} {ds : List PyData} {us : List Value}, RpA K H vs ds → Vals vs us → PySem.W.EachIs (fun v (b : V × PyData) => RelV b.1 v ∧ Rp K H b.1 b.2) us (vs.zip ds)
  | _, _, _, .nil, .nil => .nil
  | _, _, _, .cons r t, .cons r' t' => .cons ⟨r', r⟩ (each_zip t t')
theorem each_vals {K : PySem.W.Frag} {H : Hp} : ∀ {us : List Value} {bs : List (V × PyData)}, PySem.W.EachIs (fun v (b : V × PyData) => RelV b.1 v ∧ Rp K H b.1 b.2) us bs → Vals (bs.map (·.1)) us ∧ RpA K H (bs.map (·.1)) (bs.map (·.2))
  | _, _, .nil => ⟨.nil, .nil⟩
  | _, _, .cons ⟨a, b⟩ t => ⟨.cons a (each_vals t).1, .cons b (each_vals t).2⟩
theorem zip_snd {α β : Type} : ∀ {xs : List α} {ys : List β}, xs.length = ys.length → (xs.zip ys).map (·.2) = ys
  | [], [], _ => rfl
  | x :: xs, y :: ys, h => by simp [zip_snd (xs := xs) (ys := ys) (by simpa using h)]
  | [], _ :: _, h => by simp at h
  | _ :: _, [], h => by simp at h
def rSortD (K : PySem.W.Frag) : List V → Hp → VK → Prop := fun us H Q => ∃ (a : Addr) (vs : List V) (ds : List PyData) (Hf : Hp), us = [.ref a] ∧ H a = some (.lst vs) ∧ Sub Hf H ∧ RpA K Hf vs ds ∧ sortOk ds = true ∧
  ∀ p ws, H p = none → RpA K Hf ws (dSort ds) → Q (.ref p) (upd H p (.lst ws))
theorem dSort_zip {vs : List V} {ds : List PyData} (h : vs.length = ds.length) : ((vs.zip ds).mergeSort (PySem.W.dataLe false Prod.snd)).map (·.2) = dSort ds := by
  unfold dSort
  rw [List.map_mergeSort (r := PySem.W.dataLe false Prod.snd) (s := PySem.W.dataLe false id) (f := fun (b : V × PyData) => b.2) (fun a _ b _ => rfl), zip_snd h]
theorem cr_sortD {X : Cx} (hu : X.A.units + 64 < cLine) : CallR X (.builtin "sorted") (rSortD X.K) := by
  intro pins s σ H vs us Q I r h
  obtain ⟨a, ws, ds, Hf, rfl, ha, u, rr, ok, q⟩ := h
  obtain ⟨its, rv, hl, hz⟩ := I.list (SqL.of ha)
  rw [Vals.ref1 r]
  unfold sortOk at ok
  simp only [Bool.and_eq_true, decide_eq_true_eq] at ok
  have hlen : ws.length = ds.length := rpA_len rr
  have e := each_zip rr rv
  have e0 : (ws.zip ds).map (·.2) = ds := zip_snd hlen
  have hmem : ∀ b ∈ ws.zip ds, b.2 ∈ ds := fun b hb => by rw [← e0]; exact List.mem_map.mpr ⟨b, hb, rfl⟩
  refine PySem.W.sorted_data (R := fun v (b : V × PyData) => RelV b.1 v ∧ Rp X.K Hf b.1 b.2) (bs := ws.zip ds) (enc := Prod.snd) hl.isList e (e.mono fun v b q => ?_) ?_ ?_ ?_ ?_ fun out ho eo => ?_
  · exact Dp.reads I _ _ _ (Rp.dp _ _ (u.rp q.2)) q.1
  · intro d hd d' hd'
    rw [e0] at hd hd'
    exact alikeL_at ok.1.1.1 hd hd'
  · rw [e0]; exact sortOk_sortable ok.1.1.2
  · rw [List.length_zip, hlen, Nat.min_self, sizeLine_eq]; exact ok.2
  · intro b hb
    have := depth_mem (hmem b hb)
    omega
  · obtain ⟨v1, v2⟩ := each_vals eo
    rw [dSort_zip hlen] at v2
    obtain ⟨ep, he'⟩ := PyProof.Rows.sortedAll_at s.heap its out.toArray
    refine ⟨.ref _, upd H (s.heap.objs.size + 1) (.lst _), I.laid (t' := s.toks) (fun _ _ => PyProof.Rows.sortedAll_old) (Nat.le_succ _) ⟨?_, out, ep, v1, he'⟩, rfl, q _ _ (I.hok.fresh (Nat.le_succ _)) v2⟩
    rw [v1.length, ho, List.length_zip, hlen, Nat.min_self, sizeLine_eq]; exact ok.2
def dSorted : PyData → Res PyData
  | .list ds => if sortOk ds = true then .ok (.list (dSort ds)) else .fail
  | _ => .fail
section
variable {X : Cx} {F : Fx} {a b c e : Expr} {es : List Expr} {f f1 f2 f3 : PX} {pos p : Pos} {k : Nat} {x : Str}
theorem of_sorted : OpF1 X.K (fun v H Q => rSortD X.K [v] H Q) dSorted := by
  intro d1 d e Hf H v1 Q u b1 q
  unfold dSorted at e
  split at e
  · split at e
    · rename_i ds ok
      cases e
      obtain ⟨p1, vs, rfl, h1, r⟩ := b1.list u
      exact ⟨p1, vs, ds, Hf, rfl, h1, u, r, ok, fun p ws n rr => q p ws _ rfl n rr⟩
    · cases e
  · cases e
theorem lf_sorted (z : Cz X k) (hg : Gl X "sorted") (hm : X.mg "sorted" = none) (ha : LB X F a f1) (hs : starEach [a] X.env = (false, eval a X.env) :: starEach [] X.env := by rfl) : LF X F (.Call (.Name "sorted" p) [a] [] pos) (pop1 dSorted f1) :=
  lf_call1 (cr_sortD (by have := z.room.un; omega)) of_sorted hg hm (by decide +kernel) ha (by decide) (by decide) hs rfl

/-! min, max of a list or a tuple of alike data -/
def mmOk (ds : List PyData) : Bool := alikeL ds && ds.all (fun d => !isNone d) && decide (PyData.depthAll ds ≤ 60)
def dMinL : PyData → Res PyData
  | .list (d :: ds) => if mmOk (d :: ds) = true then .ok (PySem.W.minD d ds) else .fail
  | .tuple (d :: ds) => if mmOk (d :: ds) = true then .ok (PySem.W.minD d ds) else .fail
  | _ => .fail
def dMaxL : PyData → Res PyData
  | .list (d :: ds) => if mmOk (d :: ds) = true then .ok (PySem.W.maxD d ds) else .fail
  | .tuple (d :: ds) => if mmOk (d :: ds) = true then .ok (PySem.W.maxD d ds) else .fail
  | _ => .fail
theorem mm_alike {ds : List PyData} (h : mmOk ds = true) : PySem.W.AlikeAll ds ∧ PyData.depthAll ds ≤ 60 := by
  unfold mmOk at h
  simp only [Bool.and_eq_true, decide_eq_true_eq] at h
  refine ⟨⟨fun x hx y hy => alikeL_at h.1.1 hx hy, fun x hx e => ?_⟩, h.2⟩
  subst e
  have := List.all_eq_true.mp h.1.2 _ hx
  cases this
theorem minD_mem (d : PyData) (ds : List PyData) : PySem.W.minD d ds ∈ d :: ds := by
  unfold PySem.W.minD
  induction ds generalizing d with
  | nil => exact List.mem_cons_self
  | cons e ds ih =>
    rw [List.foldl_cons]
    split
    · have := ih e
      rcases List.mem_cons.mp this with q | q
      · rw [q]; simp
      · exact List.mem_cons_of_mem _ (List.mem_cons_of_mem _ q)
    · have := ih d
      rcases List.mem_cons.mp this with q | q
      · rw [q]; simp
      · exact List.mem_cons_of_mem _ (List.mem_cons_of_mem _ q)
theorem maxD_mem (d : PyData) (ds : List PyData) : PySem.W.maxD d ds ∈ d :: ds := by
  unfold PySem.W.maxD
  induction ds generalizing d with
  | nil => exact List.mem_cons_self
  | cons e ds ih =>
    rw [List.foldl_cons]
    split
    · have := ih e
      rcases List.mem_cons.mp this with q | q
      · rw [q]; simp
      · exact List.mem_cons_of_mem _ (List.mem_cons_of_mem _ q)
    · have := ih d
      rcases List.mem_cons.mp this with q | q
      · rw [q]; simp
      · exact List.mem_cons_of_mem _ (List.mem_cons_of_mem _ q)
/-- a member of a seq of data -/
def rPick (K : PySem.W.Frag) (g : PyData → List PyData → PyData) : List V → Hp → VK → Prop := fun us H Q => ∃ (a : Addr) (vs : List V) (d : PyData) (ds : List PyData), us = [.ref a] ∧ (SqL K H a vs ∨ SqT K H a vs) ∧ RpA K H vs (d :: ds) ∧ mmOk (d :: ds) = true ∧
  ∀ (i : Nat) v, vs[i]? = some v → (d :: ds)[i]? = some (g d ds) → Q v H
theorem pick_end {X : Cx} {pins : List (Addr × Obj)} {s : Shared} {σ : L2.St} {H : Hp} {vs : List V} {its : List Value} {d : PyData} {ds : List PyData} {y : PyData} (I : Inv X pins σ H s) (rv : Vals vs its) (r : RpA X.K H vs (d :: ds)) (ok : mmOk (d :: ds) = true) (hy : y ∈ d :: ds)
    {Q : VK} (q : ∀ (i : Nat) v, vs[i]? = some v → (d :: ds)[i]? = some y → Q v H) (i : Nat) (u : Value) (h' : Heap) (tk : Nat) (bs : List Addr) (e : its.toArray[i]? = some u) (rd : Reads h' u y bs) (hk : ∀ b o, s.heap.get? b = some o → h'.get? b = some o) :
    EP X pins σ Q u { s with heap := h', toks := tk } := by
  have e' : its[i]? = some u := by simpa using e
  have hi : i < its.length := (List.getElem?_eq_some_iff.mp e').1
  have hi2 : i < vs.length := by rw [rv.length]; exact hi
  have ev : vs[i]? = some vs[i] := List.getElem?_eq_getElem hi2
  obtain ⟨w, hw, rw'⟩ := rv.get ev
  rw [e'] at hw
  cases hw
  obtain ⟨d', hd', rd'⟩ := rpA_get' r ev
  obtain ⟨as, r1⟩ := Dp.reads I _ _ _ (Rp.dp _ _ rd') rw'
  have hmem : d' ∈ d :: ds := List.mem_of_getElem? hd'
  have := (mm_alike ok).1.1 _ hmem _ hy
  have e3 : d' = y := PySem.W.alike_unique _ _ _ _ _ this (PyProof.Rows.Reads.keeps hk r1) rd
  subst e3
  exact ⟨vs[i], H, I.kept (t' := tk) hk, rw', q i _ ev hd'⟩
theorem cr_minD {X : Cx} (hc : X.calm = true) (hu : X.A.units + 64 < cLine) : CallR X (.builtin "min") (rPick X.K PySem.W.minD) := by
  intro pins s σ H vs us Q I r h
  obtain ⟨a, ws, d, ds, rfl, ha, rr, ok, q⟩ := h
  rw [Vals.ref1 r]
  have hok := mm_alike ok
  rcases ha with ha | ha
  · obtain ⟨its, rv, hl, hz⟩ := I.list ha
    obtain ⟨as, ra⟩ := Dp.readsAll I _ _ _ (RpA.dp _ _ rr) rv
    exact PySem.W.min_list_data (I.ok.hd hc) hl.isList (by simpa using ra) hok.1 (by omega) fun i v h' tk bs e rd hk => pick_end I rv rr ok (minD_mem d ds) q i v h' tk bs e rd hk
  · obtain ⟨its, rv, hl, hz⟩ := I.tuple ha
    obtain ⟨as, ra⟩ := Dp.readsAll I _ _ _ (RpA.dp _ _ rr) rv
    exact PySem.W.min_tuple_data (I.ok.hd hc) (show s.heap.IsTuple a its.toArray from hl) (by simpa using ra) hok.1 (by omega) fun i v h' tk bs e rd hk => pick_end I rv rr ok (minD_mem d ds) q i v h' tk bs e rd hk
theorem cr_maxD {X : Cx} (hc : X.calm = true) (hu : X.A.units + 64 < cLine) : CallR X (.builtin "max") (rPick X.K PySem.W.maxD) := by
  intro pins s σ H vs us Q I r h
  obtain ⟨a, ws, d, ds, rfl, ha, rr, ok, q⟩ := h
  rw [Vals.ref1 r]
  have hok := mm_alike ok
  rcases ha with ha | ha
  · obtain ⟨its, rv, hl, hz⟩ := I.list ha
    obtain ⟨as, ra⟩ := Dp.readsAll I _ _ _ (RpA.dp _ _ rr) rv
    exact PySem.W.max_list_data (I.ok.hd hc) hl.isList (by simpa using ra) hok.1 (by omega) fun i v h' tk bs e rd hk => pick_end I rv rr ok (maxD_mem d ds) q i v h' tk bs e rd hk
  · obtain ⟨its, rv, hl, hz⟩ := I.tuple ha
    obtain ⟨as, ra⟩ := Dp.readsAll I _ _ _ (RpA.dp _ _ rr) rv
    exact PySem.W.max_tuple_data (I.ok.hd hc) (show s.heap.IsTuple a its.toArray from hl) (by simpa using ra) hok.1 (by omega) fun i v h' tk bs e rd hk => pick_end I rv rr ok (maxD_mem d ds) q i v h' tk bs e rd hk
theorem o_pick {g : PyData → List PyData → PyData} {G : PyData → Res PyData} (hG : ∀ d e, G d = .ok e → ∃ y ys, (d = .list (y :: ys) ∨ d = .tuple (y :: ys)) ∧ mmOk (y :: ys) = true ∧ e = g y ys) : Op1 X.K (fun v H Q => rPick X.K g [v] H Q) G := by
  intro d1 d e Hf H v1 Q u b1 q
  obtain ⟨y, ys, hd, ok, rfl⟩ := hG d1 d e
  rcases hd with rfl | rfl
  · obtain ⟨p1, vs, rfl, h1, r⟩ := b1.list u
    refine ⟨p1, vs, y, ys, rfl, .inl (SqL.of h1), u.rpA r, ok, fun i v h2 h3 => ?_⟩
    obtain ⟨v', h4, h5⟩ := rpA_get r h3
    rw [h2] at h4
    cases h4
    exact q v Hf H (.refl u) h5
  · obtain ⟨p1, vs, rfl, h1, r⟩ := b1.tuple
    refine ⟨p1, vs, y, ys, rfl, .inr (sqT_mono u h1), u.rpA r, ok, fun i v h2 h3 => ?_⟩
    obtain ⟨v', h4, h5⟩ := rpA_get r h3
    rw [h2] at h4
    cases h4
    exact q v Hf H (.refl u) h5
theorem lp_minL (z : Cz X k) (hg : Gl X "min") (hm : X.mg "min" = none) (ha : LB X F a f1) (hs : starEach [a] X.env = (false, eval a X.env) :: starEach [] X.env := by rfl) : LP X F (.Call (.Name "min" p) [a] [] pos) (pop1 dMinL f1) := by
  refine lp_call1 (cr_minD z.calm (by have := z.room.un; omega)) (o_pick fun d e h => ?_) hg hm (by decide +kernel) ha (by decide) (by decide) hs rfl
  unfold dMinL at h
  split at h
  · split at h
    · rename_i y ys ok
      cases h
      exact ⟨y, ys, .inl rfl, ok, rfl⟩
    · cases h
  · split at h
    · rename_i y ys ok
      cases h
      exact ⟨y, ys, .inr rfl, ok, rfl⟩
    · cases h
  · cases h
theorem lp_maxL (z : Cz X k) (hg : Gl X "max") (hm : X.mg "max" = none) (ha : LB X F a f1) (hs : starEach [a] X.env = (false, eval a X.env) :: starEach [] X.env := by rfl) : LP X F (.Call (.Name "max" p) [a] [] pos) (pop1 dMaxL f1) := by
  refine lp_call1 (cr_maxD z.calm (by have := z.room.un; omega)) (o_pick fun d e h => ?_) hg hm (by decide +kernel) ha (by decide) (by decide) hs rfl
  unfold dMaxL at h
  split at h
  · split at h
    · rename_i y ys ok
      cases h
      exact ⟨y, ys, .inl rfl, ok, rfl⟩
    · cases h
  · split at h
    · rename_i y ys ok
      cases h
      exact ⟨y, ys, .inr rfl, ok, rfl⟩
    · cases h
  · cases h
end
end L3
/-! ## enumerate of a tuple -/
namespace L3E
open PySem PySem.Spec PyProof.Rows L2
open Sem (wp)
open AutoSeq1 (wpAny_loadPart')
abbrev tIt (l : Addr) : Obj := { cls := .type "tuple_iterator", data := .fields #[.ref l, .int 0 0] }
abbrev eOb (i : Addr) : Obj := { cls := .type "enumerate", data := .fields #[.none, .bool false, .ref i, rawInt 0, .none, .none] }
theorem newT (l : Addr) (items : Array Value) : Meets (Builtin.«enumerate.__new__» ⟨[.type "enumerate", .ref l], []⟩)
    (fun _ R s => s.heap.IsTuple l items ∧ R (.ok (.ret (.ref (s.heap.push (tIt l)).objs.size))) { s with heap := (s.heap.push (tIt l)).push (eOb s.heap.objs.size) }) :=
  .of_wp fun prog w A R s h => by
    obtain ⟨hp, g, d, tk, os⟩ := s
    obtain ⟨hl, h⟩ := h
    have hsub := sub_enumerate
    obtain ⟨o, ho, hc, n, hd⟩ := id hl
    wp_walk using wpAny_loadPart' ho
    refine wpAny_stack_any fun st => wpAny_pure ?_
    split
    · rename_i c _ _ _ _ _
      cases (c == Value.type "enumerate")
      all_goals
        wp_walk using wpAny_loadPart' ho, wpAny_pyIter_tuple hl
        exact ⟨_, rfl, h⟩
    · wp_walk using wpAny_loadPart' ho, wpAny_pyIter_tuple hl
      exact ⟨_, rfl, h⟩
section
variable {prog : Program} {w : World} {A : Around} {E : Value → Shared → Prop} {s : Shared}
theorem call_enumT {l : Addr} {items : Array Value} {Q : Value → Shared → Prop} (hL : s.heap.IsTuple l items)
    (h : ∀ h', IsEnum h' (s.heap.objs.size + 1) s.heap.objs.size 0 .none → h'.IsTupleIter s.heap.objs.size l 0 → (∀ b o, s.heap.get? b = some o → h'.get? b = some o) → Q (.ref (s.heap.objs.size + 1)) { s with heap := h' }) :
    wpAny (model prog w) A (call (.type "enumerate") [.ref l]) Q E s := by
  have hz : (s.heap.push (tIt l)).objs.size = s.heap.objs.size + 1 := Heap.size_push ..
  have he : IsEnum ((s.heap.push (tIt l)).push (eOb s.heap.objs.size)) (s.heap.objs.size + 1) s.heap.objs.size 0 .none := by
    have q := Heap.get?_push_size (s.heap.push (tIt l)) (o := eOb s.heap.objs.size) rfl
    rw [hz] at q
    exact q
  have t1 := F.typeCall_enumerate_1 (.ref l)
  have t2 := F.newCall_enumerate_1 (.ref l)
  have t3 := fun obj => F.args_object_init_2 obj (.ref l)
  refine callType_new F.called_enumerate (by decide) t1 t2 t3 F.entry_enumerate_new (newT l items) ⟨hL, ?_⟩
  show _ ∧ _
  rw [hz]
  refine ⟨⟨_, he, rfl⟩, h _ he ?_ fun b o x => ?_⟩
  · exact ⟨_, Heap.get?_push_of_some _ (Heap.get?_push_size _ rfl), rfl, rfl⟩
  · exact Heap.get?_push_of_some _ (Heap.get?_push_of_some _ x)
end
/-- the tuple at a, each item in a new pair -/
def IteT (K : PySem.W.Frag) (a : Addr) : It where
  go := fun i H => ∃ (xs : List V) (x : V), SqT K H a xs ∧ xs[i]? = some x
  yld := fun i H v H' => ∃ T x, v = .ref T ∧ H T = none ∧ H' = upd H T (.tup [.int (i : Nat), x]) ∧ ∀ xs, SqT K H a xs → xs[i]? = some x
  stop := fun i H => ∃ xs : List V, SqT K H a xs ∧ xs.length ≤ i
theorem turnT {P : Program} {w : World} {K : PySem.W.Frag} {elts : List Expr} {kk : Nat} {tpos : Pos} (a e it : Addr) :
    Turn P w K (.Tuple elts kk tpos) (IteT K a) [e, it] e (fun i h => (∃ old, IsEnum h e it ((i : Nat) : Int) old) ∧ h.IsTupleIter it a i ∧ e ≠ it ∧ a ≠ it ∧ a ≠ e) where
  mem := by simp
  obj := fun i h st b hb => by
    obtain ⟨⟨old, he⟩, ⟨o, ho, hc, hd⟩, _⟩ := st
    rcases (by simpa using hb : b = e ∨ b = it) with z | z
    · rw [z]; exact ⟨_, he, fun v q => nomatch q⟩
    · rw [z]; exact ⟨o, ho, fun v q => by rw [hd] at q; cases q⟩
  keep := fun i h h' st k => by
    obtain ⟨⟨old, he⟩, hi, hne⟩ := st
    exact ⟨⟨old, k e (by simp) _ he⟩, hi.at fun o q => k it (by simp) o q, hne⟩
  item := by
    intro X hP hw hK hc i pins s σ H E I hf st hg
    subst hP hw hK
    obtain ⟨⟨old, he⟩, hit, hne, hn1, hn2⟩ := st
    obtain ⟨xs, x, hq, hx⟩ := hg
    obtain ⟨its, rv, p, hz⟩ := I.tuple hq
    obtain ⟨u, hu, ru⟩ := rv.get hx
    have p' : s.heap.IsTuple a its.toArray := p
    have hel : e < s.heap.objs.size := Heap.lt_size he
    have hil : it < s.heap.objs.size := by
      obtain ⟨_, q, _⟩ := hit
      exact Heap.lt_size q
    have hlt : i < its.toArray.size := by
      have := (List.getElem?_eq_some_iff.mp hu).1
      simpa using this
    have hd1 : X.A.in1.handled = none := I.ok.hd hc
    refine wpAny_pyNext_enum_itemD (Draws.tuple hd1 it a hn1 its.toArray) he ⟨hit, p'⟩ hlt hne ?_ fun x' h' tk hP ho st' hT hsz hk => ?_
    · simp only [List.mem_cons, List.not_mem_nil, or_false, not_or]
      exact ⟨hne, fun z => hn2 z.symm⟩
    · have eu : x' = u := by
        have : its[i]? = some x' := by simpa using hP
        rw [hu] at this
        exact (Option.some.inj this).symm
      subst eu
      refine ⟨_, rfl, wpAny_letOwnedTupleGo_enum (s := { s with heap := h', toks := tk + 1 }) ho fun h'' he' sb => ?_⟩
      have hT2 := (sb.2 _ (Nat.ne_of_gt hel)).trans hT
      have new : ObjOk X.prog X.w (upd H s.heap.objs.size (.tup [.int (i : Nat), x])) h'' s.heap.objs.size (.tup [.int (i : Nat), x]) :=
        ⟨by show 2 ≤ sizeLine; decide, [.int i tk, x'], .cons ⟨_, rfl⟩ (.cons ru .nil), ⟨_, hT2, rfl, _, rfl⟩⟩
      have I1 : Inv X pins σ (upd H s.heap.objs.size (.tup [.int (i : Nat), x])) { s with heap := h'', toks := tk + 1 } :=
        I.turnedNew (ch := [e, it]) (fun b ob hb q => by
          have h1 : b ≠ e := fun z => hb (by simp [z])
          have h2 : b ≠ it := fun z => hb (by simp [z])
          exact (sb.2 b h1).trans (hk b ob h1 h2 q)) hf (Nat.le_refl _) new
      refine ⟨.ref s.heap.objs.size, _, I1, rfl, ⟨_, x, rfl, I.hok.fresh (Nat.le_refl _), rfl, fun ys hy => ?_⟩, ⟨⟨x', ?_⟩, ?_, hne, hn1, hn2⟩, fun b hb => ?_⟩
      · rw [I.tuple_inj hy hq]; exact hx
      · have e1 : ((i + 1 : Nat) : Int) = (i : Int) + 1 := by omega
        rw [e1]
        exact he'
      · exact st'.1.at fun o q => (sb.2 it (Ne.symm hne)).trans q
      · have hb' : b < s.heap.objs.size := by
          rcases (by simpa using hb : b = e ∨ b = it) with z | z
          · rw [z]; exact hel
          · rw [z]; exact hil
        rw [upd_ne (Nat.ne_of_lt hb')]
        exact (hf b hb).1
  done := by
    intro X hP hw hK hc i pins s σ H E I hf st hg
    subst hP hw hK
    obtain ⟨⟨old, he⟩, hit, hne, hn1, hn2⟩ := st
    obtain ⟨xs, hq, hx⟩ := hg
    obtain ⟨its, rv, p, hz⟩ := I.tuple hq
    have p' : s.heap.IsTuple a its.toArray := p
    obtain ⟨f0, f1, f2, f3, f4, f5⟩ := hf it (by simp)
    have hl := rv.length
    have hd1 : X.A.in1.handled = none := I.ok.hd hc
    have D : Draws X.prog X.w X.A.in1 it [it, a] i (fun _ _ => True) (fun j h => j = i ∧ h.IsTupleIter it a i ∧ h.IsTuple a its.toArray) :=
      { live := fun _ _ st => by
          obtain ⟨_, ⟨o, ho, _⟩, _⟩ := st
          exact ⟨o, ho⟩
        frame := fun _ _ _ st hk => ⟨st.1, st.2.1.at fun o e => hk it (by simp) o e, st.2.2.at fun o e => hk a (by simp) o e⟩
        item := fun j s Q E hj st hQ => absurd hj (by rw [st.1]; exact Nat.lt_irrefl _)
        done := fun s Q E st hE => wpAny_nextOf_tuple_end hd1 st.2.1 st.2.2 (by simp; omega) hE }
    refine wpAny_pyNext_enum_endD D he ⟨rfl, hit, p'⟩ fun h' eb => ⟨rfl, ?_⟩
    exact I.turned (t' := s.toks) (fun b o hb q => eb b o hb q) f0 f1 f3 f4 f5
  self := fun A i s Q E st h => by
    obtain ⟨⟨_, he⟩, _⟩ := st
    exact wpAny_pyIter_enum he h
end L3E
namespace L3
open PySem PySem.Spec PyProof.Rows L2 L3E
def iEnumA (K : PySem.W.Frag) (ta : TA) : TI := fun σ H R => ta σ H fun vs H1 => ∃ a xs, vs = [.ref a] ∧ (xs.length ≤ sizeLine → (SqL K H1 a xs ∧ R (Ite K a) H1) ∨ (SqT K H1 a xs ∧ R (IteT K a) H1)) ∧ (SqL K H1 a xs ∨ SqT K H1 a xs)
theorem pi_enumA {X : Cx} {e : Expr} {ta : TA} {p pos tpos : Pos} {elts : List Expr} {kk : Nat} (hg : Gl X "enumerate") (hm : X.mg "enumerate" = none) (ha : PA X [e] ta) (hs : starEach [e] X.env = [(false, eval e X.env)] := by rfl) :
    PI X (.Tuple elts kk tpos) (.Call (.Name "enumerate" p) [e] [] pos) (iEnumA X.K ta) := by
  refine ⟨fun pins s σ H R I h => ?_⟩
  refine Call_ (ld_blt I hg hm boot_enumerate (PyProof.Rows.callWith_type1 (thn (ha.run pos pins s σ H _ I h) fun us s1 ⟨vs, H1, I1, r1, q1⟩ => ?_) hs rfl))
  obtain ⟨a, xs, ex, q, ho⟩ := q1
  subst ex
  cases r1 with
  | cons r rr =>
    cases rr
    cases r
    have hz : xs.length ≤ sizeLine := by
      rcases ho with ho | ho
      · obtain ⟨_, _, _, hz⟩ := I1.list ho
        exact hz
      · obtain ⟨_, _, _, hz⟩ := I1.tuple ho
        exact hz
    have fp : ∀ b ∈ [s1.heap.objs.size + 1, s1.heap.objs.size], FpOk X pins H1 b := fun b hb => by
      have hle : s1.heap.objs.size ≤ b := by
        rcases (by simpa using hb : b = s1.heap.objs.size + 1 ∨ b = s1.heap.objs.size) with z | z
        · rw [z]; exact Nat.le_add_right _ _
        · rw [z]; exact Nat.le_refl _
      exact I1.fpOk hle (I1.hok.fresh hle)
    rcases q hz with ⟨hq, q⟩ | ⟨hq, q⟩
    · obtain ⟨its, rv, p', _⟩ := I1.list hq
      refine call_enumerate_list p'.isList fun h' he hit hsz hk => wpAny_pyIter_enum he ?_
      have I2 : Inv X pins σ H1 { s1 with heap := h' } := I1.kept (t' := s1.toks) hk
      exact ⟨s1.heap.objs.size + 1, [s1.heap.objs.size + 1, s1.heap.objs.size], _, _, H1, rfl, I2, turn_enum a (s1.heap.objs.size + 1) s1.heap.objs.size, ⟨⟨.none, he⟩, hit, Nat.succ_ne_self _⟩, fp, q⟩
    · obtain ⟨its, rv, p', _⟩ := I1.tuple hq
      have p2 : s1.heap.IsTuple a its.toArray := p'
      have hlt : a < s1.heap.objs.size := by
        obtain ⟨o, ho, _⟩ := id p2
        exact Heap.lt_size ho
      refine call_enumT p2 fun h' he hit hk => wpAny_pyIter_enum he ?_
      have I2 : Inv X pins σ H1 { s1 with heap := h' } := I1.kept (t' := s1.toks) hk
      exact ⟨s1.heap.objs.size + 1, [s1.heap.objs.size + 1, s1.heap.objs.size], _, _, H1, rfl, I2, turnT a (s1.heap.objs.size + 1) s1.heap.objs.size, ⟨⟨.none, he⟩, hit, Nat.succ_ne_self _, Nat.ne_of_lt hlt, Nat.ne_of_lt (Nat.lt_succ_of_lt hlt)⟩, fp, q⟩
theorem walk_enumT {K : PySem.W.Frag} {a : Addr} {xs : List V} : Walk (IteT K a) xs.length (fun H => SqT K H a xs) (YPair (fun i => some (.int (i : Nat))) (fun i => xs[i]?)) where
  goes := fun i H hi h => ⟨xs, xs[i], h, List.getElem?_eq_getElem hi⟩
  stops := fun H h => ⟨xs, h, Nat.le_refl _⟩
  yields := fun i H x H' hi h y => by
    obtain ⟨T, z, h1, h2, h3, h4⟩ := y
    exact ⟨T, .int (i : Nat), z, h1, h2, h3, rfl, h4 xs h⟩
theorem walk_zipT {K : PySem.W.Frag} {a b : Addr} {xs ys : List V} : Walk (RZ.ItzT K a b) (min xs.length ys.length) (fun H => SqT K H a xs ∧ SqT K H b ys) (YPair (fun i => xs[i]?) (fun i => ys[i]?)) where
  goes := fun i H hi h => ⟨xs, ys, xs[i]'(by omega), ys[i]'(by omega), h.1, h.2, List.getElem?_eq_getElem _, List.getElem?_eq_getElem _⟩
  stops := fun H h => ⟨xs, ys, h.1, h.2, by omega⟩
  yields := fun i H x H' hi h y => by
    obtain ⟨T, u, v, h1, h2, h3, h4, h5⟩ := y
    exact ⟨T, u, v, h1, h2, h3, h4 xs h.1, h5 ys h.2⟩
/-- the length of what is tracked -/
theorem pa_len {X : Cx} {es : List Expr} {t : TA} (h : PA X es t) : PA X es (fun σ H Q => t σ H fun vs H1 => (∀ a xs, (SqL X.K H1 a xs ∨ SqT X.K H1 a xs) → xs.length ≤ sizeLine) → Q vs H1) := by
  refine ⟨fun pos pins s σ H Q I q => thn (h.run pos pins s σ H _ I q) fun us s1 ⟨vs, H1, I1, r1, q1⟩ => ⟨vs, H1, I1, r1, q1 fun a xs ho => ?_⟩⟩
  rcases ho with ho | ho
  · obtain ⟨_, _, _, hz⟩ := I1.list ho
    exact hz
  · obtain ⟨_, _, _, hz⟩ := I1.tuple ho
    exact hz
def enumD : Nat → List PyData → List PyData
  | _, [] => []
  | n, d :: r => .tuple [.int (n : Nat), d] :: enumD (n + 1) r
def zipD : List PyData → List PyData → List PyData
  | a :: r, b :: q => .tuple [a, b] :: zipD r q
  | _, _ => []
theorem enumD_get : ∀ {ds : List PyData} {n i : Nat} {e : PyData}, (enumD n ds)[i]? = some e → ∃ d, ds[i]? = some d ∧ e = .tuple [.int ((n + i : Nat) : Int), d]
  | [], n, i, e, h => by simp [enumD] at h
  | d :: r, n, 0, e, h => by
    simp [enumD] at h
    exact ⟨d, rfl, by rw [← h]; rfl⟩
  | d :: r, n, i + 1, e, h => by
    simp only [enumD, List.getElem?_cons_succ] at h
    obtain ⟨d', h1, h2⟩ := enumD_get h
    refine ⟨d', by simpa using h1, ?_⟩
    rw [h2, show n + 1 + i = n + (i + 1) from by omega]
theorem enumD_len : ∀ {ds : List PyData} {n : Nat}, (enumD n ds).length = ds.length
  | [], _ => rfl
  | d :: r, n => by simp [enumD, enumD_len]
theorem zipD_get : ∀ {xs ys : List PyData} {i : Nat} {e : PyData}, (zipD xs ys)[i]? = some e → ∃ a b, xs[i]? = some a ∧ ys[i]? = some b ∧ e = .tuple [a, b]
  | a :: r, b :: q, 0, e, h => by
    simp [zipD] at h
    exact ⟨a, b, rfl, rfl, h.symm⟩
  | a :: r, b :: q, i + 1, e, h => by
    simp only [zipD, List.getElem?_cons_succ] at h
    obtain ⟨c, d, h1, h2, h3⟩ := zipD_get h
    exact ⟨c, d, by simpa using h1, by simpa using h2, h3⟩
  | [], _, i, e, h => by simp [zipD] at h
  | _ :: _, [], i, e, h => by simp [zipD] at h
theorem zipD_len : ∀ {xs ys : List PyData}, (zipD xs ys).length = min xs.length ys.length
  | a :: r, b :: q => by simp [zipD, zipD_len, Nat.succ_min_succ]
  | [], _ => by simp [zipD]
  | _ :: _, [] => by simp [zipD]
/-- a new pair at each turn -/
theorem src_pair {K : PySem.W.Frag} {J : It} {Hf Hb : Hp} {G : Hp → Prop} {fx fy : Nat → Option V} {items : List PyData} (w : Walk J items.length G (YPair fx fy)) (hG : ∀ H, Sub Hb H → G H) (hz : items.length ≤ sizeLine)
    (h : ∀ i d x y, items[i]? = some d → fx i = some x → fy i = some y → ∃ a b, d = .tuple [a, b] ∧ Rp K Hf x a ∧ Rp K Hf y b) : Src K J items Hf Hb where
  ex := ⟨G, _, w, hG, fun i Hf1 H v H' d e u1 u2 _ yy => by
    obtain ⟨T, x, y, rfl, hT, rfl, h1, h2⟩ := yy
    obtain ⟨a, b, rfl, r1, r2⟩ := h i d x y e h1 h2
    exact ⟨upd Hf1 T (.tup [x, y]), .frz u2 hT, new_tup u2 hT (.cons (u1.rp r1) (.cons (u1.rp r2) .nil))⟩⟩
  len := hz
section
variable {X : Cx} {F : Fx} {tg a b c e : Expr} {es ifs elts : List Expr} {f f1 f2 f3 : PX} {fi : AX} {pos p tpos : Pos} {k kk : Nat} {x : Str}
def iEnumX (f : PX) : AX := fun ρ hs => (f ρ hs).bind fun (d, hs1) => (seqOf d).bind fun ds => .ok (enumD 0 ds, hs1)
def iZipX (f1 f2 : PX) : AX := fun ρ hs => (f1 ρ hs).bind fun (d1, hs1) => (f2 ρ hs1).bind fun (d2, hs2) => match d1, d2 with
  | .list xs, .list ys => .ok (zipD xs ys, hs2)
  | .tuple xs, .tuple ys => .ok (zipD xs ys, hs2)
  | _, _ => .fail
theorem hand_own {K : PySem.W.Frag} {mg : Str → Option Value} {ah : Option Addr} {Hf H : Hp} {σ : L2.St} {ρ : Rho} {hs : HSt} {p1 : Addr} {l : List PyData} (s : SR K mg F ah Hf H σ ρ hs) (b : Bq K Hf σ ρ (.ref p1) (.list l)) : ah ≠ some p1 := fun e => by
  rcases b with b | ⟨i, l, b1, b2, _⟩
  · cases b with
    | lst h3 _ => rw [(s.hand p1 e).1] at h3; cases h3
  · obtain ⟨v', b3, a', vs', b4, _, _, b5, _⟩ := s.slot i _ b1
    rw [b2] at b3
    have b3 := Option.some.inj (Option.some.inj b3)
    rw [← b3] at b4
    cases b4
    exact b5 e
theorem lib_enum (hg : Gl X "enumerate") (hm : X.mg "enumerate" = none) (h : LB X F a f) (hs : starEach [a] X.env = [(false, eval a X.env)] := by rfl) (hs2 : starEach [a] X.env = (false, eval a X.env) :: starEach [] X.env := by rfl) :
    LIB X F (.Tuple elts kk tpos) (.Call (.Name "enumerate" p) [a] [] pos) (iEnumX f) := by
  refine ⟨pi_mono (pi_enumA hg hm (pa_1 h hs2) hs) fun σ H R q => ?_⟩
  obtain ⟨ah, Hf, ρ, hs, s, q⟩ := q
  refine ⟨ah, Hf, ρ, hs, s, ?_⟩
  cases e1 : f ρ hs with
  | fail => simp [iEnumX, e1] at q
  | exc c m => simpa [iEnumX, e1] using q
  | ok p =>
    obtain ⟨d, hs1⟩ := p
    intro v Hf1 H1 x1 b
    have s1 := s.ex x1
    simp only [iEnumX, e1, Res.bind_ok] at q
    have item : ∀ {vs : List V} {ds : List PyData}, RpA X.K Hf1 vs ds → ∀ (i : Nat) (d : PyData) (x y : V), (enumD 0 ds)[i]? = some d → (fun i : Nat => some (V.int (i : Nat))) i = some x → (fun i : Nat => vs[i]?) i = some y → ∃ a b, d = .tuple [a, b] ∧ Rp X.K Hf1 x a ∧ Rp X.K Hf1 y b := fun r i d x y h1 h2 h3 => by
      obtain ⟨d', g1, g2⟩ := enumD_get h1
      obtain ⟨d2, g3, g4⟩ := rpA_get' r h3
      rw [g1] at g3
      cases g3
      cases h2
      exact ⟨_, _, g2, by rw [Nat.zero_add]; exact .int _, g4⟩
    cases d with
    | list ds =>
      have bp := b.p s1
      obtain ⟨p1, vs1, rfl, h1, r1⟩ := bp.list s1.up
      refine ⟨p1, vs1, rfl, fun hz => .inl ⟨SqL.of h1, q _ Hf1 H1 (fun c => if c = p1 then some (.lst vs1) else none) x1 (fun c o e => ?_) (fun c e => ?_) (src_pair (by rw [enumD_len, ← rpA_len r1]; exact walk_enum) (fun H u => SqL.of (u p1 _ (by simp))) (by rw [enumD_len, ← rpA_len r1]; exact hz) (item r1))⟩, .inl (SqL.of h1)⟩
      · by_cases z : c = p1
        · subst z
          simp only [if_true] at e
          cases e; exact h1
        · simp only [if_neg z] at e; cases e
      · by_cases z : c = p1
        · subst z; exact absurd e (hand_own s1 b)
        · simp only [if_neg z]
    | tuple ds =>
      rcases b with b | ⟨i, l, b1, b2, b3⟩
      · cases b with
        | tup h1 h2 => exact ⟨_, _, rfl, fun hz => .inr ⟨sqT_mono x1.up h1, q _ Hf1 H1 Hf1 x1 x1.up (fun a e => (x1.hand a e).1) (src_pair (by rw [enumD_len, ← rpA_len h2]; exact walk_enumT) (fun H u => sqT_mono u h1) (by rw [enumD_len, ← rpA_len h2]; exact hz) (item h2))⟩, .inr (sqT_mono x1.up h1)⟩
      · cases b3
    | _ => exact q.elim
theorem li_enum (hg : Gl X "enumerate") (hm : X.mg "enumerate" = none) (h : LP X F a f) (hs : starEach [a] X.env = [(false, eval a X.env)] := by rfl) (hs2 : starEach [a] X.env = (false, eval a X.env) :: starEach [] X.env := by rfl) :
    LI X F (.Tuple elts kk tpos) (.Call (.Name "enumerate" p) [a] [] pos) (iEnumX f) := by
  refine ⟨pi_mono (pi_enumA hg hm (pa_cons h.pe pa_nil hs2) hs) fun σ H R q => ?_⟩
  obtain ⟨ah, Hf, ρ, hs, s, q⟩ := q
  refine ⟨ah, Hf, ρ, hs, s, ?_⟩
  cases e1 : f ρ hs with
  | fail => simp [iEnumX, e1] at q
  | exc c m => simpa [iEnumX, e1] using q
  | ok p =>
    obtain ⟨d, hs1⟩ := p
    intro v Hf1 H1 x1 b
    simp only [iEnumX, e1, Res.bind_ok] at q
    have item : ∀ {vs : List V} {ds : List PyData}, RpA X.K Hf1 vs ds → ∀ (i : Nat) (d : PyData) (x y : V), (enumD 0 ds)[i]? = some d → (fun i : Nat => some (V.int (i : Nat))) i = some x → (fun i : Nat => vs[i]?) i = some y → ∃ a b, d = .tuple [a, b] ∧ Rp X.K Hf1 x a ∧ Rp X.K Hf1 y b := fun r i d x y h1 h2 h3 => by
      obtain ⟨d', g1, g2⟩ := enumD_get h1
      obtain ⟨d2, g3, g4⟩ := rpA_get' r h3
      rw [g1] at g3
      cases g3
      cases h2
      exact ⟨_, _, g2, by rw [Nat.zero_add]; exact .int _, g4⟩
    cases d with
    | list ds =>
      cases b with
      | lst h1 h2 => exact ⟨_, _, rfl, fun hz => .inl ⟨SqL.of (x1.up _ _ h1), q _ Hf1 H1 x1 (src_pair (by rw [enumD_len, ← rpA_len h2]; exact walk_enum) (fun H u => SqL.of (u _ _ h1)) (by rw [enumD_len, ← rpA_len h2]; exact hz) (item h2))⟩, .inl (SqL.of (x1.up _ _ h1))⟩
    | tuple ds =>
      cases b with
      | tup h1 h2 => exact ⟨_, _, rfl, fun hz => .inr ⟨sqT_mono x1.up h1, q _ Hf1 H1 x1 (src_pair (by rw [enumD_len, ← rpA_len h2]; exact walk_enumT) (fun H u => sqT_mono u h1) (by rw [enumD_len, ← rpA_len h2]; exact hz) (item h2))⟩, .inr (sqT_mono x1.up h1)⟩
    | _ => exact q.elim
theorem zip_item {K : PySem.W.Frag} {Hf : Hp} {vs ws : List V} {xs ys : List PyData} (r1 : RpA K Hf vs xs) (r2 : RpA K Hf ws ys) (i : Nat) (d : PyData) (x y : V) (h1 : (zipD xs ys)[i]? = some d) (h2 : (fun i : Nat => vs[i]?) i = some x) (h3 : (fun i : Nat => ws[i]?) i = some y) : ∃ a b, d = .tuple [a, b] ∧ Rp K Hf x a ∧ Rp K Hf y b := by
  obtain ⟨a, b, g1, g2, g3⟩ := zipD_get h1
  obtain ⟨a', g4, g5⟩ := rpA_get' r1 h2
  obtain ⟨b', g6, g7⟩ := rpA_get' r2 h3
  rw [g1] at g4
  cases g4
  rw [g2] at g6
  cases g6
  exact ⟨_, _, g3, g5, g7⟩
theorem lib_zip (hg : Gl X "zip") (hm : X.mg "zip" = none) (h1 : LB X F a f1) (h2 : LB X F b f2) (hs : starEach [a, b] X.env = (false, eval a X.env) :: starEach [b] X.env := by rfl) (hs2 : starEach [b] X.env = (false, eval b X.env) :: starEach [] X.env := by rfl) (hpl : (backTo pos (starEach [b] X.env)).any (·.1) = false := by rfl) :
    LIB X F (.Tuple elts kk tpos) (.Call (.Name "zip" p) [a, b] [] pos) (iZipX f1 f2) := by
  refine ⟨pi_mono (RZ.pi_zipA hg hm (pa_len (pa_cons h1.pe (pa_1 h2 hs2) hs)) hs hpl) fun σ H R q => ?_⟩
  obtain ⟨ah, Hf, ρ, hs, s, q⟩ := q
  refine ⟨ah, Hf, ρ, hs, s, ?_⟩
  cases e1 : f1 ρ hs with
  | fail => simp [iZipX, e1] at q
  | exc c m => simpa [iZipX, e1] using q
  | ok p =>
    obtain ⟨d1, hs1⟩ := p
    intro v Hf1 H1 x1 b1
    have s1 := s.ex x1
    refine ⟨ah, Hf1, ρ, hs1, s1, ?_⟩
    simp only [iZipX, e1, Res.bind_ok] at q
    cases e2 : f2 ρ hs1 with
    | fail => simp [e2] at q
    | exc c m =>
      simp only [e2, Res.bind_exc] at q
      exact q.after x1.keep
    | ok p2 =>
      obtain ⟨d2, hs2⟩ := p2
      intro v2 Hf2 H2 x2 b2
      have s2 := s1.ex x2
      simp only [e2, Res.bind_ok] at q
      have b1' := b1.mono x2.sub
      have X2 := Ex.trans s.hand x1 x2
      intro hlen
      cases d1 with
      | list xs =>
        cases d2 with
        | list ys =>
          obtain ⟨p1, vs1, rfl, g1, r1⟩ := (b1'.p s2).list s2.up
          obtain ⟨p2, vs2, rfl, g2, r2⟩ := (b2.p s2).list s2.up
          have hz := hlen p1 vs1 (.inl (SqL.of g1))
          refine ⟨p1, p2, vs1, vs2, rfl, .inl ⟨SqL.of g1, SqL.of g2, q _ Hf2 H2 (fun c => if c = p1 ∨ c = p2 then H2 c else none) X2 (fun c o e => ?_) (fun c e => ?_) (src_pair (by rw [zipD_len, ← rpA_len r1, ← rpA_len r2]; exact walk_zip rfl) (fun H u => And.intro (SqL.of (u p1 _ (by simpa using g1))) (SqL.of (u p2 _ (by simpa using g2)))) (by rw [zipD_len, ← rpA_len r1]; omega) (zip_item r1 r2))⟩⟩
          · by_cases z : c = p1 ∨ c = p2
            · simpa only [if_pos z] using e
            · simp only [if_neg z] at e; cases e
          · by_cases z : c = p1 ∨ c = p2
            · rcases z with z | z
              · subst z; exact absurd e (hand_own s2 b1')
              · subst z; exact absurd e (hand_own s2 b2)
            · simp only [if_neg z]
        | _ => exact q.elim
      | tuple xs =>
        cases d2 with
        | tuple ys =>
          obtain ⟨p1, vs1, rfl, g1, r1⟩ := (b1'.p s2).tuple
          obtain ⟨p2, vs2, rfl, g2, r2⟩ := (b2.p s2).tuple
          have hz := hlen p1 vs1 (.inr (sqT_mono s2.up g1))
          exact ⟨p1, p2, vs1, vs2, rfl, .inr ⟨sqT_mono s2.up g1, sqT_mono s2.up g2, q _ Hf2 H2 Hf2 X2 X2.up (fun a e => (X2.hand a e).1) (src_pair (by rw [zipD_len, ← rpA_len r1, ← rpA_len r2]; exact walk_zipT) (fun H u => And.intro (sqT_mono u g1) (sqT_mono u g2)) (by rw [zipD_len, ← rpA_len r1]; omega) (zip_item r1 r2))⟩⟩
        | _ => exact q.elim
      | _ => exact q.elim
theorem li_zip (hg : Gl X "zip") (hm : X.mg "zip" = none) (h1 : LP X F a f1) (h2 : LP X F b f2) (hs : starEach [a, b] X.env = (false, eval a X.env) :: starEach [b] X.env := by rfl) (hs2 : starEach [b] X.env = (false, eval b X.env) :: starEach [] X.env := by rfl) (hpl : (backTo pos (starEach [b] X.env)).any (·.1) = false := by rfl) :
    LI X F (.Tuple elts kk tpos) (.Call (.Name "zip" p) [a, b] [] pos) (iZipX f1 f2) := by
  refine ⟨pi_mono (RZ.pi_zipA hg hm (pa_len (pa_cons h1.pe (pa_cons h2.pe pa_nil hs2) hs)) hs hpl) fun σ H R q => ?_⟩
  obtain ⟨ah, Hf, ρ, hs, s, q⟩ := q
  refine ⟨ah, Hf, ρ, hs, s, ?_⟩
  cases e1 : f1 ρ hs with
  | fail => simp [iZipX, e1] at q
  | exc c m => simpa [iZipX, e1] using q
  | ok p =>
    obtain ⟨d1, hs1⟩ := p
    intro v Hf1 H1 x1 b1
    have s1 := s.ex x1
    refine ⟨ah, Hf1, ρ, hs1, s1, ?_⟩
    simp only [iZipX, e1, Res.bind_ok] at q
    cases e2 : f2 ρ hs1 with
    | fail => simp [e2] at q
    | exc c m =>
      simp only [e2, Res.bind_exc] at q
      exact q.after x1.keep
    | ok p2 =>
      obtain ⟨d2, hs2⟩ := p2
      intro v2 Hf2 H2 x2 b2
      have s2 := s1.ex x2
      simp only [e2, Res.bind_ok] at q
      have b1' := x2.sub.rp b1
      have X2 := Ex.trans s.hand x1 x2
      intro hlen
      cases d1 with
      | list xs =>
        cases d2 with
        | list ys =>
          cases b1' with
          | lst g1 r1 =>
            cases b2 with
            | lst g2 r2 =>
              have hz := hlen _ _ (.inl (SqL.of (s2.up _ _ g1)))
              exact ⟨_, _, _, _, rfl, .inl ⟨SqL.of (s2.up _ _ g1), SqL.of (s2.up _ _ g2), q _ Hf2 H2 X2 (src_pair (by rw [zipD_len, ← rpA_len r1, ← rpA_len r2]; exact walk_zip rfl) (fun H u => And.intro (SqL.of (u _ _ g1)) (SqL.of (u _ _ g2))) (by rw [zipD_len, ← rpA_len r1]; omega) (zip_item r1 r2))⟩⟩
        | _ => exact q.elim
      | tuple xs =>
        cases d2 with
        | tuple ys =>
          cases b1' with
          | tup g1 r1 =>
            cases b2 with
            | tup g2 r2 =>
              have hz := hlen _ _ (.inr (sqT_mono s2.up g1))
              exact ⟨_, _, _, _, rfl, .inr ⟨sqT_mono s2.up g1, sqT_mono s2.up g2, q _ Hf2 H2 X2 (src_pair (by rw [zipD_len, ← rpA_len r1, ← rpA_len r2]; exact walk_zipT) (fun H u => And.intro (sqT_mono u g1) (sqT_mono u g2)) (by rw [zipD_len, ← rpA_len r1]; omega) (zip_item r1 r2))⟩⟩
        | _ => exact q.elim
      | _ => exact q.elim
end
end L3
namespace L3
open PySem PySem.Spec PyProof.Rows L2

/-! ## several at once: values and new lists -/
inductive MAll (K : PySem.W.Frag) (Hf' H' : Hp) : Hp → List V → List SV → Prop
  | nil {H : Hp} : MAll K Hf' H' H [] []
  | val {H H1 : Hp} {v : V} {d : PyData} {vs : List V} {svs : List SV} : Rp K Hf' v d → (∀ a, H1 a = none → H a = none) → MAll K Hf' H' H1 vs svs → MAll K Hf' H' H (v :: vs) (.val d :: svs)
  | own {H H1 : Hp} {a : Addr} {xs : List V} {l : List PyData} {vs : List V} {svs : List SV} : H a = none → H1 a ≠ none → Hf' a = none → H' a = some (.lst xs) → RpA K Hf' xs l → (∀ b, H1 b = none → H b = none) → MAll K Hf' H' H1 vs svs → MAll K Hf' H' H (.ref a :: vs) (.own l :: svs)
theorem MAll.len {K : PySem.W.Frag} {Hf' H' : Hp} : ∀ {H : Hp} {vs : List V} {svs : List SV}, MAll K Hf' H' H vs svs → vs.length = svs.length
  | _, _, _, .nil => rfl
  | _, _, _, .val _ _ t => by simp [t.len]
  | _, _, _, .own _ _ _ _ _ _ t => by simp [t.len]
theorem MAll.tmp {K : PySem.W.Frag} {Hf' H' : Hp} {p : Addr} {o : HO} (n : H' p = none) : ∀ {H : Hp} {vs : List V} {svs : List SV}, MAll K Hf' H' H vs svs → MAll K Hf' (upd H' p o) H vs svs
  | _, _, _, .nil => .nil
  | _, _, _, .val a b t => .val a b (t.tmp n)
  | _, _, _, .own a b c d e f t => .own a b c (by rw [upd_ne (ne_of_none d n)]; exact d) e f (t.tmp n)
abbrev MX := Rho → HSt → Res (List SV × HSt)
def rdM (K : PySem.W.Frag) (mg : Str → Option Value) (F : Fx) (f : MX) : TA := fun σ H Q => ∃ ah Hf ρ hs, SR K mg F ah Hf H σ ρ hs ∧ match f ρ hs with
  | .ok (svs, hs') => ∀ vs Hf' H', Ex K ah Hf H Hf' H' hs' → MAll K Hf' H' H vs svs → Q vs H'
  | .exc c m => ExW K mg ah (fun C dx H' => F.W C dx σ H') H c m
  | .fail => False
structure LM (X : Cx) (F : Fx) (es : List Expr) (f : MX) : Prop where
  pa : PA X es (rdM X.K X.mg F f)
def mNil : MX := fun _ hs => .ok ([], hs)
def mConsP (f : PX) (g : MX) : MX := fun ρ hs => (f ρ hs).bind fun (d, hs1) => (g ρ hs1).bind fun (ds, hs2) => .ok (.val d :: ds, hs2)
def mConsF (f : PX) (g : MX) : MX := fun ρ hs => (f ρ hs).bind fun (d, hs1) => (g ρ hs1).bind fun (ds, hs2) => match d with
  | .list l => .ok (.own l :: ds, hs2)
  | _ => .fail
def setAll {α : Type} : List (Option α) → List Nat → List α → List (Option α)
  | ρ, i :: is, x :: xs => setAll (ρ.set i (some x)) is xs
  | ρ, _, _ => ρ
theorem setAll_len {α : Type} : ∀ {ρ : List (Option α)} {is : List Nat} {xs : List α}, (setAll ρ is xs).length = ρ.length
  | ρ, i :: is, x :: xs => by rw [setAll, setAll_len, List.length_set]
  | ρ, [], _ => by simp [setAll]
  | ρ, _ :: _, [] => by simp [setAll]
theorem putM {K : PySem.W.Frag} {mg : Str → Option Value} {F : Fx} {ah : Option Addr} {Hf' H' : Hp} {hs : HSt} : ∀ {H : Hp} {vs : List V} {svs : List SV} {is : List Nat} {σ : L2.St} {ρ : Rho}, MAll K Hf' H' H vs svs → SR K mg F ah Hf' H' σ ρ hs →
    (∀ (j : Nat) (m : List PyData) (a : Addr), ρ[j]? = some (some (.own m)) → σ[j]? = some (some (.ref a)) → H a ≠ none) → (∀ a, H a = none → F.H0 a = none ∧ ah ≠ some a) → (∀ i ∈ is, i < ρ.length) → is.length = svs.length → SR K mg F ah Hf' H' (setAll σ is vs) (setAll ρ is svs) hs
  | _, _, _, [], _, _, .nil, s, _, _, _, _ => s
  | _, _, _, i :: is, _, _, .nil, s, _, _, _, e => by simp at e
  | _, _, _, [], _, _, .val _ _ _, _, _, _, _, e => by simp at e
  | _, _, _, [], _, _, .own _ _ _ _ _ _ _, _, _, _, _, e => by simp at e
  | H, _, _, i :: is, σ, ρ, .val (H1 := H1) (v := v) (d := d) r u t, s, al, fr, hi, e => by
    rw [setAll, setAll]
    have hil := hi i List.mem_cons_self
    refine putM t (s.set hil r) (fun j m a e1 e2 => ?_) (fun a h => fr a (u a h)) (fun j hj => by rw [List.length_set]; exact hi j (List.mem_cons_of_mem _ hj)) (by simpa using e)
    by_cases hj : i = j
    · subst hj
      rw [List.getElem?_set_self hil] at e1
      cases e1
    · rw [List.getElem?_set_ne hj] at e1 e2
      exact fun z => al j m a e1 e2 (u a z)
  | H, _, _, i :: is, σ, ρ, .own (H1 := H1) (a := a) (xs := xs) (l := l) h1 h2 h3 h4 r u t, s, al, fr, hi, e => by
    rw [setAll, setAll]
    have hil := hi i List.mem_cons_self
    have s1 := s.put hil (sv := .own l) (v := .ref a) ⟨a, xs, rfl, h3, (fr a h1).1, (fr a h1).2, h4, r⟩ fun l' _ j m hj e1 e2 => al j m a e1 e2 h1
    refine putM t s1 (fun j m b e1 e2 => ?_) (fun b h => fr b (u b h)) (fun j hj => by rw [List.length_set]; exact hi j (List.mem_cons_of_mem _ hj)) (by simpa using e)
    by_cases hj : i = j
    · subst hj
      rw [List.getElem?_set_self (by rw [s.len]; exact hil)] at e2
      cases e2
      exact h2
    · rw [List.getElem?_set_ne hj] at e1 e2
      exact fun z => al j m b e1 e2 (u b z)
section
variable {X : Cx} {F : Fx} {a b c e : Expr} {es ifs : List Expr} {f f1 f2 f3 : PX} {g : MX} {t : TX} {s1 s2 : SX} {st : Stmt} {pos p : Pos} {k i j l : Nat} {x : Str}
theorem lm_nil : LM X F [] mNil := by
  refine ⟨pa_mono pa_nil fun σ H Q q => ?_⟩
  obtain ⟨ah, Hf, ρ, hs, s, q⟩ := q
  exact q [] Hf H (.refl s.up s.hand) .nil
theorem lm_p (ha : LP X F e f) (hr : LM X F es g) (hs : starEach (e :: es) X.env = (false, eval e X.env) :: starEach es X.env := by rfl) : LM X F (e :: es) (mConsP f g) := by
  refine ⟨pa_mono (pa_cons ha.pe hr.pa hs) fun σ H Q q => ?_⟩
  obtain ⟨ah, Hf, ρ, hs, s, q⟩ := q
  refine ⟨ah, Hf, ρ, hs, s, ?_⟩
  cases e1 : f ρ hs with
  | fail => simp [mConsP, e1] at q
  | exc c m => simpa [mConsP, e1] using q
  | ok p =>
    obtain ⟨d, hs1⟩ := p
    intro v Hf1 H1 x1 r
    have s1 := s.ex x1
    simp only [mConsP, e1, Res.bind_ok] at q
    refine ⟨ah, Hf1, ρ, hs1, s1, ?_⟩
    cases e2 : g ρ hs1 with
    | fail => simp [e2] at q
    | exc c m =>
      simp only [e2, Res.bind_exc] at q
      exact q.after x1.keep
    | ok p2 =>
      obtain ⟨b', hs'⟩ := p2
      simp only [e2, Res.bind_ok] at q
      exact fun v' Hf' H' x r' => q _ Hf' H' (.trans s.hand x1 x) (.val (x.sub.rp r) (fun a n => x1.free s.hand n) r')
theorem lm_f (ha : LF X F e f) (hr : LM X F es g) (hs : starEach (e :: es) X.env = (false, eval e X.env) :: starEach es X.env := by rfl) : LM X F (e :: es) (mConsF f g) := by
  refine ⟨pa_mono (pa_cons ha.pe hr.pa hs) fun σ H Q q => ?_⟩
  obtain ⟨ah, Hf, ρ, hs, s, q⟩ := q
  refine ⟨ah, Hf, ρ, hs, s, ?_⟩
  cases e1 : f ρ hs with
  | fail => simp [mConsF, e1] at q
  | exc c m => simpa [mConsF, e1] using q
  | ok p =>
    obtain ⟨d, hs1⟩ := p
    intro v Hf1 H1 x1 r
    have s1 := s.ex x1
    simp only [mConsF, e1, Res.bind_ok] at q
    refine ⟨ah, Hf1, ρ, hs1, s1, ?_⟩
    cases e2 : g ρ hs1 with
    | fail => simp [e2] at q
    | exc c m =>
      simp only [e2, Res.bind_exc] at q
      exact q.after x1.keep
    | ok p2 =>
      obtain ⟨b', hs'⟩ := p2
      simp only [e2, Res.bind_ok] at q
      obtain ⟨a, xs, l, rfl, rfl, n, nf, ha, rr⟩ := r
      intro v' Hf' H' x r'
      have na : ah ≠ some a := fun z => by
        obtain ⟨_, ws, h2, _⟩ := s.hand a z
        rw [n] at h2; cases h2
      refine q _ Hf' H' (.trans s.hand x1 x) (.own (H1 := H1) n (by rw [ha]; exact fun z => nomatch z) ?_ (x.keep a _ ha na) (x.sub.rpA rr) (fun b n => x1.free s.hand n) r')
      cases z : Hf' a with
      | none => rfl
      | some o =>
        rcases x.new a o z with z1 | z1
        · rw [nf] at z1; cases z1
        · rw [ha] at z1; cases z1
def sPar (is : List Nat) (f : MX) : SX := fun ρ hs => match f ρ hs with
  | .ok (svs, hs1) => if is.length = svs.length ∧ is.all (fun i => decide (i < ρ.length)) = true then .nx (setAll ρ is svs) hs1 else .fail
  | .exc c m => .exc c m
  | .fail => .fail
theorem par_read {K : PySem.W.Frag} {mg : Str → Option Value} {is : List Nat} {D : Ends} {σ : L2.St} {H : Hp} (q : rdS K mg F (sPar is g) D σ H) : rdM K mg F g σ H (fun vs H1 => vs.length = is.length ∧ D.nx (setAll σ is vs) H1) := by
  obtain ⟨ah, Hf, ρ, hs, s, q⟩ := q
  refine ⟨ah, Hf, ρ, hs, s, ?_⟩
  cases e1 : g ρ hs with
  | fail => simp only [sPar, e1] at q; exact q.elim
  | exc c m =>
    simp only [sPar, e1] at q
    exact SExc.ex s q
  | ok p =>
    obtain ⟨svs, hs1⟩ := p
    simp only [sPar, e1] at q
    intro vs Hf1 H1 x1 r
    by_cases hl : is.length = svs.length ∧ is.all (fun i => decide (i < ρ.length)) = true
    · simp only [if_pos hl] at q
      refine ⟨by rw [r.len, hl.1], q ah Hf1 H1 _ x1.sub (putM r (s.ex x1) (fun j m a e1 e2 => ?_) (fun a n => ?_) (fun i hi => by simpa using List.all_eq_true.mp hl.2 i hi) hl.1)⟩
      · obtain ⟨v, e3, b, ws, q1, _, _, _, q5, _⟩ := s.slot j _ e1
        rw [e2] at e3
        have e3 := Option.some.inj (Option.some.inj e3)
        rw [q1] at e3
        cases e3
        rw [q5]
        exact fun z => nomatch z
      · have na : ah ≠ some a := fun z => by
          obtain ⟨_, ws, h2, _⟩ := s.hand a z
          rw [n] at h2; cases h2
        refine ⟨?_, na⟩
        cases q : F.H0 a with
        | none => rfl
        | some o =>
          by_cases e : F.ah0 = some a
          · exact absurd (s.h0 a e) na
          · rw [s.keep a o q e] at n; cases n
    · simp only [if_neg hl] at q
      exact q.elim
/-- x, y = a, b: the pair is never built -/
theorem ls_par2 {x y : Str} {px py pt : Pos} {kt k2 : Nat} {pt2 : Pos} (z : Cz X k) (hi : X.N[i]? = some x) (hj : X.N[j]? = some y) (hij : i ≠ j) (hx : X.env.scope.names.lookup x = some .local) (hy : X.env.scope.names.lookup y = some .local) (ha : LM X F [a, b] g)
    (hw : swappedStores [.Tuple [.Name x px, .Name y py] kt pt] (.Tuple [a, b] k2 pt2) X.env = pure (some [x, y]))
    (hs : swapsWithSole [.Tuple [.Name x px, .Name y py] kt pt] (.Tuple [a, b] k2 pt2) pos.line X.env = pure false := by rfl) :
    LS X F (.Assign [.Tuple [.Name x px, .Name y py] kt pt] (.Tuple [a, b] k2 pt2) pos) (sPar [i, j] g) := by
  refine ⟨ps_mono (ps_par z.calm z.nd hi hj hij hx hy ha.pa hw hs) fun D σ H q => ?_⟩
  obtain ⟨ah, Hf, ρ, hs, s, q⟩ := par_read q
  refine ⟨ah, Hf, ρ, hs, s, ?_⟩
  split at q
  · rename_i svs hs1 e1
    intro vs Hf1 H1 x1 r
    obtain ⟨hl, q⟩ := q vs Hf1 H1 x1 r
    match vs, hl, q with
    | [u, v], _, q => exact ⟨u, v, rfl, q⟩
  · exact q
  · exact q
theorem ls_par3 {x y w : Str} {px py pw pt : Pos} {kt k2 : Nat} {pt2 : Pos} (z : Cz X k) (hi : X.N[i]? = some x) (hj : X.N[j]? = some y) (hl : X.N[l]? = some w) (hij : i ≠ j) (hil : i ≠ l) (hjl : j ≠ l) (hx : X.env.scope.names.lookup x = some .local) (hy : X.env.scope.names.lookup y = some .local) (hz : X.env.scope.names.lookup w = some .local) (ha : LM X F [a, b, c] g)
    (hw : swappedStores [.Tuple [.Name x px, .Name y py, .Name w pw] kt pt] (.Tuple [a, b, c] k2 pt2) X.env = pure (some [x, y, w]))
    (hs : swapsWithSole [.Tuple [.Name x px, .Name y py, .Name w pw] kt pt] (.Tuple [a, b, c] k2 pt2) pos.line X.env = pure false := by rfl) :
    LS X F (.Assign [.Tuple [.Name x px, .Name y py, .Name w pw] kt pt] (.Tuple [a, b, c] k2 pt2) pos) (sPar [i, j, l] g) := by
  refine ⟨ps_mono (ps_par3 z.calm z.nd hi hj hl hij hil hjl hx hy hz ha.pa hw hs) fun D σ H q => ?_⟩
  obtain ⟨ah, Hf, ρ, hs, s, q⟩ := par_read q
  refine ⟨ah, Hf, ρ, hs, s, ?_⟩
  split at q
  · rename_i svs hs1 e1
    intro vs Hf1 H1 x1 r
    obtain ⟨hl, q⟩ := q vs Hf1 H1 x1 r
    match vs, hl, q with
    | [u, v, w], _, q => exact ⟨u, v, w, rfl, q⟩
  · exact q
  · exact q
theorem gNames {K : PySem.W.Frag} : ∀ {is : List Nat} {vs : List V} {σ : L2.St} {H : Hp} {Q : L2.St → Hp → Prop}, vs.length = is.length → Q (setAll σ is vs) H → gsOf K (is.map Tg.nm) vs σ H Q
  | [], [], σ, H, Q, _, q => by
    show gsOf K [] [] σ H Q
    unfold gsOf
    exact ⟨rfl, q⟩
  | [], _ :: _, _, _, _, h, _ => by simp at h
  | _ :: _, [], _, _, _, h, _ => by simp at h
  | i :: is, v :: vs, σ, H, Q, h, q => by
    show gsOf K (Tg.nm i :: is.map Tg.nm) (v :: vs) σ H Q
    unfold gsOf
    refine ⟨v, vs, rfl, ?_⟩
    unfold gOf
    exact gNames (by simpa using h) q
/-- the same, the tuple built -/
theorem ls_parT {tg : Expr} {is : List Nat} {k2 : Nat} {pt2 : Pos} (ha : LM X F es g) (hlen : es.length ≤ BIG) (hg : PG X tg (gOf X.K (.tp (is.map Tg.nm)))) (hs : swapsWithSole [tg] (.Tuple es k2 pt2) pos.line X.env = pure false := by rfl) (hw : swappedStores [tg] (.Tuple es k2 pt2) X.env = pure none := by rfl)
    (h1 : (assignEach [tg] X.env).map (·.2) = [assign tg X.env] := by rfl) (hn : is.length ≤ BIG := by decide) : LS X F (.Assign [tg] (.Tuple es k2 pt2) pos) (sPar is g) := by
  refine ⟨ps_mono (ps_asg (pe_tup ha.pa) hg hs hw h1) fun D σ H q => ?_⟩
  obtain ⟨ah, Hf, ρ, hs, s, q⟩ := q
  refine ⟨ah, Hf, ρ, hs, s, ?_⟩
  cases e1 : g ρ hs with
  | fail => simp only [sPar, e1] at q; exact q.elim
  | exc c m =>
    simp only [sPar, e1] at q
    exact SExc.ex s q
  | ok p =>
    obtain ⟨svs, hs1⟩ := p
    intro vs Hf1 H1 x1 r
    by_cases hl : is.length = svs.length ∧ is.all (fun i => decide (i < ρ.length)) = true
    · have hv : vs.length = is.length := by rw [r.len, hl.1]
      refine ⟨by rw [sizeLine_eq, hv]; exact hn, fun p n => ?_⟩
      unfold gOf
      refine ⟨p, vs, rfl, SqT.of upd_same, by rw [hv, List.length_map], gNames hv ?_⟩
      have x2 : Ex X.K ah Hf H Hf1 (upd H1 p (.tup vs)) hs1 := .trans s.hand x1 ((Gr.tmp x1.up n).ex x1.hand)
      have r2 : MAll X.K Hf1 (upd H1 p (.tup vs)) H vs svs := r.tmp n
      have q' : rdS X.K X.mg F (sPar is g) D σ H := ⟨ah, Hf, ρ, hs, s, q⟩
      simp only [sPar, e1, if_pos hl] at q
      refine q ah Hf1 _ _ x2.sub (putM r2 (s.ex x2) (fun j m a e1 e2 => ?_) (fun a n => ?_) (fun i hi => by simpa using List.all_eq_true.mp hl.2 i hi) hl.1)
      · obtain ⟨v, e3, b, ws, q1, _, _, _, q5, _⟩ := s.slot j _ e1
        rw [e2] at e3
        have e3 := Option.some.inj (Option.some.inj e3)
        rw [q1] at e3
        cases e3
        rw [q5]
        exact fun z => nomatch z
      · have na : ah ≠ some a := fun z => by
          obtain ⟨_, ws, h2, _⟩ := s.hand a z
          rw [n] at h2; cases h2
        refine ⟨?_, na⟩
        cases q : F.H0 a with
        | none => rfl
        | some o =>
          by_cases e : F.ah0 = some a
          · exact absurd (s.h0 a e) na
          · rw [s.keep a o q e] at n; cases n
    · simp only [sPar, e1, if_neg hl] at q
      exact q.elim
end

/-! ## the hand -/
section
variable {K : PySem.W.Frag} {mg : Str → Option Value} {F : Fx} {ah : Option Addr} {Hf H : Hp} {σ : L2.St} {ρ : Rho} {hs : HSt}
theorem SR.hset (s : SR K mg F ah Hf H σ ρ hs) {p : Addr} {vs : List V} {hs' : HSt} (e : ah = some p) (r : RpA K Hf vs hs') : SR K mg F ah Hf (upd H p (.lst vs)) σ ρ hs' where
  len := s.len
  up := fun a o h => by
    have : a ≠ p := fun z => by
      have := (s.hand p e).1
      rw [z, this] at h; cases h
    rw [upd_ne this]
    exact s.up a o h
  base := s.base
  fr := s.fr
  keep := fun a o h n => by
    have : a ≠ p := fun z => by
      subst z
      rcases s.hn a e with q | q
      · exact n q
      · rw [h] at q; cases q
    rw [upd_ne this]
    exact s.keep a o h n
  h0 := s.h0
  hn := s.hn
  hand := fun a h => by
    rw [e] at h
    cases h
    exact ⟨(s.hand p e).1, vs, upd_same, r⟩
  slot := fun i sv h => by
    obtain ⟨v, e1, q⟩ := s.slot i sv h
    refine ⟨v, e1, ?_⟩
    cases sv with
    | val d => exact q
    | own l =>
      obtain ⟨a, ws, rfl, q2, q3, q4, q5, q6⟩ := q
      have : a ≠ p := fun z => q4 (by rw [e, z])
      exact ⟨a, ws, rfl, q2, q3, q4, by rw [upd_ne this]; exact q5, q6⟩
    | hand => exact q
    | fn x => exact q
    | scr l => exact q
  dist := s.dist
/-- a new list becomes the hand -/
theorem SR.hnew (s : SR K mg F ah Hf H σ ρ hs) {Hf' H' : Hp} {hs1 : HSt} (x : Ex K ah Hf H Hf' H' hs1) {i : Nat} {v : V} {l : List PyData} (hi : i < ρ.length) (f : Fp K H Hf' H' v (.list l)) (h0 : F.ah0 = none) (hn : ∀ (j : Nat), ρ[j]? ≠ some (some .hand)) :
    ∃ ah', SR K mg F ah' Hf' H' (σ.set i (some v)) (ρ.set i (some .hand)) l := by
  obtain ⟨a, vs, l', rfl, el, n, nf, ha, r⟩ := f
  cases el
  have s1 := s.ex x
  have n0 : F.H0 a = none := by
    cases q : F.H0 a with
    | none => rfl
    | some o =>
      rw [s.keep a o q (by rw [h0]; exact fun z => nomatch z)] at n; cases n
  refine ⟨some a, by simp [s1.len], s1.up, s1.base, s1.fr, s1.keep, (fun b e => by rw [h0] at e; cases e), (fun b e => by cases e; exact .inr n0), (fun b e => by cases e; exact ⟨nf, vs, ha, r⟩), fun j sv e => ?_, fun j j' m m' w e1 e2 e3 e4 => ?_⟩
  · by_cases h : i = j
    · subst h
      rw [List.getElem?_set_self hi] at e
      cases e
      exact ⟨.ref a, by rw [List.getElem?_set_self (by rw [s.len]; exact hi)], a, rfl, rfl⟩
    · rw [List.getElem?_set_ne h] at e ⊢
      obtain ⟨u, e1, q⟩ := s1.slot j sv e
      refine ⟨u, e1, ?_⟩
      cases sv with
      | val d => exact q
      | own m =>
        obtain ⟨b, ws, rfl, q2, q3, q4, q5, q6⟩ := q
        refine ⟨b, ws, rfl, q2, q3, fun z => ?_, q5, q6⟩
        cases z
        obtain ⟨u', e2, b', ws', q1', _, _, _, q5', _⟩ := s.slot j _ e
        rw [e1] at e2
        have e2 := Option.some.inj (Option.some.inj e2)
        rw [← e2] at q1'
        cases q1'
        rw [n] at q5'; cases q5'
      | hand => exact absurd e (hn j)
      | fn x => exact q
      | scr l => exact q
  · have ne : ∀ {j m}, (ρ.set i (some SV.hand))[j]? = some (some (SV.own m)) → i ≠ j := fun {j m} h hj => by
      subst hj
      rw [List.getElem?_set_self hi] at h
      cases h
    have g1 := ne e1
    have g2 := ne e2
    rw [List.getElem?_set_ne g1] at e1 e3
    rw [List.getElem?_set_ne g2] at e2 e4
    exact s.dist j j' m m' w e1 e2 e3 e4
end
section
variable {X : Cx} {F : Fx} {a b c e : Expr} {es ifs : List Expr} {f f1 f2 f3 : PX} {g : GX} {t : TX} {s1 s2 : SX} {st : Stmt} {pos p : Pos} {k i j n : Nat} {x y : Str}
/-- hand[e] -/
def pHand (i : Nat) (f : PX) : PX := fun ρ hs => match ρ[i]? with
  | some (some .hand) => (f ρ hs).bind fun (d, hs1) => (match d with
    | .int j => (match atI hs1 j with
      | some z => .ok (z, hs1)
      | none => .fail)
    | _ => .fail)
  | _ => .fail
theorem lp_hand (i : Nat) {py : Pos} (hN : X.N[i]? = some y) (hv : Vis X.env.scope y) (he : LP X F e f) (hd : (y == ("__debug__" : Str)) = false := by decide) (hcd : (y == ("__classdict__" : Str)) = false := by decide) (hs : PlainIx e := by exact fun _ _ => rfl) : LP X F (.Subscript (.Name y py) e pos) (pHand i f) := by
  refine ⟨pe_mono (pe_ix ix_list (pe_var hN hv hd hcd) he.pe hs) fun σ H Q q => ?_⟩
  obtain ⟨ah, Hf, ρ, hs, s, q⟩ := q
  unfold pHand at q
  cases e0 : ρ[i]? with
  | none => simp [e0] at q
  | some o =>
    cases o with
    | none => simp [e0] at q
    | some sv =>
      cases sv with
      | hand =>
        simp only [e0] at q
        obtain ⟨v, e1, a, ea, rfl⟩ := s.slot i _ e0
        refine ⟨.ref a, e1, ah, Hf, ρ, hs, s, ?_⟩
        cases e2 : f ρ hs with
        | fail => simp [e2] at q
        | exc c m => simpa [e2] using q
        | ok p =>
          obtain ⟨d, hs1⟩ := p
          intro v Hf1 H1 x1 r
          simp only [e2, Res.bind_ok] at q
          cases d with
          | int jj =>
            cases r
            cases e3 : atI hs1 jj with
            | none => simp [e3] at q
            | some zz =>
              simp only [e3] at q
              obtain ⟨h1, vs, h2, h3⟩ := x1.hand a ea
              obtain ⟨u, h4, h5⟩ := atI_rp h3 e3
              exact ⟨a, vs, jj, u, rfl, rfl, SqL.of h2, h4, q u Hf1 H1 x1 h5⟩
          | _ => exact q.elim
      | _ => simp [e0] at q
/-- hand[e] = v -/
def sHand (i : Nat) (f fi : PX) : SX := fun ρ hs => match f ρ hs with
  | .ok (d, hs1) => (match ρ[i]? with
    | some (some .hand) => (match fi ρ hs1 with
      | .ok (.int j, hs2) => (match ixN hs2.length j with
        | some n => .nx ρ (hs2.set n d)
        | none => .fail)
      | .ok _ => .fail
      | .exc c m => .exc c m
      | .fail => .fail)
    | _ => .fail)
  | .exc c m => .exc c m
  | .fail => .fail
theorem ls_hand {v : Expr} {py spos : Pos} (i : Nat) (hN : X.N[i]? = some y) (hv : Vis X.env.scope y) (he : LP X F v f) (hi : LP X F e f1) (hd : (y == ("__debug__" : Str)) = false := by decide) (hcd : (y == ("__classdict__" : Str)) = false := by decide)
    (ha : ∀ v, assign (.Subscript (.Name y py) e spos) X.env v = (do
      let ov ← holding [v] (eval (.Name y py) X.env)
      let iv ← holding [v, ov] (eval e X.env)
      standAt spos
      holding [v, ov, iv] (setItem ov iv v)
      release [v, ov, iv] []) := by intro _; rfl)
    (hs : swapsWithSole [.Subscript (.Name y py) e spos] v pos.line X.env = pure false := by rfl) (hw : swappedStores [.Subscript (.Name y py) e spos] v X.env = pure none := by rfl)
    (h1 : (assignEach [.Subscript (.Name y py) e spos] X.env).map (·.2) = [assign (.Subscript (.Name y py) e spos) X.env] := by rfl) :
    LS X F (.Assign [.Subscript (.Name y py) e spos] v pos) (sHand i f f1) := by
  refine ⟨ps_mono (ps_asg he.pe (pg_sub (pe_var hN hv hd hcd) hi.pe set_list ha) hs hw h1) fun D σ H q => ?_⟩
  obtain ⟨ah, Hf, ρ, hs, s, q⟩ := q
  refine ⟨ah, Hf, ρ, hs, s, ?_⟩
  cases e1 : f ρ hs with
  | fail => simp only [sHand, e1] at q; exact q.elim
  | exc c m =>
    simp only [sHand, e1] at q
    exact SExc.ex s q
  | ok p =>
    obtain ⟨d, hs1⟩ := p
    intro v Hf1 H1 x1 r
    have s1 := s.ex x1
    simp only [sHand, e1] at q
    cases e0 : ρ[i]? with
    | none => simp only [e0] at q; exact q.elim
    | some o =>
      cases o with
      | none => simp only [e0] at q; exact q.elim
      | some sv =>
        cases sv with
        | hand =>
          simp only [e0] at q
          obtain ⟨w, e4, a, ea, rfl⟩ := s1.slot i _ e0
          refine ⟨.ref a, e4, ah, Hf1, ρ, hs1, s1, ?_⟩
          cases e2 : f1 ρ hs1 with
          | fail => simp only [e2] at q; exact q.elim
          | exc c m =>
            simp only [e2] at q
            exact SExc.ex s1 q
          | ok p2 =>
            obtain ⟨d2, hs2⟩ := p2
            intro u Hf2 H2 x2 r2
            have s2 := s1.ex x2
            simp only [e2] at q
            cases d2 with
            | int jj =>
              cases r2
              cases e3 : ixN hs2.length jj with
              | none => simp only [e3] at q; exact q.elim
              | some nn =>
                simp only [e3] at q
                obtain ⟨g1, vs, g2, g3⟩ := s2.hand a ea
                have u2 := (Ex.trans s.hand x1 x2).sub
                refine ⟨a, vs, jj, nn, rfl, rfl, g2, by rw [rpA_len g3]; exact e3, q ah Hf2 _ σ u2 (s2.hset ea (rpA_set (x2.sub.rp r) nn g3))⟩
            | _ => exact q.elim
        | _ => simp only [e0] at q; exact q.elim

/-! ## what is never reached -/
def sNever : SX := fun _ _ => .fail
theorem ls_never : LS X F st sNever := by
  refine ⟨ps_mono ps_never fun D σ H q => ?_⟩
  obtain ⟨ah, Hf, ρ, hs, s, q⟩ := q
  exact q.elim

/-! ## the script, cut -/
def pScr (i : Nat) (l h : OX) : PX := fun ρ hs => match ρ[i]? with
  | some (some (.scr ns)) => (l ρ hs).bind fun (lo, hs1) => (h ρ hs1).bind fun (hi, hs2) => .ok (.list (cutD (ns.map PyData.int) lo hi), hs2)
  | _ => .fail
theorem rpA_of_ints {K : PySem.W.Frag} {H : Hp} : ∀ ns : List Int, RpA K H (ns.map V.int) (ns.map PyData.int)
  | [] => .nil
  | n :: r => .cons (.int n) (rpA_of_ints r)
theorem lp_scr (i : Nat) {py p2 : Pos} {lo hi : Option Expr} {l h : OX} (hN : X.N[i]? = some y) (hv : Vis X.env.scope y) (hl : LO X F lo l) (hh : LO X F hi h) (hd : (y == ("__debug__" : Str)) = false := by decide) (hcd : (y == ("__classdict__" : Str)) = false := by decide) :
    LP X F (.Subscript (.Name y py) (.Slice lo hi none p2) pos) (pScr i l h) := by
  refine ⟨pe_mono (pe_slice sl_list (pe_var hN hv hd hcd) hl.po hh.po) fun σ H Q q => ?_⟩
  obtain ⟨ah, Hf, ρ, hs, s, q⟩ := q
  unfold pScr at q
  cases e0 : ρ[i]? with
  | none => simp [e0] at q
  | some o =>
    cases o with
    | none => simp [e0] at q
    | some sv =>
      cases sv with
      | scr ns =>
        simp only [e0] at q
        obtain ⟨v, e1, a, rfl, sq⟩ := s.slot i _ e0
        refine ⟨.ref a, e1, ah, Hf, ρ, hs, s, ?_⟩
        cases e2 : l ρ hs with
        | fail => simp [e2] at q
        | exc c m => simpa [e2] using q
        | ok p =>
          obtain ⟨lo, hs1⟩ := p
          intro Hf2 H2 x2
          have s2 := s.ex x2
          simp only [e2, Res.bind_ok] at q
          refine ⟨ah, Hf2, ρ, hs1, s2, ?_⟩
          cases e3 : h ρ hs1 with
          | fail => simp [e3] at q
          | exc c m =>
            simp only [e3, Res.bind_exc] at q
            exact q.after x2.keep
          | ok p =>
            obtain ⟨hi, hs2⟩ := p
            intro Hf3 H3 x3
            have s3 := s2.ex x3
            have X3 := Ex.trans s.hand x2 x3
            simp only [e3, Res.bind_ok] at q
            exact ⟨a, _, rfl, sqL_mono (X3.sub.trans X3.up) sq, fun p n => q _ _ _ (.trans s.hand X3 ((Gr.frz s3.up n).ex s3.hand)) (new_lst s3.up n (cut_rp (rpA_of_ints ns) lo hi))⟩
      | _ => simp [e0] at q

/-! ## a def that tells a new list -/
def spF (K : PySem.W.Frag) (mg : Str → Option Value) (n : Nat) (g : FX) : Sp := fun vs H Q E => ∃ Hf svs, vs.length = n ∧ ArgAll K mg none Hf vs svs ∧ Sub Hf H ∧ match g svs [] with
  | .ok (d, _) => ∀ v Hf' H', Ex K none Hf H Hf' H' [] → Fp K H Hf' H' v d → Q v H'
  | _ => False
structure DfF (P : Program) (w : World) (K : PySem.W.Frag) (mg : Str → Option Value) (base : Heap) (k : Nat) (x : Str) (n : Nat) (g : FX) : Prop where
  ex : ∃ f fd ps, FnOk P w K mg base (L2.CX P w) k f fd ps (spF K mg n g) ∧ mg x = some (.ref f) ∧ PySem.W.keepIn K (.ref f) = true ∧ Binds K fd ps []
def rdR (K : PySem.W.Frag) (mg : Str → Option Value) (F : Fx) (f : PX) : TS := fun D σ H => ∃ ah Hf ρ hs, SR K mg F ah Hf H σ ρ hs ∧ match f ρ hs with
  | .ok (d, hs') => ∀ v Hf' H', RO K F Hf' H' hs' → Fp K F.H0 Hf' H' v d → D.rt v H'
  | _ => False
theorem ps_retF (he : LF X F e f) (h0 : F.ah0 = none) : PS X (.Return (some e) pos) (rdR X.K X.mg F f) := by
  refine ps_mono (ps_ret he.pe) fun D σ H q => ?_
  obtain ⟨ah, Hf, ρ, hs, s, q⟩ := q
  refine ⟨ah, Hf, ρ, hs, s, ?_⟩
  split at q
  · rename_i d hs' e1
    rw [e1]
    intro v Hf' H' x fp
    obtain ⟨a, xs, l, h1, h2, h3, h4, h5, h6⟩ := fp
    refine q v Hf' H' (s.ex x).ro ⟨a, xs, l, h1, h2, ?_, h4, h5, h6⟩
    cases q : F.H0 a with
    | none => rfl
    | some o => rw [s.keep a o q (by rw [h0]; exact fun z => nomatch z)] at h3; cases h3
  · exact q.elim
/-- two statements: the second tells a new list -/
def semFF (m : Nat) (s1 : SX) (f : PX) : FX := fun svs hs => match s1 (svs.map some ++ List.replicate (m - svs.length) none) [] with
  | .nx ρ hs1 => (match f ρ hs1 with
    | .ok (d, _) => .ok (d, [])
    | _ => .fail)
  | _ => .fail
end
section
variable {P : Program} {w : World} {K : PySem.W.Frag} {mg : Str → Option Value} {base : Heap}
theorem mkDfF {x qual : Str} {st st1 : Stmt} {e : Expr} {rpos : Pos} {f : Addr} {fd : FuncData} {N ps : List Str} {k : Nat} {s1 : SX} {g : PX} (Fn : Fun K x qual st f fd) (S : FnScope N ps (defScope st)) (hm : mg x = some (.ref f)) (bd : Binds K fd ps []) (hd : defBody st = [st1, .Return (some e) rpos])
    (h1 : ∀ (cdv : Value) (A : Around) (outer : List Env) (s : Shared) (H : Hp) (E : XK) (F : Fx), Cs (CxF P w K mg base N qual st f cdv A outer s H E) F k → LS (CxF P w K mg base N qual st f cdv A outer s H E) F st1 s1)
    (h2 : ∀ (cdv : Value) (A : Around) (outer : List Env) (s : Shared) (H : Hp) (E : XK) (F : Fx), Cs (CxF P w K mg base N qual st f cdv A outer s H E) F k → LF (CxF P w K mg base N qual st f cdv A outer s H E) F e g) :
    DfF P w K mg base (k + 1) x ps.length (semFF N.length s1 g) := by
  refine ⟨f, fd, ps, ?_, hm, Fn.kp, bd⟩
  refine Fn.okX S (fun vs H Q E h => ?_) fun cdv A outer s H vs Q E hr h => ?_
  · obtain ⟨_, _, h, _⟩ := h
    exact h
  · obtain ⟨Hf, svs, hl, r, u, q⟩ := h
    let F : Fx := ⟨H, Hf, none, fun cls d _ H' => E cls d H'⟩
    have C : Cs (CxF P w K mg base N qual st f cdv A outer s H E) F k := ⟨⟨rfl, S.nd, hr⟩, takes_of rfl rfl rfl rfl, passes_of rfl⟩
    have p1 := h1 cdv A outer s H E F C
    have p2 := ps_retF (pos := rpos) (h2 cdv A outer s H E F C) rfl
    have body := pss_cons p1.ps (pss_one p2)
    rw [← hd] at body
    refine ⟨_, body, none, Hf, _, [], argSR (N := N) (W := F.W) r u (fun a e => nomatch e), ?_⟩
    unfold semFF at q
    cases e1 : s1 (svs.map some ++ List.replicate (N.length - svs.length) none) [] with
    | fail => simp only [e1] at q
    | exc c m => simp only [e1] at q
    | rt d hs => simp only [e1] at q
    | nx ρ hs =>
      simp only [e1] at q
      intro ah' Hf' H' σ' u' s'
      refine ⟨ah', Hf', ρ, hs, s', ?_⟩
      cases e2 : g ρ hs with
      | fail => simp only [e2] at q
      | exc c m => simp only [e2] at q
      | ok p =>
        obtain ⟨d, hs2⟩ := p
        simp only [e2] at q
        intro v Hf2 H2 ro fp
        exact q v Hf2 H2 ⟨ro.base, ro.up, fun a o h _ => ro.keep a o h (fun z => nomatch z), ro.fr, fun a e => nomatch e⟩ fp
end
section
variable {X : Cx} {F : Fx} {e : Expr} {es : List Expr} {g : GX} {pos p : Pos} {k i j n : Nat} {x y : Str}
def sHandNew (i n : Nat) (h : FX) (g : GX) : SX := fun ρ hs => match g ρ hs with
  | .ok (svs, hs1) => if svs.length = n ∧ svs.all noHand = true ∧ i < ρ.length ∧ ρ.all (fun o => match o with | some .hand => false | _ => true) = true then (match h svs [] with
    | .ok (.list l, _) => .nx (ρ.set i (some .hand)) l
    | _ => .fail) else .fail
  | _ => .fail
/-- name = f(..), the new hand -/
theorem ls_handNew {h : FX} {py spos : Pos} (C : Cs X F k) (h0 : F.ah0 = none) (G : DfF X.prog X.w X.K X.mg X.base j x n h) (hj : j ≤ k) (hg : Gl X x) (ha : LG X F (e :: es) g) (hy : X.N[i]? = some y) (hx : Loc X.env.scope y) (hdb : (x == ("__debug__" : Str)) = false := by decide)
    (he : starEach (e :: es) X.env = (false, eval e X.env) :: starEach es X.env := by rfl) (hpl : (backTo pos (starEach es X.env)).any (·.1) = false := by rfl)
    (hs : swapsWith (.Call (.Name x p) (e :: es) [] pos) (some (.Name y py)) spos.line X.env = pure false := by rfl) (hf : X.fn y = true ∨ X.env.scope.names.lookup y = some .local := by first | exact .inl rfl | exact .inr rfl | assumption) :
    LS X F (.Assign [.Name y py] (.Call (.Name x p) (e :: es) [] pos) spos) (sHandNew i n h g) := by
  obtain ⟨f, fd, ps, G, hm, hk, hb⟩ := G.ex
  refine ⟨ps_mono (ps_set C.z.nd hy hx (pe_callS (E := WE F.W) (G.mono hj) C.z.room hg hm hk hb (fun σ => passAt C.tk σ) ha.pa hdb he hpl) hs hf) fun D σ H q => ?_⟩
  obtain ⟨ah, Hf, ρ, hs, s, q⟩ := q
  refine ⟨ah, Hf, ρ, hs, s, ?_⟩
  cases e1 : g ρ hs with
  | fail => simp only [sHandNew, e1] at q; exact q.elim
  | exc c m => simp only [sHandNew, e1] at q; exact q.elim
  | ok p =>
    obtain ⟨svs, hs1⟩ := p
    intro vs Hf1 H1 x1 r
    have s1 := s.ex x1
    simp only [sHandNew, e1] at q
    by_cases hh : svs.length = n ∧ svs.all noHand = true ∧ i < ρ.length ∧ ρ.all (fun o => match o with | some .hand => false | _ => true) = true
    · simp only [if_pos hh] at q
      refine ⟨Hf1, svs, r.len.trans hh.1, r.off hh.2.1, s1.up, ?_⟩
      cases e2 : h svs [] with
      | fail => simp only [e2] at q; exact q.elim
      | exc c m => simp only [e2] at q; exact q.elim
      | ok p2 =>
        obtain ⟨d, hs2⟩ := p2
        cases d with
        | list l =>
          simp only [e2] at q
          intro v Hf' H' x2 fp
          obtain ⟨ah', s3⟩ := s1.hnew (x2.off s1.hand) hh.2.2.1 fp h0 fun jj e => by
            have := List.all_eq_true.mp hh.2.2.2 _ (List.mem_of_getElem? e)
            simp at this
          exact q ah' Hf' H' _ (x1.sub.trans x2.sub) s3
        | _ => simp only [e2] at q; exact q.elim
    · simp only [if_neg hh] at q; exact q.elim
end
end L3
namespace L3
open PySem PySem.Spec PyProof.Rows L2

/-! ## dict(pairs), read at once -/
mutual
def keyOf : PyData → Option NestedKey
  | .int i => some (.num i)
  | .str x => some (.text x)
  | .tuple ds => match keysOf ds with
    | some ks => some (.tup ks)
    | none => none
  | _ => none
def keysOf : List PyData → Option (List NestedKey)
  | [] => some []
  | d :: r => match keyOf d, keysOf r with
    | some k, some ks => some (k :: ks)
    | _, _ => none
end
mutual
theorem keyOf_data : ∀ (d : PyData) (k : NestedKey), keyOf d = some k → k.data = d
  | .int i, k, h => by unfold keyOf at h; cases h; rfl
  | .str x, k, h => by unfold keyOf at h; cases h; rfl
  | .tuple ds, k, h => by
    unfold keyOf at h
    split at h
    · rename_i ks e
      cases h
      show PyData.tuple (NestedKey.datas ks) = _
      rw [keysOf_data ds ks e]
    · cases h
  | .none, k, h => by unfold keyOf at h; cases h
  | .bool _, k, h => by unfold keyOf at h; cases h
  | .list _, k, h => by unfold keyOf at h; cases h
  | .dict _, k, h => by unfold keyOf at h; cases h
theorem keysOf_data : ∀ (ds : List PyData) (ks : List NestedKey), keysOf ds = some ks → NestedKey.datas ks = ds
  | [], ks, h => by unfold keysOf at h; cases h; rfl
  | d :: r, ks, h => by
    unfold keysOf at h
    split at h
    · rename_i k ks' e1 e2
      cases h
      show k.data :: NestedKey.datas ks' = _
      rw [keyOf_data d k e1, keysOf_data r ks' e2]
    · cases h
end
section
variable {X : Cx} {pins : List (Addr × Obj)} {s : Shared} {σ : L2.St} {H : Hp}
mutual
theorem nested_of (I : Inv X pins σ H s) : ∀ (d : PyData) (k : NestedKey) (v : V) (u : Value), keyOf d = some k → Rp X.K H v d → RelV v u → NestedIs s.heap k u
  | .int i, k, v, u, h, r, q => by
    unfold keyOf at h
    cases h
    cases r
    obtain ⟨t, rfl⟩ := q
    exact .int i t
  | .str x, k, v, u, h, r, q => by
    unfold keyOf at h
    cases h
    cases r
    obtain ⟨t, rfl⟩ := q
    exact .text x t
  | .tuple ds, k, v, u, h, r, q => by
    unfold keyOf at h
    split at h
    · rename_i ks e
      cases h
      cases r with
      | tup h1 h2 =>
        cases q
        obtain ⟨its, rv, p, _⟩ := I.tuple h1
        obtain ⟨o, ho, hc, n, hd⟩ : s.heap.IsTuple _ its.toArray := p
        exact .tup ho hc hd (nested_all I ds ks _ _ e h2 (by simpa using rv))
    · cases h
  | .none, k, _, _, h, _, _ => by unfold keyOf at h; cases h
  | .bool _, k, _, _, h, _, _ => by unfold keyOf at h; cases h
  | .list _, k, _, _, h, _, _ => by unfold keyOf at h; cases h
  | .dict _, k, _, _, h, _, _ => by unfold keyOf at h; cases h
theorem nested_all (I : Inv X pins σ H s) : ∀ (ds : List PyData) (ks : List NestedKey) (vs : List V) (us : List Value), keysOf ds = some ks → RpA X.K H vs ds → Vals vs us → NestedAll s.heap ks us
  | [], ks, vs, us, h, r, q => by
    unfold keysOf at h
    cases h
    cases r
    cases q
    exact .nil
  | d :: ds, ks, vs, us, h, r, q => by
    unfold keysOf at h
    split at h
    · rename_i k ks' e1 e2
      cases h
      cases r with
      | cons r1 r2 =>
        cases q with
        | cons q1 q2 => exact .cons (nested_of I d k _ _ e1 r1 q1) (nested_all I ds ks' _ _ e2 r2 q2)
    · cases h
end
end
def isTupK : NestedKey → Bool
  | .tup _ => true
  | _ => false
def isNumK : NestedKey → Bool
  | .num _ => true
  | _ => false
/-- the keys of pairs -/
def pairKeys : List PyData → Option (List NestedKey)
  | [] => some []
  | .tuple [k, _] :: r => match keyOf k, pairKeys r with
    | some a, some b => some (a :: b)
    | _, _ => none
  | _ :: _ => none
/-- each key once, at its first place -/
def pushK {K : Type} [DecidableEq K] (acc : List K) (k : K) : List K := if acc.any (fun a => decide (a = k)) = true then acc else acc ++ [k]
def dedup {K : Type} [DecidableEq K] (ks : List K) : List K := ks.foldl pushK []
theorem stored_keys {K : Type} [DecidableEq K] (xs : List (K × Value)) (k : K) (v : Value) : (stored xs k v).map (·.1) = pushK (xs.map (·.1)) k := by
  unfold stored pushK
  rw [List.any_map]
  split
  · rename_i h
    rw [if_pos (by exact h)]
    rw [List.map_map]
    refine List.map_congr_left fun x _ => ?_
    simp only [Function.comp]
    split <;> simp_all
  · rename_i h
    rw [if_neg (by exact h)]
    simp
theorem merged_keys {K : Type} [DecidableEq K] : ∀ (more kvs : List (K × Value)), (merged kvs more).map (·.1) = (more.map (·.1)).foldl pushK (kvs.map (·.1))
  | [], kvs => rfl
  | p :: r, kvs => by
    show (merged (stored kvs p.1 p.2) r).map (·.1) = _
    rw [merged_keys r, stored_keys]
    rfl
theorem push_inj {K L : Type} [DecidableEq K] [DecidableEq L] {f : K → L} (hf : ∀ a b, f a = f b → a = b) (acc : List K) (k : K) : pushK (acc.map f) (f k) = (pushK acc k).map f := by
  unfold pushK
  rw [List.any_map]
  have e : (acc.any ((fun a => decide (a = f k)) ∘ f)) = acc.any (fun a => decide (a = k)) := by
    congr 1
    funext a
    simp only [Function.comp]
    by_cases h : a = k
    · subst h; simp
    · rw [decide_eq_false h, decide_eq_false fun q => h (hf _ _ q)]
  rw [e]
  split <;> simp
theorem dedup_inj {K L : Type} [DecidableEq K] [DecidableEq L] {f : K → L} (hf : ∀ a b, f a = f b → a = b) (ks : List K) : dedup (ks.map f) = (dedup ks).map f := by
  unfold dedup
  suffices h : ∀ (ks acc : List K), (ks.map f).foldl pushK (acc.map f) = (ks.foldl pushK acc).map f from h ks []
  intro ks
  induction ks with
  | nil => intro acc; rfl
  | cons k r ih =>
    intro acc
    rw [List.map_cons, List.foldl_cons, List.foldl_cons, push_inj hf, ih]
theorem push_len {K : Type} [DecidableEq K] (acc : List K) (k : K) : (pushK acc k).length ≤ acc.length + 1 := by
  unfold pushK
  split
  · omega
  · simp
theorem dedup_len {K : Type} [DecidableEq K] (ks : List K) : (dedup ks).length ≤ ks.length := by
  unfold dedup
  suffices h : ∀ (ks acc : List K), (ks.foldl pushK acc).length ≤ acc.length + ks.length from by simpa using h ks []
  intro ks
  induction ks with
  | nil => intro acc; simp
  | cons k r ih =>
    intro acc
    rw [List.foldl_cons]
    have := ih (pushK acc k)
    have := push_len acc k
    simp only [List.length_cons]
    omega

theorem relV_ref : ∀ {v : V} {b : Addr}, RelV v (.ref b) → v = .ref b
  | .non, _, h => nomatch h
  | .bl _, _, h => nomatch h
  | .int _, _, ⟨_, h⟩ => nomatch h
  | .str _, _, ⟨_, h⟩ => nomatch h
  | .byt _, _, ⟨_, h⟩ => nomatch h
  | .flt _, _, ⟨_, h⟩ => nomatch h
  | .ref a, _, h => by cases h; rfl
  | .ty _, _, h => nomatch h
/-- a dict's object: its keys kv -/
structure DictO (o : Obj) (kv : List V) : Prop where
  ex : o.ExactDict
  data : ∃ es ep, o.data = .dict es ep ∧ Vals kv (es.toList.map (·.key))
def keysOk (ds : List PyData) (ks : List NestedKey) : Prop := pairKeys ds = some ks ∧ (ks.all isTupK = true ∨ ks.all isNumK = true) ∧ (ks.all fun k => decide (k.depth ≤ 8)) = true ∧ ds.length ≤ BIG
def rDictE (K : PySem.W.Frag) : List V → Hp → VK → Prop := fun us H Q => ∃ (a : Addr) (vs : List V) (ds : List PyData) (ks : List NestedKey) (Hf : Hp), us = [.ref a] ∧ H a = some (.lst vs) ∧ Sub Hf H ∧ RpA K Hf vs ds ∧ keysOk ds ks ∧
  ∀ p o kv, H p = none → (p == sysModules) = false → DictO o kv → RpA K Hf kv ((dedup ks).map NestedKey.data) → Q (.ref p) (upd H p (.ext fun h => h.get? p = some o))
section
variable {X : Cx} {pins : List (Addr × Obj)} {s : Shared} {σ : L2.St} {H Hf : Hp}
/-- the pairs of a list, keys that are tuples -/
theorem pairs_tup (I : Inv X pins σ H s) (u : Sub Hf H) : ∀ {ds : List PyData} {ks : List NestedKey} {vs : List V} {us : List Value}, pairKeys ds = some ks → ks.all isTupK = true → (ks.all fun k => decide (k.depth ≤ 8)) = true → RpA X.K Hf vs ds → Vals vs us →
    ∃ (ps : List (NestedKey × Addr × Value)) (Ts : List Addr), ps.map (·.1) = ks ∧ us = Ts.map Value.ref ∧ Ts.length = ps.length ∧ (∀ x ∈ ps, (nestedKind X.prog X.w).is s.heap x.1 x.2.1 ∧ Rp X.K Hf (.ref x.2.1) x.1.data) ∧
      ∀ (j : Nat) T p, Ts[j]? = some T → ps[j]? = some p → PairAt s.heap T (.ref p.2.1) p.2.2
  | [], ks, vs, us, h, _, _, r, q => by
    unfold pairKeys at h
    cases h
    cases r
    cases q
    exact ⟨[], [], rfl, rfl, rfl, (fun _ h => nomatch h), fun j T p h => by simp at h⟩
  | d :: ds, ks, vs, us, h, ht, hd, r, q => by
    unfold pairKeys at h
    split at h
    · rename_i hh; cases hh
    · rename_i kd vd r' e0
      cases e0
      split at h
      · rename_i k ks' e1 e2
        cases h
        cases r with
        | cons r1 r2 =>
          cases q with
          | cons q1 q2 =>
            simp only [List.all_cons, Bool.and_eq_true] at ht hd
            obtain ⟨ps, Ts, g1, g2, g3, g4, g5⟩ := pairs_tup I u e2 ht.2 hd.2 r2 q2
            cases r1 with
            | tup h1 h2 =>
              rename_i T xs
              cases q1
              cases h2 with
              | cons h3 h4 =>
                cases h4 with
                | cons h5 h6 =>
                  cases h6
                  obtain ⟨its, rv, p, _⟩ := I.tuple (sqT_mono u h1)
                  cases rv with
                  | cons v1 rv =>
                    cases rv with
                    | cons v2 rv =>
                      cases rv
                      rename_i uk uv
                      have nk := nested_of I kd k _ uk e1 (u.rp h3) v1
                      have : ∃ b, uk = .ref b := by
                        cases k with
                        | tup ks => cases nk with | tup _ _ _ _ => exact ⟨_, rfl⟩
                        | _ => exact absurd ht.1 (by simp [isTupK])
                      obtain ⟨b, rfl⟩ := this
                      have er := relV_ref v1
                      subst er
                      refine ⟨(k, b, uv) :: ps, T :: Ts, by simp [g1], by rw [g2]; rfl, by simp [g3], fun x hx => ?_, fun j T' p' e1' e2' => ?_⟩
                      · rcases List.mem_cons.mp hx with z | z
                        · subst z
                          refine ⟨⟨nk, by simpa using hd.1⟩, ?_⟩
                          rw [keyOf_data kd k e1]
                          exact h3
                        · exact g4 x z
                      · cases j with
                        | zero =>
                          simp at e1' e2'
                          subst e1' e2'
                          exact .inl p
                        | succ j => exact g5 j T' p' (by simpa using e1') (by simpa using e2')
      · cases h
    · cases h
/-- .. keys that are numbers -/
theorem pairs_num (I : Inv X pins σ H s) (u : Sub Hf H) : ∀ {ds : List PyData} {ks : List NestedKey} {vs : List V} {us : List Value}, pairKeys ds = some ks → ks.all isNumK = true → RpA X.K Hf vs ds → Vals vs us →
    ∃ (ps : List (Int × Value × Value)) (Ts : List Addr), ps.map (fun p => NestedKey.num p.1) = ks ∧ us = Ts.map Value.ref ∧ Ts.length = ps.length ∧ (∀ x ∈ ps, ∃ t, x.2.1 = .int x.1 t) ∧
      ∀ (j : Nat) T p, Ts[j]? = some T → ps[j]? = some p → PairAt s.heap T p.2.1 p.2.2
  | [], ks, vs, us, h, _, r, q => by
    unfold pairKeys at h
    cases h
    cases r
    cases q
    exact ⟨[], [], rfl, rfl, rfl, (fun _ h => nomatch h), fun j T p h => by simp at h⟩
  | d :: ds, ks, vs, us, h, ht, r, q => by
    unfold pairKeys at h
    split at h
    · rename_i hh; cases hh
    · rename_i kd vd r' e0
      cases e0
      split at h
      · rename_i k ks' e1 e2
        cases h
        cases r with
        | cons r1 r2 =>
          cases q with
          | cons q1 q2 =>
            simp only [List.all_cons, Bool.and_eq_true] at ht
            obtain ⟨ps, Ts, g1, g2, g3, g4, g5⟩ := pairs_num I u e2 ht.2 r2 q2
            cases r1 with
            | tup h1 h2 =>
              rename_i T xs
              cases q1
              cases h2 with
              | cons h3 h4 =>
                cases h4 with
                | cons h5 h6 =>
                  cases h6
                  obtain ⟨its, rv, p, _⟩ := I.tuple (sqT_mono u h1)
                  cases rv with
                  | cons v1 rv =>
                    cases rv with
                    | cons v2 rv =>
                      cases rv
                      rename_i uk uv
                      have dk := keyOf_data kd k e1
                      cases k with
                      | num i =>
                        have dk' : PyData.int i = kd := dk
                        subst dk'
                        cases h3
                        obtain ⟨t, rfl⟩ := v1
                        refine ⟨(i, .int i t, uv) :: ps, T :: Ts, by simp [g1], by rw [g2]; rfl, by simp [g3], fun x hx => ?_, fun j T' p' e1' e2' => ?_⟩
                        · rcases List.mem_cons.mp hx with z | z
                          · subst z
                            exact ⟨t, rfl⟩
                          · exact g4 x z
                        · cases j with
                          | zero =>
                            simp at e1' e2'
                            subst e1' e2'
                            exact .inl p
                          | succ j => exact g5 j T' p' (by simpa using e1') (by simpa using e2')
                      | _ => exact absurd ht.1 (by simp [isNumK])
      · cases h
    · cases h
theorem pairKeys_len : ∀ {ds : List PyData} {ks : List NestedKey}, pairKeys ds = some ks → ds.length = ks.length
  | [], ks, h => by unfold pairKeys at h; cases h; rfl
  | d :: ds, ks, h => by
    unfold pairKeys at h
    split at h
    · rename_i hh; cases hh
    · rename_i kd vd r' e0
      cases e0
      split at h
      · rename_i k ks' e1 e2
        cases h
        simp [pairKeys_len e2]
      · cases h
    · cases h
theorem vals_refs : ∀ bs : List Addr, Vals (bs.map V.ref) (bs.map Value.ref)
  | [] => .nil
  | b :: r => .cons rfl (vals_refs r)
theorem rpA_refs {K : PySem.W.Frag} {Hf : Hp} : ∀ {xs : List (NestedKey × Addr × Value)}, (∀ x ∈ xs, Rp K Hf (.ref x.2.1) x.1.data) → RpA K Hf (xs.map fun x => V.ref x.2.1) ((xs.map (·.1)).map NestedKey.data)
  | [], _ => .nil
  | x :: r, h => .cons (h x List.mem_cons_self) (rpA_refs fun y hy => h y (List.mem_cons_of_mem _ hy))
theorem rpA_nums {K : PySem.W.Frag} {Hf : Hp} : ∀ is : List Int, RpA K Hf (is.map V.int) ((is.map NestedKey.num).map NestedKey.data)
  | [] => .nil
  | i :: r => .cons (.int i) (rpA_nums r)
theorem vals_ints' : ∀ {es : List Value} {is : List Int}, es.length = is.length → (∀ (j : Nat) v i, es[j]? = some v → is[j]? = some i → ∃ t, v = .int i t) → Vals (is.map V.int) es
  | [], [], _, _ => .nil
  | [], _ :: _, h, _ => by simp at h
  | _ :: _, [], h, _ => by simp at h
  | v :: es, i :: is, h, g => .cons (g 0 v i rfl rfl) (vals_ints' (by simpa using h) fun j v i a b => g (j + 1) v i (by simpa using a) (by simpa using b))
end
theorem big_ne {X : Cx} {pins : List (Addr × Obj)} {s : Shared} {σ : L2.St} {H : Hp} (I : Inv X pins σ H s) : (s.heap.objs.size == sysModules) = false := by
  exact beq_eq_false_iff_ne.mpr (Ne.symm (Nat.ne_of_lt I.big))
theorem cr_dictE {X : Cx} (hc : X.calm = true) (hu : X.A.units + 64 < cLine) : CallR X (.type "dict") (rDictE X.K) := by
  intro pins s σ H vs us Q I r h
  obtain ⟨a, ws, ds, ks, Hf, rfl, ha, u, rr, ok, q⟩ := h
  obtain ⟨its, rv, hl, hz⟩ := I.list (SqL.of ha)
  rw [Vals.ref1 r]
  have hlen : ws.length = ds.length := rpA_len rr
  have hk := pairKeys_len ok.1
  have hsz : ds.length ≤ sizeLine := by rw [sizeLine_eq]; exact ok.2.2.2
  have pl : PlainSeq "list" s.heap a its.toArray := hl
  rcases ok.2.1 with hT | hN
  · obtain ⟨ps, Ts, g1, g2, g3, g4, g5⟩ := pairs_tup I u ok.1 hT ok.2.2.1 rr rv
    have gl : ps.length = ds.length := by rw [hk, ← g1, List.length_map]
    have pi : PairItems s.heap its.toArray (fun j => Ts.getD j 0) (ps.map fun p => (Value.ref p.2.1, p.2.2)) := by
      refine ⟨by rw [g2]; simp [g3], fun j k v e => ?_⟩
      rw [List.getElem?_map] at e
      cases ep : ps[j]? with
      | none => rw [ep] at e; cases e
      | some p =>
        rw [ep] at e
        cases e
        have hj : j < Ts.length := by rw [g3]; exact (List.getElem?_eq_some_iff.mp ep).1
        have eT : Ts[j]? = some Ts[j] := List.getElem?_eq_getElem hj
        have eD : Ts.getD j 0 = Ts[j] := by simp [hj]
        refine ⟨by rw [g2]; simp [eT, eD, hj], ?_⟩
        have := g5 j _ _ eT ep
        rw [← eD] at this
        exact this
    refine call_dict_pairsH (knd := nestedKind X.prog X.w) (ps := ps) (PairArg.list a its.toArray (fun j => Ts.getD j 0) (ps.map fun p => (Value.ref p.2.1, p.2.2))) (I.ok.hd hc) (by show X.A.units + 1 + 1 + 8 < cLine; omega) ⟨pl, pi⟩ ⟨by simp, fun i key v e => ?_⟩ (fun h' hk' x hx => ?_) (by rw [List.length_map, gl]; exact hsz) fun h' tk hd' hkeep => ?_
    · have e : (ps.map fun p => (Value.ref p.2.1, p.2.2))[i]? = some (key, v) := e
      rw [List.getElem?_map] at e
      cases ep : ps[i]? with
      | none => rw [ep] at e; cases e
      | some p =>
        rw [ep] at e
        cases e
        exact ⟨p.1, p.2.1, rfl, rfl⟩
    · exact nestedKind_stays.stays (fun b o vs n hb _ => hk' b o (Nat.ne_of_lt (Heap.lt_size hb)) (by simp) hb) (g4 x hx).1
    · obtain ⟨o, es, ep, ho, hx, hdat, hes, his, hnd⟩ := hd'
      have keys : (storedAllH [] ps).map (·.1) = dedup ks := by
        have e1 := merged_keys (pairsH ps) []
        rw [← g1]
        have e2 : (pairsH ps).map (·.1) = ps.map (·.1) := by unfold pairsH; rw [List.map_map]; rfl
        have e3 : (pairsH (storedAllH [] ps)).map (·.1) = (storedAllH [] ps).map (·.1) := by unfold pairsH; rw [List.map_map]; rfl
        rw [← e3, pairsH_storedAllH]
        rw [e2] at e1
        exact e1
      have data := storedAllH_keys (P := fun k b => Rp X.K Hf (.ref b) k.data) (ps := ps) (xs := []) (fun x hx => nomatch hx) (fun x hx => (g4 x hx).2)
      have rk : RpA X.K Hf ((storedAllH [] ps).map fun x => V.ref x.2.1) ((dedup ks).map NestedKey.data) := by
        rw [← keys]
        exact rpA_refs data
      have dob : DictO o ((storedAllH [] ps).map fun x => V.ref x.2.1) := by
        refine ⟨hx, es, ep, hdat, ?_⟩
        rw [hes, List.map_map]
        have := vals_refs ((storedAllH [] ps).map fun x => x.2.1)
        rw [List.map_map, List.map_map] at this
        exact this
      refine ⟨.ref s.heap.objs.size, upd H s.heap.objs.size (.ext fun h => h.get? s.heap.objs.size = some o), I.laid (t' := tk) (fun b u e => hkeep b u (by simp) e) (Nat.le_refl _) ⟨ho, ⟨o, ho⟩, fun h1 h2 e1 e2 => e2 o e1⟩, rfl, ?_⟩
      exact q _ o _ (I.hok.fresh (Nat.le_refl _)) (big_ne I) dob rk
  · obtain ⟨ps, Ts, g1, g2, g3, g4, g5⟩ := pairs_num I u ok.1 hN rr rv
    have gl : ps.length = ds.length := by rw [hk, ← g1, List.length_map]
    have pi : PairItems s.heap its.toArray (fun j => Ts.getD j 0) (ps.map fun p => (p.2.1, p.2.2)) := by
      refine ⟨by rw [g2]; simp [g3], fun j k v e => ?_⟩
      rw [List.getElem?_map] at e
      cases ep : ps[j]? with
      | none => rw [ep] at e; cases e
      | some p =>
        rw [ep] at e
        cases e
        have hj : j < Ts.length := by rw [g3]; exact (List.getElem?_eq_some_iff.mp ep).1
        have eT : Ts[j]? = some Ts[j] := List.getElem?_eq_getElem hj
        have eD : Ts.getD j 0 = Ts[j] := by simp [hj]
        refine ⟨by rw [g2]; simp [eT, eD, hj], ?_⟩
        have := g5 j _ _ eT ep
        rw [← eD] at this
        exact this
    refine call_dict_pairs (knd := intKind X.prog X.w) (kvs := ps.map fun p => (p.1, p.2.2)) (PairArg.list a its.toArray (fun j => Ts.getD j 0) (ps.map fun p => (p.2.1, p.2.2))) (I.ok.hd hc) ⟨pl, pi⟩ ⟨by simp, fun i key v e => ?_⟩ (by rw [List.length_map, gl]; exact hsz) fun h' tk hd' hkeep => ?_
    · have e : (ps.map fun p => (p.2.1, p.2.2))[i]? = some (key, v) := e
      rw [List.getElem?_map] at e
      cases ep : ps[i]? with
      | none => rw [ep] at e; cases e
      | some p =>
        rw [ep] at e
        cases e
        obtain ⟨t, ht⟩ := g4 p (List.mem_of_getElem? ep)
        refine ⟨p.1, by rw [List.getElem?_map, ep]; rfl, ?_⟩
        rw [ht]
        show decide _ = true
        simp
    · obtain ⟨o, es, ep, ho, hx, hdat, _, hps, hnd⟩ := hd'
      have e1 : (merged [] (ps.map fun p => (p.1, p.2.2))).map (·.1) = dedup (ps.map (·.1)) := by
        have := merged_keys (ps.map fun p => (p.1, p.2.2)) []
        rw [List.map_map] at this
        exact this
      have e2 : dedup ks = (dedup (ps.map (·.1))).map NestedKey.num := by
        rw [← g1, ← dedup_inj (f := NestedKey.num) (fun a b h => by cases h; rfl), List.map_map]
        rfl
      have rk : RpA X.K Hf ((dedup (ps.map (·.1))).map V.int) ((dedup ks).map NestedKey.data) := by
        rw [e2]
        exact rpA_nums _
      have vk : ∀ {es : List DictEntry} {kvs : List (Int × Value)}, Pairs (intKind X.prog X.w) es kvs → Vals ((kvs.map (·.1)).map V.int) (es.map (·.key)) := by
        intro es kvs h
        induction h with
        | nil => exact .nil
        | cons h1 h2 h3 ih => exact .cons (Value.isInt_shape h1) ih
      have dob : DictO o ((dedup (ps.map (·.1))).map V.int) := by
        refine ⟨hx, es, ep, hdat, ?_⟩
        rw [← e1]
        exact vk hps
      refine ⟨.ref s.heap.objs.size, upd H s.heap.objs.size (.ext fun h => h.get? s.heap.objs.size = some o), I.laid (t' := tk) (fun b u e => hkeep b u (by simp) e) (Nat.le_refl _) ⟨ho, ⟨o, ho⟩, fun h1 h2 e1 e2 => e2 o e1⟩, rfl, ?_⟩
      exact q _ o _ (I.hok.fresh (Nat.le_refl _)) (big_ne I) dob rk
mutual
theorem reads_there {K : PySem.W.Frag} {H : Hp} {h : Heap} : ∀ (d : PyData) (x : V) (v : Value) (as : List Addr), Rp K H x d → Reads h v d as → ∀ a ∈ as, ∃ o, h.get? a = some o
  | .none, _, _, _, _, r, a, ha => by cases r; cases ha
  | .bool _, _, _, _, _, r, a, ha => by cases r; cases ha
  | .int _, _, _, _, _, r, a, ha => by cases r; cases ha
  | .str _, _, _, _, _, r, a, ha => by cases r; cases ha
  | .list ds, _, _, _, q, r, a, ha => by
    cases q with
    | lst q1 q2 =>
      cases r with
      | list r1 r2 r3 r4 =>
        rcases List.mem_cons.mp ha with z | z
        · subst z; exact ⟨_, r1⟩
        · exact readsA_there ds _ _ _ q2 r4 a z
  | .tuple ds, _, _, _, q, r, a, ha => by
    cases q with
    | tup q1 q2 =>
      cases r with
      | tuple r1 r2 r3 r4 => exact readsA_there ds _ _ _ q2 r4 a ha
  | .dict _, _, _, _, q, _, _, _ => by cases q
theorem readsA_there {K : PySem.W.Frag} {H : Hp} {h : Heap} : ∀ (ds : List PyData) (xs : List V) (vs : List Value) (as : List Addr), RpA K H xs ds → ReadsAll h vs ds as → ∀ a ∈ as, ∃ o, h.get? a = some o
  | [], _, _, _, _, r, a, ha => by cases r; cases ha
  | d :: ds, _, _, _, q, r, a, ha => by
    cases q with
    | cons q1 q2 =>
      cases r with
      | cons r1 r2 =>
        rcases List.mem_append.mp ha with z | z
        · exact reads_there d _ _ _ q1 r1 a z
        · exact readsA_there ds _ _ _ q2 r2 a z
end
/-- the dict's keys, sorted -/
def rSortE (K : PySem.W.Frag) : List V → Hp → VK → Prop := fun us H Q => ∃ (p : Addr) (o : Obj) (kv : List V) (ds : List PyData) (Hf : Hp), us = [.ref p] ∧ H p = some (.ext fun h => h.get? p = some o) ∧ (p == sysModules) = false ∧ DictO o kv ∧ Sub Hf H ∧ RpA K Hf kv ds ∧ sortOk ds = true ∧
  ∀ q ws, H q = none → RpA K Hf ws (dSort ds) → Q (.ref q) (upd H q (.lst ws))
theorem cr_sortE {X : Cx} (hc : X.calm = true) (hu : X.A.units + 64 < cLine) : CallR X (.builtin "sorted") (rSortE X.K) := by
  intro pins s σ H vs us Q I r h
  obtain ⟨p, o, kv, ds, Hf, rfl, ha, hs, dob, u, rr, ok, q⟩ := h
  rw [Vals.ref1 r]
  have ho : s.heap.get? p = some o := (I.hok p _ ha).1
  obtain ⟨es, ep, hdat, vk⟩ := dob.data
  have ok' := ok
  unfold sortOk at ok
  simp only [Bool.and_eq_true, decide_eq_true_eq] at ok
  have hlen : kv.length = ds.length := rpA_len rr
  have hes : es.size = ds.length := by
    have h1 : kv.length = (es.toList.map (·.key)).length := vk.length
    rw [List.length_map, hlen] at h1
    simpa using h1.symm
  have hsz : ds.length ≤ sizeLine := by rw [sizeLine_eq]; exact ok.2
  have raw : s.heap.DictRaw p es ep := ⟨o, ho, dob.ex, hdat⟩
  have SK : PySem.W.KdlSrc X.prog X.w "dict" p p es.size (fun i v => ∃ hi : i < es.size, v = es[i].key) (fun h => h.DictRaw p es ep) := KdlSrc.rawDict hs
  refine PySem.Calls.call_function_entry kind_sorted plain_sorted entry_sorted (args_sorted1 _) ?_
  unfold Builtin.«sorted»
  refine wpAny_bind (m := checkCount "sorted" 1 1 _) (wpAny_pure ?_)
  refine wpAny_bind (PySem.W.kdu_collect (A := X.A.in1) SK (I.ok.hd hc) raw (by rw [hes]; exact hsz) fun h' tk acc hk hacc => ?_)
  have hl : acc.toList.length = ds.length := by rw [Array.length_toList, ← hes]; exact hacc.1
  refine wpAny_bind (wpAny_newList ?_ (by rw [hl]; exact hsz))
  have eacc : acc.toList = es.toList.map (·.key) := by
    apply List.ext_getElem?
    intro j
    by_cases hj : j < acc.size
    · have h1 : acc[j]? = some acc[j] := by simp [hj]
      obtain ⟨hi, hv⟩ := hacc.2 j acc[j] h1
      rw [Array.getElem?_toList, h1, List.getElem?_map, Array.getElem?_toList, hv]
      simp [hi]
    · have h2 : es.size ≤ j := by
        have := hacc.1
        omega
      rw [Array.getElem?_toList, List.getElem?_map, Array.getElem?_toList]
      have h3 : acc.size ≤ j := by omega
      rw [Array.getElem?_eq_none h3, Array.getElem?_eq_none h2]
      rfl
  have rv : Vals kv acc.toList := by rw [eacc]; exact vk
  have I2 : Inv X pins σ H { s with heap := h', toks := tk } := I.kept (t' := tk) hk
  have hkp : ∀ b o, h'.get? b = some o → (h'.push { cls := .type "list", data := .seq acc.toList.toArray }).get? b = some o := fun b o e => Heap.get?_push_of_some _ e
  have I3 : Inv X pins σ H { s with heap := h'.push { cls := .type "list", data := .seq acc.toList.toArray }, toks := tk } := I2.kept (t' := tk) hkp
  have e := each_zip rr rv
  have e0 : (kv.zip ds).map (·.2) = ds := zip_snd hlen
  have hmem : ∀ b ∈ kv.zip ds, b.2 ∈ ds := fun b hb => by rw [← e0]; exact List.mem_map.mpr ⟨b, hb, rfl⟩
  have hg := PySem.W.list_sort_data (prog := X.prog) (w := X.w) (A := X.A.in1) (E := X.xe) (s := { s with heap := h'.push { cls := .type "list", data := .seq acc.toList.toArray }, toks := tk }) (vs := acc.toList) (a := h'.objs.size) (n := 0)
    (Q := fun _ s' => EP X pins σ Q (.ref h'.objs.size) s') (R := fun v (b : V × PyData) => RelV b.1 v ∧ Rp X.K Hf b.1 b.2) (bs := kv.zip ds) (enc := Prod.snd) (Heap.get?_push_size _ rfl) e (e.mono fun v b q => ?_) ?_ ?_ ?_ ?_ fun out ho eo => ?_
  · refine wpAny_bind (wpAny_holding (wpAny_mono hg (fun _ s' x => ?_) fun _ _ e => e))
    exact wpAny_pure ⟨_, rfl, x⟩
  · obtain ⟨as, r1⟩ := Dp.reads I2 _ _ _ (Rp.dp _ _ (u.rp q.2)) q.1
    refine ⟨as, PyProof.Rows.Reads.keeps hkp r1, fun hin => ?_⟩
    obtain ⟨o, ho⟩ := reads_there _ _ _ _ q.2 r1 _ hin
    exact absurd (Heap.lt_size ho) (Nat.lt_irrefl _)
  · intro d hd d' hd'
    rw [e0] at hd hd'
    exact alikeL_at ok.1.1.1 hd hd'
  · rw [e0]; exact sortOk_sortable ok.1.1.2
  · rw [List.length_zip, hlen, Nat.min_self]; exact hsz
  · intro b hb
    have := depth_mem (hmem b hb)
    show X.A.units + 1 + 1 + _ < _
    omega
  · obtain ⟨v1, v2⟩ := each_vals eo
    rw [dSort_zip hlen] at v2
    have hob : (h'.push { cls := .type "list", data := .seq acc.toList.toArray }).get? h'.objs.size = some (seqObj "list" acc.toList.toArray 0) := Heap.get?_push_size _ rfl
    obtain ⟨ep2, he2⟩ := PyProof.Rows.sortedHeap_at (vs := acc.toList) (out := out.toArray) hob
    have kk : ∀ b o, h'.get? b = some o → (PyProof.Rows.sortedHeap (h'.push { cls := .type "list", data := .seq acc.toList.toArray }) h'.objs.size acc.toList out.toArray).get? b = some o := fun b o e1 => by
      have e2 := hkp b o e1
      exact (PyProof.Rows.sortedHeap_old (Nat.ne_of_lt (Heap.lt_size e1)) (Heap.lt_size e2)).trans e2
    refine ⟨.ref h'.objs.size, upd H h'.objs.size (.lst _), I2.laid (t' := tk) kk (Nat.le_refl _) ⟨?_, out, ep2, v1, he2⟩, rfl, q _ _ (I2.hok.fresh (Nat.le_refl _)) v2⟩
    rw [v1.length, ho, List.length_zip, hlen, Nat.min_self]
    exact hsz
/-- a new list, made by way of other new things -/
def OpG1 (K : PySem.W.Frag) (r : V → Hp → VK → Prop) (g : PyData → Res PyData) : Prop := ∀ d1 d, g d1 = .ok d → ∀ (Hf H : Hp) (v1 : V) (Q : VK), Sub Hf H → Bp K Hf H v1 d1 →
  (∀ p vs l H1, d = .list l → Gr Hf H Hf H1 → H1 p = none → RpA K Hf vs l → Q (.ref p) (upd H1 p (.lst vs))) → r v1 H Q
theorem tUnG_of {K : PySem.W.Frag} {mg : Str → Option Value} {F : Fx} {r : V → Hp → VK → Prop} {g : PyData → Res PyData} {f1 : PX} (o : OpG1 K r g) {σ : L2.St} {H : Hp} {Q : VK}
    (q : rdF K mg F (pop1 g f1) σ H Q) : tUn r (rdB K mg F f1) σ H Q := by
  obtain ⟨ah, Hf, ρ, hs, s, q⟩ := q
  refine ⟨ah, Hf, ρ, hs, s, ?_⟩
  cases e1 : f1 ρ hs with
  | fail => simp [pop1, e1] at q
  | exc c m => simpa [pop1, e1] using q
  | ok p1 =>
    obtain ⟨d1, hs1⟩ := p1
    intro v1 Hf1 H1 x1 b1
    have s1 := s.ex x1
    cases e3 : g d1 with
    | fail => simp [pop1, e1, e3, noExc] at q
    | exc c m => simp [pop1, e1, e3, noExc] at q
    | ok d =>
      simp only [pop1, e1, e3, noExc, Res.bind_ok] at q
      refine o d1 d e3 Hf1 H1 v1 Q s1.up (b1.p s1) fun p vs l H2 el gr n r => ?_
      subst el
      obtain ⟨y1, y2⟩ := fp_new s.hand (.trans s.hand x1 (gr.ex s1.hand)) n r
      exact q _ _ _ y1 y2
def dictKeys (d : PyData) : Option (List NestedKey) := match d with
  | .list ds => match pairKeys ds with
    | some ks => if (ks.all isTupK || ks.all isNumK) && (ks.all fun k => decide (k.depth ≤ 8)) && decide (ds.length ≤ BIG) then some (dedup ks) else none
    | none => none
  | _ => none
theorem dictKeys_at {d : PyData} {l : List NestedKey} (h : dictKeys d = some l) : ∃ ds ks, d = .list ds ∧ keysOk ds ks ∧ l = dedup ks := by
  unfold dictKeys at h
  split at h
  · rename_i ds
    split at h
    · rename_i ks e
      split at h
      · rename_i e2
        simp only [Bool.and_eq_true, Bool.or_eq_true, decide_eq_true_eq] at e2
        cases h
        exact ⟨ds, ks, rfl, ⟨e, e2.1.1, by simpa using e2.1.2, e2.2⟩, rfl⟩
      · cases h
    · cases h
  · cases h
def dSortedDict (d : PyData) : Res PyData := match dictKeys d with
  | some ks => if sortOk (ks.map NestedKey.data) = true then .ok (.list (dSort (ks.map NestedKey.data))) else .fail
  | none => .fail
section
variable {X : Cx} {F : Fx} {a b c e : Expr} {es : List Expr} {f f1 f2 f3 : PX} {pos p pos2 p2 : Pos} {k : Nat} {x : Str}
theorem og_sortedDict : OpG1 X.K (fun v H Q => rDictE X.K [v] H (fun x H2 => rSortE X.K [x] H2 Q)) dSortedDict := by
  intro d1 d e Hf H v1 Q u b1 q
  unfold dSortedDict at e
  split at e
  · rename_i l e1
    split at e
    · rename_i ok
      cases e
      obtain ⟨ds, ks, rfl, hk, rfl⟩ := dictKeys_at e1
      obtain ⟨p1, vs, rfl, h1, r⟩ := b1.list u
      refine ⟨p1, vs, ds, ks, Hf, rfl, h1, u, r, hk, fun p o kv n hs dob rk => ?_⟩
      have g := Gr.tmp (o := HO.ext fun h => h.get? p = some o) u n
      exact ⟨p, o, kv, _, Hf, rfl, upd_same, hs, dob, g.up, rk, ok, fun p2 ws n2 rr => q p2 ws _ _ rfl g n2 rr⟩
    · cases e
  · cases e
/-- sorted(dict(pairs)) -/
theorem lf_sortedDict (z : Cz X k) (hg : Gl X "sorted") (hm : X.mg "sorted" = none) (hg2 : Gl X "dict") (hm2 : X.mg "dict" = none) (ha : LB X F a f1) (hs : starEach [a] X.env = (false, eval a X.env) :: starEach [] X.env := by rfl)
    (hs2 : starEach [.Call (.Name "dict" p2) [a] [] pos2] X.env = (false, eval (.Call (.Name "dict" p2) [a] [] pos2) X.env) :: starEach [] X.env := by rfl) : LF X F (.Call (.Name "sorted" p) [.Call (.Name "dict" p2) [a] [] pos2] [] pos) (pop1 dSortedDict f1) := by
  have hu : X.A.units + 64 < cLine := by
    have := z.room.un
    omega
  have inner := pe_callTy (p := p2) (pos := pos2) (cr_dictE z.calm hu) hg2 hm2 (by decide +kernel) (pa_1 ha hs) (by decide) (by decide) hs rfl
  exact ⟨pe_mono (pe_callB (cr_sortE z.calm hu) hg hm (by decide +kernel) (pa_cons inner pa_nil hs2) (by decide) (by decide) hs2 rfl) fun σ H Q q => tUnG_of (r := fun v H Q => rDictE X.K [v] H (fun x H2 => rSortE X.K [x] H2 Q)) og_sortedDict q⟩
end
end L3
namespace L3
open PySem PySem.Spec PyProof.Rows L2
/-! ## blocks -/
section
variable {X : Cx} {F : Fx} {k : Nat} {s : Shared} {H : Hp} {sc : Scope} {ce : Env} {fp : List Addr}
theorem Takes.blk : Takes (X.blk s H sc ce fp) F.q.W := fun u s' x => by
  obtain ⟨a, B, sI, pins, σ, H, cls, d, e, I, nb, up, sky, na, os, ag, w⟩ := x
  exact w.elim
theorem Cz.blk (z : Cz X k) : Cz (X.blk s H sc ce fp) k := ⟨z.calm, z.nd, z.room⟩
theorem Cz.mono {j : Nat} (z : Cz X k) (h : j ≤ k) : Cz X j := ⟨z.calm, z.nd, z.room.mono h⟩
/-! targets -/
variable {es : List Expr} {e : Expr} {pos : Pos} {i kt : Nat} {x : Str} {T : Tg} {l : List Tg}
theorem pgn (z : Cz X k) (hi : X.N[i]? = some x := by rfl) (hx : Loc X.env.scope x := by first | exact .inl rfl | exact .inr rfl) (hf : X.fn x = true ∨ X.env.scope.names.lookup x = some .local := by first | exact .inl rfl | exact .inr rfl) : PG X (.Name x pos) (gOf X.K (.nm i)) := by
  unfold gOf
  exact pg_name z.nd hi hx hf
theorem pgsn : PGs X [] (gsOf X.K []) := by
  unfold gsOf
  exact pgs_nil
theorem pgsc (h1 : PG X e (gOf X.K T)) (h2 : PGs X es (gsOf X.K l)) (hs : (assignEach (e :: es) X.env).map (·.2) = assign e X.env :: (assignEach es X.env).map (·.2) := by rfl) : PGs X (e :: es) (gsOf X.K (T :: l)) := by
  unfold gsOf
  exact pgs_cons h1 h2 hs
theorem pgt (z : Cz X k) (h : PGs X es (gsOf X.K l)) (hn : (assignEach es X.env).length = l.length := by rfl) (hst : (assignEach es X.env).findIdx? (·.1) = none := by rfl) : PG X (.Tuple es kt pos) (gOf X.K (.tp l)) := by
  unfold gOf
  exact pg_tup z.calm h hn hst
end
def retOf : Stmt → Expr
  | .Return (some e) _ => e
  | _ => .Constant .none 0 ⟨0, 0, 0, 0⟩
def posOf : Stmt → Pos
  | .Return _ p => p
  | _ => ⟨0, 0, 0, 0⟩
/-! what stands in the module -/
structure Blt (mg : Str → Option Value) : Prop where
  len : mg "len" = none
  abs : mg "abs" = none
  int : mg "int" = none
  sum : mg "sum" = none
  all : mg "all" = none
  any : mg "any" = none
  tuple : mg "tuple" = none
  list : mg "list" = none
  min : mg "min" = none
  max : mg "max" = none
  range : mg "range" = none
  sorted : mg "sorted" = none
  zip : mg "zip" = none
  enumerate : mg "enumerate" = none
  isinstance : mg "isinstance" = none
  bool : mg "bool" = none
  dict : mg "dict" = none
  set : mg "set" = none
  str : mg "str" = none
  repr : mg "repr" = none
/-! the law -/
def spL (K : PySem.W.Frag) (n : Nat) (g : FX) : Sp := fun vs H Q E => ∃ a ns, vs = [.ref a] ∧ SqL K H a (ns.map V.int) ∧ n = 1 ∧ ∃ b, (match g [.scr ns] [] with | .ok (d, _) => d = .bool b | _ => False) ∧ ∀ H', Q (.bl b) H'
section
variable {P : Program} {w : World} {K : PySem.W.Frag} {mg : Str → Option Value} {base : Heap}
theorem okL {x qual : Str} {st : Stmt} {f : Addr} {fd : FuncData} {N : List Str} {p : Str} {k : Nat} {sem : SX} (Fn : Fun K x qual st f fd) (S : FnScope N [p] (defScope st))
    (hb : ∀ (cdv : Value) (A : Around) (outer : List Env) (s : Shared) (H : Hp) (E : XK) (F : Fx), F.ah0 = none → Cs (CxF P w K mg base N qual st f cdv A outer s H E) F k → LSs (CxF P w K mg base N qual st f cdv A outer s H E) F (defBody st) sem) :
    FnOk P w K mg base (L2.CX P w) (k + 1) f fd [p] (spL K 1 (semF N.length sem)) := by
  refine Fn.okX S (fun vs H Q E h => ?_) fun cdv A outer s H vs Q E hr h => ?_
  · obtain ⟨a, ns, rfl, _⟩ := h
    rfl
  · obtain ⟨a, ns, rfl, hq, _, b, hg, q⟩ := h
    let F : Fx := ⟨H, H, none, fun cls d _ H' => E cls d H'⟩
    have C : Cs (CxF P w K mg base N qual st f cdv A outer s H E) F k := ⟨⟨rfl, S.nd, hr⟩, takes_of rfl rfl rfl rfl, passes_of rfl⟩
    have r : ArgAll K mg none H [.ref a] [.scr ns] := .cons ⟨a, rfl, hq⟩ .nil
    refine ⟨_, (hb cdv A outer s H E F rfl C).ps, none, H, _, [], argSR (N := N) (W := F.W) r (.refl _) (fun a e => nomatch e), ?_⟩
    show SPost K mg F _ H (sem _ [])
    unfold semF at hg
    cases e : sem ([SV.scr ns].map some ++ List.replicate (N.length - [SV.scr ns].length) none) [] with
    | fail => rw [e] at hg; exact hg.elim
    | exc c m => rw [e] at hg; exact hg.elim
    | nx ρ hs' =>
      rw [e] at hg
      cases hg
    | rt d hs' =>
      rw [e] at hg
      have hg : d = .bool b := hg
      subst hg
      intro v Hf' H' ro rr
      cases rr
      exact q H'
end
theorem fun_at {K : PySem.W.Frag} {h : Heap} {mg : Str → Option Value} {x : Str} {st : Stmt} {f : Addr} {oc : Value} {od an : Option Addr} {osl : Array (Option Value)} {kV doc pm cdv ct : Value} (X : K.In h) (G : h.Ns mainGlobals mg) (a : PySem.W.nsIn K mainGlobals x = some (some (.ref f)))
    (l : K.lookup f = some ⟨oc, od, .func (PySem.W.fnOf x x (defArgs st) (defBody st) (defScope st) .none kV doc pm an cdv ct), osl⟩) (c : PySem.W.codeIn K cdv x = true) (k : PySem.W.keepIn K (.ref f) = true) :
    Fun K x x st f (PySem.W.fnOf x x (defArgs st) (defBody st) (defScope st) .none kV doc pm an cdv ct) ∧ mg x = some (.ref f) :=
  ⟨fun_mk l c k, PySem.W.mg_of X G a⟩
theorem DfF.mono {P : Program} {w : World} {K : PySem.W.Frag} {mg : Str → Option Value} {base : Heap} {j k n : Nat} {x : Str} {g : FX} (D : DfF P w K mg base j x n g) (h : j ≤ k) : DfF P w K mg base k x n g := by
  obtain ⟨f, fd, ps, G, hm, hk, hb⟩ := D.ex
  exact ⟨f, fd, ps, G.mono h, hm, hk, hb⟩
theorem cx_false {P : Program} {w : World} {H : Hp} {s : Shared} {e : Value} {s' : Shared} (h : L2.CX P w [] H s (fun _ _ _ => False) e s') : False := by
  obtain ⟨a, B, H', cls, d, h1, h2, h3, h4, h5, h6, h7, h8⟩ := h
  exact h8
end L3
namespace L4
open PySem PySem.Spec PyProof.Rows L3

/-! ## types as data -/
class Enc (α : Type) [DecidableEq α] where
  enc : α → PyData
  dep : Nat
  lay : ∀ a, (enc a).canLay0 = true
  depth : ∀ a, (enc a).depth ≤ dep
  eqv : ∀ a b, PyData.eqv (enc a) (enc b) = decide (a = b)
open Enc (enc)
/-- .. in order -/
class EncO (α : Type) [DecidableEq α] extends Enc α where
  lt : α → α → Bool
  alike : ∀ a b : α, PySem.W.alike (enc a) (enc b) = true
  dlt : ∀ a b : α, PySem.W.dataLt (enc a) (enc b) = lt a b
  nn : ∀ a : α, isNone (enc a) = false
  irr : ∀ a : α, lt a a = false
  tr : ∀ a b c : α, lt a b = true → lt b c = true → lt a c = true
  tot : ∀ a b : α, a ≠ b → lt a b = true ∨ lt b a = true
  sok : (∀ a : α, tupNE (enc a) = true) ∨ ∀ a : α, plainIt (enc a) = true
  cok : (∀ a : α, ∃ i, enc a = .int i) ∨ (∀ a : α, ∃ l, enc a = .tuple l)
section
variable {α β γ : Type} [DecidableEq α] [DecidableEq β] [DecidableEq γ]
theorem enc_inj [Enc α] {a b : α} (h : enc a = enc b) : a = b := by
  have e1 := Enc.eqv a b
  have e2 := Enc.eqv b b
  rw [h] at e1
  rw [e1] at e2
  simpa using e2
theorem EncO.asymm [EncO α] {a b : α} (h : EncO.lt a b = true) : EncO.lt b a = false := by
  cases q : EncO.lt b a with
  | false => rfl
  | true =>
    have := EncO.tr _ _ _ h q
    rw [EncO.irr] at this
    cases this
instance : EncO Int where
  enc := .int
  dep := 0
  lay := fun _ => by simp [PyData.canLay0]
  depth := fun _ => by simp [PyData.depth]
  eqv := fun a b => by
    simp only [PyData.eqv]
    by_cases h : a = b
    · subst h; simp
    · rw [decide_eq_false h]; exact beq_eq_false_iff_ne.mpr h
  lt := fun a b => decide (a < b)
  alike := fun _ _ => by simp [PySem.W.alike]
  dlt := PySem.W.dataLt_int
  nn := fun _ => rfl
  irr := fun a => by simp
  tr := fun a b c h1 h2 => by simp at h1 h2 ⊢; omega
  tot := fun a b h => by simp; omega
  sok := .inr fun _ => rfl
  cok := .inl fun a => ⟨a, rfl⟩
instance : Enc Bool where
  enc := .bool
  dep := 0
  lay := fun _ => by simp [PyData.canLay0]
  depth := fun _ => by simp [PyData.depth]
  eqv := fun a b => by
    simp only [PyData.eqv]
    cases a <;> cases b <;> rfl
instance [Enc α] [Enc β] : Enc (α × β) where
  enc := fun p => .tuple [enc p.1, enc p.2]
  dep := max (Enc.dep α) (Enc.dep β) + 1
  lay := fun p => by simp [PyData.canLay0, PyData.canLayAll0, Enc.lay]
  depth := fun p => by
    have h1 := Enc.depth p.1
    have h2 := Enc.depth p.2
    simp only [PyData.depth, PyData.depthAll]
    omega
  eqv := fun a b => by
    simp only [PyData.eqv, PyData.eqvAll, Enc.eqv, Bool.and_true]
    rcases a with ⟨a1, a2⟩
    rcases b with ⟨b1, b2⟩
    by_cases h1 : a1 = b1 <;> by_cases h2 : a2 = b2 <;> simp [h1, h2]
theorem lt_prod {α β : Type} [DecidableEq α] [DecidableEq β] [EncO α] [EncO β] (a b : α × β) : PySem.W.dataLt (enc a) (enc b) = (EncO.lt a.1 b.1 || (decide (a.1 = b.1) && EncO.lt a.2 b.2)) := by
  show PySem.W.dataLt (.tuple [enc a.1, enc a.2]) (.tuple [enc b.1, enc b.2]) = _
  rw [PySem.W.dataLt_pair (EncO.alike _ _) (EncO.alike _ _), Enc.eqv, Enc.eqv, EncO.dlt, EncO.dlt]
  by_cases h1 : a.1 = b.1
  · rw [h1, EncO.irr]
    by_cases h2 : a.2 = b.2
    · rw [h2, EncO.irr]; simp
    · simp [h2]
  · simp [h1]
instance [EncO α] [EncO β] : EncO (α × β) where
  lt := fun a b => EncO.lt a.1 b.1 || (decide (a.1 = b.1) && EncO.lt a.2 b.2)
  alike := fun a b => by
    show PySem.W.alike (.tuple [enc a.1, enc a.2]) (.tuple [enc b.1, enc b.2]) = true
    simp [PySem.W.alike, PySem.W.alikeAll, EncO.alike]
  dlt := lt_prod
  nn := fun _ => rfl
  irr := fun a => by simp [EncO.irr]
  tr := fun a b c h1 h2 => by
    simp only [Bool.or_eq_true, Bool.and_eq_true, decide_eq_true_eq] at h1 h2 ⊢
    rcases h1 with h1 | ⟨h1, h1'⟩ <;> rcases h2 with h2 | ⟨h2, h2'⟩
    · exact .inl (EncO.tr _ _ _ h1 h2)
    · exact .inl (by rw [← h2]; exact h1)
    · exact .inl (by rw [h1]; exact h2)
    · exact .inr ⟨h1.trans h2, EncO.tr _ _ _ h1' h2'⟩
  tot := fun a b h => by
    simp only [Bool.or_eq_true, Bool.and_eq_true, decide_eq_true_eq]
    by_cases h1 : a.1 = b.1
    · have h2 : a.2 ≠ b.2 := fun e => h (Prod.ext h1 e)
      rcases EncO.tot _ _ h2 with q | q
      · exact .inl (.inr ⟨h1, q⟩)
      · exact .inr (.inr ⟨h1.symm, q⟩)
    · rcases EncO.tot _ _ h1 with q | q
      · exact .inl (.inl q)
      · exact .inr (.inl q)
  sok := .inl fun _ => rfl
  cok := .inr fun a => ⟨_, rfl⟩
/-! lists, tuples of one type -/
theorem layAll [Enc α] : ∀ l : List α, PyData.canLayAll0 (l.map enc) = true
  | [] => by simp [PyData.canLayAll0]
  | a :: r => by simp [PyData.canLayAll0, Enc.lay, layAll r]
theorem depthAll_le [Enc α] : ∀ l : List α, PyData.depthAll (l.map enc) ≤ Enc.dep α
  | [] => by simp [PyData.depthAll]
  | a :: r => by
    have h1 := depthAll_le r
    have h2 := Enc.depth a
    simp only [List.map_cons, PyData.depthAll]
    omega
theorem eqvAll_eq [Enc α] : ∀ l m : List α, PyData.eqvAll (l.map enc) (m.map enc) = decide (l = m)
  | [], [] => by simp [PyData.eqvAll]
  | [], _ :: _ => by simp [PyData.eqvAll]
  | _ :: _, [] => by simp [PyData.eqvAll]
  | a :: r, b :: q => by
    simp only [List.map_cons, PyData.eqvAll, Enc.eqv, eqvAll_eq r q]
    by_cases h1 : a = b <;> by_cases h2 : r = q <;> simp [h1, h2]
instance [Enc α] : Enc (List α) where
  enc := fun l => .list (l.map enc)
  dep := Enc.dep α + 1
  lay := fun l => by rw [PyData.canLay0]; exact layAll l
  depth := fun l => by
    rw [PyData.depth]
    have := depthAll_le l
    omega
  eqv := fun l m => by rw [PyData.eqv]; exact eqvAll_eq l m
/-- a tuple of things of one type -/
structure Tu (α : Type) where
  l : List α
  deriving DecidableEq
theorem Tu.ext' {a b : Tu α} (h : a.l = b.l) : a = b := by
  cases a; cases b; simpa using h
instance [Enc α] : Enc (Tu α) where
  enc := fun t => .tuple (t.l.map enc)
  dep := Enc.dep α + 1
  lay := fun t => by rw [PyData.canLay0]; exact layAll t.l
  depth := fun t => by
    rw [PyData.depth]
    have := depthAll_le t.l
    omega
  eqv := fun a b => by
    rw [PyData.eqv, eqvAll_eq]
    by_cases h : a.l = b.l
    · rw [decide_eq_true h, decide_eq_true (Tu.ext' h)]
    · rw [decide_eq_false h, decide_eq_false fun e => h (by rw [e])]

/-! ## the data's operations, by type -/
variable [Enc α]
theorem shaped_enc (a : α) (h : Enc.dep α ≤ 64 := by decide) : SeqAt.shaped (enc a) = true := by
  unfold SeqAt.shaped
  rw [Enc.lay]
  have := Enc.depth a
  simp
  omega
theorem dEq_enc (a b : α) (h : Enc.dep α ≤ 64 := by decide) : dEq (enc a) (enc b) = .ok (.bool (decide (a = b))) := by
  unfold dEq
  rw [if_pos ⟨shaped_enc a h, shaped_enc b h⟩, Enc.eqv]
theorem dNe_enc (a b : α) (h : Enc.dep α ≤ 64 := by decide) : dNe (enc a) (enc b) = .ok (.bool (!decide (a = b))) := by
  unfold dNe
  rw [if_pos ⟨shaped_enc a h, shaped_enc b h⟩, Enc.eqv]
theorem any_enc (l : List α) (a : α) : ((l.map enc).any fun z => PyData.eqv z (enc a)) = decide (a ∈ l) := by
  induction l with
  | nil => simp
  | cons b r ih =>
    rw [List.map_cons, List.any_cons, ih, Enc.eqv]
    by_cases h : b = a
    · subst h; simp
    · have h' : ¬ a = b := fun e => h e.symm
      simp [h, h']
theorem dIn_list (a : α) (l : List α) (h : Enc.dep α + 1 ≤ 64 := by decide) : dIn (enc a) (.list (l.map enc)) = .ok (.bool (decide (a ∈ l))) := by
  unfold dIn
  have h1 := shaped_enc a (by omega)
  have h2 : SeqAt.shaped (.list (l.map enc)) = true := shaped_enc (α := List α) l h
  simp only [h1, h2, and_self, if_true, any_enc]
theorem dIn_tuple (a : α) (l : List α) (h : Enc.dep α + 1 ≤ 64 := by decide) : dIn (enc a) (.tuple (l.map enc)) = .ok (.bool (decide (a ∈ l))) := by
  unfold dIn
  have h1 := shaped_enc a (by omega)
  have h2 : SeqAt.shaped (.tuple (l.map enc)) = true := shaped_enc (α := Tu α) ⟨l⟩ h
  simp only [h1, h2, and_self, if_true, any_enc]
theorem dNotIn_list (a : α) (l : List α) (h : Enc.dep α + 1 ≤ 64 := by decide) : dNotIn (enc a) (.list (l.map enc)) = .ok (.bool (!decide (a ∈ l))) := by
  unfold dNotIn
  have h1 := shaped_enc a (by omega)
  have h2 : SeqAt.shaped (.list (l.map enc)) = true := shaped_enc (α := List α) l h
  simp only [h1, h2, and_self, if_true, any_enc]
theorem dNotIn_tuple (a : α) (l : List α) (h : Enc.dep α + 1 ≤ 64 := by decide) : dNotIn (enc a) (.tuple (l.map enc)) = .ok (.bool (!decide (a ∈ l))) := by
  unfold dNotIn
  have h1 := shaped_enc a (by omega)
  have h2 : SeqAt.shaped (.tuple (l.map enc)) = true := shaped_enc (α := Tu α) ⟨l⟩ h
  simp only [h1, h2, and_self, if_true, any_enc]
theorem dLen_list (l : List PyData) : dLen (.list l) = .ok (.int l.length) := rfl
theorem dLen_tuple (l : List PyData) : dLen (.tuple l) = .ok (.int l.length) := rfl
end
section
variable {α : Type} [DecidableEq α] [EncO α]
theorem cmp_enc (a b : α) (h : Enc.dep α ≤ 60 := by decide) (ha : ∀ i, enc a ≠ .int i) : cmpOk (enc a) (enc b) = true := by
  unfold cmpOk
  rw [EncO.alike]
  have := Enc.depth a
  rcases EncO.cok (α := α) with q | q
  · obtain ⟨i, e⟩ := q a
    exact absurd e (ha i)
  · obtain ⟨l, e⟩ := q a
    rw [e] at this ⊢
    simp
    omega
theorem dLt_enc (a b : α) (h : Enc.dep α ≤ 60 := by decide) : dLt (enc a) (enc b) = .ok (.bool (EncO.lt a b)) := by
  rw [← EncO.dlt]
  rcases EncO.cok (α := α) with q | q
  · obtain ⟨i, e⟩ := q a
    obtain ⟨j, e'⟩ := q b
    rw [e, e', PySem.W.dataLt_int]
    rfl
  · obtain ⟨l, e⟩ := q a
    have c := cmp_enc a b h (fun i z => by rw [e] at z; cases z)
    rw [e] at c ⊢
    unfold dLt
    simp only [c, if_true]
theorem dGt_enc (a b : α) (h : Enc.dep α ≤ 60 := by decide) : dGt (enc a) (enc b) = .ok (.bool (EncO.lt b a)) := by
  rw [← EncO.dlt]
  rcases EncO.cok (α := α) with q | q
  · obtain ⟨i, e⟩ := q a
    obtain ⟨j, e'⟩ := q b
    rw [e, e', PySem.W.dataLt_int]
    rfl
  · obtain ⟨l, e⟩ := q a
    have c := cmp_enc a b h (fun i z => by rw [e] at z; cases z)
    rw [e] at c ⊢
    unfold dGt
    simp only [c, if_true]
theorem dLe_enc (a b : α) (h : Enc.dep α ≤ 60 := by decide) : dLe (enc a) (enc b) = .ok (.bool (!EncO.lt b a)) := by
  rw [← EncO.dlt]
  rcases EncO.cok (α := α) with q | q
  · obtain ⟨i, e⟩ := q a
    obtain ⟨j, e'⟩ := q b
    rw [e, e', PySem.W.dataLt_int]
    show Res.ok (PyData.bool (decide (i ≤ j))) = _
    congr 2
    by_cases h : i ≤ j
    · rw [decide_eq_true h, decide_eq_false (by omega)]; rfl
    · rw [decide_eq_false h, decide_eq_true (by omega)]; rfl
  · obtain ⟨l, e⟩ := q a
    have c := cmp_enc a b h (fun i z => by rw [e] at z; cases z)
    rw [e] at c ⊢
    unfold dLe
    simp only [c, if_true]
/-! least, greatest -/
def minA (x : α) (xs : List α) : α := xs.foldl (fun a y => if EncO.lt y a = true then y else a) x
def maxA (x : α) (xs : List α) : α := xs.foldl (fun a y => if EncO.lt a y = true then y else a) x
theorem minD_enc (x : α) (xs : List α) : PySem.W.minD (enc x) (xs.map enc) = enc (minA x xs) := by
  unfold PySem.W.minD minA
  induction xs generalizing x with
  | nil => rfl
  | cons y r ih =>
    rw [List.map_cons, List.foldl_cons, List.foldl_cons, EncO.dlt]
    split
    · exact ih y
    · exact ih x
theorem maxD_enc (x : α) (xs : List α) : PySem.W.maxD (enc x) (xs.map enc) = enc (maxA x xs) := by
  unfold PySem.W.maxD maxA
  induction xs generalizing x with
  | nil => rfl
  | cons y r ih =>
    rw [List.map_cons, List.foldl_cons, List.foldl_cons, EncO.dlt]
    split
    · exact ih y
    · exact ih x
theorem alikeL_enc (l : List α) : alikeL (l.map enc) = true := by
  unfold alikeL
  rw [List.all_eq_true]
  intro d hd
  rw [List.all_eq_true]
  intro e he
  obtain ⟨a, _, rfl⟩ := List.mem_map.mp hd
  obtain ⟨b, _, rfl⟩ := List.mem_map.mp he
  exact EncO.alike a b
theorem mmOk_enc (l : List α) (h : Enc.dep α ≤ 60 := by decide) : mmOk (l.map enc) = true := by
  unfold mmOk
  have := depthAll_le l
  rw [alikeL_enc]
  simp only [Bool.true_and, Bool.and_eq_true, decide_eq_true_eq, List.all_eq_true]
  refine ⟨fun d hd => ?_, by omega⟩
  obtain ⟨a, _, rfl⟩ := List.mem_map.mp hd
  rw [EncO.nn]
  rfl
theorem dMinL_list (x : α) (xs : List α) (h : Enc.dep α ≤ 60 := by decide) : dMinL (.list ((x :: xs).map enc)) = .ok (enc (minA x xs)) := by
  have := mmOk_enc (x :: xs) h
  show (if mmOk (enc x :: xs.map enc) = true then Res.ok (PySem.W.minD (enc x) (xs.map enc)) else .fail) = _
  rw [minD_enc]
  exact if_pos this
theorem dMaxL_list (x : α) (xs : List α) (h : Enc.dep α ≤ 60 := by decide) : dMaxL (.list ((x :: xs).map enc)) = .ok (enc (maxA x xs)) := by
  have := mmOk_enc (x :: xs) h
  show (if mmOk (enc x :: xs.map enc) = true then Res.ok (PySem.W.maxD (enc x) (xs.map enc)) else .fail) = _
  rw [maxD_enc]
  exact if_pos this
theorem minA_mem (x : α) (xs : List α) : minA x xs ∈ x :: xs := by
  unfold minA
  induction xs generalizing x with
  | nil => simp
  | cons y r ih =>
    rw [List.foldl_cons]
    split
    · have := ih y
      simp at this ⊢
      rcases this with h | h <;> simp [h]
    · have := ih x
      simp at this ⊢
      rcases this with h | h <;> simp [h]
theorem maxA_mem (x : α) (xs : List α) : maxA x xs ∈ x :: xs := by
  unfold maxA
  induction xs generalizing x with
  | nil => simp
  | cons y r ih =>
    rw [List.foldl_cons]
    split
    · have := ih y
      simp at this ⊢
      rcases this with h | h <;> simp [h]
    · have := ih x
      simp at this ⊢
      rcases this with h | h <;> simp [h]
theorem nlt_trans {a b c : α} (h1 : EncO.lt b a = false) (h2 : EncO.lt c b = false) : EncO.lt c a = false := by
  cases q : EncO.lt c a with
  | false => rfl
  | true =>
    by_cases e : a = b
    · subst e; rw [h2] at q; cases q
    · rcases EncO.tot a b e with z | z
      · rw [EncO.tr _ _ _ q z] at h2; cases h2
      · rw [h1] at z; cases z
/-- nothing is less -/
theorem minA_le (x : α) (xs : List α) : ∀ y ∈ x :: xs, EncO.lt y (minA x xs) = false := by
  unfold minA
  induction xs generalizing x with
  | nil =>
    intro y hy
    simp at hy
    subst hy
    exact EncO.irr _
  | cons z r ih =>
    intro y hy
    rw [List.foldl_cons]
    split
    · rename_i h
      rcases List.mem_cons.mp hy with q | q
      · subst q
        exact nlt_trans (ih z z List.mem_cons_self) (EncO.asymm h)
      · exact ih z y q
    · rename_i h
      have h : EncO.lt z x = false := by simpa using h
      rcases List.mem_cons.mp hy with q | q
      · subst q; exact ih y y List.mem_cons_self
      · rcases List.mem_cons.mp q with q | q
        · subst q; exact nlt_trans (ih x x List.mem_cons_self) h
        · exact ih x y (List.mem_cons_of_mem _ q)
theorem maxA_ge (x : α) (xs : List α) : ∀ y ∈ x :: xs, EncO.lt (maxA x xs) y = false := by
  unfold maxA
  induction xs generalizing x with
  | nil =>
    intro y hy
    simp at hy
    subst hy
    exact EncO.irr _
  | cons z r ih =>
    intro y hy
    rw [List.foldl_cons]
    split
    · rename_i h
      rcases List.mem_cons.mp hy with q | q
      · subst q
        exact nlt_trans (EncO.asymm h) (ih z z List.mem_cons_self)
      · exact ih z y q
    · rename_i h
      have h : EncO.lt x z = false := by simpa using h
      rcases List.mem_cons.mp hy with q | q
      · subst q; exact ih y y List.mem_cons_self
      · rcases List.mem_cons.mp q with q | q
        · subst q; exact nlt_trans h (ih x x List.mem_cons_self)
        · exact ih x y (List.mem_cons_of_mem _ q)
/-- the least one is told by this -/
theorem least_unique {m n : α} (h1 : EncO.lt m n = false) (h2 : EncO.lt n m = false) : m = n := by
  by_cases e : m = n
  · exact e
  · rcases EncO.tot _ _ e with q | q
    · rw [h1] at q; cases q
    · rw [h2] at q; cases q
theorem minA_eq {x : α} {xs : List α} {m : α} (hm : m ∈ x :: xs) (h : ∀ y ∈ x :: xs, EncO.lt y m = false) : minA x xs = m :=
  least_unique (h _ (minA_mem x xs)) (minA_le x xs m hm)
/-! sorted -/
def sortA (l : List α) : List α := l.mergeSort fun a b => !EncO.lt b a
theorem dSort_enc (l : List α) : dSort (l.map enc) = (sortA l).map enc := by
  unfold dSort sortA
  rw [List.map_mergeSort (r := fun a b => !EncO.lt b a) (s := PySem.W.dataLe false id) (f := enc)]
  intro a _ b _
  show _ = (!PySem.W.dataLt (enc b) (enc a))
  rw [EncO.dlt]
theorem sortOk_enc (l : List α) (hl : l.length ≤ BIG) (h : Enc.dep α ≤ 60 := by decide) : sortOk (l.map enc) = true := by
  unfold sortOk
  have := depthAll_le l
  rw [alikeL_enc]
  have hd : decide (PyData.depthAll (l.map enc) ≤ 60) = true := decide_eq_true (by omega)
  have hb : decide ((l.map enc).length ≤ BIG) = true := decide_eq_true (by rw [List.length_map]; exact hl)
  rw [hd, hb]
  rcases EncO.sok (α := α) with q | q
  · have : (l.map enc).all tupNE = true := by
      rw [List.all_eq_true]
      intro d hd
      obtain ⟨a, _, rfl⟩ := List.mem_map.mp hd
      exact q a
    rw [this]; rfl
  · have : (l.map enc).all plainIt = true := by
      rw [List.all_eq_true]
      intro d hd
      obtain ⟨a, _, rfl⟩ := List.mem_map.mp hd
      exact q a
    rw [this]; simp
theorem dSorted_enc (l : List α) (hl : l.length ≤ BIG) (h : Enc.dep α ≤ 60 := by decide) : dSorted (.list (l.map enc)) = .ok (.list ((sortA l).map enc)) := by
  show (if sortOk (l.map enc) = true then Res.ok (PyData.list (dSort (l.map enc))) else .fail) = _
  rw [dSort_enc]
  exact if_pos (sortOk_enc l hl h)
theorem sortA_perm (l : List α) : (sortA l).Perm l := List.mergeSort_perm _ _
theorem sortA_sorted (l : List α) : (sortA l).Pairwise fun a b => EncO.lt b a = false := by
  have := List.pairwise_mergeSort (le := fun a b : α => !EncO.lt b a) (fun a b c h1 h2 => by
    simp only [Bool.not_eq_true'] at h1 h2 ⊢
    exact nlt_trans h1 h2) (fun a b => by
    simp only [Bool.or_eq_true, Bool.not_eq_true']
    cases q : EncO.lt b a with
    | false => exact .inl rfl
    | true => exact .inr (EncO.asymm q)) l
  exact this.imp fun {a b} h => by simpa using h
theorem sorted_eq : ∀ {l m : List α}, l.Perm m → l.Pairwise (fun a b => EncO.lt b a = false) → m.Pairwise (fun a b => EncO.lt b a = false) → l = m
  | [], m, p, _, _ => by simpa using p.symm
  | a :: l, [], p, _, _ => by simpa using p
  | a :: l, b :: m, p, h1, h2 => by
    obtain ⟨h3, h4⟩ := List.pairwise_cons.mp h1
    obtain ⟨h5, h6⟩ := List.pairwise_cons.mp h2
    have e : a = b := by
      have m1 : a ∈ b :: m := p.mem_iff.mp List.mem_cons_self
      have m2 : b ∈ a :: l := p.mem_iff.mpr List.mem_cons_self
      rcases List.mem_cons.mp m1 with q | q
      · exact q
      · rcases List.mem_cons.mp m2 with q2 | q2
        · exact q2.symm
        · exact least_unique (h5 a q) (h3 b q2)
    subst e
    rw [sorted_eq (List.Perm.cons_inv p) h4 h6]
theorem sortA_eq {l m : List α} (p : m.Perm l) (h : m.Pairwise fun a b => EncO.lt b a = false) : sortA l = m :=
  sorted_eq ((sortA_perm l).trans p.symm) (sortA_sorted l) h
theorem sortA_len (l : List α) : (sortA l).length = l.length := (sortA_perm l).length_eq
theorem mem_sortA {l : List α} {a : α} : a ∈ sortA l ↔ a ∈ l := (sortA_perm l).mem_iff
end
end L4
namespace L4
open PySem PySem.Spec PyProof.Rows L3
open Enc (enc)
open L2 (atI ixN)
/-! ## evaluation by simp -/
section
variable {f f1 f2 f3 : PX} {t t1 t2 : TX} {g g1 g2 : PyData → PyData → Res PyData} {u : PyData → Res PyData} {a : AX} {m : MX} {gx : GX} {s s1 s2 : SX} {ρ : Rho} {hs hs1 : HSt} {d : PyData} {i n : Nat} {T : Tg} {l h : OX} {vs is : List Nat}
@[simp] theorem e_pK : pK d ρ hs = .ok (d, hs) := rfl
@[simp] theorem e_pVar (e : ρ[i]? = some (some (.val d))) : pVar i ρ hs = .ok (d, hs) := by simp [pVar, e]
@[simp] theorem e_pOwn {x : List PyData} (e : ρ[i]? = some (some (.own x))) : pOwn i ρ hs = .ok (.list x, hs) := by simp [pOwn, e]
@[simp] theorem e_noExc {α : Type} (x : α) : noExc (Res.ok x) = .ok x := rfl
@[simp] theorem e_pop2 : pop2 g f1 f2 ρ hs = (f1 ρ hs).bind fun x => (f2 ρ x.2).bind fun y => (noExc (g x.1 y.1)).bind fun d => .ok (d, y.2) := rfl
@[simp] theorem e_pop1 : pop1 u f ρ hs = (f ρ hs).bind fun x => (noExc (u x.1)).bind fun d => .ok (d, x.2) := rfl
@[simp] theorem e_pTst : pTst f ρ hs = (f ρ hs).bind fun x => match x.1 with | .bool b => .ok (b, x.2) | _ => .fail := rfl
@[simp] theorem e_pChain : pChain g1 g2 f1 f2 f3 ρ hs = (f1 ρ hs).bind fun x => (f2 ρ x.2).bind fun y => (noExc (g1 x.1 y.1)).bind fun c => match c with
  | .bool b => if b = true then (f3 ρ y.2).bind fun z => (noExc (g2 y.1 z.1)).bind fun d => .ok (d, z.2) else .ok (.bool false, y.2)
  | _ => .fail := rfl
@[simp] theorem e_tAnd : tAndX t1 t2 ρ hs = (t1 ρ hs).bind fun x => if x.1 = true then t2 ρ x.2 else .ok (false, x.2) := rfl
@[simp] theorem e_tOr : tOrX t1 t2 ρ hs = (t1 ρ hs).bind fun x => if x.1 = true then .ok (true, x.2) else t2 ρ x.2 := rfl
@[simp] theorem e_tNot : tNotX t ρ hs = (t ρ hs).bind fun x => .ok (!x.1, x.2) := rfl
@[simp] theorem e_tYes : tYesX ρ hs = .ok (true, hs) := rfl
@[simp] theorem e_pAnd : pAnd f1 f2 ρ hs = (f1 ρ hs).bind fun x => match x.1 with | .bool b => if b = true then f2 ρ x.2 else .ok (.bool false, x.2) | _ => .fail := rfl
@[simp] theorem e_pOr : pOr f1 f2 ρ hs = (f1 ρ hs).bind fun x => match x.1 with | .bool b => if b = true then .ok (.bool true, x.2) else f2 ρ x.2 | _ => .fail := rfl
@[simp] theorem e_pIf : pIf t f1 f2 ρ hs = (t ρ hs).bind fun x => if x.1 = true then f1 ρ x.2 else f2 ρ x.2 := rfl
@[simp] theorem e_aNil : aNil ρ hs = .ok ([], hs) := rfl
@[simp] theorem e_aCons : aCons f a ρ hs = (f ρ hs).bind fun x => (a ρ x.2).bind fun y => .ok (x.1 :: y.1, y.2) := rfl
theorem e_pTup' : pTup a ρ hs = (a ρ hs).bind fun x => if x.1.length ≤ BIG then .ok (.tuple x.1, x.2) else .fail := rfl
theorem e_pLst' : pLst a ρ hs = (a ρ hs).bind fun x => if x.1.length ≤ BIG then .ok (.list x.1, x.2) else .fail := rfl
def fitB (n : Nat) : Bool := decide (n ≤ BIG)
@[simp] theorem e_pTup : pTup a ρ hs = (a ρ hs).bind fun x => if fitB x.1.length = true then .ok (.tuple x.1, x.2) else .fail := by
  rw [e_pTup']; simp only [fitB, decide_eq_true_eq]
@[simp] theorem e_pLst : pLst a ρ hs = (a ρ hs).bind fun x => if fitB x.1.length = true then .ok (.list x.1, x.2) else .fail := by
  rw [e_pLst']; simp only [fitB, decide_eq_true_eq]
@[simp] theorem fit0 : fitB 0 = true := by decide
@[simp] theorem fit1 : fitB 1 = true := by decide
@[simp] theorem fit2 : fitB 2 = true := by decide
@[simp] theorem fit3 : fitB 3 = true := by decide
@[simp] theorem fit4 : fitB 4 = true := by decide
@[simp] theorem fit5 : fitB 5 = true := by decide
@[simp] theorem fit6 : fitB 6 = true := by decide
@[simp] theorem fit7 : fitB 7 = true := by decide
@[simp] theorem fit8 : fitB 8 = true := by decide
@[simp] theorem e_oNone : oNone ρ hs = .ok (none, hs) := rfl
@[simp] theorem e_oSome : oSome f ρ hs = (f ρ hs).bind fun x => match x.1 with | .int i => .ok (some i, x.2) | _ => .fail := rfl
@[simp] theorem e_pCut : pCut f l h ρ hs = (f ρ hs).bind fun x => (l ρ x.2).bind fun y => (h ρ y.2).bind fun z => (noExc (dCut y.1 z.1 x.1)).bind fun w => .ok (w, z.2) := rfl
@[simp] theorem e_pLc {fi : AX} : pLc fi T t f vs ρ hs = (fi ρ hs).bind fun x => (noExc (lcGo T t f (wipeR ρ vs) x.1 x.2)).bind fun y => .ok (.list y.1, y.2) := rfl
@[simp] theorem e_iOf : iOf f ρ hs = (f ρ hs).bind fun x => (seqOf x.1).bind fun y => .ok (y, x.2) := rfl
@[simp] theorem e_seqL {x : List PyData} : seqOf (.list x) = .ok x := rfl
@[simp] theorem e_seqT {x : List PyData} : seqOf (.tuple x) = .ok x := rfl
@[simp] theorem e_iEnum : iEnumX f ρ hs = (f ρ hs).bind fun x => (seqOf x.1).bind fun y => .ok (enumD 0 y, x.2) := rfl
@[simp] theorem e_iZip : iZipX f1 f2 ρ hs = (f1 ρ hs).bind fun x => (f2 ρ x.2).bind fun y => match x.1, y.1 with
  | .list xs, .list ys => .ok (zipD xs ys, y.2)
  | .tuple xs, .tuple ys => .ok (zipD xs ys, y.2)
  | _, _ => .fail := rfl
theorem e_iRange1' : iRange1 f ρ hs = (f ρ hs).bind fun x => match x.1 with | .int j => if j ≤ BIG ∧ -(2 ^ 62) ≤ j then .ok (rngD 0 j, x.2) else .fail | _ => .fail := rfl
theorem e_iRange2' : iRange2 f1 f2 ρ hs = (f1 ρ hs).bind fun x => (f2 ρ x.2).bind fun y => match x.1, y.1 with
  | .int i, .int j => if j ≤ 1000000 ∧ -1000000 ≤ j ∧ i ≤ 1000000 ∧ -1000000 ≤ i then .ok (rngD i j, y.2) else .fail
  | _, _ => .fail := rfl
def rOk1 (j : Int) : Bool := decide (j ≤ BIG ∧ -(2 ^ 62) ≤ j)
def rOk2 (i j : Int) : Bool := decide (j ≤ 1000000 ∧ -1000000 ≤ j ∧ i ≤ 1000000 ∧ -1000000 ≤ i)
@[simp] theorem e_iRange1 : iRange1 f ρ hs = (f ρ hs).bind fun x => match x.1 with | .int j => if rOk1 j = true then .ok (rngD 0 j, x.2) else .fail | _ => .fail := by
  rw [e_iRange1']; simp only [rOk1, decide_eq_true_eq]
@[simp] theorem e_iRange2 : iRange2 f1 f2 ρ hs = (f1 ρ hs).bind fun x => (f2 ρ x.2).bind fun y => match x.1, y.1 with
  | .int i, .int j => if rOk2 i j = true then .ok (rngD i j, y.2) else .fail
  | _, _ => .fail := by
  rw [e_iRange2']; simp only [rOk2, decide_eq_true_eq]
theorem r1_of {j : Int} (h1 : -1000000 ≤ j) (h2 : j ≤ 16777216) : rOk1 j = true := by
  unfold rOk1
  have : (BIG : Int) = 16777216 := rfl
  exact decide_eq_true ⟨by omega, by omega⟩
theorem r2_of {i j : Int} (h1 : -1000000 ≤ i) (h2 : i ≤ 1000000) (h3 : -1000000 ≤ j) (h4 : j ≤ 1000000) : rOk2 i j = true := decide_eq_true ⟨h4, h3, h2, h1⟩
@[simp] theorem e_gNil : gNilX ρ hs = .ok ([], hs) := rfl
@[simp] theorem e_gConsP : gConsP f gx ρ hs = (f ρ hs).bind fun x => (gx ρ x.2).bind fun y => .ok (.val x.1 :: y.1, y.2) := rfl
@[simp] theorem e_gConsF {x : Str} : gConsF x gx ρ hs = (gx ρ hs).bind fun y => .ok (.fn x :: y.1, y.2) := rfl
@[simp] theorem e_gConsR : gConsR i gx ρ hs = match ρ[i]? with
  | some (some .hand) => (gx ρ hs).bind fun y => .ok (.hand :: y.1, y.2)
  | some (some (.fn x)) => (gx ρ hs).bind fun y => .ok (.fn x :: y.1, y.2)
  | some (some (.scr l)) => (gx ρ hs).bind fun y => .ok (.scr l :: y.1, y.2)
  | _ => .fail := rfl
@[simp] theorem e_pCall {h : FX} : pCall n h gx ρ hs = (gx ρ hs).bind fun x => if x.1.length = n ∧ x.1.all noHand = true then (h x.1 []).bind fun y => .ok (y.1, x.2) else .fail := rfl
@[simp] theorem e_pCallH {h : FX} : pCallH n h gx ρ hs = (gx ρ hs).bind fun x => if x.1.length = n then h x.1 x.2 else .fail := rfl
@[simp] theorem e_nh1 : noHand (.val d) = true := rfl
@[simp] theorem e_nh2 {x : Str} : noHand (.fn x) = true := rfl
@[simp] theorem e_nh3 {x : List Int} : noHand (.scr x) = true := rfl
@[simp] theorem e_nh4 : noHand .hand = false := rfl
/-! statements -/
@[simp] theorem e_sNil : sNil ρ hs = .nx ρ hs := rfl
@[simp] theorem e_sPass : sPass ρ hs = .nx ρ hs := rfl
@[simp] theorem e_sNever : sNever ρ hs = .fail := rfl
@[simp] theorem e_sSeq : sSeq s1 s2 ρ hs = match s1 ρ hs with
  | .nx ρ1 hs1 => s2 ρ1 hs1 | .rt d hs1 => .rt d hs1 | .exc c m => .exc c m | .fail => .fail := rfl
@[simp] theorem e_sIf : sIf t s1 s2 ρ hs = match t ρ hs with
  | .ok x => if x.1 = true then s1 ρ x.2 else s2 ρ x.2 | .exc c m => .exc c m | .fail => .fail := by
  unfold sIf; cases t ρ hs <;> rfl
@[simp] theorem e_sExpr : sExpr f ρ hs = match f ρ hs with
  | .ok x => .nx ρ x.2 | .exc c m => .exc c m | .fail => .fail := by
  unfold sExpr; cases f ρ hs <;> rfl
@[simp] theorem e_sRet : sRet f ρ hs = match f ρ hs with
  | .ok x => .rt x.1 x.2 | .exc c m => .exc c m | .fail => .fail := by
  unfold sRet; cases f ρ hs <;> rfl
@[simp] theorem e_sRetN : sRetN ρ hs = .rt .none hs := rfl
@[simp] theorem e_sAsg : sAsg f T ρ hs = match f ρ hs with
  | .ok x => (match tgPut T x.1 ρ with | some ρ1 => .nx ρ1 x.2 | none => .fail) | .exc c m => .exc c m | .fail => .fail := by
  unfold sAsg; cases f ρ hs <;> rfl
@[simp] theorem e_tgNm : tgPut (.nm i) d ρ = if i < ρ.length then some (ρ.set i (some (.val d))) else none := by unfold tgPut; rfl
@[simp] theorem e_tgTp {Ts : List Tg} {ds : List PyData} : tgPut (.tp Ts) (.tuple ds) ρ = tgPuts Ts ds ρ := by rw [tgPut]
@[simp] theorem e_tgsN : tgPuts [] [] ρ = some ρ := by rw [tgPuts]
@[simp] theorem e_tgsC {Ts : List Tg} {ds : List PyData} : tgPuts (T :: Ts) (d :: ds) ρ = match tgPut T d ρ with | some ρ1 => tgPuts Ts ds ρ1 | none => none := by
  rw [tgPuts] <;> cases tgPut T d ρ <;> rfl
@[simp] theorem e_sPar : sPar is m ρ hs = match m ρ hs with
  | .ok x => if is.length = x.1.length ∧ is.all (fun i => decide (i < ρ.length)) = true then .nx (setAll ρ is x.1) x.2 else .fail | .exc c m => .exc c m | .fail => .fail := by
  unfold sPar; cases m ρ hs <;> rfl
@[simp] theorem e_mNil : mNil ρ hs = .ok ([], hs) := rfl
@[simp] theorem e_mConsP : mConsP f m ρ hs = (f ρ hs).bind fun x => (m ρ x.2).bind fun y => .ok (.val x.1 :: y.1, y.2) := rfl
@[simp] theorem e_mConsF : mConsF f m ρ hs = (f ρ hs).bind fun x => (m ρ x.2).bind fun y => match x.1 with | .list l => .ok (.own l :: y.1, y.2) | _ => .fail := rfl
@[simp] theorem e_setAll2 {α : Type} {r : List (Option α)} {x : α} {xs : List α} : setAll r (i :: is) (x :: xs) = setAll (r.set i (some x)) is xs := rfl
@[simp] theorem e_setAll1 {α : Type} {r : List (Option α)} {xs : List α} : setAll r [] xs = r := by cases xs <;> rfl
@[simp] theorem e_sOwn : sOwn f i ρ hs = match f ρ hs with
  | .ok (.list l, hs1) => if i < ρ.length then .nx (ρ.set i (some (.own l))) hs1 else .fail | .exc c m => .exc c m | _ => .fail := rfl
@[simp] theorem e_sFor {fi : AX} : sFor fi T s ρ hs = match fi ρ hs with
  | .ok x => forGo T s x.1 ρ x.2 | .exc c m => .exc c m | .fail => .fail := by
  unfold sFor; cases fi ρ hs <;> rfl
@[simp] theorem e_pHand : pHand i f ρ hs = match ρ[i]? with
  | some (some .hand) => (f ρ hs).bind fun x => (match x.1 with
    | .int j => (match atI x.2 j with | some z => .ok (z, x.2) | none => .fail)
    | _ => .fail)
  | _ => .fail := rfl
@[simp] theorem e_wipe0 : wipeR ρ [] = ρ := rfl
@[simp] theorem e_wipe1 {v : Nat} : wipeR ρ (v :: vs) = (wipeR ρ vs).set v none := rfl
/-! data -/
@[simp] theorem d_add {x y : Int} : dAdd (.int x) (.int y) = .ok (.int (x + y)) := rfl
@[simp] theorem d_sub {x y : Int} : dSub (.int x) (.int y) = .ok (.int (x - y)) := rfl
@[simp] theorem d_neg {x : Int} : dNeg (.int x) = .ok (.int (-x)) := rfl
@[simp] theorem d_abs {x : Int} : dAbs (.int x) = .ok (.int (x.natAbs : Int)) := by
  show Res.ok (PyData.int (if x < 0 then -x else x)) = _
  congr 2
  omega
@[simp] theorem d_int {x : Int} : dInt (.int x) = .ok (.int x) := rfl
@[simp] theorem d_lt {x y : Int} : dLt (.int x) (.int y) = .ok (.bool (decide (x < y))) := rfl
@[simp] theorem d_gt {x y : Int} : dGt (.int x) (.int y) = .ok (.bool (decide (y < x))) := rfl
@[simp] theorem d_le {x y : Int} : dLe (.int x) (.int y) = .ok (.bool (decide (x ≤ y))) := rfl
@[simp] theorem d_ge {x y : Int} : dGe (.int x) (.int y) = .ok (.bool (decide (y ≤ x))) := rfl
@[simp] theorem d_eqI {x y : Int} : dEq (.int x) (.int y) = .ok (.bool (decide (x = y))) := dEq_enc (α := Int) x y
@[simp] theorem d_neI {x y : Int} : dNe (.int x) (.int y) = .ok (.bool (!decide (x = y))) := dNe_enc (α := Int) x y
@[simp] theorem d_not {x : Bool} : dNot (.bool x) = .ok (.bool (!x)) := rfl
@[simp] theorem d_lenL {x : List PyData} : dLen (.list x) = .ok (.int x.length) := rfl
@[simp] theorem d_lenT {x : List PyData} : dLen (.tuple x) = .ok (.int x.length) := rfl
@[simp] theorem d_tupL {x : List PyData} : dTuple (.list x) = .ok (.tuple x) := rfl
@[simp] theorem d_tupT {x : List PyData} : dTuple (.tuple x) = .ok (.tuple x) := rfl
@[simp] theorem d_lisL {x : List PyData} : dList (.list x) = .ok (.list x) := rfl
@[simp] theorem d_lisT {x : List PyData} : dList (.tuple x) = .ok (.list x) := rfl
@[simp] theorem d_max2 {x y : Int} : dMax2 (.int x) (.int y) = .ok (.int (max x y)) := by
  show Res.ok (PyData.int (if y > x then y else x)) = _
  congr 2
  omega
@[simp] theorem d_min2 {x y : Int} : dMin2 (.int x) (.int y) = .ok (.int (min x y)) := by
  show Res.ok (PyData.int (if y < x then y else x)) = _
  congr 2
  omega
@[simp] theorem d_ix0T {x : PyData} {xs : List PyData} : dIx (.tuple (x :: xs)) (.int 0) = .ok x := by
  have : (0 : Int) < (xs.length : Int) + 1 := by omega
  simp [dIx, atI, ixN, this]
@[simp] theorem d_ix1T {x y : PyData} {xs : List PyData} : dIx (.tuple (x :: y :: xs)) (.int 1) = .ok y := by
  have : (1 : Int) < (xs.length : Int) + 1 + 1 := by omega
  simp [dIx, atI, ixN, this]
@[simp] theorem d_ix2T {x y z : PyData} {xs : List PyData} : dIx (.tuple (x :: y :: z :: xs)) (.int 2) = .ok z := by
  have : (2 : Int) < (xs.length : Int) + 1 + 1 + 1 := by omega
  simp [dIx, atI, ixN, this]
@[simp] theorem d_isN {x : PyData} : dIs x .none = .ok (.bool (isNone x)) := by cases x <;> rfl
@[simp] theorem d_isNN {x : PyData} : dIsNot x .none = .ok (.bool (!isNone x)) := by cases x <;> rfl
@[simp] theorem isN0 : isNone .none = true := rfl
@[simp] theorem isN1 {x : Int} : isNone (.int x) = false := rfl
@[simp] theorem isN2 {x : List PyData} : isNone (.tuple x) = false := rfl
@[simp] theorem isN3 {x : List PyData} : isNone (.list x) = false := rfl
@[simp] theorem isN4 {x : Bool} : isNone (.bool x) = false := rfl
@[simp] theorem enc_int (x : Int) : enc x = PyData.int x := rfl
@[simp] theorem enc_bool (x : Bool) : enc x = PyData.bool x := rfl
@[simp] theorem enc_prod {α β : Type} [DecidableEq α] [DecidableEq β] [Enc α] [Enc β] (p : α × β) : enc p = PyData.tuple [enc p.1, enc p.2] := rfl
end
/-- multiplication by a small number -/
theorem d_mulR {x k : Int} (h1 : -(2 ^ 64) < k) (h2 : k < 2 ^ 64) : dMul (.int x) (.int k) = .ok (.int (x * k)) := by
  have : mulOk x k = true := by
    unfold mulOk
    simp only [Bool.or_eq_true, decide_eq_true_eq]
    exact .inl (.inr ⟨h1, h2⟩)
  exact if_pos this
theorem d_mulL {x k : Int} (h1 : -(2 ^ 64) < x) (h2 : x < 2 ^ 64) : dMul (.int x) (.int k) = .ok (.int (x * k)) := by
  have : mulOk x k = true := by
    unfold mulOk
    simp only [Bool.or_eq_true, decide_eq_true_eq]
    exact .inl (.inl ⟨h1, h2⟩)
  exact if_pos this
theorem d_divP {x k : Int} (h1 : 0 < k) (h2 : k < 1073741824) : dDiv (.int x) (.int k) = .ok (.int (x / k)) := by
  have : divOk k = true := by
    unfold divOk
    simp only [Bool.or_eq_true, decide_eq_true_eq]
    exact .inl (by omega)
  exact (if_pos this).trans (if_pos h1)
theorem d_modP {x k : Int} (h1 : 0 < k) : dMod (.int x) (.int k) = .ok (.int (x % k)) := if_pos h1
theorem at_nat {α : Type} {l : List α} {i : Nat} {a : α} (h : l[i]? = some a) : atI l (i : Int) = some a := by
  have hi : i < l.length := (List.getElem?_eq_some_iff.mp h).1
  unfold atI ixN
  rw [if_pos (by omega), if_pos (by omega)]
  simpa using h
theorem d_ixL {α : Type} [DecidableEq α] [Enc α] {l : List α} {i : Nat} {a : α} (h : l[i]? = some a) : dIx (.list (l.map enc)) (.int (i : Int)) = .ok (enc a) := by
  have e : atI (l.map enc) (i : Int) = some (enc a) := at_nat (by rw [List.getElem?_map, h]; rfl)
  show (match atI (l.map enc) (i : Int) with | some z => Res.ok z | none => .fail) = _
  rw [e]
theorem d_ixT {α : Type} [DecidableEq α] [Enc α] {l : List α} {i : Nat} {a : α} (h : l[i]? = some a) : dIx (.tuple (l.map enc)) (.int (i : Int)) = .ok (enc a) := by
  have e : atI (l.map enc) (i : Int) = some (enc a) := at_nat (by rw [List.getElem?_map, h]; rfl)
  show (match atI (l.map enc) (i : Int) with | some z => Res.ok z | none => .fail) = _
  rw [e]
end L4
namespace L4
open PySem PySem.Spec PyProof.Rows L3
open Enc (enc)
open L2 (atI ixN)
/-! ## comprehensions over things of a type -/
section
variable {α β γ : Type} [DecidableEq α] [DecidableEq β] [DecidableEq γ] [Enc α] [Enc β] [Enc γ] {T : Tg} {t : TX} {f : PX} {ρ : Rho} {hs : HSt}
theorem lc_map (xs : List α) (p : α → Bool) (g : α → β) (h : ∀ x ∈ xs, ∃ ρ1, tgPut T (enc x) ρ = some ρ1 ∧ t ρ1 hs = .ok (p x, hs) ∧ (p x = true → f ρ1 hs = .ok (enc (g x), hs))) :
    lcGo T t f ρ (xs.map enc) hs = .ok (((xs.filter p).map g).map enc, hs) := by
  induction xs with
  | nil => rfl
  | cons x r ih =>
    obtain ⟨ρ1, h1, h2, h3⟩ := h x List.mem_cons_self
    have ih := ih fun y hy => h y (List.mem_cons_of_mem _ hy)
    rw [List.map_cons]
    unfold lcGo
    simp only [h1, h2, e_noExc, Res.bind_ok]
    cases q : p x with
    | false => simp [q, ih]
    | true => simp [q, h3 q, ih]
theorem lc_all (xs : List α) (g : α → β) (h : ∀ x ∈ xs, ∃ ρ1, tgPut T (enc x) ρ = some ρ1 ∧ f ρ1 hs = .ok (enc (g x), hs)) :
    lcGo T tYesX f ρ (xs.map enc) hs = .ok ((xs.map g).map enc, hs) := by
  have := lc_map (T := T) (t := tYesX) (f := f) (ρ := ρ) (hs := hs) xs (fun _ => true) g fun x hx => by
    obtain ⟨ρ1, h1, h2⟩ := h x hx
    exact ⟨ρ1, h1, rfl, fun _ => h2⟩
  rwa [List.filter_eq_self.mpr (fun _ _ => rfl)] at this
/-- with the hand: each item has a value -/
theorem lc_hand {Iv : HSt → Prop} {P : β → Prop} (xs : List α) (h : ∀ x ∈ xs, ∀ hs, Iv hs → ∃ ρ1, tgPut T (enc x) ρ = some ρ1 ∧ ∃ (y : β) (hs' : HSt), f ρ1 hs = .ok (enc y, hs') ∧ P y ∧ Iv hs') (hi : Iv hs) :
    ∃ (ys : List β) (hs' : HSt), lcGo T tYesX f ρ (xs.map enc) hs = .ok (ys.map enc, hs') ∧ ys.length = xs.length ∧ (∀ y ∈ ys, P y) ∧ Iv hs' := by
  induction xs generalizing hs with
  | nil => exact ⟨[], hs, rfl, rfl, (fun _ h => nomatch h), hi⟩
  | cons x r ih =>
    obtain ⟨ρ1, h1, y, hs1, h2, h3, h4⟩ := h x List.mem_cons_self hs hi
    obtain ⟨ys, hs2, h5, h6, h7, h8⟩ := ih (fun y hy => h y (List.mem_cons_of_mem _ hy)) h4
    refine ⟨y :: ys, hs2, ?_, by simp [h6], fun z hz => ?_, h8⟩
    · rw [List.map_cons]
      unfold lcGo
      simp [h1, h2, h5]
    · rcases List.mem_cons.mp hz with q | q
      · rw [q]; exact h3
      · exact h7 z q
/-! loops -/
theorem for_inv {s : SX} (xs : List α) (Iv : List α → Rho → HSt → Prop) (h0 : Iv [] ρ hs) (h : ∀ d x r ρ hs, xs = d ++ x :: r → Iv d ρ hs → ∃ ρ1, tgPut T (enc x) ρ = some ρ1 ∧ ∃ ρ2 hs2, s ρ1 hs = .nx ρ2 hs2 ∧ Iv (d ++ [x]) ρ2 hs2) :
    ∃ ρ' hs', forGo T s (xs.map enc) ρ hs = .nx ρ' hs' ∧ Iv xs ρ' hs' := by
  suffices H : ∀ (r d : List α) (ρ : Rho) (hs : HSt), xs = d ++ r → Iv d ρ hs → ∃ ρ' hs', forGo T s (r.map enc) ρ hs = .nx ρ' hs' ∧ Iv xs ρ' hs' from H xs [] ρ hs rfl h0
  intro r
  induction r with
  | nil =>
    intro d ρ hs e hi
    rw [List.append_nil] at e
    subst e
    exact ⟨ρ, hs, rfl, hi⟩
  | cons x r ih =>
    intro d ρ hs e hi
    obtain ⟨ρ1, h1, ρ2, hs2, h2, h3⟩ := h d x r ρ hs e hi
    obtain ⟨ρ', hs', h4, h5⟩ := ih (d ++ [x]) ρ2 hs2 (by simp [e]) h3
    refine ⟨ρ', hs', ?_, h5⟩
    rw [List.map_cons]
    unfold forGo
    simp [h1, h2, h4]
/-! what is walked -/
def rangeI (lo hi : Int) : List Int := (List.range (hi - lo).toNat).map fun (i : Nat) => lo + (i : Int)
theorem rngD_enc (lo hi : Int) : rngD lo hi = (rangeI lo hi).map enc := by
  unfold rngD rangeI
  rw [List.map_map]
  rfl
theorem mem_rangeI {lo hi x : Int} : x ∈ rangeI lo hi ↔ lo ≤ x ∧ x < hi := by
  unfold rangeI
  simp only [List.mem_map, List.mem_range]
  constructor
  · rintro ⟨i, h1, rfl⟩; omega
  · intro h
    exact ⟨(x - lo).toNat, by omega, by omega⟩
theorem rangeI_len (lo hi : Int) : (rangeI lo hi).length = (hi - lo).toNat := by simp [rangeI]
theorem zipD_enc : ∀ (xs : List α) (ys : List β), zipD (xs.map enc) (ys.map enc) = (xs.zip ys).map enc
  | [], _ => by simp [zipD]
  | _ :: _, [] => by simp [zipD]
  | x :: xs, y :: ys => by
    rw [List.map_cons, List.map_cons, zipD, zipD_enc xs ys]
    rfl
def enumA : Nat → List α → List (Int × α)
  | _, [] => []
  | n, x :: r => ((n : Int), x) :: enumA (n + 1) r
theorem enumD_enc : ∀ (n : Nat) (xs : List α), enumD n (xs.map enc) = (enumA n xs).map enc
  | _, [] => rfl
  | n, x :: r => by
    rw [List.map_cons, enumD, enumD_enc (n + 1) r]
    rfl
theorem cutD_from (l : List α) (k : Nat) (h : k ≤ l.length) : L3.cutD (l.map enc) (some (k : Int)) none = (l.drop k).map enc := by
  unfold L3.cutD
  rw [List.length_map, HT.sIx_nat, HT.sIx_none, Nat.min_eq_left h, List.map_drop]
  apply List.take_of_length_le
  simp
theorem dAll_enc (bs : List Bool) : dAll (.list (bs.map enc)) = .ok (.bool (bs.all id)) := by
  show (match boolsOf (bs.map PyData.bool) with | some bs => Res.ok (PyData.bool (bs.all id)) | none => .fail) = _
  rw [boolsOf_map]
theorem dAny_enc (bs : List Bool) : dAny (.list (bs.map enc)) = .ok (.bool (bs.any id)) := by
  show (match boolsOf (bs.map PyData.bool) with | some bs => Res.ok (PyData.bool (bs.any id)) | none => .fail) = _
  rw [boolsOf_map]
theorem dSum_enc (ns : List Int) : dSum (.list (ns.map enc)) = .ok (.int ns.sum) := by
  show (match intsOf (ns.map PyData.int) with | some ns => Res.ok (PyData.int ns.sum) | none => .fail) = _
  rw [intsOf_map]
end
/-! ## the hand's draws -/
@[simp] theorem e_sHand {i : Nat} {f fi : PX} {ρ : Rho} {hs : HSt} : sHand i f fi ρ hs = match f ρ hs with
  | .ok x => (match ρ[i]? with
    | some (some .hand) => (match fi ρ x.2 with
      | .ok (.int j, hs2) => (match ixN hs2.length j with
        | some n => .nx ρ (hs2.set n x.1)
        | none => .fail)
      | .ok _ => .fail
      | .exc c m => .exc c m
      | .fail => .fail)
    | _ => .fail)
  | .exc c m => .exc c m
  | .fail => .fail := by
  unfold sHand
  cases f ρ hs <;> rfl
@[simp] theorem e_sHandNew {i n : Nat} {h : FX} {g : GX} {ρ : Rho} {hs : HSt} : sHandNew i n h g ρ hs = match g ρ hs with
  | .ok x => if x.1.length = n ∧ x.1.all noHand = true ∧ i < ρ.length ∧ ρ.all (fun o => match o with | some .hand => false | _ => true) = true then (match h x.1 [] with
    | .ok (.list l, _) => .nx (ρ.set i (some .hand)) l
    | _ => .fail) else .fail
  | _ => .fail := by
  unfold sHandNew
  cases g ρ hs <;> rfl
def drawH : SX :=
 (sIf (tAndX (pTst (pop2 dEq (pHand 0 (pK (.int 2))) (pK (.int 0)))) (pTst (pop2 dLt (pHand 0 (pK (.int 1))) (pop1 dLen (pHand 0 (pK (.int 0))))))) (sSeq (sAsg (pop2 dIx (pHand 0 (pK (.int 0))) (pHand 0 (pK (.int 1)))) (.nm 2))
 (sSeq (sHand 0 (pop2 dAdd (pHand 0 (pK (.int 1))) (pK (.int 1))) (pK (.int 1)))
 (sSeq (sHand 0 (pop2 dMod (pop1 dInt (pop2 dAdd (pop2 dAdd (pop2 dMul (pHand 0 (pK (.int 3))) (pK (.int 69621))) (pop2 dMul (pVar 2) (pK (.int 40692)))) (pK (.int 97)))) (pK (.int 2147483629))) (pK (.int 3)))
 (sIf (pTst (pop2 dGe (pVar 2) (pop2 dPow (pK (.int 10)) (pK (.int 18))))) (sHand 0 (pVar 2) (pK (.int 2))) sNil)))) sNil)
def drawT : SX :=
 (sSeq (sIf (pTst (pop2 dGt (pHand 0 (pK (.int 2))) (pK (.int 0)))) (sSeq (sAsg (pop2 dMod (pop1 dInt (pHand 0 (pK (.int 2)))) (pVar 1)) (.nm 3))
 (sSeq (sHand 0 (pop2 dDiv (pHand 0 (pK (.int 2))) (pVar 1)) (pK (.int 2)))
 (sRet (pVar 3)))) sNil)
 (sSeq (sHand 0 (pop2 dAdd (pHand 0 (pK (.int 4))) (pK (.int 1))) (pK (.int 4)))
 (sSeq (sAsg (pop2 dMod (pop1 dInt (pop2 dMul (pop1 dInt (pop2 dAdd (pHand 0 (pK (.int 3))) (pop2 dMul (pK (.int 7919)) (pHand 0 (pK (.int 4)))))) (pK (.int 48271)))) (pK (.int 2147483647))) (.nm 4))
 (sSeq (sAsg (pop2 dMod (pop1 dInt (pop2 dMul (pVar 4) (pop2 dAdd (pop2 dDiv (pVar 4) (pK (.int 1009))) (pK (.int 69621))))) (pK (.int 2147483647))) (.nm 4))
 (sSeq (sAsg (pop2 dMod (pop1 dInt (pop2 dMul (pVar 4) (pop2 dAdd (pop2 dDiv (pVar 4) (pK (.int 2003))) (pK (.int 40014))))) (pK (.int 2147483563))) (.nm 4))
 (sRet (pop2 dMod (pop1 dInt (pop2 dDiv (pVar 4) (pK (.int 16)))) (pVar 1))))))))
def drawB : SX := sSeq drawH drawT
def drawF : FX := semF 5 drawB
def HandV (hs : HSt) : Prop := ∃ (cells : List Int) (a b c e : Int), hs = [.list (cells.map enc), .int a, .int b, .int c, .int e] ∧ (∀ x ∈ cells, 0 ≤ x) ∧ 0 ≤ a ∧ 0 ≤ b
theorem at0 {α : Type} {x : α} {r : List α} : atI (x :: r) 0 = some x := at_nat (i := 0) rfl
theorem at1 {α : Type} {x y : α} {r : List α} : atI (x :: y :: r) 1 = some y := at_nat (i := 1) rfl
theorem at2 {α : Type} {x y z : α} {r : List α} : atI (x :: y :: z :: r) 2 = some z := at_nat (i := 2) rfl
theorem at3 {α : Type} {x y z w : α} {r : List α} : atI (x :: y :: z :: w :: r) 3 = some w := at_nat (i := 3) rfl
theorem at4 {α : Type} {x y z w v : α} {r : List α} : atI (x :: y :: z :: w :: v :: r) 4 = some v := at_nat (i := 4) rfl
theorem pow18 : dPow (.int 10) (.int 18) = .ok (.int 1000000000000000000) := by rfl
theorem divI {x k : Int} (h1 : 0 < k) (h2 : k < 1073741824) : dDiv (.int x) (.int k) = .ok (.int (x / k)) := d_divP h1 h2
/-- what comes behind the digits -/
theorem draw_tail {cells : List PyData} {a b c e many : Int} {y2 y3 : Option SV} (h0 : 0 < many) (hb : ¬ 0 < b) : ∃ d c' e', drawT [some .hand, some (.val (.int many)), y2, y3, none] [.list cells, .int a, .int b, .int c, .int e] = .rt (.int d) [.list cells, .int a, .int b, .int c', .int e'] ∧ 0 ≤ d ∧ d < many := by
  have ix4 : ixN 5 4 = some 4 := rfl
  have p1 : (0 : Int) < 2147483647 := by decide
  have p2 : (0 : Int) < 2147483563 := by decide
  let n1 := ((c + 7919 * (e + 1)) * 48271) % 2147483647
  have m1 : 0 ≤ n1 := Int.emod_nonneg _ (by decide)
  have m1' : n1 < 2147483647 := Int.emod_lt_of_pos _ (by decide)
  have k1 : dMul (.int n1) (.int (n1 / 1009 + 69621)) = .ok (.int (n1 * (n1 / 1009 + 69621))) := d_mulL (by omega) (by omega)
  let n2 := (n1 * (n1 / 1009 + 69621)) % 2147483647
  have m2 : 0 ≤ n2 := Int.emod_nonneg _ (by decide)
  have m2' : n2 < 2147483647 := Int.emod_lt_of_pos _ (by decide)
  have k2 : dMul (.int n2) (.int (n2 / 2003 + 40014)) = .ok (.int (n2 * (n2 / 2003 + 40014))) := d_mulL (by omega) (by omega)
  have k0 : dMul (.int 7919) (.int (e + 1)) = .ok (.int (7919 * (e + 1))) := d_mulL (by decide) (by decide)
  have k3 : dMul (.int (c + 7919 * (e + 1))) (.int 48271) = .ok (.int ((c + 7919 * (e + 1)) * 48271)) := d_mulR (by decide) (by decide)
  refine ⟨((n2 * (n2 / 2003 + 40014)) % 2147483563 / 16) % many, c, e + 1, ?_, Int.emod_nonneg _ (by omega), Int.emod_lt_of_pos _ h0⟩
  unfold drawT
  simp [at2, at3, at4, hb, ix4, k0, k3, d_modP p1, d_modP p2, d_divP (k := 1009) (by decide) (by decide), d_divP (k := 2003) (by decide) (by decide), d_divP (k := 16) (by decide) (by decide)]
  rw [k1]
  simp [d_modP p1, d_modP p2, d_divP (k := 1009) (by decide) (by decide), d_divP (k := 2003) (by decide) (by decide), d_divP (k := 16) (by decide) (by decide)]
  rw [k2]
  simp [d_modP p2, d_modP h0, d_divP (k := 16) (by decide) (by decide)]
/-- the digits -/
theorem draw_digit {cells : List PyData} {a b c e many : Int} {y2 y3 : Option SV} (h0 : 0 < many) (hm : many < 1073741824) (hb : 0 < b) : drawT [some .hand, some (.val (.int many)), y2, y3, none] [.list cells, .int a, .int b, .int c, .int e] = .rt (.int (b % many)) [.list cells, .int a, .int (b / many), .int c, .int e] := by
  have ix2 : ixN 5 2 = some 2 := rfl
  unfold drawT
  simp [at2, hb, ix2, d_modP h0, d_divP h0 hm]
theorem draw_head {cells : List Int} {a b c e many : Int} (hc : ∀ x ∈ cells, 0 ≤ x) (ha : 0 ≤ a) (hb : 0 ≤ b) : ∃ a' b' c' y, drawH [some .hand, some (.val (.int many)), none, none, none] [.list (cells.map enc), .int a, .int b, .int c, .int e] = .nx [some .hand, some (.val (.int many)), y, none, none] [.list (cells.map enc), .int a', .int b', .int c', .int e] ∧ 0 ≤ a' ∧ 0 ≤ b' := by
  unfold drawH
  by_cases q1 : b = 0
  · by_cases q2 : a < cells.length
    · subst q1
      have hi : a.toNat < cells.length := by omega
      have ex : cells[a.toNat]? = some cells[a.toNat] := List.getElem?_eq_getElem hi
      have hx : 0 ≤ cells[a.toNat] := hc _ (List.getElem_mem hi)
      generalize cells[a.toNat] = x at ex hx
      have ea : ((a.toNat : Nat) : Int) = a := by omega
      have e1 : dIx (.list (cells.map enc)) (.int a) = .ok (.int x) := by
        rw [← ea]
        exact d_ixL ex
      have ix1 : ixN 5 1 = some 1 := rfl
      have ix2 : ixN 5 2 = some 2 := rfl
      have ix3 : ixN 5 3 = some 3 := rfl
      have m1 : dMul (.int c) (.int 69621) = .ok (.int (c * 69621)) := d_mulR (by decide) (by decide)
      have m2 : dMul (.int x) (.int 40692) = .ok (.int (x * 40692)) := d_mulR (by decide) (by decide)
      have p1 : (0 : Int) < 2147483629 := by decide
      by_cases hb18 : (1000000000000000000 : Int) ≤ x
      · refine ⟨a + 1, x, (c * 69621 + x * 40692 + 97) % 2147483629, some (.val (.int x)), ?_, by omega, hx⟩
        simp [at0, at1, at2, at3, q2, e1, ix1, ix2, ix3, m1, m2, d_modP p1, pow18, hb18]
      · refine ⟨a + 1, 0, (c * 69621 + x * 40692 + 97) % 2147483629, some (.val (.int x)), ?_, by omega, by decide⟩
        simp [at0, at1, at2, at3, q2, e1, ix1, ix2, ix3, m1, m2, d_modP p1, pow18, hb18]
    · exact ⟨a, b, c, none, by simp [at0, at1, at2, q1, q2], ha, hb⟩
  · exact ⟨a, b, c, none, by simp [at2, q1], ha, hb⟩
theorem draw_spec {hs : HSt} {many : Int} (hv : HandV hs) (h0 : 0 < many) (hm : many < 1073741824) : ∃ d hs', drawF [.hand, .val (.int many)] hs = .ok (.int d, hs') ∧ 0 ≤ d ∧ d < many ∧ HandV hs' := by
  obtain ⟨cells, a, b, c, e, rfl, hc, ha, hb⟩ := hv
  obtain ⟨a', b', c', y, h1, ha', hb'⟩ := draw_head (many := many) (c := c) (e := e) hc ha hb
  have h1 : drawH ([SV.hand, .val (.int many)].map some ++ List.replicate (5 - [SV.hand, .val (.int many)].length) none) [.list (cells.map enc), .int a, .int b, .int c, .int e] = _ := h1
  unfold drawF semF drawB
  rw [e_sSeq, h1]
  by_cases q : 0 < b'
  · simp only [draw_digit h0 hm q]
    exact ⟨_, _, rfl, Int.emod_nonneg _ (by omega), Int.emod_lt_of_pos _ h0, cells, a', b' / many, c', e, rfl, hc, ha', Int.ediv_nonneg (by omega) (by omega)⟩
  · obtain ⟨d, c2, e2, h4, h2, h3⟩ := draw_tail (cells := cells.map enc) (a := a') (c := c') (e := e) (y2 := y) (y3 := none) h0 q
    simp only [h4]
    exact ⟨d, _, rfl, h2, h3, cells, a', b', c2, e2, rfl, hc, ha', hb'⟩
end L4
namespace L4
open PySem PySem.Spec PyProof.Rows L3
open Enc (enc)
open L2 (atI ixN)
/-! ## the hand from the script -/
def handB : SX := (sAsg (pLc (iOf (pScr 0 oNone (oSome (pK (.int 63))))) (.nm 2) tYesX (pop1 dAbs (pop1 dInt (pVar 2))) [2]) (.nm 1))
def handE (k m : Int) : PX := (pLst (aCons (pVar 1) (aCons (pK (.int 0)) (aCons (pK (.int 0)) (aCons (pop2 dAdd (pK (.int k)) (pop2 dMul (pK (.int m)) (pop1 dLen (pVar 1)))) (aCons (pK (.int 0)) aNil))))))
def handF (k m : Int) : FX := semFF 3 handB (handE k m)
theorem hand_spec (k m : Int) (ns : List Int) (hm1 : -(2 ^ 64) < m := by decide) (hm2 : m < 2 ^ 64 := by decide) : ∃ hs, handF k m [.scr ns] [] = .ok (.list hs, []) ∧ HandV hs := by
  let cells := (ns.take 63).map fun x => (x.natAbs : Int)
  have e1 : L3.cutD (ns.map PyData.int) none (some (63 : Nat)) = (ns.take 63).map enc := by
    unfold L3.cutD
    rw [List.length_map, HT.sIx_none, HT.sIx_nat, List.drop_zero, Nat.sub_zero, ← List.map_take]
    by_cases h : 63 ≤ ns.length
    · rw [Nat.min_eq_left h]; rfl
    · rw [Nat.min_eq_right (by omega), List.take_of_length_le (Nat.le_refl _), List.take_of_length_le (by omega : ns.length ≤ 63)]; rfl
  have e2 : lcGo (.nm 2) tYesX (pop1 dAbs (pop1 dInt (pVar 2))) (wipeR [some (.scr ns), none, none] [2]) ((ns.take 63).map enc) [] = .ok (cells.map enc, []) :=
    lc_all (ns.take 63) (fun x => (x.natAbs : Int)) fun x _ => ⟨_, rfl, by simp⟩
  have m1 : dMul (.int m) (.int (cells.length : Int)) = .ok (.int (m * (cells.length : Int))) := d_mulL hm1 hm2
  refine ⟨[.list (cells.map enc), .int 0, .int 0, .int (k + m * (cells.length : Int)), .int 0], ?_, cells, 0, 0, _, 0, rfl, fun x hx => ?_, by decide, by decide⟩
  · have e3 : handB [some (.scr ns), none, none] [] = .nx [some (.scr ns), some (.val (.list (cells.map enc))), none] [] := by
      unfold handB
      have e1' : L3.cutD (ns.map PyData.int) none (some 63) = (ns.take 63).map enc := e1
      simp only [e_sAsg, e_pLc, e_iOf, pScr, List.getElem?_cons_zero, e_oNone, e_oSome, e_pK, Res.bind_ok, e1', e_seqL, e2, e_noExc, e_tgNm]
      rfl
    show (match handB [some (.scr ns), none, none] [] with
      | .nx ρ hs1 => (match handE k m ρ hs1 with
        | .ok (d, _) => Res.ok (d, [])
        | _ => .fail)
      | _ => .fail) = _
    rw [e3]
    unfold handE
    simp [m1]
  · obtain ⟨y, _, rfl⟩ := List.mem_map.mp hx
    exact Int.natCast_nonneg _
/-! one of a few; a dot -/
def anyB : SX := (sRet (pop2 dIx (pVar 1) (pCallH 2 drawF (gConsR 0 (gConsP (pop1 dLen (pVar 1)) gNilX)))))
def anyF : FX := semF 2 anyB
section
variable {α β : Type} [DecidableEq α] [Enc α] [DecidableEq β] [Enc β]
theorem any_list {hs : HSt} (hv : HandV hs) {l : List α} (h0 : l ≠ []) (hl : l.length < 1073741824) : ∃ x ∈ l, ∃ hs', anyF [.hand, .val (.list (l.map enc))] hs = .ok (enc x, hs') ∧ HandV hs' := by
  have hp : 0 < l.length := List.length_pos_iff.mpr h0
  obtain ⟨d, hs', h1, h2, h3, h4⟩ := draw_spec (many := (l.length : Int)) hv (by omega) (by omega)
  have hi : d.toNat < l.length := by omega
  refine ⟨l[d.toNat], List.getElem_mem hi, hs', ?_, h4⟩
  have e : dIx (.list (l.map enc)) (.int d) = .ok (enc l[d.toNat]) := by
    have := d_ixL (List.getElem?_eq_getElem hi)
    rwa [show ((d.toNat : Nat) : Int) = d from by omega] at this
  unfold anyF semF anyB
  simp [h1, e]
theorem any_tuple {hs : HSt} (hv : HandV hs) {l : List α} (h0 : l ≠ []) (hl : l.length < 1073741824) : ∃ x ∈ l, ∃ hs', anyF [.hand, .val (.tuple (l.map enc))] hs = .ok (enc x, hs') ∧ HandV hs' := by
  have hp : 0 < l.length := List.length_pos_iff.mpr h0
  obtain ⟨d, hs', h1, h2, h3, h4⟩ := draw_spec (many := (l.length : Int)) hv (by omega) (by omega)
  have hi : d.toNat < l.length := by omega
  refine ⟨l[d.toNat], List.getElem_mem hi, hs', ?_, h4⟩
  have e : dIx (.tuple (l.map enc)) (.int d) = .ok (enc l[d.toNat]) := by
    have := d_ixT (List.getElem?_eq_getElem hi)
    rwa [show ((d.toNat : Nat) : Int) = d from by omega] at this
  unfold anyF semF anyB
  simp [h1, e]
end
def dotB : SX := (sRet (pTup (aCons (pop2 dSub (pCallH 2 drawF (gConsR 0 (gConsP (pop2 dAdd (pop2 dMul (pK (.int 2)) (pVar 1)) (pK (.int 1))) gNilX))) (pVar 1)) (aCons (pop2 dSub (pCallH 2 drawF (gConsR 0 (gConsP (pop2 dAdd (pop2 dMul (pK (.int 2)) (pVar 1)) (pK (.int 1))) gNilX))) (pVar 1)) aNil))))
def dotF : FX := semF 2 dotB
theorem dot_spec {hs : HSt} {w : Int} (hv : HandV hs) (h0 : 0 ≤ w) (hw : w ≤ 1000000) : ∃ (p : Int × Int) (hs' : HSt), dotF [.hand, .val (.int w)] hs = .ok (enc p, hs') ∧ (-w ≤ p.1 ∧ p.1 ≤ w ∧ -w ≤ p.2 ∧ p.2 ≤ w) ∧ HandV hs' := by
  obtain ⟨x, hs1, h1, h2, h3, h4⟩ := draw_spec (many := 2 * w + 1) hv (by omega) (by omega)
  obtain ⟨y, hs2, g1, g2, g3, g4⟩ := draw_spec (many := 2 * w + 1) h4 (by omega) (by omega)
  have m : dMul (.int 2) (.int w) = .ok (.int (2 * w)) := d_mulL (by decide) (by decide)
  refine ⟨(x - w, y - w), hs2, ?_, ⟨by omega, by omega, by omega, by omega⟩, g4⟩
  unfold dotF semF dotB
  simp [m, h1, g1]
/-! ## sorted(dict([(x, True) ..])) -/
class EncK (α : Type) [DecidableEq α] extends Enc α where
  key : α → NestedKey
  kok : ∀ a : α, keyOf (enc a) = some (key a)
  kdep : ∀ a : α, (key a).depth ≤ Enc.dep α
  kind : (∀ a : α, isTupK (key a) = true) ∨ ∀ a : α, isNumK (key a) = true
instance : EncK Int where
  key := .num
  kok := fun a => by
    show keyOf (.int a) = _
    unfold keyOf
    rfl
  kdep := fun a => by simp [NestedKey.depth]
  kind := .inr fun _ => rfl
instance {α β : Type} [DecidableEq α] [DecidableEq β] [EncK α] [EncK β] : EncK (α × β) where
  key := fun p => .tup [EncK.key p.1, EncK.key p.2]
  kok := fun p => by
    show keyOf (.tuple [enc p.1, enc p.2]) = _
    simp [keyOf, keysOf, EncK.kok]
  kdep := fun p => by
    have h1 := EncK.kdep p.1
    have h2 := EncK.kdep p.2
    show (NestedKey.tup [EncK.key p.1, EncK.key p.2]).depth ≤ max (Enc.dep α) (Enc.dep β) + 1
    simp only [NestedKey.depth, NestedKey.depthAll]
    omega
  kind := .inl fun _ => rfl
section
variable {α : Type} [DecidableEq α]
theorem key_data [EncK α] (a : α) : (EncK.key a).data = enc a := keyOf_data _ _ (EncK.kok a)
theorem key_inj [EncK α] {a b : α} (h : EncK.key a = EncK.key b) : a = b := by
  have := congrArg NestedKey.data h
  rw [key_data, key_data] at this
  exact enc_inj this
theorem pairKeys_enc {β : Type} [DecidableEq β] [Enc β] [EncK α] : ∀ l : List (α × β), pairKeys (l.map enc) = some (l.map fun p => EncK.key p.1)
  | [] => by simp [pairKeys]
  | p :: r => by
    show pairKeys (PyData.tuple [enc p.1, enc p.2] :: r.map enc) = _
    rw [pairKeys, EncK.kok, pairKeys_enc r]
    rfl
theorem dictKeys_enc {β : Type} [DecidableEq β] [Enc β] [EncK α] (l : List (α × β)) (hl : l.length ≤ BIG) (hd : Enc.dep α ≤ 8 := by decide) : dictKeys (.list (l.map enc)) = some ((dedup (l.map (·.1))).map EncK.key) := by
  unfold dictKeys
  have e : l.map (fun p => EncK.key p.1) = (l.map (·.1)).map EncK.key := by rw [List.map_map]; rfl
  simp only [pairKeys_enc]
  rw [if_pos, e, dedup_inj (fun a b => key_inj)]
  have h1 : ((l.map fun p => EncK.key p.1).all isTupK || (l.map fun p => EncK.key p.1).all isNumK) = true := by
    rcases EncK.kind (α := α) with q | q
    · rw [Bool.or_eq_true]; left
      rw [List.all_eq_true]
      intro k hk
      obtain ⟨p, _, rfl⟩ := List.mem_map.mp hk
      exact q _
    · rw [Bool.or_eq_true]; right
      rw [List.all_eq_true]
      intro k hk
      obtain ⟨p, _, rfl⟩ := List.mem_map.mp hk
      exact q _
  have h2 : ((l.map fun p => EncK.key p.1).all fun k => decide (k.depth ≤ 8)) = true := by
    rw [List.all_eq_true]
    intro k hk
    obtain ⟨p, _, rfl⟩ := List.mem_map.mp hk
    have := EncK.kdep p.1
    simp
    omega
  have h3 : decide ((l.map enc).length ≤ BIG) = true := by
    rw [List.length_map]
    exact decide_eq_true hl
  rw [h1, h2, h3]
  rfl
theorem dedup_mem {l : List α} {x : α} : x ∈ dedup l ↔ x ∈ l := by
  unfold dedup
  suffices h : ∀ (l acc : List α), x ∈ l.foldl pushK acc ↔ x ∈ acc ∨ x ∈ l from by simpa using h l []
  intro l
  induction l with
  | nil => intro acc; simp
  | cons a r ih =>
    intro acc
    rw [List.foldl_cons, ih]
    unfold pushK
    split
    · rename_i h
      simp only [List.any_eq_true, decide_eq_true_eq] at h
      obtain ⟨b, hb, rfl⟩ := h
      simp
      constructor
      · rintro (q | q)
        · exact .inl q
        · exact .inr (.inr q)
      · rintro (q | q | q)
        · exact .inl q
        · exact .inl (by rw [q]; exact hb)
        · exact .inr q
    · simp [or_assoc]
theorem dedup_nodup (l : List α) : (dedup l).Nodup := by
  unfold dedup
  suffices h : ∀ (l acc : List α), acc.Nodup → (l.foldl pushK acc).Nodup from h l [] List.nodup_nil
  intro l
  induction l with
  | nil => intro acc h; exact h
  | cons a r ih =>
    intro acc h
    rw [List.foldl_cons]
    apply ih
    unfold pushK
    split
    · exact h
    · rename_i q
      simp only [List.any_eq_true, decide_eq_true_eq, not_exists, not_and] at q
      rw [List.nodup_append]
      refine ⟨h, by simp, fun x hx y hy e => ?_⟩
      simp at hy
      subst hy
      exact q x hx e
end
section
variable {α : Type} [DecidableEq α] [EncO α]
/-- sorted, each once -/
def uniq (l : List α) : List α := sortA (dedup l)
theorem mem_uniq {l : List α} {x : α} : x ∈ uniq l ↔ x ∈ l := by
  unfold uniq
  rw [mem_sortA, dedup_mem]
theorem uniq_len (l : List α) : (uniq l).length ≤ l.length := by
  unfold uniq
  rw [sortA_len]
  exact dedup_len l
def Inc (l : List α) : Prop := l.Pairwise fun a b => EncO.lt a b = true
theorem inc_of {l : List α} (h1 : l.Pairwise fun a b => EncO.lt b a = false) (h2 : l.Nodup) : Inc l := by
  have := h1.and h2
  exact this.imp fun {a b} h => by
    rcases EncO.tot a b h.2 with q | q
    · exact q
    · rw [h.1] at q; cases q
theorem uniq_inc (l : List α) : Inc (uniq l) := by
  refine inc_of (sortA_sorted _) ?_
  unfold uniq
  exact (sortA_perm (dedup l)).nodup_iff.mpr (dedup_nodup l)
theorem Inc.sorted {l : List α} (h : Inc l) : l.Pairwise fun a b => EncO.lt b a = false := h.imp fun h => EncO.asymm h
theorem Inc.nodup {l : List α} (h : Inc l) : l.Nodup := h.imp fun {a b} h e => by
  subst e
  rw [EncO.irr] at h
  cases h
theorem inc_eq {l m : List α} (h1 : Inc l) (h2 : Inc m) (h : ∀ x, x ∈ l ↔ x ∈ m) : l = m :=
  sorted_eq ((List.perm_ext_iff_of_nodup h1.nodup h2.nodup).mpr h) h1.sorted h2.sorted
theorem uniq_eq {l m : List α} (h1 : Inc m) (h : ∀ x, x ∈ l ↔ x ∈ m) : uniq l = m := inc_eq (uniq_inc l) h1 fun x => by rw [mem_uniq, h]
end
theorem dSortedDict_enc {α β : Type} [DecidableEq α] [DecidableEq β] [Enc β] [EncK α] [o : EncO α] (he : ∀ a : α, (o.toEnc).enc a = enc a) (l : List (α × β)) (hl : l.length ≤ BIG) (hd : Enc.dep α ≤ 8 := by decide) (hd2 : o.toEnc.dep ≤ 60 := by decide) :
    dSortedDict (.list (l.map enc)) = .ok (.list ((uniq (l.map (·.1))).map o.toEnc.enc)) := by
  unfold dSortedDict
  simp only [dictKeys_enc l hl hd]
  have e : ((dedup (l.map (·.1))).map EncK.key).map NestedKey.data = (dedup (l.map (·.1))).map o.toEnc.enc := by
    rw [List.map_map]
    exact List.map_congr_left fun a _ => by rw [he]; exact key_data a
  rw [e]
  have hlen : (dedup (l.map (·.1))).length ≤ BIG := by
    have := dedup_len (l.map (·.1))
    rw [List.length_map] at this
    omega
  rw [if_pos (sortOk_enc _ hlen hd2), dSort_enc]
  rfl
end L4
namespace L4
open PySem PySem.Spec PyProof.Rows L3
open Enc (enc)
open L2 (atI ixN)
/-! ## lists of things, not looked into -/
def E {α : Type} [DecidableEq α] [Enc α] (l : List α) : List PyData := l.map enc
section
variable {α β γ : Type} [DecidableEq α] [DecidableEq β] [DecidableEq γ] [Enc α] [Enc β] [Enc γ] {T : Tg} {t : TX} {f : PX} {ρ : Rho} {hs : HSt}
theorem E_nil : E ([] : List α) = [] := rfl
theorem E_cons (x : α) (l : List α) : E (x :: l) = enc x :: E l := rfl
@[simp] theorem E_len (l : List α) : (E l).length = l.length := List.length_map ..
@[simp] theorem enc_list (l : List α) : enc l = PyData.list (E l) := rfl
@[simp] theorem enc_tu (t : Tu α) : enc t = PyData.tuple (E t.l) := rfl
theorem lcE (xs : List α) (g : α → β) (h : ∀ x ∈ xs, ∃ ρ1, tgPut T (enc x) ρ = some ρ1 ∧ f ρ1 hs = .ok (enc (g x), hs)) : lcGo T tYesX f ρ (E xs) hs = .ok (E (xs.map g), hs) := lc_all xs g h
theorem lcfE (xs : List α) (p : α → Bool) (g : α → β) (h : ∀ x ∈ xs, ∃ ρ1, tgPut T (enc x) ρ = some ρ1 ∧ t ρ1 hs = .ok (p x, hs) ∧ (p x = true → f ρ1 hs = .ok (enc (g x), hs))) : lcGo T t f ρ (E xs) hs = .ok (E ((xs.filter p).map g), hs) := lc_map xs p g h
theorem lchE {Iv : HSt → Prop} {P : β → Prop} (xs : List α) (h : ∀ x ∈ xs, ∀ hs, Iv hs → ∃ ρ1, tgPut T (enc x) ρ = some ρ1 ∧ ∃ (y : β) (hs' : HSt), f ρ1 hs = .ok (enc y, hs') ∧ P y ∧ Iv hs') (hi : Iv hs) :
    ∃ (ys : List β) (hs' : HSt), lcGo T tYesX f ρ (E xs) hs = .ok (E ys, hs') ∧ ys.length = xs.length ∧ (∀ y ∈ ys, P y) ∧ Iv hs' := lc_hand xs h hi
theorem forE {s : SX} (xs : List α) (Iv : List α → Rho → HSt → Prop) (h0 : Iv [] ρ hs) (h : ∀ d x r ρ hs, xs = d ++ x :: r → Iv d ρ hs → ∃ ρ1, tgPut T (enc x) ρ = some ρ1 ∧ ∃ ρ2 hs2, s ρ1 hs = .nx ρ2 hs2 ∧ Iv (d ++ [x]) ρ2 hs2) :
    ∃ ρ' hs', forGo T s (E xs) ρ hs = .nx ρ' hs' ∧ Iv xs ρ' hs' := for_inv xs Iv h0 h
@[simp] theorem rngE (lo hi : Int) : rngD lo hi = E (rangeI lo hi) := rngD_enc lo hi
@[simp] theorem zipE (xs : List α) (ys : List β) : zipD (E xs) (E ys) = E (xs.zip ys) := zipD_enc xs ys
@[simp] theorem enumE (n : Nat) (xs : List α) : enumD n (E xs) = E (enumA n xs) := enumD_enc n xs
@[simp] theorem allE (bs : List Bool) : dAll (.list (E bs)) = .ok (.bool (bs.all id)) := dAll_enc bs
@[simp] theorem anyE (bs : List Bool) : dAny (.list (E bs)) = .ok (.bool (bs.any id)) := dAny_enc bs
@[simp] theorem sumE (ns : List Int) : dSum (.list (E ns)) = .ok (.int ns.sum) := dSum_enc ns
theorem cutTailT (l : List α) (h : 1 ≤ l.length) : dCut (some 1) none (.tuple (E l)) = .ok (.tuple (E l.tail)) := by
  have c : L3.cutD (E l) (some 1) none = E (l.drop 1) := cutD_from l 1 h
  show Res.ok (PyData.tuple (L3.cutD (E l) (some 1) none)) = _
  rw [c, List.drop_one]
theorem cutTailL (l : List α) (h : 1 ≤ l.length) : dCut (some 1) none (.list (E l)) = .ok (.list (E l.tail)) := by
  have c : L3.cutD (E l) (some 1) none = E (l.drop 1) := cutD_from l 1 h
  show Res.ok (PyData.list (L3.cutD (E l) (some 1) none)) = _
  rw [c, List.drop_one]
theorem E_app (l m : List α) : E l ++ E m = E (l ++ m) := (List.map_append ..).symm
theorem addL (l m : List α) (h : l.length + m.length ≤ BIG) : dAdd (.list (E l)) (.list (E m)) = .ok (.list (E (l ++ m))) := by
  show (if (E l).length + (E m).length ≤ BIG then Res.ok (PyData.list (E l ++ E m)) else .fail) = _
  rw [E_len, E_len, if_pos h, E_app]
theorem addT (l m : List α) (h : l.length + m.length ≤ BIG) : dAdd (.tuple (E l)) (.tuple (E m)) = .ok (.tuple (E (l ++ m))) := by
  show (if (E l).length + (E m).length ≤ BIG then Res.ok (PyData.tuple (E l ++ E m)) else .fail) = _
  rw [E_len, E_len, if_pos h, E_app]
theorem ixE {l : List α} {i : Nat} {a : α} (h : l[i]? = some a) : dIx (.list (E l)) (.int (i : Int)) = .ok (enc a) := d_ixL h
theorem ixTE {l : List α} {i : Nat} {a : α} (h : l[i]? = some a) : dIx (.tuple (E l)) (.int (i : Int)) = .ok (enc a) := d_ixT h
theorem inE (a : α) (l : List α) (h : Enc.dep α + 1 ≤ 64 := by decide) : dIn (enc a) (.list (E l)) = .ok (.bool (decide (a ∈ l))) := dIn_list a l h
theorem inTE (a : α) (l : List α) (h : Enc.dep α + 1 ≤ 64 := by decide) : dIn (enc a) (.tuple (E l)) = .ok (.bool (decide (a ∈ l))) := dIn_tuple a l h
theorem ninE (a : α) (l : List α) (h : Enc.dep α + 1 ≤ 64 := by decide) : dNotIn (enc a) (.list (E l)) = .ok (.bool (!decide (a ∈ l))) := dNotIn_list a l h
theorem ninTE (a : α) (l : List α) (h : Enc.dep α + 1 ≤ 64 := by decide) : dNotIn (enc a) (.tuple (E l)) = .ok (.bool (!decide (a ∈ l))) := dNotIn_tuple a l h
theorem eqLE (l m : List α) (h : Enc.dep α + 1 ≤ 64 := by decide) : dEq (.list (E l)) (.list (E m)) = .ok (.bool (decide (l = m))) := dEq_enc (α := List α) l m h
theorem neLE (l m : List α) (h : Enc.dep α + 1 ≤ 64 := by decide) : dNe (.list (E l)) (.list (E m)) = .ok (.bool (!decide (l = m))) := dNe_enc (α := List α) l m h
theorem eqTE (l m : List α) (h : Enc.dep α + 1 ≤ 64 := by decide) : dEq (.tuple (E l)) (.tuple (E m)) = .ok (.bool (decide (l = m))) := by
  have := dEq_enc (α := Tu α) ⟨l⟩ ⟨m⟩ h
  rw [show decide ((⟨l⟩ : Tu α) = ⟨m⟩) = decide (l = m) from by simp] at this
  exact this
theorem neTE (l m : List α) (h : Enc.dep α + 1 ≤ 64 := by decide) : dNe (.tuple (E l)) (.tuple (E m)) = .ok (.bool (!decide (l = m))) := by
  have := dNe_enc (α := Tu α) ⟨l⟩ ⟨m⟩ h
  rw [show decide ((⟨l⟩ : Tu α) = ⟨m⟩) = decide (l = m) from by simp] at this
  exact this
end
section
variable {α : Type} [DecidableEq α] [EncO α]
def minL (l : List α) (h : l ≠ []) : α := minA (l.head h) l.tail
def maxL (l : List α) (h : l ≠ []) : α := maxA (l.head h) l.tail
theorem minLE {l : List α} (h : l ≠ []) (hd : Enc.dep α ≤ 60 := by decide) : dMinL (.list (E l)) = .ok (enc (minL l h)) := by
  cases l with
  | nil => exact absurd rfl h
  | cons x r => exact dMinL_list x r hd
theorem maxLE {l : List α} (h : l ≠ []) (hd : Enc.dep α ≤ 60 := by decide) : dMaxL (.list (E l)) = .ok (enc (maxL l h)) := by
  cases l with
  | nil => exact absurd rfl h
  | cons x r => exact dMaxL_list x r hd
theorem minL_mem {l : List α} (h : l ≠ []) : minL l h ∈ l := by
  cases l with
  | nil => exact absurd rfl h
  | cons x r => exact minA_mem x r
theorem maxL_mem {l : List α} (h : l ≠ []) : maxL l h ∈ l := by
  cases l with
  | nil => exact absurd rfl h
  | cons x r => exact maxA_mem x r
theorem minL_le {l : List α} (h : l ≠ []) : ∀ y ∈ l, EncO.lt y (minL l h) = false := by
  cases l with
  | nil => exact absurd rfl h
  | cons x r => exact minA_le x r
theorem maxL_ge {l : List α} (h : l ≠ []) : ∀ y ∈ l, EncO.lt (maxL l h) y = false := by
  cases l with
  | nil => exact absurd rfl h
  | cons x r => exact maxA_ge x r
theorem minL_eq {l : List α} (h : l ≠ []) {m : α} (hm : m ∈ l) (hl : ∀ y ∈ l, EncO.lt y m = false) : minL l h = m := least_unique (hl _ (minL_mem h)) (minL_le h m hm)
theorem maxL_eq {l : List α} (h : l ≠ []) {m : α} (hm : m ∈ l) (hl : ∀ y ∈ l, EncO.lt m y = false) : maxL l h = m := least_unique (maxL_ge h m hm) (hl _ (maxL_mem h))
theorem sortE (l : List α) (hl : l.length ≤ BIG) (h : Enc.dep α ≤ 60 := by decide) : dSorted (.list (E l)) = .ok (.list (E (sortA l))) := dSorted_enc l hl h
end
/-- ints: least, greatest -/
theorem minI_le {l : List Int} (h : l ≠ []) {y : Int} (hy : y ∈ l) : minL l h ≤ y := by
  have := minL_le h y hy
  have : decide (y < minL l h) = false := this
  simpa using this
theorem maxI_ge {l : List Int} (h : l ≠ []) {y : Int} (hy : y ∈ l) : y ≤ maxL l h := by
  have := maxL_ge h y hy
  have : decide (maxL l h < y) = false := this
  simpa using this
theorem sortDictE {α β : Type} [DecidableEq α] [DecidableEq β] [Enc β] [EncK α] [o : EncO α] (he : ∀ a : α, (o.toEnc).enc a = enc a) (l : List (α × β)) (hl : l.length ≤ BIG) (hd : Enc.dep α ≤ 8 := by decide) (hd2 : o.toEnc.dep ≤ 60 := by decide) :
    dSortedDict (.list (E l)) = .ok (.list (@E α _ o.toEnc (uniq (l.map (·.1))))) := dSortedDict_enc he l hl hd hd2
end L4
namespace L5
open PySem PySem.Spec PyProof.Rows L3 L4
open Enc (enc)
open L2 (atI ixN kitB)
/-! ## the checks of dots -/
abbrev Dot := Int × Int
theorem isi_of {T : String} {d : PyData} {b : Bool} (h : kitB (tyN d) T = some b) : dIsi T d = .ok (.bool b) := by
  unfold dIsi
  rw [h]
theorem kit_tt : L2.kitB "tuple" "tuple" = some true := by decide +kernel
theorem kit_ii : L2.kitB "int" "int" = some true := by decide +kernel
theorem kit_ib : L2.kitB "int" "bool" = some false := by decide +kernel
theorem kit_ti : L2.kitB "tuple" "int" = some false := by decide +kernel
@[simp] theorem isi_tt {x : List PyData} : dIsi "tuple" (.tuple x) = .ok (.bool true) := isi_of kit_tt
@[simp] theorem isi_ii {x : Int} : dIsi "int" (.int x) = .ok (.bool true) := isi_of kit_ii
@[simp] theorem isi_bi {x : Int} : dIsi "bool" (.int x) = .ok (.bool false) := isi_of kit_ib
@[simp] theorem isi_it {x : List PyData} : dIsi "int" (.tuple x) = .ok (.bool false) := isi_of kit_ti
def isTupleF : FX := semF 3 (sRet (pAnd (pop1 (dIsi "tuple") (pVar 0)) (pChain dLe dLe (pVar 1) (pop1 dLen (pVar 0)) (pVar 2))))
theorem isTuple_ok {l : List PyData} {a b : Int} {hs : HSt} : isTupleF [.val (.tuple l), .val (.int a), .val (.int b)] hs = .ok (.bool (decide (a ≤ l.length) && decide ((l.length : Int) ≤ b)), hs) := by
  unfold isTupleF semF
  by_cases h : a ≤ l.length <;> simp [h]
def isIntegerF : FX := semF 1 (sRet (pAnd (pop1 (dIsi "int") (pVar 0)) (pop1 dNot (pop1 (dIsi "bool") (pVar 0)))))
theorem isInteger_ok {x : Int} {hs : HSt} : isIntegerF [.val (.int x)] hs = .ok (.bool true, hs) := by
  unfold isIntegerF semF
  simp
def isWithinF : FX := semF 3 (sRet (pAnd (pCall 1 isIntegerF (gConsP (pVar 0) gNilX)) (pChain dLe dLe (pVar 1) (pVar 0) (pVar 2))))
theorem isWithin_ok {x a b : Int} {hs : HSt} : isWithinF [.val (.int x), .val (.int a), .val (.int b)] hs = .ok (.bool (decide (a ≤ x) && decide (x ≤ b)), hs) := by
  unfold isWithinF semF
  by_cases h : a ≤ x <;> simp [h, isInteger_ok]
def isDotF : FX := semF 2 (sRet (pAnd (pCall 3 isTupleF (gConsP (pVar 0) (gConsP (pK (.int 2)) (gConsP (pK (.int 2)) gNilX)))) (pop1 dAll (pLc (iOf (pVar 0)) (.nm 1) tYesX (pCall 3 isWithinF (gConsP (pVar 1) (gConsP (pop1 dNeg (pK (.int 100))) (gConsP (pK (.int 100)) gNilX)))) [1]))))
def dotOk (p : Dot) : Prop := -100 ≤ p.1 ∧ p.1 ≤ 100 ∧ -100 ≤ p.2 ∧ p.2 ≤ 100
theorem isDot_ok {x y : Int} {hs : HSt} (h : dotOk (x, y)) : isDotF [.val (.tuple [.int x, .int y])] hs = .ok (.bool true, hs) := by
  obtain ⟨h1, h2, h3, h4⟩ := h
  have e := lc_all (T := .nm 1) (f := pCall 3 isWithinF (gConsP (pVar 1) (gConsP (pop1 dNeg (pK (.int 100))) (gConsP (pK (.int 100)) gNilX)))) (ρ := [some (.val (.tuple [.int x, .int y])), none]) (hs := hs) [x, y] (fun v => decide (-100 ≤ v) && decide (v ≤ 100)) fun v _ => ⟨_, rfl, by simp [isWithin_ok]⟩
  have e' : lcGo (.nm 1) tYesX (pCall 3 isWithinF (gConsP (pVar 1) (gConsP (pop1 dNeg (pK (.int 100))) (gConsP (pK (.int 100)) gNilX)))) [some (.val (.tuple [.int x, .int y])), none] [.int x, .int y] hs = _ := e
  unfold isDotF semF
  simp [isTuple_ok, e', dAll_enc]
  simp at h1 h2 h3 h4
  simp [dAll, boolsOf, h1, h2, h3, h4]
def checkDotF : FX := semF 1 (sIf (tNotX (pTst (pCall 1 isDotF (gConsP (pVar 0) gNilX)))) sNever sNil)
theorem checkDot_ok {x y : Int} {hs : HSt} (h : dotOk (x, y)) : checkDotF [.val (.tuple [.int x, .int y])] hs = .ok (.none, hs) := by
  unfold checkDotF semF
  simp [isDot_ok h]
def areDotsF : FX := semF 4 (sSeq (sIf (tOrX (tNotX (pTst (pCall 3 isTupleF (gConsP (pVar 0) (gConsP (pK (.int 1)) (gConsP (pK (.int 9)) gNilX)))))) (tNotX (pTst (pop1 dAll (pLc (iOf (pVar 0)) (.nm 1) tYesX (pCall 1 isDotF (gConsP (pVar 1) gNilX)) [1]))))) (sRet (pK (.bool false))) sNil)
 (sRet (pop1 dAll (pLc (iZipX (pVar 0) (pCut (pVar 0) (oSome (pK (.int 1))) oNone)) (.tp [(.nm 2), (.nm 3)]) tYesX (pop2 dLt (pVar 2) (pVar 3)) [2, 3]))))
/-- dots, as the program takes them -/
structure DotsOk (D : List Dot) : Prop where
  inc : Inc D
  pos : 1 ≤ D.length
  few : D.length ≤ 9
  ok : ∀ p ∈ D, dotOk p
theorem DotsOk.ne {D : List Dot} (h : DotsOk D) : D ≠ [] := by
  have := h.pos
  intro e
  subst e
  simp at this
theorem zip_tail_inc {D : List Dot} (h : Inc D) : ∀ p ∈ D.zip (D.drop 1), EncO.lt p.1 p.2 = true := by
  intro p hp
  obtain ⟨i, hi, e⟩ := List.mem_iff_getElem.mp hp
  rw [List.getElem_zip] at e
  have h1 : i < D.length := by simp at hi; omega
  have h2 : i + 1 < D.length := by simp at hi; omega
  have := List.pairwise_iff_getElem.mp h i (i + 1) h1 h2 (by omega)
  rw [← e]
  simpa using this
theorem areDots_ok {D : List Dot} {hs : HSt} (h : DotsOk D) : areDotsF [.val (.tuple (E D))] hs = .ok (.bool true, hs) := by
  have e1 := lcE (T := .nm 1) (f := pCall 1 isDotF (gConsP (pVar 1) gNilX)) (ρ := [some (.val (.tuple (E D))), none, none, none]) (hs := hs) D (fun _ => true) fun v hv => ⟨_, rfl, by
    have := isDot_ok (hs := []) (h.ok v hv)
    simp [this]⟩
  have e2 := lcE (T := .tp [.nm 2, .nm 3]) (f := pop2 dLt (pVar 2) (pVar 3)) (ρ := [some (.val (.tuple (E D))), none, none, none]) (hs := hs) (D.zip D.tail) (fun _ => true) fun v hv => ⟨_, rfl, by
    have := dLt_enc v.1 v.2
    rw [zip_tail_inc h.inc v (by simpa using hv)] at this
    simp at this
    simp [this]⟩
  have c := cutTailT D h.pos
  have l1 : (1 : Int) ≤ D.length := by have := h.pos; omega
  have l2 : (D.length : Int) ≤ 9 := by have := h.few; omega
  unfold areDotsF semF
  simp [isTuple_ok, l1, l2, c, e1, e2]
def checkDotsF : FX := semF 1 (sIf (tNotX (pTst (pCall 1 areDotsF (gConsP (pVar 0) gNilX)))) sNever sNil)
theorem checkDots_ok {D : List Dot} {hs : HSt} (h : DotsOk D) : checkDotsF [.val (.tuple (E D))] hs = .ok (.none, hs) := by
  unfold checkDotsF semF
  simp [areDots_ok h]
end L5
namespace K87
open PySem PySem.Spec PyProof.Rows L2 L3
def topS (i : Nat) : Stmt := PySem.Challenge.pw_griddots_k87_whole_streets_and_their_mid.main.body.getD i (.Pass ⟨0, 0, 0, 0⟩)
section
variable {P : Program} {w : World} {K : PySem.W.Frag} {mg : Str → Option Value} {base : Heap} {f : Addr} {k : Nat}
abbrev N__law_hand : List Str := ["script", "cells", "cell"]
abbrev s__law_hand : Stmt := topS 21
theorem sc__law_hand : FnScope N__law_hand ["script"] (defScope s__law_hand) := ⟨rfl, rfl, rfl, by decide +kernel, rfl, by decide +kernel, by decide +kernel⟩
def b__law_hand : SX := (sAsg (pLc (iOf (pScr 0 oNone (oSome (pK (.int 63))))) (.nm 2) tYesX (pop1 dAbs (pop1 dInt (pVar 2))) [2]) (.nm 1))
def e__law_hand : PX := (pLst (aCons (pVar 1) (aCons (pK (.int 0)) (aCons (pK (.int 0)) (aCons (pop2 dAdd (pK (.int 87)) (pop2 dMul (pK (.int 17)) (pop1 dLen (pVar 1)))) (aCons (pK (.int 0)) aNil))))))
def m__law_hand : FX := semFF 3 b__law_hand e__law_hand
theorem d1__law_hand (B : Blt mg) (cdv : Value) (A : Around) (outer : List Env) (s : Shared) (H : Hp) (E : XK) (F : Fx) (C : Cs (CxF P w K mg base N__law_hand "_law_hand" s__law_hand f cdv A outer s H E) F k) : LS (CxF P w K mg base N__law_hand "_law_hand" s__law_hand f cdv A outer s H E) F ((defBody s__law_hand).getD 0 (.Pass ⟨0, 0, 0, 0⟩)) b__law_hand :=
 (ls_setLc C.z rfl rfl (by rfl) (lib_seq (LP.b (lp_scr 0 rfl (by first | exact Or.inl rfl | exact Or.inr (Or.inl rfl) | exact Or.inr (Or.inr rfl)) lo_none (lo_some lp_int)))) (own := [("cell", 2)]) (blkOk_by (by kernel_rfl)) (fun _ _ _ _ _ => (pgn (Cz.blk C.z))) (fun _ _ _ _ _ => lts_nil) (fun _ _ _ _ _ => (lp_abs (by rfl) B.abs (LP.b (lp_int1 (by rfl) B.int (LP.b (lp_var 2)))))) (by decide))
theorem d2__law_hand (B : Blt mg) (cdv : Value) (A : Around) (outer : List Env) (s : Shared) (H : Hp) (E : XK) (F : Fx) (C : Cs (CxF P w K mg base N__law_hand "_law_hand" s__law_hand f cdv A outer s H E) F k) : LF (CxF P w K mg base N__law_hand "_law_hand" s__law_hand f cdv A outer s H E) F (retOf ((defBody s__law_hand).getD 1 (.Pass ⟨0, 0, 0, 0⟩))) e__law_hand :=
 (lf_lst (la_cons (lp_var 1) (la_cons lp_int (la_cons lp_int (la_cons (lp_add (LP.b lp_int) (LP.b (lp_mul (LP.b lp_int) (LP.b (lp_len (by rfl) B.len (LP.b (lp_var 1))))))) (la_cons lp_int la_nil))))))
abbrev N_is_tuple : List Str := ["thing", "least", "most"]
abbrev s_is_tuple : Stmt := topS 3
theorem sc_is_tuple : FnScope N_is_tuple ["thing", "least", "most"] (defScope s_is_tuple) := ⟨rfl, rfl, rfl, by decide +kernel, rfl, by decide +kernel, by decide +kernel⟩
def b_is_tuple : SX :=
 (sRet (pAnd (pop1 (dIsi "tuple") (pVar 0)) (pChain dLe dLe (pVar 1) (pop1 dLen (pVar 0)) (pVar 2))))
def m_is_tuple : FX := semF 3 b_is_tuple
theorem d_is_tuple (B : Blt mg) (cdv : Value) (A : Around) (outer : List Env) (s : Shared) (H : Hp) (E : XK) (F : Fx) (C : Cs (CxF P w K mg base N_is_tuple "is_tuple" s_is_tuple f cdv A outer s H E) F k) : LSs (CxF P w K mg base N_is_tuple "is_tuple" s_is_tuple f cdv A outer s H E) F (defBody s_is_tuple) b_is_tuple :=
 (lss_one (ls_ret (lp_and (lp_isi (by rfl) B.isinstance (by rfl) B.tuple (by decide +kernel) (LP.b (lp_var 0))) (lp_one (lp_cc (c_le C.z) (c_le C.z) (LP.b (lp_var 1)) (LP.b (lp_len (by rfl) B.len (LP.b (lp_var 0)))) (LP.b (lp_var 2)))))))
abbrev N_is_integer : List Str := ["thing"]
abbrev s_is_integer : Stmt := topS 1
theorem sc_is_integer : FnScope N_is_integer ["thing"] (defScope s_is_integer) := ⟨rfl, rfl, rfl, by decide +kernel, rfl, by decide +kernel, by decide +kernel⟩
def b_is_integer : SX :=
 (sRet (pAnd (pop1 (dIsi "int") (pVar 0)) (pop1 dNot (pop1 (dIsi "bool") (pVar 0)))))
def m_is_integer : FX := semF 1 b_is_integer
theorem d_is_integer (B : Blt mg) (cdv : Value) (A : Around) (outer : List Env) (s : Shared) (H : Hp) (E : XK) (F : Fx) (C : Cs (CxF P w K mg base N_is_integer "is_integer" s_is_integer f cdv A outer s H E) F k) : LSs (CxF P w K mg base N_is_integer "is_integer" s_is_integer f cdv A outer s H E) F (defBody s_is_integer) b_is_integer :=
 (lss_one (ls_ret (lp_and (lp_isi (by rfl) B.isinstance (by rfl) B.int (by decide +kernel) (LP.b (lp_var 0))) (lp_one (lp_not (lp_isi (by rfl) B.isinstance (by rfl) B.bool (by decide +kernel) (LP.b (lp_var 0))))))))
abbrev N_is_within : List Str := ["thing", "low", "high"]
abbrev s_is_within : Stmt := topS 2
theorem sc_is_within : FnScope N_is_within ["thing", "low", "high"] (defScope s_is_within) := ⟨rfl, rfl, rfl, by decide +kernel, rfl, by decide +kernel, by decide +kernel⟩
def b_is_within : SX :=
 (sRet (pAnd (pCall 1 m_is_integer (gConsP (pVar 0) gNilX)) (pChain dLe dLe (pVar 1) (pVar 0) (pVar 2))))
def m_is_within : FX := semF 3 b_is_within
theorem d_is_within (B : Blt mg) (G_is_integer : Df P w K mg base k "is_integer" 1 m_is_integer) (cdv : Value) (A : Around) (outer : List Env) (s : Shared) (H : Hp) (E : XK) (F : Fx) (C : Cs (CxF P w K mg base N_is_within "is_within" s_is_within f cdv A outer s H E) F k) : LSs (CxF P w K mg base N_is_within "is_within" s_is_within f cdv A outer s H E) F (defBody s_is_within) b_is_within :=
 (lss_one (ls_ret (lp_and (lp_call C.tk C.z G_is_integer (Nat.le_refl _) (by rfl) (lg_p (lp_var 0) lg_nil)) (lp_one (lp_cc (c_le C.z) (c_le C.z) (LP.b (lp_var 1)) (LP.b (lp_var 0)) (LP.b (lp_var 2)))))))
abbrev N_is_dot : List Str := ["thing", "one"]
abbrev s_is_dot : Stmt := topS 11
theorem sc_is_dot : FnScope N_is_dot ["thing"] (defScope s_is_dot) := ⟨rfl, rfl, rfl, by decide +kernel, rfl, by decide +kernel, by decide +kernel⟩
def b_is_dot : SX :=
 (sRet (pAnd (pCall 3 m_is_tuple (gConsP (pVar 0) (gConsP (pK (.int 2)) (gConsP (pK (.int 2)) gNilX)))) (pop1 dAll (pLc (iOf (pVar 0)) (.nm 1) tYesX (pCall 3 m_is_within (gConsP (pVar 1) (gConsP (pop1 dNeg (pK (.int 100))) (gConsP (pK (.int 100)) gNilX)))) [1]))))
def m_is_dot : FX := semF 2 b_is_dot
theorem d_is_dot (B : Blt mg) (c_FARTHEST : ∃ t, mg "FARTHEST" = some (.int 100 t)) (G_is_tuple : Df P w K mg base k "is_tuple" 3 m_is_tuple) (G_is_within : Df P w K mg base k "is_within" 3 m_is_within) (cdv : Value) (A : Around) (outer : List Env) (s : Shared) (H : Hp) (E : XK) (F : Fx) (C : Cs (CxF P w K mg base N_is_dot "is_dot" s_is_dot f cdv A outer s H E) F k) : LSs (CxF P w K mg base N_is_dot "is_dot" s_is_dot f cdv A outer s H E) F (defBody s_is_dot) b_is_dot :=
 (lss_one (ls_ret (lp_and (lp_call C.tk C.z G_is_tuple (Nat.le_refl _) (by rfl) (lg_p (lp_var 0) (lg_p lp_int (lg_p lp_int lg_nil)))) (lp_one (lp_all C.z (by rfl) B.all (LP.b (LF.p (lf_lc C.z (lib_seq (LP.b (lp_var 0))) (own := [("one", 1)]) (blkOk_by (by kernel_rfl)) (fun _ _ _ _ _ => (pgn (Cz.blk C.z))) (fun _ _ _ _ _ => lts_nil) (fun _ _ _ _ _ => (lp_call Takes.blk (Cz.blk C.z) G_is_within (Nat.le_refl _) (by rfl) (lg_p (lp_var 1) (lg_p (lp_neg (LP.b (lp_globI (by rfl) c_FARTHEST))) (lg_p (lp_globI (by rfl) c_FARTHEST) lg_nil))))) (by decide)))))))))
abbrev N_check_dot : List Str := ["dot"]
abbrev s_check_dot : Stmt := topS 12
theorem sc_check_dot : FnScope N_check_dot ["dot"] (defScope s_check_dot) := ⟨rfl, rfl, rfl, by decide +kernel, rfl, by decide +kernel, by decide +kernel⟩
def b_check_dot : SX :=
 (sIf (tNotX (pTst (pCall 1 m_is_dot (gConsP (pVar 0) gNilX)))) sNever sNil)
def m_check_dot : FX := semF 1 b_check_dot
theorem d_check_dot (B : Blt mg) (G_is_dot : Df P w K mg base k "is_dot" 1 m_is_dot) (cdv : Value) (A : Around) (outer : List Env) (s : Shared) (H : Hp) (E : XK) (F : Fx) (C : Cs (CxF P w K mg base N_check_dot "check_dot" s_check_dot f cdv A outer s H E) F k) : LSs (CxF P w K mg base N_check_dot "check_dot" s_check_dot f cdv A outer s H E) F (defBody s_check_dot) b_check_dot :=
 (lss_one (ls_if (lt_not (lt_v (lp_call C.tk C.z G_is_dot (Nat.le_refl _) (by rfl) (lg_p (lp_var 0) lg_nil)))) (lss_one ls_never) lss_nil))
abbrev N_street_of : List Str := ["a", "b"]
abbrev s_street_of : Stmt := topS 16
theorem sc_street_of : FnScope N_street_of ["a", "b"] (defScope s_street_of) := ⟨rfl, rfl, rfl, by decide +kernel, rfl, by decide +kernel, by decide +kernel⟩
def b_street_of : SX :=
 (sRet (pop2 dAdd (pop1 dAbs (pop2 dSub (pop2 dIx (pVar 0) (pK (.int 0))) (pop2 dIx (pVar 1) (pK (.int 0))))) (pop1 dAbs (pop2 dSub (pop2 dIx (pVar 0) (pK (.int 1))) (pop2 dIx (pVar 1) (pK (.int 1)))))))
def m_street_of : FX := semF 2 b_street_of
theorem d_street_of (B : Blt mg) (cdv : Value) (A : Around) (outer : List Env) (s : Shared) (H : Hp) (E : XK) (F : Fx) (C : Cs (CxF P w K mg base N_street_of "street_of" s_street_of f cdv A outer s H E) F k) : LSs (CxF P w K mg base N_street_of "street_of" s_street_of f cdv A outer s H E) F (defBody s_street_of) b_street_of :=
 (lss_one (ls_ret (lp_add (LP.b (lp_abs (by rfl) B.abs (LP.b (lp_sub (LP.b (lp_ix (LP.b (lp_var 0)) (LP.b lp_int))) (LP.b (lp_ix (LP.b (lp_var 1)) (LP.b lp_int))))))) (LP.b (lp_abs (by rfl) B.abs (LP.b (lp_sub (LP.b (lp_ix (LP.b (lp_var 0)) (LP.b lp_int))) (LP.b (lp_ix (LP.b (lp_var 1)) (LP.b lp_int))))))))))
abbrev N_street : List Str := ["a", "b"]
abbrev s_street : Stmt := topS 17
theorem sc_street : FnScope N_street ["a", "b"] (defScope s_street) := ⟨rfl, rfl, rfl, by decide +kernel, rfl, by decide +kernel, by decide +kernel⟩
def b_street : SX :=
 (sSeq (sExpr (pCall 1 m_check_dot (gConsP (pVar 0) gNilX)))
 (sSeq (sExpr (pCall 1 m_check_dot (gConsP (pVar 1) gNilX)))
 (sRet (pCall 2 m_street_of (gConsP (pVar 0) (gConsP (pVar 1) gNilX))))))
def m_street : FX := semF 2 b_street
theorem d_street (B : Blt mg) (G_check_dot : Df P w K mg base k "check_dot" 1 m_check_dot) (G_street_of : Df P w K mg base k "street_of" 2 m_street_of) (cdv : Value) (A : Around) (outer : List Env) (s : Shared) (H : Hp) (E : XK) (F : Fx) (C : Cs (CxF P w K mg base N_street "street" s_street f cdv A outer s H E) F k) : LSs (CxF P w K mg base N_street "street" s_street f cdv A outer s H E) F (defBody s_street) b_street :=
 (lss_cons (ls_expr (lp_call C.tk C.z G_check_dot (Nat.le_refl _) (by rfl) (lg_p (lp_var 0) lg_nil)))
 (lss_cons (ls_expr (lp_call C.tk C.z G_check_dot (Nat.le_refl _) (by rfl) (lg_p (lp_var 1) lg_nil)))
 (lss_one (ls_ret (lp_call C.tk C.z G_street_of (Nat.le_refl _) (by rfl) (lg_p (lp_var 0) (lg_p (lp_var 1) lg_nil)))))))
abbrev N_are_dots : List Str := ["thing", "dot", "one", "other"]
abbrev s_are_dots : Stmt := topS 13
theorem sc_are_dots : FnScope N_are_dots ["thing"] (defScope s_are_dots) := ⟨rfl, rfl, rfl, by decide +kernel, rfl, by decide +kernel, by decide +kernel⟩
def b_are_dots : SX :=
 (sSeq (sIf (tOrX (tNotX (pTst (pCall 3 m_is_tuple (gConsP (pVar 0) (gConsP (pK (.int 1)) (gConsP (pK (.int 9)) gNilX)))))) (tNotX (pTst (pop1 dAll (pLc (iOf (pVar 0)) (.nm 1) tYesX (pCall 1 m_is_dot (gConsP (pVar 1) gNilX)) [1]))))) (sRet (pK (.bool false))) sNil)
 (sRet (pop1 dAll (pLc (iZipX (pVar 0) (pCut (pVar 0) (oSome (pK (.int 1))) oNone)) (.tp [(.nm 2), (.nm 3)]) tYesX (pop2 dLt (pVar 2) (pVar 3)) [2, 3]))))
def m_are_dots : FX := semF 4 b_are_dots
theorem d_are_dots (B : Blt mg) (c_MOST_DOTS : ∃ t, mg "MOST_DOTS" = some (.int 9 t)) (G_is_tuple : Df P w K mg base k "is_tuple" 3 m_is_tuple) (G_is_dot : Df P w K mg base k "is_dot" 1 m_is_dot) (cdv : Value) (A : Around) (outer : List Env) (s : Shared) (H : Hp) (E : XK) (F : Fx) (C : Cs (CxF P w K mg base N_are_dots "are_dots" s_are_dots f cdv A outer s H E) F k) : LSs (CxF P w K mg base N_are_dots "are_dots" s_are_dots f cdv A outer s H E) F (defBody s_are_dots) b_are_dots :=
 (lss_cons (ls_if (LW.tt (lw_or (lt_not (lt_v (lp_call C.tk C.z G_is_tuple (Nat.le_refl _) (by rfl) (lg_p (lp_var 0) (lg_p lp_int (lg_p (lp_globI (by rfl) c_MOST_DOTS) lg_nil)))))) (lw_or1 (lt_not (lt_v (lp_all C.z (by rfl) B.all (LP.b (LF.p (lf_lc C.z (lib_seq (LP.b (lp_var 0))) (own := [("dot", 1)]) (blkOk_by (by kernel_rfl)) (fun _ _ _ _ _ => (pgn (Cz.blk C.z))) (fun _ _ _ _ _ => lts_nil) (fun _ _ _ _ _ => (lp_call Takes.blk (Cz.blk C.z) G_is_dot (Nat.le_refl _) (by rfl) (lg_p (lp_var 1) lg_nil))) (by decide)))))))))) (lss_one (ls_ret lp_bl)) lss_nil)
 (lss_one (ls_ret (lp_all C.z (by rfl) B.all (LP.b (LF.p (lf_lc C.z (lib_zip (by rfl) B.zip (LP.b (lp_var 0)) (LP.b (lp_cut (LP.b (lp_var 0)) (lo_some lp_int) lo_none))) (own := [("one", 2), ("other", 3)]) (blkOk_by (by kernel_rfl)) (fun _ _ _ _ _ => (pgt (Cz.blk C.z) (pgsc (pgn (Cz.blk C.z)) (pgsc (pgn (Cz.blk C.z)) pgsn)))) (fun _ _ _ _ _ => lts_nil) (fun _ _ _ _ _ => (lp_c (c_lt (Cz.blk C.z)) (LP.b (lp_var 2)) (LP.b (lp_var 3)))) (by decide))))))))
abbrev N_check_dots : List Str := ["dots"]
abbrev s_check_dots : Stmt := topS 14
theorem sc_check_dots : FnScope N_check_dots ["dots"] (defScope s_check_dots) := ⟨rfl, rfl, rfl, by decide +kernel, rfl, by decide +kernel, by decide +kernel⟩
def b_check_dots : SX :=
 (sIf (tNotX (pTst (pCall 1 m_are_dots (gConsP (pVar 0) gNilX)))) sNever sNil)
def m_check_dots : FX := semF 1 b_check_dots
theorem d_check_dots (B : Blt mg) (G_are_dots : Df P w K mg base k "are_dots" 1 m_are_dots) (cdv : Value) (A : Around) (outer : List Env) (s : Shared) (H : Hp) (E : XK) (F : Fx) (C : Cs (CxF P w K mg base N_check_dots "check_dots" s_check_dots f cdv A outer s H E) F k) : LSs (CxF P w K mg base N_check_dots "check_dots" s_check_dots f cdv A outer s H E) F (defBody s_check_dots) b_check_dots :=
 (lss_one (ls_if (lt_not (lt_v (lp_call C.tk C.z G_are_dots (Nat.le_refl _) (by rfl) (lg_p (lp_var 0) lg_nil)))) (lss_one ls_never) lss_nil))
abbrev N_street_centre : List Str := ["dots", "at", "p", "x", "y", "dot"]
abbrev s_street_centre : Stmt := topS 18
theorem sc_street_centre : FnScope N_street_centre ["dots"] (defScope s_street_centre) := ⟨rfl, rfl, rfl, by decide +kernel, rfl, by decide +kernel, by decide +kernel⟩
def b_street_centre : SX :=
 (sSeq (sExpr (pCall 1 m_check_dots (gConsP (pVar 0) gNilX)))
 (sSeq (sAsg (pop2 dDiv (pop2 dSub (pop1 dLen (pVar 0)) (pK (.int 1))) (pK (.int 2))) (.nm 1))
 (sSeq (sAsg (pTup (aCons (pop2 dIx (pop1 dSorted (pLc (iOf (pVar 0)) (.tp [(.nm 3), (.nm 4)]) tYesX (pVar 3) [3, 4])) (pVar 1)) (aCons (pop2 dIx (pop1 dSorted (pLc (iOf (pVar 0)) (.tp [(.nm 3), (.nm 4)]) tYesX (pVar 4) [3, 4])) (pVar 1)) aNil))) (.nm 2))
 (sRet (pTup (aCons (pop1 dSum (pLc (iOf (pVar 0)) (.nm 5) tYesX (pCall 2 m_street_of (gConsP (pVar 2) (gConsP (pVar 5) gNilX))) [5])) (aCons (pVar 2) aNil)))))))
def m_street_centre : FX := semF 6 b_street_centre
theorem d_street_centre (B : Blt mg) (G_check_dots : Df P w K mg base k "check_dots" 1 m_check_dots) (G_street_of : Df P w K mg base k "street_of" 2 m_street_of) (cdv : Value) (A : Around) (outer : List Env) (s : Shared) (H : Hp) (E : XK) (F : Fx) (C : Cs (CxF P w K mg base N_street_centre "street_centre" s_street_centre f cdv A outer s H E) F k) : LSs (CxF P w K mg base N_street_centre "street_centre" s_street_centre f cdv A outer s H E) F (defBody s_street_centre) b_street_centre :=
 (lss_cons (ls_expr (lp_call C.tk C.z G_check_dots (Nat.le_refl _) (by rfl) (lg_p (lp_var 0) lg_nil)))
 (lss_cons (ls_asg (lp_div (LP.b (lp_sub (LP.b (lp_len (by rfl) B.len (LP.b (lp_var 0)))) (LP.b lp_int))) (LP.b lp_int)) (pgn C.z))
 (lss_cons (ls_asg (lp_tup (la_cons (lp_ix (LP.b (LF.p (lf_sorted C.z (by rfl) B.sorted (LP.b (LF.p (lf_lc C.z (lib_seq (LP.b (lp_var 0))) (own := [("x", 3), ("y", 4)]) (blkOk_by (by kernel_rfl)) (fun _ _ _ _ _ => (pgt (Cz.blk C.z) (pgsc (pgn (Cz.blk C.z)) (pgsc (pgn (Cz.blk C.z)) pgsn)))) (fun _ _ _ _ _ => lts_nil) (fun _ _ _ _ _ => (lp_var 3)) (by decide))))))) (LP.b (lp_var 1))) (la_cons (lp_ix (LP.b (LF.p (lf_sorted C.z (by rfl) B.sorted (LP.b (LF.p (lf_lc C.z (lib_seq (LP.b (lp_var 0))) (own := [("x", 3), ("y", 4)]) (blkOk_by (by kernel_rfl)) (fun _ _ _ _ _ => (pgt (Cz.blk C.z) (pgsc (pgn (Cz.blk C.z)) (pgsc (pgn (Cz.blk C.z)) pgsn)))) (fun _ _ _ _ _ => lts_nil) (fun _ _ _ _ _ => (lp_var 4)) (by decide))))))) (LP.b (lp_var 1))) la_nil))) (pgn C.z))
 (lss_one (ls_ret (lp_tup (la_cons (lp_sum C.z (by rfl) B.sum (LP.b (LF.p (lf_lc C.z (lib_seq (LP.b (lp_var 0))) (own := [("dot", 5)]) (blkOk_by (by kernel_rfl)) (fun _ _ _ _ _ => (pgn (Cz.blk C.z))) (fun _ _ _ _ _ => lts_nil) (fun _ _ _ _ _ => (lp_call Takes.blk (Cz.blk C.z) G_street_of (Nat.le_refl _) (by rfl) (lg_p (lp_var 2) (lg_p (lp_var 5) lg_nil)))) (by decide))))) (la_cons (lp_var 2) la_nil))))))))
abbrev N_far_street : List Str := ["dots", "xs", "ys", "best", "x", "y", "one", "dot"]
abbrev s_far_street : Stmt := topS 19
theorem sc_far_street : FnScope N_far_street ["dots"] (defScope s_far_street) := ⟨rfl, rfl, rfl, by decide +kernel, rfl, by decide +kernel, by decide +kernel⟩
def b_far_street : SX :=
 (sSeq (sExpr (pCall 1 m_check_dots (gConsP (pVar 0) gNilX)))
 (sSeq (sPar [1, 2] (mConsP (pLc (iOf (pVar 0)) (.tp [(.nm 4), (.nm 5)]) tYesX (pVar 4) [4, 5]) (mConsP (pLc (iOf (pVar 0)) (.tp [(.nm 4), (.nm 5)]) tYesX (pVar 5) [4, 5]) mNil)))
 (sSeq (sAsg (pK .none) (.nm 3))
 (sSeq (sFor (iRange2 (pop1 dMinL (pVar 1)) (pop2 dAdd (pop1 dMaxL (pVar 1)) (pK (.int 1)))) (.nm 4)
 (sFor (iRange2 (pop1 dMinL (pVar 2)) (pop2 dAdd (pop1 dMaxL (pVar 2)) (pK (.int 1)))) (.nm 5)
 (sSeq (sAsg (pTup (aCons (pop1 dMaxL (pLc (iOf (pVar 0)) (.nm 7) tYesX (pCall 2 m_street_of (gConsP (pTup (aCons (pVar 4) (aCons (pVar 5) aNil))) (gConsP (pVar 7) gNilX))) [7])) (aCons (pTup (aCons (pVar 4) (aCons (pVar 5) aNil))) aNil))) (.nm 6))
 (sAsg (pIf (tOrX (pTst (pop2 dIs (pVar 3) (pK .none))) (pTst (pop2 dLt (pVar 6) (pVar 3)))) (pVar 6) (pVar 3)) (.nm 3)))))
 (sRet (pVar 3))))))
def m_far_street : FX := semF 8 b_far_street
theorem d_far_street (B : Blt mg) (G_check_dots : Df P w K mg base k "check_dots" 1 m_check_dots) (G_street_of : Df P w K mg base k "street_of" 2 m_street_of) (cdv : Value) (A : Around) (outer : List Env) (s : Shared) (H : Hp) (E : XK) (F : Fx) (C : Cs (CxF P w K mg base N_far_street "far_street" s_far_street f cdv A outer s H E) F k) : LSs (CxF P w K mg base N_far_street "far_street" s_far_street f cdv A outer s H E) F (defBody s_far_street) b_far_street :=
 (lss_cons (ls_expr (lp_call C.tk C.z G_check_dots (Nat.le_refl _) (by rfl) (lg_p (lp_var 0) lg_nil)))
 (lss_cons (ls_par2 C.z rfl rfl (by decide) rfl rfl (lm_p (LF.p (lf_lc C.z (lib_seq (LP.b (lp_var 0))) (own := [("x", 4), ("y", 5)]) (blkOk_by (by kernel_rfl)) (fun _ _ _ _ _ => (pgt (Cz.blk C.z) (pgsc (pgn (Cz.blk C.z)) (pgsc (pgn (Cz.blk C.z)) pgsn)))) (fun _ _ _ _ _ => lts_nil) (fun _ _ _ _ _ => (lp_var 4)) (by decide))) (lm_p (LF.p (lf_lc C.z (lib_seq (LP.b (lp_var 0))) (own := [("x", 4), ("y", 5)]) (blkOk_by (by kernel_rfl)) (fun _ _ _ _ _ => (pgt (Cz.blk C.z) (pgsc (pgn (Cz.blk C.z)) (pgsc (pgn (Cz.blk C.z)) pgsn)))) (fun _ _ _ _ _ => lts_nil) (fun _ _ _ _ _ => (lp_var 5)) (by decide))) lm_nil)) (by rfl))
 (lss_cons (ls_asg lp_non (pgn C.z))
 (lss_cons (ls_for C (li_range2 (by rfl) B.range (lp_minL C.z (by rfl) B.min (LP.b (lp_var 1))) (lp_add (LP.b (lp_maxL C.z (by rfl) B.max (LP.b (lp_var 1)))) (LP.b lp_int))) (pgn C.z)
 (lss_one (ls_for C (li_range2 (by rfl) B.range (lp_minL C.z (by rfl) B.min (LP.b (lp_var 2))) (lp_add (LP.b (lp_maxL C.z (by rfl) B.max (LP.b (lp_var 2)))) (LP.b lp_int))) (pgn C.z)
 (lss_cons (ls_asg (lp_tup (la_cons (lp_maxL C.z (by rfl) B.max (LP.b (LF.p (lf_lc C.z (lib_seq (LP.b (lp_var 0))) (own := [("dot", 7)]) (blkOk_by (by kernel_rfl)) (fun _ _ _ _ _ => (pgn (Cz.blk C.z))) (fun _ _ _ _ _ => lts_nil) (fun _ _ _ _ _ => (lp_call Takes.blk (Cz.blk C.z) G_street_of (Nat.le_refl _) (by rfl) (lg_p (lp_tup (la_cons (lp_var 4) (la_cons (lp_var 5) la_nil))) (lg_p (lp_var 7) lg_nil)))) (by decide))))) (la_cons (lp_tup (la_cons (lp_var 4) (la_cons (lp_var 5) la_nil))) la_nil))) (pgn C.z))
 (lss_one (ls_asg (lp_if (LW.tt (lw_or (lt_c (c_is C.z) (LP.b (lp_var 3)) (LP.b lp_non)) (lw_or1 (lt_c (c_lt C.z) (LP.b (lp_var 6)) (LP.b (lp_var 3)))))) (lp_var 6) (lp_var 3)) (pgn C.z)))))))
 (lss_one (ls_ret (lp_var 3)))))))
abbrev N__law_draw : List Str := ["hand", "many", "cell", "digit", "number"]
abbrev s__law_draw : Stmt := topS 22
theorem sc__law_draw : FnScope N__law_draw ["hand", "many"] (defScope s__law_draw) := ⟨rfl, rfl, rfl, by decide +kernel, rfl, by decide +kernel, by decide +kernel⟩
def b__law_draw : SX :=
 (sSeq (sIf (tAndX (pTst (pop2 dEq (pHand 0 (pK (.int 2))) (pK (.int 0)))) (pTst (pop2 dLt (pHand 0 (pK (.int 1))) (pop1 dLen (pHand 0 (pK (.int 0))))))) (sSeq (sAsg (pop2 dIx (pHand 0 (pK (.int 0))) (pHand 0 (pK (.int 1)))) (.nm 2))
 (sSeq (sHand 0 (pop2 dAdd (pHand 0 (pK (.int 1))) (pK (.int 1))) (pK (.int 1)))
 (sSeq (sHand 0 (pop2 dMod (pop1 dInt (pop2 dAdd (pop2 dAdd (pop2 dMul (pHand 0 (pK (.int 3))) (pK (.int 69621))) (pop2 dMul (pVar 2) (pK (.int 40692)))) (pK (.int 97)))) (pK (.int 2147483629))) (pK (.int 3)))
 (sIf (pTst (pop2 dGe (pVar 2) (pop2 dPow (pK (.int 10)) (pK (.int 18))))) (sHand 0 (pVar 2) (pK (.int 2))) sNil)))) sNil)
 (sSeq (sIf (pTst (pop2 dGt (pHand 0 (pK (.int 2))) (pK (.int 0)))) (sSeq (sAsg (pop2 dMod (pop1 dInt (pHand 0 (pK (.int 2)))) (pVar 1)) (.nm 3))
 (sSeq (sHand 0 (pop2 dDiv (pHand 0 (pK (.int 2))) (pVar 1)) (pK (.int 2)))
 (sRet (pVar 3)))) sNil)
 (sSeq (sHand 0 (pop2 dAdd (pHand 0 (pK (.int 4))) (pK (.int 1))) (pK (.int 4)))
 (sSeq (sAsg (pop2 dMod (pop1 dInt (pop2 dMul (pop1 dInt (pop2 dAdd (pHand 0 (pK (.int 3))) (pop2 dMul (pK (.int 7919)) (pHand 0 (pK (.int 4)))))) (pK (.int 48271)))) (pK (.int 2147483647))) (.nm 4))
 (sSeq (sAsg (pop2 dMod (pop1 dInt (pop2 dMul (pVar 4) (pop2 dAdd (pop2 dDiv (pVar 4) (pK (.int 1009))) (pK (.int 69621))))) (pK (.int 2147483647))) (.nm 4))
 (sSeq (sAsg (pop2 dMod (pop1 dInt (pop2 dMul (pVar 4) (pop2 dAdd (pop2 dDiv (pVar 4) (pK (.int 2003))) (pK (.int 40014))))) (pK (.int 2147483563))) (.nm 4))
 (sRet (pop2 dMod (pop1 dInt (pop2 dDiv (pVar 4) (pK (.int 16)))) (pVar 1)))))))))
def m__law_draw : FX := semF 5 b__law_draw
theorem d__law_draw (B : Blt mg) (cdv : Value) (A : Around) (outer : List Env) (s : Shared) (H : Hp) (E : XK) (F : Fx) (C : Cs (CxF P w K mg base N__law_draw "_law_draw" s__law_draw f cdv A outer s H E) F k) : LSs (CxF P w K mg base N__law_draw "_law_draw" s__law_draw f cdv A outer s H E) F (defBody s__law_draw) b__law_draw :=
 (lss_cons (ls_if (LW.tt (lw_and (lt_c (c_eq C.z) (LP.b (lp_hand 0 rfl (by first | exact Or.inl rfl | exact Or.inr (Or.inl rfl) | exact Or.inr (Or.inr rfl)) lp_int)) (LP.b lp_int)) (lw_and1 (lt_c (c_lt C.z) (LP.b (lp_hand 0 rfl (by first | exact Or.inl rfl | exact Or.inr (Or.inl rfl) | exact Or.inr (Or.inr rfl)) lp_int)) (LP.b (lp_len (by rfl) B.len (LP.b (lp_hand 0 rfl (by first | exact Or.inl rfl | exact Or.inr (Or.inl rfl) | exact Or.inr (Or.inr rfl)) lp_int)))))))) (lss_cons (ls_asg (lp_ix (LP.b (lp_hand 0 rfl (by first | exact Or.inl rfl | exact Or.inr (Or.inl rfl) | exact Or.inr (Or.inr rfl)) lp_int)) (LP.b (lp_hand 0 rfl (by first | exact Or.inl rfl | exact Or.inr (Or.inl rfl) | exact Or.inr (Or.inr rfl)) lp_int))) (pgn C.z))
 (lss_cons (ls_hand 0 rfl (by first | exact Or.inl rfl | exact Or.inr (Or.inl rfl) | exact Or.inr (Or.inr rfl)) (lp_add (LP.b (lp_hand 0 rfl (by first | exact Or.inl rfl | exact Or.inr (Or.inl rfl) | exact Or.inr (Or.inr rfl)) lp_int)) (LP.b lp_int)) lp_int)
 (lss_cons (ls_hand 0 rfl (by first | exact Or.inl rfl | exact Or.inr (Or.inl rfl) | exact Or.inr (Or.inr rfl)) (lp_mod (LP.b (lp_int1 (by rfl) B.int (LP.b (lp_add (LP.b (lp_add (LP.b (lp_mul (LP.b (lp_hand 0 rfl (by first | exact Or.inl rfl | exact Or.inr (Or.inl rfl) | exact Or.inr (Or.inr rfl)) lp_int)) (LP.b lp_int))) (LP.b (lp_mul (LP.b (lp_var 2)) (LP.b lp_int))))) (LP.b lp_int))))) (LP.b lp_int)) lp_int)
 (lss_one (ls_if (lt_c (c_ge C.z) (LP.b (lp_var 2)) (LP.b (lp_pow (LP.b lp_int) (LP.b lp_int)))) (lss_one (ls_hand 0 rfl (by first | exact Or.inl rfl | exact Or.inr (Or.inl rfl) | exact Or.inr (Or.inr rfl)) (lp_var 2) lp_int)) lss_nil))))) lss_nil)
 (lss_cons (ls_if (lt_c (c_gt C.z) (LP.b (lp_hand 0 rfl (by first | exact Or.inl rfl | exact Or.inr (Or.inl rfl) | exact Or.inr (Or.inr rfl)) lp_int)) (LP.b lp_int)) (lss_cons (ls_asg (lp_mod (LP.b (lp_int1 (by rfl) B.int (LP.b (lp_hand 0 rfl (by first | exact Or.inl rfl | exact Or.inr (Or.inl rfl) | exact Or.inr (Or.inr rfl)) lp_int)))) (LP.b (lp_var 1))) (pgn C.z))
 (lss_cons (ls_hand 0 rfl (by first | exact Or.inl rfl | exact Or.inr (Or.inl rfl) | exact Or.inr (Or.inr rfl)) (lp_div (LP.b (lp_hand 0 rfl (by first | exact Or.inl rfl | exact Or.inr (Or.inl rfl) | exact Or.inr (Or.inr rfl)) lp_int)) (LP.b (lp_var 1))) lp_int)
 (lss_one (ls_ret (lp_var 3))))) lss_nil)
 (lss_cons (ls_hand 0 rfl (by first | exact Or.inl rfl | exact Or.inr (Or.inl rfl) | exact Or.inr (Or.inr rfl)) (lp_add (LP.b (lp_hand 0 rfl (by first | exact Or.inl rfl | exact Or.inr (Or.inl rfl) | exact Or.inr (Or.inr rfl)) lp_int)) (LP.b lp_int)) lp_int)
 (lss_cons (ls_asg (lp_mod (LP.b (lp_int1 (by rfl) B.int (LP.b (lp_mul (LP.b (lp_int1 (by rfl) B.int (LP.b (lp_add (LP.b (lp_hand 0 rfl (by first | exact Or.inl rfl | exact Or.inr (Or.inl rfl) | exact Or.inr (Or.inr rfl)) lp_int)) (LP.b (lp_mul (LP.b lp_int) (LP.b (lp_hand 0 rfl (by first | exact Or.inl rfl | exact Or.inr (Or.inl rfl) | exact Or.inr (Or.inr rfl)) lp_int)))))))) (LP.b lp_int))))) (LP.b lp_int)) (pgn C.z))
 (lss_cons (ls_asg (lp_mod (LP.b (lp_int1 (by rfl) B.int (LP.b (lp_mul (LP.b (lp_var 4)) (LP.b (lp_add (LP.b (lp_div (LP.b (lp_var 4)) (LP.b lp_int))) (LP.b lp_int))))))) (LP.b lp_int)) (pgn C.z))
 (lss_cons (ls_asg (lp_mod (LP.b (lp_int1 (by rfl) B.int (LP.b (lp_mul (LP.b (lp_var 4)) (LP.b (lp_add (LP.b (lp_div (LP.b (lp_var 4)) (LP.b lp_int))) (LP.b lp_int))))))) (LP.b lp_int)) (pgn C.z))
 (lss_one (ls_ret (lp_mod (LP.b (lp_int1 (by rfl) B.int (LP.b (lp_div (LP.b (lp_var 4)) (LP.b lp_int))))) (LP.b (lp_var 1)))))))))))
abbrev N__law_dot : List Str := ["hand", "wide"]
abbrev s__law_dot : Stmt := topS 24
theorem sc__law_dot : FnScope N__law_dot ["hand", "wide"] (defScope s__law_dot) := ⟨rfl, rfl, rfl, by decide +kernel, rfl, by decide +kernel, by decide +kernel⟩
def b__law_dot : SX :=
 (sRet (pTup (aCons (pop2 dSub (pCallH 2 m__law_draw (gConsR 0 (gConsP (pop2 dAdd (pop2 dMul (pK (.int 2)) (pVar 1)) (pK (.int 1))) gNilX))) (pVar 1)) (aCons (pop2 dSub (pCallH 2 m__law_draw (gConsR 0 (gConsP (pop2 dAdd (pop2 dMul (pK (.int 2)) (pVar 1)) (pK (.int 1))) gNilX))) (pVar 1)) aNil))))
def m__law_dot : FX := semF 2 b__law_dot
theorem d__law_dot (B : Blt mg) (G__law_draw : Df P w K mg base k "_law_draw" 2 m__law_draw) (cdv : Value) (A : Around) (outer : List Env) (s : Shared) (H : Hp) (E : XK) (F : Fx) (C : Cs (CxF P w K mg base N__law_dot "_law_dot" s__law_dot f cdv A outer s H E) F k) : LSs (CxF P w K mg base N__law_dot "_law_dot" s__law_dot f cdv A outer s H E) F (defBody s__law_dot) b__law_dot :=
 (lss_one (ls_ret (lp_tup (la_cons (lp_sub (LP.b (lp_callH C.tk C.z G__law_draw (Nat.le_refl _) (by rfl) (lg_r 0 (lg_p (lp_add (LP.b (lp_mul (LP.b lp_int) (LP.b (lp_var 1)))) (LP.b lp_int)) lg_nil)))) (LP.b (lp_var 1))) (la_cons (lp_sub (LP.b (lp_callH C.tk C.z G__law_draw (Nat.le_refl _) (by rfl) (lg_r 0 (lg_p (lp_add (LP.b (lp_mul (LP.b lp_int) (LP.b (lp_var 1)))) (LP.b lp_int)) lg_nil)))) (LP.b (lp_var 1))) la_nil)))))
abbrev N__law_street : List Str := ["a", "b"]
abbrev s__law_street : Stmt := topS 26
theorem sc__law_street : FnScope N__law_street ["a", "b"] (defScope s__law_street) := ⟨rfl, rfl, rfl, by decide +kernel, rfl, by decide +kernel, by decide +kernel⟩
def b__law_street : SX :=
 (sRet (pop2 dAdd (pop1 dAbs (pop2 dSub (pop2 dIx (pVar 0) (pK (.int 0))) (pop2 dIx (pVar 1) (pK (.int 0))))) (pop1 dAbs (pop2 dSub (pop2 dIx (pVar 0) (pK (.int 1))) (pop2 dIx (pVar 1) (pK (.int 1)))))))
def m__law_street : FX := semF 2 b__law_street
theorem d__law_street (B : Blt mg) (cdv : Value) (A : Around) (outer : List Env) (s : Shared) (H : Hp) (E : XK) (F : Fx) (C : Cs (CxF P w K mg base N__law_street "_law_street" s__law_street f cdv A outer s H E) F k) : LSs (CxF P w K mg base N__law_street "_law_street" s__law_street f cdv A outer s H E) F (defBody s__law_street) b__law_street :=
 (lss_one (ls_ret (lp_add (LP.b (lp_abs (by rfl) B.abs (LP.b (lp_sub (LP.b (lp_ix (LP.b (lp_var 0)) (LP.b lp_int))) (LP.b (lp_ix (LP.b (lp_var 1)) (LP.b lp_int))))))) (LP.b (lp_abs (by rfl) B.abs (LP.b (lp_sub (LP.b (lp_ix (LP.b (lp_var 0)) (LP.b lp_int))) (LP.b (lp_ix (LP.b (lp_var 1)) (LP.b lp_int))))))))))
abbrev N__law_box : List Str := ["dots", "x", "y", "found", "one", "dot", "other"]
abbrev s__law_box : Stmt := topS 27
theorem sc__law_box : FnScope N__law_box ["dots"] (defScope s__law_box) := ⟨rfl, rfl, rfl, by decide +kernel, rfl, by decide +kernel, by decide +kernel⟩
def b__law_box : SX :=
 (sSeq (sPar [1, 2] (mConsP (pLc (iOf (pVar 0)) (.nm 5) tYesX (pop2 dIx (pVar 5) (pK (.int 0))) [5]) (mConsP (pLc (iOf (pVar 0)) (.nm 5) tYesX (pop2 dIx (pVar 5) (pK (.int 1))) [5]) mNil)))
 (sSeq (sAsg (pLst aNil) (.nm 3))
 (sSeq (sFor (iRange2 (pop1 dMinL (pVar 1)) (pop2 dAdd (pop1 dMaxL (pVar 1)) (pK (.int 1)))) (.nm 4)
 (sAsg (pop2 dAdd (pVar 3) (pLc (iRange2 (pop1 dMinL (pVar 2)) (pop2 dAdd (pop1 dMaxL (pVar 2)) (pK (.int 1)))) (.nm 6) tYesX (pTup (aCons (pVar 4) (aCons (pVar 6) aNil))) [6])) (.nm 3)))
 (sRet (pVar 3)))))
def m__law_box : FX := semF 7 b__law_box
theorem d__law_box (B : Blt mg) (cdv : Value) (A : Around) (outer : List Env) (s : Shared) (H : Hp) (E : XK) (F : Fx) (C : Cs (CxF P w K mg base N__law_box "_law_box" s__law_box f cdv A outer s H E) F k) : LSs (CxF P w K mg base N__law_box "_law_box" s__law_box f cdv A outer s H E) F (defBody s__law_box) b__law_box :=
 (lss_cons (ls_par2 C.z rfl rfl (by decide) rfl rfl (lm_p (LF.p (lf_lc C.z (lib_seq (LP.b (lp_var 0))) (own := [("dot", 5)]) (blkOk_by (by kernel_rfl)) (fun _ _ _ _ _ => (pgn (Cz.blk C.z))) (fun _ _ _ _ _ => lts_nil) (fun _ _ _ _ _ => (lp_ix (LP.b (lp_var 5)) (LP.b lp_int))) (by decide))) (lm_p (LF.p (lf_lc C.z (lib_seq (LP.b (lp_var 0))) (own := [("dot", 5)]) (blkOk_by (by kernel_rfl)) (fun _ _ _ _ _ => (pgn (Cz.blk C.z))) (fun _ _ _ _ _ => lts_nil) (fun _ _ _ _ _ => (lp_ix (LP.b (lp_var 5)) (LP.b lp_int))) (by decide))) lm_nil)) (by rfl))
 (lss_cons (ls_asg (LF.p (lf_lst la_nil)) (pgn C.z))
 (lss_cons (ls_for C (li_range2 (by rfl) B.range (lp_minL C.z (by rfl) B.min (LP.b (lp_var 1))) (lp_add (LP.b (lp_maxL C.z (by rfl) B.max (LP.b (lp_var 1)))) (LP.b lp_int))) (pgn C.z)
 (lss_one (ls_asg (lp_add (LP.b (lp_var 3)) (LP.b (LF.p (lf_lc C.z (LI.b (li_range2 (by rfl) B.range (lp_minL C.z (by rfl) B.min (LP.b (lp_var 2))) (lp_add (LP.b (lp_maxL C.z (by rfl) B.max (LP.b (lp_var 2)))) (LP.b lp_int)))) (own := [("other", 6)]) (blkOk_by (by kernel_rfl)) (fun _ _ _ _ _ => (pgn (Cz.blk C.z))) (fun _ _ _ _ _ => lts_nil) (fun _ _ _ _ _ => (lp_tup (la_cons (lp_var 4) (la_cons (lp_var 6) la_nil)))) (by decide))))) (pgn C.z))))
 (lss_one (ls_ret (lp_var 3))))))
abbrev N__law_middles : List Str := ["numbers", "row"]
abbrev s__law_middles : Stmt := topS 30
theorem sc__law_middles : FnScope N__law_middles ["numbers"] (defScope s__law_middles) := ⟨rfl, rfl, rfl, by decide +kernel, rfl, by decide +kernel, by decide +kernel⟩
def b__law_middles : SX :=
 (sSeq (sAsg (pop1 dSorted (pVar 0)) (.nm 1))
 (sRet (pTup (aCons (pop2 dIx (pVar 1) (pop2 dDiv (pop2 dSub (pop1 dLen (pVar 1)) (pK (.int 1))) (pK (.int 2)))) (aCons (pop2 dIx (pVar 1) (pop2 dDiv (pop1 dLen (pVar 1)) (pK (.int 2)))) aNil)))))
def m__law_middles : FX := semF 2 b__law_middles
theorem d__law_middles (B : Blt mg) (cdv : Value) (A : Around) (outer : List Env) (s : Shared) (H : Hp) (E : XK) (F : Fx) (C : Cs (CxF P w K mg base N__law_middles "_law_middles" s__law_middles f cdv A outer s H E) F k) : LSs (CxF P w K mg base N__law_middles "_law_middles" s__law_middles f cdv A outer s H E) F (defBody s__law_middles) b__law_middles :=
 (lss_cons (ls_asg (LF.p (lf_sorted C.z (by rfl) B.sorted (LP.b (lp_var 0)))) (pgn C.z))
 (lss_one (ls_ret (lp_tup (la_cons (lp_ix (LP.b (lp_var 1)) (LP.b (lp_div (LP.b (lp_sub (LP.b (lp_len (by rfl) B.len (LP.b (lp_var 1)))) (LP.b lp_int))) (LP.b lp_int)))) (la_cons (lp_ix (LP.b (lp_var 1)) (LP.b (lp_div (LP.b (lp_len (by rfl) B.len (LP.b (lp_var 1)))) (LP.b lp_int)))) la_nil))))))
abbrev N__law_sum : List Str := ["dots", "p", "dot"]
abbrev s__law_sum : Stmt := topS 28
theorem sc__law_sum : FnScope N__law_sum ["dots", "p"] (defScope s__law_sum) := ⟨rfl, rfl, rfl, by decide +kernel, rfl, by decide +kernel, by decide +kernel⟩
def b__law_sum : SX :=
 (sRet (pop1 dSum (pLc (iOf (pVar 0)) (.nm 2) tYesX (pCall 2 m__law_street (gConsP (pVar 1) (gConsP (pVar 2) gNilX))) [2])))
def m__law_sum : FX := semF 3 b__law_sum
theorem d__law_sum (B : Blt mg) (G__law_street : Df P w K mg base k "_law_street" 2 m__law_street) (cdv : Value) (A : Around) (outer : List Env) (s : Shared) (H : Hp) (E : XK) (F : Fx) (C : Cs (CxF P w K mg base N__law_sum "_law_sum" s__law_sum f cdv A outer s H E) F k) : LSs (CxF P w K mg base N__law_sum "_law_sum" s__law_sum f cdv A outer s H E) F (defBody s__law_sum) b__law_sum :=
 (lss_one (ls_ret (lp_sum C.z (by rfl) B.sum (LP.b (LF.p (lf_lc C.z (lib_seq (LP.b (lp_var 0))) (own := [("dot", 2)]) (blkOk_by (by kernel_rfl)) (fun _ _ _ _ _ => (pgn (Cz.blk C.z))) (fun _ _ _ _ _ => lts_nil) (fun _ _ _ _ _ => (lp_call Takes.blk (Cz.blk C.z) G__law_street (Nat.le_refl _) (by rfl) (lg_p (lp_var 1) (lg_p (lp_var 2) lg_nil)))) (by decide)))))))
abbrev N__law_any : List Str := ["hand", "some"]
abbrev s__law_any : Stmt := topS 23
theorem sc__law_any : FnScope N__law_any ["hand", "some"] (defScope s__law_any) := ⟨rfl, rfl, rfl, by decide +kernel, rfl, by decide +kernel, by decide +kernel⟩
def b__law_any : SX :=
 (sRet (pop2 dIx (pVar 1) (pCallH 2 m__law_draw (gConsR 0 (gConsP (pop1 dLen (pVar 1)) gNilX)))))
def m__law_any : FX := semF 2 b__law_any
theorem d__law_any (B : Blt mg) (G__law_draw : Df P w K mg base k "_law_draw" 2 m__law_draw) (cdv : Value) (A : Around) (outer : List Env) (s : Shared) (H : Hp) (E : XK) (F : Fx) (C : Cs (CxF P w K mg base N__law_any "_law_any" s__law_any f cdv A outer s H E) F k) : LSs (CxF P w K mg base N__law_any "_law_any" s__law_any f cdv A outer s H E) F (defBody s__law_any) b__law_any :=
 (lss_one (ls_ret (lp_ix (LP.b (lp_var 1)) (LP.b (lp_callH C.tk C.z G__law_draw (Nat.le_refl _) (by rfl) (lg_r 0 (lg_p (lp_len (by rfl) B.len (LP.b (lp_var 1))) lg_nil)))))))
abbrev N__law_most : List Str := ["dots", "p", "dot"]
abbrev s__law_most : Stmt := topS 29
theorem sc__law_most : FnScope N__law_most ["dots", "p"] (defScope s__law_most) := ⟨rfl, rfl, rfl, by decide +kernel, rfl, by decide +kernel, by decide +kernel⟩
def b__law_most : SX :=
 (sRet (pop1 dMaxL (pLc (iOf (pVar 0)) (.nm 2) tYesX (pCall 2 m__law_street (gConsP (pVar 1) (gConsP (pVar 2) gNilX))) [2])))
def m__law_most : FX := semF 3 b__law_most
theorem d__law_most (B : Blt mg) (G__law_street : Df P w K mg base k "_law_street" 2 m__law_street) (cdv : Value) (A : Around) (outer : List Env) (s : Shared) (H : Hp) (E : XK) (F : Fx) (C : Cs (CxF P w K mg base N__law_most "_law_most" s__law_most f cdv A outer s H E) F k) : LSs (CxF P w K mg base N__law_most "_law_most" s__law_most f cdv A outer s H E) F (defBody s__law_most) b__law_most :=
 (lss_one (ls_ret (lp_maxL C.z (by rfl) B.max (LP.b (LF.p (lf_lc C.z (lib_seq (LP.b (lp_var 0))) (own := [("dot", 2)]) (blkOk_by (by kernel_rfl)) (fun _ _ _ _ _ => (pgn (Cz.blk C.z))) (fun _ _ _ _ _ => lts_nil) (fun _ _ _ _ _ => (lp_call Takes.blk (Cz.blk C.z) G__law_street (Nat.le_refl _) (by rfl) (lg_p (lp_var 1) (lg_p (lp_var 2) lg_nil)))) (by decide)))))))
abbrev N__law_is_right : List Str := ["hand", "dots", "near", "least", "most", "x", "y", "turn", "p", "a", "widest", "by", "mirrored_here", "moved_here", "less", "dot"]
abbrev s__law_is_right : Stmt := topS 31
theorem sc__law_is_right : FnScope N__law_is_right ["hand", "dots"] (defScope s__law_is_right) := ⟨rfl, rfl, rfl, by decide +kernel, rfl, by decide +kernel, by decide +kernel⟩
def b__law_is_right : SX :=
 (sSeq (sAsg (pCall 1 m__law_box (gConsP (pVar 1) gNilX)) (.nm 2))
 (sSeq (sPar [3, 4] (mConsP (pop1 dMinL (pLc (iOf (pVar 2)) (.nm 8) tYesX (pTup (aCons (pCall 2 m__law_sum (gConsP (pVar 1) (gConsP (pVar 8) gNilX))) (aCons (pVar 8) aNil))) [8])) (mConsP (pop1 dMinL (pLc (iOf (pVar 2)) (.nm 8) tYesX (pTup (aCons (pCall 2 m__law_most (gConsP (pVar 1) (gConsP (pVar 8) gNilX))) (aCons (pVar 8) aNil))) [8])) mNil)))
 (sSeq (sIf (tOrX (pTst (pop2 dNe (pCall 1 m_street_centre (gConsP (pVar 1) gNilX)) (pVar 3))) (pTst (pop2 dNe (pCall 1 m_far_street (gConsP (pVar 1) gNilX)) (pVar 4)))) (sRet (pK (.bool false))) sNil)
 (sSeq (sPar [5, 6] (mConsP (pCall 1 m__law_middles (gConsP (pLc (iOf (pVar 1)) (.nm 15) tYesX (pop2 dIx (pVar 15) (pK (.int 0))) [15]) gNilX)) (mConsP (pCall 1 m__law_middles (gConsP (pLc (iOf (pVar 1)) (.nm 15) tYesX (pop2 dIx (pVar 15) (pK (.int 1))) [15]) gNilX)) mNil)))
 (sSeq (sIf (tOrX (pTst (pop2 dNe (pop2 dIx (pVar 3) (pK (.int 1))) (pTup (aCons (pop2 dIx (pVar 5) (pK (.int 0))) (aCons (pop2 dIx (pVar 6) (pK (.int 0))) aNil))))) (pTst (pop2 dNe (pCall 2 m__law_sum (gConsP (pVar 1) (gConsP (pTup (aCons (pop2 dIx (pVar 5) (pK (.int 1))) (aCons (pop2 dIx (pVar 6) (pK (.int 1))) aNil))) gNilX))) (pop2 dIx (pVar 3) (pK (.int 0)))))) (sRet (pK (.bool false))) sNil)
 (sSeq (sFor (iRange1 (pK (.int 4))) (.nm 7)
 (sSeq (sPar [8, 9] (mConsP (pCallH 2 m__law_dot (gConsR 0 (gConsP (pK (.int 100)) gNilX))) (mConsP (pCallH 2 m__law_any (gConsR 0 (gConsP (pVar 1) gNilX))) mNil)))
 (sIf (tOrX (pTst (pop2 dNe (pCall 2 m_street (gConsP (pVar 8) (gConsP (pVar 9) gNilX))) (pCall 2 m__law_street (gConsP (pVar 8) (gConsP (pVar 9) gNilX))))) (tOrX (pTst (pop2 dNe (pCall 2 m_street (gConsP (pVar 9) (gConsP (pVar 8) gNilX))) (pCall 2 m__law_street (gConsP (pVar 8) (gConsP (pVar 9) gNilX))))) (pTst (pop2 dLt (pCall 2 m__law_sum (gConsP (pVar 1) (gConsP (pVar 8) gNilX))) (pop2 dIx (pVar 3) (pK (.int 0))))))) (sRet (pK (.bool false))) sNil)))
 (sSeq (sAsg (pop1 dMaxL (pLc (iOf (pVar 1)) (.nm 15) tYesX (pCall 2 m__law_most (gConsP (pVar 1) (gConsP (pVar 15) gNilX))) [15])) (.nm 10))
 (sSeq (sIf (tOrX (pTst (pop2 dLt (pop2 dMul (pK (.int 2)) (pop2 dIx (pVar 4) (pK (.int 0)))) (pVar 10))) (pTst (pop2 dGt (pop2 dIx (pVar 4) (pK (.int 0))) (pVar 10)))) (sRet (pK (.bool false))) sNil)
 (sSeq (sPar [11, 12] (mConsP (pCallH 2 m__law_dot (gConsR 0 (gConsP (pK (.int 40)) gNilX))) (mConsP (pop1 dTuple (pop1 dSorted (pLc (iOf (pVar 1)) (.tp [(.nm 5), (.nm 6)]) tYesX (pTup (aCons (pVar 6) (aCons (pop2 dSub (pK (.int 0)) (pVar 5)) aNil))) [5, 6]))) mNil)))
 (sSeq (sAsg (pop1 dTuple (pLc (iOf (pVar 1)) (.tp [(.nm 5), (.nm 6)]) tYesX (pTup (aCons (pop2 dAdd (pVar 5) (pop2 dIx (pVar 11) (pK (.int 0)))) (aCons (pop2 dAdd (pVar 6) (pop2 dIx (pVar 11) (pK (.int 1)))) aNil))) [5, 6])) (.nm 13))
 (sSeq (sIf (pTst (pop2 dNe (pCall 1 m_street_centre (gConsP (pVar 13) gNilX)) (pTup (aCons (pop2 dIx (pVar 3) (pK (.int 0))) (aCons (pTup (aCons (pop2 dAdd (pop2 dIx (pop2 dIx (pVar 3) (pK (.int 1))) (pK (.int 0))) (pop2 dIx (pVar 11) (pK (.int 0)))) (aCons (pop2 dAdd (pop2 dIx (pop2 dIx (pVar 3) (pK (.int 1))) (pK (.int 1))) (pop2 dIx (pVar 11) (pK (.int 1)))) aNil))) aNil))))) (sRet (pK (.bool false))) sNil)
 (sSeq (sIf (pTst (pop2 dNe (pCall 1 m_far_street (gConsP (pVar 13) gNilX)) (pTup (aCons (pop2 dIx (pVar 4) (pK (.int 0))) (aCons (pTup (aCons (pop2 dAdd (pop2 dIx (pop2 dIx (pVar 4) (pK (.int 1))) (pK (.int 0))) (pop2 dIx (pVar 11) (pK (.int 0)))) (aCons (pop2 dAdd (pop2 dIx (pop2 dIx (pVar 4) (pK (.int 1))) (pK (.int 1))) (pop2 dIx (pVar 11) (pK (.int 1)))) aNil))) aNil))))) (sRet (pK (.bool false))) sNil)
 (sSeq (sIf (tOrX (pTst (pop2 dNe (pop2 dIx (pCall 1 m_street_centre (gConsP (pVar 12) gNilX)) (pK (.int 0))) (pop2 dIx (pVar 3) (pK (.int 0))))) (pTst (pop2 dNe (pop2 dIx (pCall 1 m_far_street (gConsP (pVar 12) gNilX)) (pK (.int 0))) (pop2 dIx (pVar 4) (pK (.int 0)))))) (sRet (pK (.bool false))) sNil)
 (sSeq (sAsg (pCut (pVar 1) (oSome (pK (.int 1))) oNone) (.nm 14))
 (sRet (pOr (pop2 dEq (pop1 dLen (pVar 14)) (pK (.int 0))) (pop2 dLe (pop2 dIx (pCall 1 m_street_centre (gConsP (pVar 14) gNilX)) (pK (.int 0))) (pop2 dIx (pVar 3) (pK (.int 0))))))))))))))))))))
def m__law_is_right : FX := semF 16 b__law_is_right
theorem d__law_is_right (B : Blt mg) (G__law_box : Df P w K mg base k "_law_box" 1 m__law_box) (G__law_most : Df P w K mg base k "_law_most" 2 m__law_most) (G__law_sum : Df P w K mg base k "_law_sum" 2 m__law_sum) (G_street_centre : Df P w K mg base k "street_centre" 1 m_street_centre) (G_far_street : Df P w K mg base k "far_street" 1 m_far_street) (G__law_middles : Df P w K mg base k "_law_middles" 1 m__law_middles) (G__law_any : Df P w K mg base k "_law_any" 2 m__law_any) (G__law_dot : Df P w K mg base k "_law_dot" 2 m__law_dot) (G_street : Df P w K mg base k "street" 2 m_street) (G__law_street : Df P w K mg base k "_law_street" 2 m__law_street) (cdv : Value) (A : Around) (outer : List Env) (s : Shared) (H : Hp) (E : XK) (F : Fx) (C : Cs (CxF P w K mg base N__law_is_right "_law_is_right" s__law_is_right f cdv A outer s H E) F k) : LSs (CxF P w K mg base N__law_is_right "_law_is_right" s__law_is_right f cdv A outer s H E) F (defBody s__law_is_right) b__law_is_right :=
 (lss_cons (ls_asg (lp_call C.tk C.z G__law_box (Nat.le_refl _) (by rfl) (lg_p (lp_var 1) lg_nil)) (pgn C.z))
 (lss_cons (ls_par2 C.z rfl rfl (by decide) rfl rfl (lm_p (lp_minL C.z (by rfl) B.min (LP.b (LF.p (lf_lc C.z (lib_seq (LP.b (lp_var 2))) (own := [("p", 8)]) (blkOk_by (by kernel_rfl)) (fun _ _ _ _ _ => (pgn (Cz.blk C.z))) (fun _ _ _ _ _ => lts_nil) (fun _ _ _ _ _ => (lp_tup (la_cons (lp_call Takes.blk (Cz.blk C.z) G__law_sum (Nat.le_refl _) (by rfl) (lg_p (lp_var 1) (lg_p (lp_var 8) lg_nil))) (la_cons (lp_var 8) la_nil)))) (by decide))))) (lm_p (lp_minL C.z (by rfl) B.min (LP.b (LF.p (lf_lc C.z (lib_seq (LP.b (lp_var 2))) (own := [("p", 8)]) (blkOk_by (by kernel_rfl)) (fun _ _ _ _ _ => (pgn (Cz.blk C.z))) (fun _ _ _ _ _ => lts_nil) (fun _ _ _ _ _ => (lp_tup (la_cons (lp_call Takes.blk (Cz.blk C.z) G__law_most (Nat.le_refl _) (by rfl) (lg_p (lp_var 1) (lg_p (lp_var 8) lg_nil))) (la_cons (lp_var 8) la_nil)))) (by decide))))) lm_nil)) (by rfl))
 (lss_cons (ls_if (LW.tt (lw_or (lt_c (c_ne C.z) (LP.b (lp_call C.tk C.z G_street_centre (Nat.le_refl _) (by rfl) (lg_p (lp_var 1) lg_nil))) (LP.b (lp_var 3))) (lw_or1 (lt_c (c_ne C.z) (LP.b (lp_call C.tk C.z G_far_street (Nat.le_refl _) (by rfl) (lg_p (lp_var 1) lg_nil))) (LP.b (lp_var 4)))))) (lss_one (ls_ret lp_bl)) lss_nil)
 (lss_cons (ls_par2 C.z rfl rfl (by decide) rfl rfl (lm_p (lp_call C.tk C.z G__law_middles (Nat.le_refl _) (by rfl) (lg_p (LF.p (lf_lc C.z (lib_seq (LP.b (lp_var 1))) (own := [("dot", 15)]) (blkOk_by (by kernel_rfl)) (fun _ _ _ _ _ => (pgn (Cz.blk C.z))) (fun _ _ _ _ _ => lts_nil) (fun _ _ _ _ _ => (lp_ix (LP.b (lp_var 15)) (LP.b lp_int))) (by decide))) lg_nil)) (lm_p (lp_call C.tk C.z G__law_middles (Nat.le_refl _) (by rfl) (lg_p (LF.p (lf_lc C.z (lib_seq (LP.b (lp_var 1))) (own := [("dot", 15)]) (blkOk_by (by kernel_rfl)) (fun _ _ _ _ _ => (pgn (Cz.blk C.z))) (fun _ _ _ _ _ => lts_nil) (fun _ _ _ _ _ => (lp_ix (LP.b (lp_var 15)) (LP.b lp_int))) (by decide))) lg_nil)) lm_nil)) (by rfl))
 (lss_cons (ls_if (LW.tt (lw_or (lt_c (c_ne C.z) (LP.b (lp_ix (LP.b (lp_var 3)) (LP.b lp_int))) (LP.b (lp_tup (la_cons (lp_ix (LP.b (lp_var 5)) (LP.b lp_int)) (la_cons (lp_ix (LP.b (lp_var 6)) (LP.b lp_int)) la_nil))))) (lw_or1 (lt_c (c_ne C.z) (LP.b (lp_call C.tk C.z G__law_sum (Nat.le_refl _) (by rfl) (lg_p (lp_var 1) (lg_p (lp_tup (la_cons (lp_ix (LP.b (lp_var 5)) (LP.b lp_int)) (la_cons (lp_ix (LP.b (lp_var 6)) (LP.b lp_int)) la_nil))) lg_nil)))) (LP.b (lp_ix (LP.b (lp_var 3)) (LP.b lp_int))))))) (lss_one (ls_ret lp_bl)) lss_nil)
 (lss_cons (ls_for C (li_range1 (by rfl) B.range lp_int) (pgn C.z)
 (lss_cons (ls_par2 C.z rfl rfl (by decide) rfl rfl (lm_p (lp_callH C.tk C.z G__law_dot (Nat.le_refl _) (by rfl) (lg_r 0 (lg_p lp_int lg_nil))) (lm_p (lp_callH C.tk C.z G__law_any (Nat.le_refl _) (by rfl) (lg_r 0 (lg_p (lp_var 1) lg_nil))) lm_nil)) (by rfl))
 (lss_one (ls_if (LW.tt (lw_or (lt_c (c_ne C.z) (LP.b (lp_call C.tk C.z G_street (Nat.le_refl _) (by rfl) (lg_p (lp_var 8) (lg_p (lp_var 9) lg_nil)))) (LP.b (lp_call C.tk C.z G__law_street (Nat.le_refl _) (by rfl) (lg_p (lp_var 8) (lg_p (lp_var 9) lg_nil))))) (lw_or (lt_c (c_ne C.z) (LP.b (lp_call C.tk C.z G_street (Nat.le_refl _) (by rfl) (lg_p (lp_var 9) (lg_p (lp_var 8) lg_nil)))) (LP.b (lp_call C.tk C.z G__law_street (Nat.le_refl _) (by rfl) (lg_p (lp_var 8) (lg_p (lp_var 9) lg_nil))))) (lw_or1 (lt_c (c_lt C.z) (LP.b (lp_call C.tk C.z G__law_sum (Nat.le_refl _) (by rfl) (lg_p (lp_var 1) (lg_p (lp_var 8) lg_nil)))) (LP.b (lp_ix (LP.b (lp_var 3)) (LP.b lp_int)))))))) (lss_one (ls_ret lp_bl)) lss_nil))))
 (lss_cons (ls_asg (lp_maxL C.z (by rfl) B.max (LP.b (LF.p (lf_lc C.z (lib_seq (LP.b (lp_var 1))) (own := [("dot", 15)]) (blkOk_by (by kernel_rfl)) (fun _ _ _ _ _ => (pgn (Cz.blk C.z))) (fun _ _ _ _ _ => lts_nil) (fun _ _ _ _ _ => (lp_call Takes.blk (Cz.blk C.z) G__law_most (Nat.le_refl _) (by rfl) (lg_p (lp_var 1) (lg_p (lp_var 15) lg_nil)))) (by decide))))) (pgn C.z))
 (lss_cons (ls_if (LW.tt (lw_or (lt_c (c_lt C.z) (LP.b (lp_mul (LP.b lp_int) (LP.b (lp_ix (LP.b (lp_var 4)) (LP.b lp_int))))) (LP.b (lp_var 10))) (lw_or1 (lt_c (c_gt C.z) (LP.b (lp_ix (LP.b (lp_var 4)) (LP.b lp_int))) (LP.b (lp_var 10)))))) (lss_one (ls_ret lp_bl)) lss_nil)
 (lss_cons (ls_parT (is := [11, 12]) (lm_p (lp_callH C.tk C.z G__law_dot (Nat.le_refl _) (by rfl) (lg_r 0 (lg_p lp_int lg_nil))) (lm_p (lp_tuple (by rfl) B.tuple (LP.b (LF.p (lf_sorted C.z (by rfl) B.sorted (LP.b (LF.p (lf_lc C.z (lib_seq (LP.b (lp_var 1))) (own := [("x", 5), ("y", 6)]) (blkOk_by (by kernel_rfl)) (fun _ _ _ _ _ => (pgt (Cz.blk C.z) (pgsc (pgn (Cz.blk C.z)) (pgsc (pgn (Cz.blk C.z)) pgsn)))) (fun _ _ _ _ _ => lts_nil) (fun _ _ _ _ _ => (lp_tup (la_cons (lp_var 6) (la_cons (lp_sub (LP.b lp_int) (LP.b (lp_var 5))) la_nil)))) (by decide)))))))) lm_nil)) (by decide) (pgt C.z (pgsc (pgn C.z) (pgsc (pgn C.z) pgsn))))
 (lss_cons (ls_asg (lp_tuple (by rfl) B.tuple (LP.b (LF.p (lf_lc C.z (lib_seq (LP.b (lp_var 1))) (own := [("x", 5), ("y", 6)]) (blkOk_by (by kernel_rfl)) (fun _ _ _ _ _ => (pgt (Cz.blk C.z) (pgsc (pgn (Cz.blk C.z)) (pgsc (pgn (Cz.blk C.z)) pgsn)))) (fun _ _ _ _ _ => lts_nil) (fun _ _ _ _ _ => (lp_tup (la_cons (lp_add (LP.b (lp_var 5)) (LP.b (lp_ix (LP.b (lp_var 11)) (LP.b lp_int)))) (la_cons (lp_add (LP.b (lp_var 6)) (LP.b (lp_ix (LP.b (lp_var 11)) (LP.b lp_int)))) la_nil)))) (by decide))))) (pgn C.z))
 (lss_cons (ls_if (lt_c (c_ne C.z) (LP.b (lp_call C.tk C.z G_street_centre (Nat.le_refl _) (by rfl) (lg_p (lp_var 13) lg_nil))) (LP.b (lp_tup (la_cons (lp_ix (LP.b (lp_var 3)) (LP.b lp_int)) (la_cons (lp_tup (la_cons (lp_add (LP.b (lp_ix (LP.b (lp_ix (LP.b (lp_var 3)) (LP.b lp_int))) (LP.b lp_int))) (LP.b (lp_ix (LP.b (lp_var 11)) (LP.b lp_int)))) (la_cons (lp_add (LP.b (lp_ix (LP.b (lp_ix (LP.b (lp_var 3)) (LP.b lp_int))) (LP.b lp_int))) (LP.b (lp_ix (LP.b (lp_var 11)) (LP.b lp_int)))) la_nil))) la_nil))))) (lss_one (ls_ret lp_bl)) lss_nil)
 (lss_cons (ls_if (lt_c (c_ne C.z) (LP.b (lp_call C.tk C.z G_far_street (Nat.le_refl _) (by rfl) (lg_p (lp_var 13) lg_nil))) (LP.b (lp_tup (la_cons (lp_ix (LP.b (lp_var 4)) (LP.b lp_int)) (la_cons (lp_tup (la_cons (lp_add (LP.b (lp_ix (LP.b (lp_ix (LP.b (lp_var 4)) (LP.b lp_int))) (LP.b lp_int))) (LP.b (lp_ix (LP.b (lp_var 11)) (LP.b lp_int)))) (la_cons (lp_add (LP.b (lp_ix (LP.b (lp_ix (LP.b (lp_var 4)) (LP.b lp_int))) (LP.b lp_int))) (LP.b (lp_ix (LP.b (lp_var 11)) (LP.b lp_int)))) la_nil))) la_nil))))) (lss_one (ls_ret lp_bl)) lss_nil)
 (lss_cons (ls_if (LW.tt (lw_or (lt_c (c_ne C.z) (LP.b (lp_ix (LP.b (lp_call C.tk C.z G_street_centre (Nat.le_refl _) (by rfl) (lg_p (lp_var 12) lg_nil))) (LP.b lp_int))) (LP.b (lp_ix (LP.b (lp_var 3)) (LP.b lp_int)))) (lw_or1 (lt_c (c_ne C.z) (LP.b (lp_ix (LP.b (lp_call C.tk C.z G_far_street (Nat.le_refl _) (by rfl) (lg_p (lp_var 12) lg_nil))) (LP.b lp_int))) (LP.b (lp_ix (LP.b (lp_var 4)) (LP.b lp_int))))))) (lss_one (ls_ret lp_bl)) lss_nil)
 (lss_cons (ls_asg (lp_cut (LP.b (lp_var 1)) (lo_some lp_int) lo_none) (pgn C.z))
 (lss_one (ls_ret (lp_or (lp_c (c_eq C.z) (LP.b (lp_len (by rfl) B.len (LP.b (lp_var 14)))) (LP.b lp_int)) (lp_one (lp_c (c_le C.z) (LP.b (lp_ix (LP.b (lp_call C.tk C.z G_street_centre (Nat.le_refl _) (by rfl) (lg_p (lp_var 14) lg_nil))) (LP.b lp_int))) (LP.b (lp_ix (LP.b (lp_var 3)) (LP.b lp_int))))))))))))))))))))))
abbrev N__law_dots : List Str := ["hand", "wide", "turn"]
abbrev s__law_dots : Stmt := topS 25
theorem sc__law_dots : FnScope N__law_dots ["hand"] (defScope s__law_dots) := ⟨rfl, rfl, rfl, by decide +kernel, rfl, by decide +kernel, by decide +kernel⟩
def b__law_dots : SX :=
 (sSeq (sAsg (pCallH 2 m__law_any (gConsR 0 (gConsP (pLst (aCons (pK (.int 1)) (aCons (pK (.int 2)) (aCons (pK (.int 4)) (aCons (pK (.int 8)) aNil))))) gNilX))) (.nm 1))
 (sRet (pop1 dTuple (pop1 dSortedDict (pLc (iRange1 (pop2 dAdd (pK (.int 1)) (pCallH 2 m__law_draw (gConsR 0 (gConsP (pK (.int 9)) gNilX))))) (.nm 2) tYesX (pTup (aCons (pCallH 2 m__law_dot (gConsR 0 (gConsP (pVar 1) gNilX))) (aCons (pK (.bool true)) aNil))) [2])))))
def m__law_dots : FX := semF 3 b__law_dots
theorem d__law_dots (B : Blt mg) (G__law_any : Df P w K mg base k "_law_any" 2 m__law_any) (G__law_draw : Df P w K mg base k "_law_draw" 2 m__law_draw) (G__law_dot : Df P w K mg base k "_law_dot" 2 m__law_dot) (cdv : Value) (A : Around) (outer : List Env) (s : Shared) (H : Hp) (E : XK) (F : Fx) (C : Cs (CxF P w K mg base N__law_dots "_law_dots" s__law_dots f cdv A outer s H E) F k) : LSs (CxF P w K mg base N__law_dots "_law_dots" s__law_dots f cdv A outer s H E) F (defBody s__law_dots) b__law_dots :=
 (lss_cons (ls_asg (lp_callH C.tk C.z G__law_any (Nat.le_refl _) (by rfl) (lg_r 0 (lg_p (LF.p (lf_lst (la_cons lp_int (la_cons lp_int (la_cons lp_int (la_cons lp_int la_nil)))))) lg_nil))) (pgn C.z))
 (lss_one (ls_ret (lp_tuple (by rfl) B.tuple (LP.b (LF.p (lf_sortedDict C.z (by rfl) B.sorted (by rfl) B.dict (LP.b (LF.p (lf_lc C.z (LI.b (li_range1 (by rfl) B.range (lp_add (LP.b lp_int) (LP.b (lp_callH C.tk C.z G__law_draw (Nat.le_refl _) (by rfl) (lg_r 0 (lg_p lp_int lg_nil))))))) (own := [("turn", 2)]) (blkOk_by (by kernel_rfl)) (fun _ _ _ _ _ => (pgn (Cz.blk C.z))) (fun _ _ _ _ _ => lts_nil) (fun _ _ _ _ _ => (lp_tup (la_cons (lp_callH Takes.blk (Cz.blk C.z) G__law_dot (Nat.le_refl _) (by rfl) (lg_r 0 (lg_p (lp_var 1) lg_nil))) (la_cons lp_bl la_nil)))) (by decide)))))))))))
abbrev N_law : List Str := ["script", "hand", "dots", "told", "a", "b", "turn"]
abbrev s_law : Stmt := topS 32
theorem sc_law : FnScope N_law ["script"] (defScope s_law) := ⟨rfl, rfl, rfl, by decide +kernel, rfl, by decide +kernel, by decide +kernel⟩
def b_law : SX :=
 (sSeq (sHandNew 1 1 m__law_hand (gConsR 0 gNilX))
 (sSeq (sAsg (pTup (aCons (pTup (aCons (pK (.int 0)) (aCons (pK (.int 0)) aNil))) (aCons (pTup (aCons (pK (.int 0)) (aCons (pK (.int 4)) aNil))) (aCons (pTup (aCons (pK (.int 3)) (aCons (pK (.int 1)) aNil))) aNil)))) (.nm 2))
 (sSeq (sAsg (pLst (aCons (pCall 2 m_street (gConsP (pTup (aCons (pK (.int 0)) (aCons (pK (.int 0)) aNil))) (gConsP (pTup (aCons (pK (.int 3)) (aCons (pop1 dNeg (pK (.int 4))) aNil))) gNilX))) (aCons (pCall 1 m_street_centre (gConsP (pVar 2) gNilX)) (aCons (pCall 1 m_far_street (gConsP (pVar 2) gNilX)) (aCons (pCall 1 m_street_centre (gConsP (pTup (aCons (pTup (aCons (pK (.int 2)) (aCons (pK (.int 2)) aNil))) aNil)) gNilX)) aNil))))) (.nm 3))
 (sSeq (sIf (tOrX (pTst (pop2 dNe (pVar 3) (pLst (aCons (pK (.int 7)) (aCons (pTup (aCons (pK (.int 7)) (aCons (pTup (aCons (pK (.int 0)) (aCons (pK (.int 1)) aNil))) aNil))) (aCons (pTup (aCons (pK (.int 3)) (aCons (pTup (aCons (pK (.int 0)) (aCons (pK (.int 1)) aNil))) aNil))) (aCons (pTup (aCons (pK (.int 0)) (aCons (pTup (aCons (pK (.int 2)) (aCons (pK (.int 2)) aNil))) aNil))) aNil))))))) (pTst (pop2 dNe (pCall 1 m_far_street (gConsP (pTup (aCons (pTup (aCons (pK (.int 2)) (aCons (pK (.int 2)) aNil))) aNil)) gNilX)) (pTup (aCons (pK (.int 0)) (aCons (pTup (aCons (pK (.int 2)) (aCons (pK (.int 2)) aNil))) aNil)))))) (sRet (pK (.bool false))) sNil)
 (sSeq (sPar [4, 5] (mConsP (pCallH 2 m__law_dot (gConsR 1 (gConsP (pK (.int 50)) gNilX))) (mConsP (pCallH 2 m__law_dot (gConsR 1 (gConsP (pK (.int 50)) gNilX))) mNil)))
 (sSeq (sIf (tAndX (pTst (pop2 dNe (pVar 4) (pVar 5))) (pTst (pop2 dNe (pop2 dIx (pCall 1 m_street_centre (gConsP (pop1 dTuple (pop1 dSorted (pLst (aCons (pVar 4) (aCons (pVar 5) aNil))))) gNilX)) (pK (.int 0))) (pCall 2 m__law_street (gConsP (pVar 4) (gConsP (pVar 5) gNilX)))))) (sRet (pK (.bool false))) sNil)
 (sRet (pop1 dAll (pLc (iRange1 (pK (.int 3))) (.nm 6) tYesX (pCallH 2 m__law_is_right (gConsR 1 (gConsP (pCallH 1 m__law_dots (gConsR 1 gNilX)) gNilX))) [6])))))))))
def m_law : FX := semF 7 b_law
theorem d_law (B : Blt mg) (G__law_hand : DfF P w K mg base k "_law_hand" 1 m__law_hand) (G_street_centre : Df P w K mg base k "street_centre" 1 m_street_centre) (G_far_street : Df P w K mg base k "far_street" 1 m_far_street) (G_street : Df P w K mg base k "street" 2 m_street) (G__law_dot : Df P w K mg base k "_law_dot" 2 m__law_dot) (G__law_street : Df P w K mg base k "_law_street" 2 m__law_street) (G__law_dots : Df P w K mg base k "_law_dots" 1 m__law_dots) (G__law_is_right : Df P w K mg base k "_law_is_right" 2 m__law_is_right) (cdv : Value) (A : Around) (outer : List Env) (s : Shared) (H : Hp) (E : XK) (F : Fx) (h0 : F.ah0 = none) (C : Cs (CxF P w K mg base N_law "law" s_law f cdv A outer s H E) F k) : LSs (CxF P w K mg base N_law "law" s_law f cdv A outer s H E) F (defBody s_law) b_law :=
 (lss_cons (ls_handNew C h0 G__law_hand (Nat.le_refl _) (by rfl) (lg_r 0 lg_nil) rfl (by first | exact .inl rfl | exact .inr rfl))
 (lss_cons (ls_asg (lp_tup (la_cons (lp_tup (la_cons lp_int (la_cons lp_int la_nil))) (la_cons (lp_tup (la_cons lp_int (la_cons lp_int la_nil))) (la_cons (lp_tup (la_cons lp_int (la_cons lp_int la_nil))) la_nil)))) (pgn C.z))
 (lss_cons (ls_asg (LF.p (lf_lst (la_cons (lp_call C.tk C.z G_street (Nat.le_refl _) (by rfl) (lg_p (lp_tup (la_cons lp_int (la_cons lp_int la_nil))) (lg_p (lp_tup (la_cons lp_int (la_cons (lp_neg (LP.b lp_int)) la_nil))) lg_nil))) (la_cons (lp_call C.tk C.z G_street_centre (Nat.le_refl _) (by rfl) (lg_p (lp_var 2) lg_nil)) (la_cons (lp_call C.tk C.z G_far_street (Nat.le_refl _) (by rfl) (lg_p (lp_var 2) lg_nil)) (la_cons (lp_call C.tk C.z G_street_centre (Nat.le_refl _) (by rfl) (lg_p (lp_tup (la_cons (lp_tup (la_cons lp_int (la_cons lp_int la_nil))) la_nil)) lg_nil)) la_nil)))))) (pgn C.z))
 (lss_cons (ls_if (LW.tt (lw_or (lt_c (c_ne C.z) (LP.b (lp_var 3)) (LP.b (LF.p (lf_lst (la_cons lp_int (la_cons (lp_tup (la_cons lp_int (la_cons (lp_tup (la_cons lp_int (la_cons lp_int la_nil))) la_nil))) (la_cons (lp_tup (la_cons lp_int (la_cons (lp_tup (la_cons lp_int (la_cons lp_int la_nil))) la_nil))) (la_cons (lp_tup (la_cons lp_int (la_cons (lp_tup (la_cons lp_int (la_cons lp_int la_nil))) la_nil))) la_nil)))))))) (lw_or1 (lt_c (c_ne C.z) (LP.b (lp_call C.tk C.z G_far_street (Nat.le_refl _) (by rfl) (lg_p (lp_tup (la_cons (lp_tup (la_cons lp_int (la_cons lp_int la_nil))) la_nil)) lg_nil))) (LP.b (lp_tup (la_cons lp_int (la_cons (lp_tup (la_cons lp_int (la_cons lp_int la_nil))) la_nil)))))))) (lss_one (ls_ret lp_bl)) lss_nil)
 (lss_cons (ls_par2 C.z rfl rfl (by decide) rfl rfl (lm_p (lp_callH C.tk C.z G__law_dot (Nat.le_refl _) (by rfl) (lg_r 1 (lg_p lp_int lg_nil))) (lm_p (lp_callH C.tk C.z G__law_dot (Nat.le_refl _) (by rfl) (lg_r 1 (lg_p lp_int lg_nil))) lm_nil)) (by rfl))
 (lss_cons (ls_if (LW.tt (lw_and (lt_c (c_ne C.z) (LP.b (lp_var 4)) (LP.b (lp_var 5))) (lw_and1 (lt_c (c_ne C.z) (LP.b (lp_ix (LP.b (lp_call C.tk C.z G_street_centre (Nat.le_refl _) (by rfl) (lg_p (lp_tuple (by rfl) B.tuple (LP.b (LF.p (lf_sorted C.z (by rfl) B.sorted (LP.b (LF.p (lf_lst (la_cons (lp_var 4) (la_cons (lp_var 5) la_nil))))))))) lg_nil))) (LP.b lp_int))) (LP.b (lp_call C.tk C.z G__law_street (Nat.le_refl _) (by rfl) (lg_p (lp_var 4) (lg_p (lp_var 5) lg_nil)))))))) (lss_one (ls_ret lp_bl)) lss_nil)
 (lss_one (ls_ret (lp_all C.z (by rfl) B.all (LP.b (LF.p (lf_lc C.z (LI.b (li_range1 (by rfl) B.range lp_int)) (own := [("turn", 6)]) (blkOk_by (by kernel_rfl)) (fun _ _ _ _ _ => (pgn (Cz.blk C.z))) (fun _ _ _ _ _ => lts_nil) (fun _ _ _ _ _ => (lp_callH Takes.blk (Cz.blk C.z) G__law_is_right (Nat.le_refl _) (by rfl) (lg_r 1 (lg_p (lp_callH Takes.blk (Cz.blk C.z) G__law_dots (Nat.le_refl _) (by rfl) (lg_r 1 lg_nil)) lg_nil)))) (by decide)))))))))))))
end
theorem all_mk {P : Program} {w : World} {K : PySem.W.Frag} {h : Heap} {mg : Str → Option Value} {fa : Addr} (X : K.In h) (G : h.Ns mainGlobals mg) (hfa : mg "law" = some (.ref fa))
  {f0 : Addr} {od0 an0 : Option Addr} {sl0 : Array (Option Value)} {oc0 kV0 dc0 pm0 cd0 ct0 : Value}
  (a0 : PySem.W.nsIn K mainGlobals "_law_hand" = some (some (.ref f0))) (l0 : K.lookup f0 = some ⟨oc0, od0, .func (PySem.W.fnOf "_law_hand" "_law_hand" (defArgs s__law_hand) (defBody s__law_hand) (defScope s__law_hand) .none kV0 dc0 pm0 an0 cd0 ct0), sl0⟩) (c0 : PySem.W.codeIn K cd0 "_law_hand" = true) (k0 : PySem.W.keepIn K (.ref f0) = true)
  {f1 : Addr} {od1 an1 : Option Addr} {sl1 : Array (Option Value)} {oc1 kV1 dc1 pm1 cd1 ct1 : Value}
  (a1 : PySem.W.nsIn K mainGlobals "is_tuple" = some (some (.ref f1))) (l1 : K.lookup f1 = some ⟨oc1, od1, .func (PySem.W.fnOf "is_tuple" "is_tuple" (defArgs s_is_tuple) (defBody s_is_tuple) (defScope s_is_tuple) .none kV1 dc1 pm1 an1 cd1 ct1), sl1⟩) (c1 : PySem.W.codeIn K cd1 "is_tuple" = true) (k1 : PySem.W.keepIn K (.ref f1) = true)
  {f2 : Addr} {od2 an2 : Option Addr} {sl2 : Array (Option Value)} {oc2 kV2 dc2 pm2 cd2 ct2 : Value}
  (a2 : PySem.W.nsIn K mainGlobals "is_integer" = some (some (.ref f2))) (l2 : K.lookup f2 = some ⟨oc2, od2, .func (PySem.W.fnOf "is_integer" "is_integer" (defArgs s_is_integer) (defBody s_is_integer) (defScope s_is_integer) .none kV2 dc2 pm2 an2 cd2 ct2), sl2⟩) (c2 : PySem.W.codeIn K cd2 "is_integer" = true) (k2 : PySem.W.keepIn K (.ref f2) = true)
  {f3 : Addr} {od3 an3 : Option Addr} {sl3 : Array (Option Value)} {oc3 kV3 dc3 pm3 cd3 ct3 : Value}
  (a3 : PySem.W.nsIn K mainGlobals "is_within" = some (some (.ref f3))) (l3 : K.lookup f3 = some ⟨oc3, od3, .func (PySem.W.fnOf "is_within" "is_within" (defArgs s_is_within) (defBody s_is_within) (defScope s_is_within) .none kV3 dc3 pm3 an3 cd3 ct3), sl3⟩) (c3 : PySem.W.codeIn K cd3 "is_within" = true) (k3 : PySem.W.keepIn K (.ref f3) = true)
  {f4 : Addr} {od4 an4 : Option Addr} {sl4 : Array (Option Value)} {oc4 kV4 dc4 pm4 cd4 ct4 : Value}
  (a4 : PySem.W.nsIn K mainGlobals "is_dot" = some (some (.ref f4))) (l4 : K.lookup f4 = some ⟨oc4, od4, .func (PySem.W.fnOf "is_dot" "is_dot" (defArgs s_is_dot) (defBody s_is_dot) (defScope s_is_dot) .none kV4 dc4 pm4 an4 cd4 ct4), sl4⟩) (c4 : PySem.W.codeIn K cd4 "is_dot" = true) (k4 : PySem.W.keepIn K (.ref f4) = true)
  {f5 : Addr} {od5 an5 : Option Addr} {sl5 : Array (Option Value)} {oc5 kV5 dc5 pm5 cd5 ct5 : Value}
  (a5 : PySem.W.nsIn K mainGlobals "check_dot" = some (some (.ref f5))) (l5 : K.lookup f5 = some ⟨oc5, od5, .func (PySem.W.fnOf "check_dot" "check_dot" (defArgs s_check_dot) (defBody s_check_dot) (defScope s_check_dot) .none kV5 dc5 pm5 an5 cd5 ct5), sl5⟩) (c5 : PySem.W.codeIn K cd5 "check_dot" = true) (k5 : PySem.W.keepIn K (.ref f5) = true)
  {f6 : Addr} {od6 an6 : Option Addr} {sl6 : Array (Option Value)} {oc6 kV6 dc6 pm6 cd6 ct6 : Value}
  (a6 : PySem.W.nsIn K mainGlobals "street_of" = some (some (.ref f6))) (l6 : K.lookup f6 = some ⟨oc6, od6, .func (PySem.W.fnOf "street_of" "street_of" (defArgs s_street_of) (defBody s_street_of) (defScope s_street_of) .none kV6 dc6 pm6 an6 cd6 ct6), sl6⟩) (c6 : PySem.W.codeIn K cd6 "street_of" = true) (k6 : PySem.W.keepIn K (.ref f6) = true)
  {f7 : Addr} {od7 an7 : Option Addr} {sl7 : Array (Option Value)} {oc7 kV7 dc7 pm7 cd7 ct7 : Value}
  (a7 : PySem.W.nsIn K mainGlobals "street" = some (some (.ref f7))) (l7 : K.lookup f7 = some ⟨oc7, od7, .func (PySem.W.fnOf "street" "street" (defArgs s_street) (defBody s_street) (defScope s_street) .none kV7 dc7 pm7 an7 cd7 ct7), sl7⟩) (c7 : PySem.W.codeIn K cd7 "street" = true) (k7 : PySem.W.keepIn K (.ref f7) = true)
  {f8 : Addr} {od8 an8 : Option Addr} {sl8 : Array (Option Value)} {oc8 kV8 dc8 pm8 cd8 ct8 : Value}
  (a8 : PySem.W.nsIn K mainGlobals "are_dots" = some (some (.ref f8))) (l8 : K.lookup f8 = some ⟨oc8, od8, .func (PySem.W.fnOf "are_dots" "are_dots" (defArgs s_are_dots) (defBody s_are_dots) (defScope s_are_dots) .none kV8 dc8 pm8 an8 cd8 ct8), sl8⟩) (c8 : PySem.W.codeIn K cd8 "are_dots" = true) (k8 : PySem.W.keepIn K (.ref f8) = true)
  {f9 : Addr} {od9 an9 : Option Addr} {sl9 : Array (Option Value)} {oc9 kV9 dc9 pm9 cd9 ct9 : Value}
  (a9 : PySem.W.nsIn K mainGlobals "check_dots" = some (some (.ref f9))) (l9 : K.lookup f9 = some ⟨oc9, od9, .func (PySem.W.fnOf "check_dots" "check_dots" (defArgs s_check_dots) (defBody s_check_dots) (defScope s_check_dots) .none kV9 dc9 pm9 an9 cd9 ct9), sl9⟩) (c9 : PySem.W.codeIn K cd9 "check_dots" = true) (k9 : PySem.W.keepIn K (.ref f9) = true)
  {f10 : Addr} {od10 an10 : Option Addr} {sl10 : Array (Option Value)} {oc10 kV10 dc10 pm10 cd10 ct10 : Value}
  (a10 : PySem.W.nsIn K mainGlobals "street_centre" = some (some (.ref f10))) (l10 : K.lookup f10 = some ⟨oc10, od10, .func (PySem.W.fnOf "street_centre" "street_centre" (defArgs s_street_centre) (defBody s_street_centre) (defScope s_street_centre) .none kV10 dc10 pm10 an10 cd10 ct10), sl10⟩) (c10 : PySem.W.codeIn K cd10 "street_centre" = true) (k10 : PySem.W.keepIn K (.ref f10) = true)
  {f11 : Addr} {od11 an11 : Option Addr} {sl11 : Array (Option Value)} {oc11 kV11 dc11 pm11 cd11 ct11 : Value}
  (a11 : PySem.W.nsIn K mainGlobals "far_street" = some (some (.ref f11))) (l11 : K.lookup f11 = some ⟨oc11, od11, .func (PySem.W.fnOf "far_street" "far_street" (defArgs s_far_street) (defBody s_far_street) (defScope s_far_street) .none kV11 dc11 pm11 an11 cd11 ct11), sl11⟩) (c11 : PySem.W.codeIn K cd11 "far_street" = true) (k11 : PySem.W.keepIn K (.ref f11) = true)
  {f12 : Addr} {od12 an12 : Option Addr} {sl12 : Array (Option Value)} {oc12 kV12 dc12 pm12 cd12 ct12 : Value}
  (a12 : PySem.W.nsIn K mainGlobals "_law_draw" = some (some (.ref f12))) (l12 : K.lookup f12 = some ⟨oc12, od12, .func (PySem.W.fnOf "_law_draw" "_law_draw" (defArgs s__law_draw) (defBody s__law_draw) (defScope s__law_draw) .none kV12 dc12 pm12 an12 cd12 ct12), sl12⟩) (c12 : PySem.W.codeIn K cd12 "_law_draw" = true) (k12 : PySem.W.keepIn K (.ref f12) = true)
  {f13 : Addr} {od13 an13 : Option Addr} {sl13 : Array (Option Value)} {oc13 kV13 dc13 pm13 cd13 ct13 : Value}
  (a13 : PySem.W.nsIn K mainGlobals "_law_dot" = some (some (.ref f13))) (l13 : K.lookup f13 = some ⟨oc13, od13, .func (PySem.W.fnOf "_law_dot" "_law_dot" (defArgs s__law_dot) (defBody s__law_dot) (defScope s__law_dot) .none kV13 dc13 pm13 an13 cd13 ct13), sl13⟩) (c13 : PySem.W.codeIn K cd13 "_law_dot" = true) (k13 : PySem.W.keepIn K (.ref f13) = true)
  {f14 : Addr} {od14 an14 : Option Addr} {sl14 : Array (Option Value)} {oc14 kV14 dc14 pm14 cd14 ct14 : Value}
  (a14 : PySem.W.nsIn K mainGlobals "_law_street" = some (some (.ref f14))) (l14 : K.lookup f14 = some ⟨oc14, od14, .func (PySem.W.fnOf "_law_street" "_law_street" (defArgs s__law_street) (defBody s__law_street) (defScope s__law_street) .none kV14 dc14 pm14 an14 cd14 ct14), sl14⟩) (c14 : PySem.W.codeIn K cd14 "_law_street" = true) (k14 : PySem.W.keepIn K (.ref f14) = true)
  {f15 : Addr} {od15 an15 : Option Addr} {sl15 : Array (Option Value)} {oc15 kV15 dc15 pm15 cd15 ct15 : Value}
  (a15 : PySem.W.nsIn K mainGlobals "_law_box" = some (some (.ref f15))) (l15 : K.lookup f15 = some ⟨oc15, od15, .func (PySem.W.fnOf "_law_box" "_law_box" (defArgs s__law_box) (defBody s__law_box) (defScope s__law_box) .none kV15 dc15 pm15 an15 cd15 ct15), sl15⟩) (c15 : PySem.W.codeIn K cd15 "_law_box" = true) (k15 : PySem.W.keepIn K (.ref f15) = true)
  {f16 : Addr} {od16 an16 : Option Addr} {sl16 : Array (Option Value)} {oc16 kV16 dc16 pm16 cd16 ct16 : Value}
  (a16 : PySem.W.nsIn K mainGlobals "_law_middles" = some (some (.ref f16))) (l16 : K.lookup f16 = some ⟨oc16, od16, .func (PySem.W.fnOf "_law_middles" "_law_middles" (defArgs s__law_middles) (defBody s__law_middles) (defScope s__law_middles) .none kV16 dc16 pm16 an16 cd16 ct16), sl16⟩) (c16 : PySem.W.codeIn K cd16 "_law_middles" = true) (k16 : PySem.W.keepIn K (.ref f16) = true)
  {f17 : Addr} {od17 an17 : Option Addr} {sl17 : Array (Option Value)} {oc17 kV17 dc17 pm17 cd17 ct17 : Value}
  (a17 : PySem.W.nsIn K mainGlobals "_law_sum" = some (some (.ref f17))) (l17 : K.lookup f17 = some ⟨oc17, od17, .func (PySem.W.fnOf "_law_sum" "_law_sum" (defArgs s__law_sum) (defBody s__law_sum) (defScope s__law_sum) .none kV17 dc17 pm17 an17 cd17 ct17), sl17⟩) (c17 : PySem.W.codeIn K cd17 "_law_sum" = true) (k17 : PySem.W.keepIn K (.ref f17) = true)
  {f18 : Addr} {od18 an18 : Option Addr} {sl18 : Array (Option Value)} {oc18 kV18 dc18 pm18 cd18 ct18 : Value}
  (a18 : PySem.W.nsIn K mainGlobals "_law_any" = some (some (.ref f18))) (l18 : K.lookup f18 = some ⟨oc18, od18, .func (PySem.W.fnOf "_law_any" "_law_any" (defArgs s__law_any) (defBody s__law_any) (defScope s__law_any) .none kV18 dc18 pm18 an18 cd18 ct18), sl18⟩) (c18 : PySem.W.codeIn K cd18 "_law_any" = true) (k18 : PySem.W.keepIn K (.ref f18) = true)
  {f19 : Addr} {od19 an19 : Option Addr} {sl19 : Array (Option Value)} {oc19 kV19 dc19 pm19 cd19 ct19 : Value}
  (a19 : PySem.W.nsIn K mainGlobals "_law_most" = some (some (.ref f19))) (l19 : K.lookup f19 = some ⟨oc19, od19, .func (PySem.W.fnOf "_law_most" "_law_most" (defArgs s__law_most) (defBody s__law_most) (defScope s__law_most) .none kV19 dc19 pm19 an19 cd19 ct19), sl19⟩) (c19 : PySem.W.codeIn K cd19 "_law_most" = true) (k19 : PySem.W.keepIn K (.ref f19) = true)
  {f20 : Addr} {od20 an20 : Option Addr} {sl20 : Array (Option Value)} {oc20 kV20 dc20 pm20 cd20 ct20 : Value}
  (a20 : PySem.W.nsIn K mainGlobals "_law_is_right" = some (some (.ref f20))) (l20 : K.lookup f20 = some ⟨oc20, od20, .func (PySem.W.fnOf "_law_is_right" "_law_is_right" (defArgs s__law_is_right) (defBody s__law_is_right) (defScope s__law_is_right) .none kV20 dc20 pm20 an20 cd20 ct20), sl20⟩) (c20 : PySem.W.codeIn K cd20 "_law_is_right" = true) (k20 : PySem.W.keepIn K (.ref f20) = true)
  {f21 : Addr} {od21 an21 : Option Addr} {sl21 : Array (Option Value)} {oc21 kV21 dc21 pm21 cd21 ct21 : Value}
  (a21 : PySem.W.nsIn K mainGlobals "_law_dots" = some (some (.ref f21))) (l21 : K.lookup f21 = some ⟨oc21, od21, .func (PySem.W.fnOf "_law_dots" "_law_dots" (defArgs s__law_dots) (defBody s__law_dots) (defScope s__law_dots) .none kV21 dc21 pm21 an21 cd21 ct21), sl21⟩) (c21 : PySem.W.codeIn K cd21 "_law_dots" = true) (k21 : PySem.W.keepIn K (.ref f21) = true)
  {f22 : Addr} {od22 an22 : Option Addr} {sl22 : Array (Option Value)} {oc22 kV22 dc22 pm22 cd22 ct22 : Value}
  (a22 : PySem.W.nsIn K mainGlobals "law" = some (some (.ref f22))) (l22 : K.lookup f22 = some ⟨oc22, od22, .func (PySem.W.fnOf "law" "law" (defArgs s_law) (defBody s_law) (defScope s_law) .none kV22 dc22 pm22 an22 cd22 ct22), sl22⟩) (c22 : PySem.W.codeIn K cd22 "law" = true) (k22 : PySem.W.keepIn K (.ref f22) = true)
  {t0 : Tok} (n0 : PySem.W.nsIn K mainGlobals "FARTHEST" = some (some (.int 100 t0)))
  {t1 : Tok} (n1 : PySem.W.nsIn K mainGlobals "MOST_DOTS" = some (some (.int 9 t1)))
  (z0 : PySem.W.nsIn K mainGlobals "len" = some none)
  (z1 : PySem.W.nsIn K mainGlobals "abs" = some none)
  (z2 : PySem.W.nsIn K mainGlobals "int" = some none)
  (z3 : PySem.W.nsIn K mainGlobals "sum" = some none)
  (z4 : PySem.W.nsIn K mainGlobals "all" = some none)
  (z5 : PySem.W.nsIn K mainGlobals "any" = some none)
  (z6 : PySem.W.nsIn K mainGlobals "tuple" = some none)
  (z7 : PySem.W.nsIn K mainGlobals "list" = some none)
  (z8 : PySem.W.nsIn K mainGlobals "min" = some none)
  (z9 : PySem.W.nsIn K mainGlobals "max" = some none)
  (z10 : PySem.W.nsIn K mainGlobals "range" = some none)
  (z11 : PySem.W.nsIn K mainGlobals "sorted" = some none)
  (z12 : PySem.W.nsIn K mainGlobals "zip" = some none)
  (z13 : PySem.W.nsIn K mainGlobals "enumerate" = some none)
  (z14 : PySem.W.nsIn K mainGlobals "isinstance" = some none)
  (z15 : PySem.W.nsIn K mainGlobals "bool" = some none)
  (z16 : PySem.W.nsIn K mainGlobals "dict" = some none)
  (z17 : PySem.W.nsIn K mainGlobals "set" = some none)
  (z18 : PySem.W.nsIn K mainGlobals "str" = some none)
  (z19 : PySem.W.nsIn K mainGlobals "repr" = some none)
  : ∃ fd : FuncData, (∀ (s : Shared) (v : Value), BindsTo s fd ⟨[v], []⟩ [("script", v)]) ∧ ∀ base : Heap, K.In base → base.Ns mainGlobals mg → FnOk P w K mg base (L2.CX P w) 8 fa fd ["script"] (spL K 1 m_law) := by
  obtain ⟨F0, g0⟩ := fun_at (st := s__law_hand) X G a0 l0 c0 k0
  obtain ⟨F1, g1⟩ := fun_at (st := s_is_tuple) X G a1 l1 c1 k1
  obtain ⟨F2, g2⟩ := fun_at (st := s_is_integer) X G a2 l2 c2 k2
  obtain ⟨F3, g3⟩ := fun_at (st := s_is_within) X G a3 l3 c3 k3
  obtain ⟨F4, g4⟩ := fun_at (st := s_is_dot) X G a4 l4 c4 k4
  obtain ⟨F5, g5⟩ := fun_at (st := s_check_dot) X G a5 l5 c5 k5
  obtain ⟨F6, g6⟩ := fun_at (st := s_street_of) X G a6 l6 c6 k6
  obtain ⟨F7, g7⟩ := fun_at (st := s_street) X G a7 l7 c7 k7
  obtain ⟨F8, g8⟩ := fun_at (st := s_are_dots) X G a8 l8 c8 k8
  obtain ⟨F9, g9⟩ := fun_at (st := s_check_dots) X G a9 l9 c9 k9
  obtain ⟨F10, g10⟩ := fun_at (st := s_street_centre) X G a10 l10 c10 k10
  obtain ⟨F11, g11⟩ := fun_at (st := s_far_street) X G a11 l11 c11 k11
  obtain ⟨F12, g12⟩ := fun_at (st := s__law_draw) X G a12 l12 c12 k12
  obtain ⟨F13, g13⟩ := fun_at (st := s__law_dot) X G a13 l13 c13 k13
  obtain ⟨F14, g14⟩ := fun_at (st := s__law_street) X G a14 l14 c14 k14
  obtain ⟨F15, g15⟩ := fun_at (st := s__law_box) X G a15 l15 c15 k15
  obtain ⟨F16, g16⟩ := fun_at (st := s__law_middles) X G a16 l16 c16 k16
  obtain ⟨F17, g17⟩ := fun_at (st := s__law_sum) X G a17 l17 c17 k17
  obtain ⟨F18, g18⟩ := fun_at (st := s__law_any) X G a18 l18 c18 k18
  obtain ⟨F19, g19⟩ := fun_at (st := s__law_most) X G a19 l19 c19 k19
  obtain ⟨F20, g20⟩ := fun_at (st := s__law_is_right) X G a20 l20 c20 k20
  obtain ⟨F21, g21⟩ := fun_at (st := s__law_dots) X G a21 l21 c21 k21
  obtain ⟨F22, g22⟩ := fun_at (st := s_law) X G a22 l22 c22 k22
  cases hfa.symm.trans g22
  have b0 := F0.binds (ps := ["script"]) fun _ _ _ _ _ _ us hl => match us, hl with | [_], _ => rfl
  have b1 := F1.binds (ps := ["thing", "least", "most"]) fun _ _ _ _ _ _ us hl => match us, hl with | [_, _, _], _ => rfl
  have b2 := F2.binds (ps := ["thing"]) fun _ _ _ _ _ _ us hl => match us, hl with | [_], _ => rfl
  have b3 := F3.binds (ps := ["thing", "low", "high"]) fun _ _ _ _ _ _ us hl => match us, hl with | [_, _, _], _ => rfl
  have b4 := F4.binds (ps := ["thing"]) fun _ _ _ _ _ _ us hl => match us, hl with | [_], _ => rfl
  have b5 := F5.binds (ps := ["dot"]) fun _ _ _ _ _ _ us hl => match us, hl with | [_], _ => rfl
  have b6 := F6.binds (ps := ["a", "b"]) fun _ _ _ _ _ _ us hl => match us, hl with | [_, _], _ => rfl
  have b7 := F7.binds (ps := ["a", "b"]) fun _ _ _ _ _ _ us hl => match us, hl with | [_, _], _ => rfl
  have b8 := F8.binds (ps := ["thing"]) fun _ _ _ _ _ _ us hl => match us, hl with | [_], _ => rfl
  have b9 := F9.binds (ps := ["dots"]) fun _ _ _ _ _ _ us hl => match us, hl with | [_], _ => rfl
  have b10 := F10.binds (ps := ["dots"]) fun _ _ _ _ _ _ us hl => match us, hl with | [_], _ => rfl
  have b11 := F11.binds (ps := ["dots"]) fun _ _ _ _ _ _ us hl => match us, hl with | [_], _ => rfl
  have b12 := F12.binds (ps := ["hand", "many"]) fun _ _ _ _ _ _ us hl => match us, hl with | [_, _], _ => rfl
  have b13 := F13.binds (ps := ["hand", "wide"]) fun _ _ _ _ _ _ us hl => match us, hl with | [_, _], _ => rfl
  have b14 := F14.binds (ps := ["a", "b"]) fun _ _ _ _ _ _ us hl => match us, hl with | [_, _], _ => rfl
  have b15 := F15.binds (ps := ["dots"]) fun _ _ _ _ _ _ us hl => match us, hl with | [_], _ => rfl
  have b16 := F16.binds (ps := ["numbers"]) fun _ _ _ _ _ _ us hl => match us, hl with | [_], _ => rfl
  have b17 := F17.binds (ps := ["dots", "p"]) fun _ _ _ _ _ _ us hl => match us, hl with | [_, _], _ => rfl
  have b18 := F18.binds (ps := ["hand", "some"]) fun _ _ _ _ _ _ us hl => match us, hl with | [_, _], _ => rfl
  have b19 := F19.binds (ps := ["dots", "p"]) fun _ _ _ _ _ _ us hl => match us, hl with | [_, _], _ => rfl
  have b20 := F20.binds (ps := ["hand", "dots"]) fun _ _ _ _ _ _ us hl => match us, hl with | [_, _], _ => rfl
  have b21 := F21.binds (ps := ["hand"]) fun _ _ _ _ _ _ us hl => match us, hl with | [_], _ => rfl
  have B : Blt mg := ⟨PySem.W.mg_none_of X G z0, PySem.W.mg_none_of X G z1, PySem.W.mg_none_of X G z2, PySem.W.mg_none_of X G z3, PySem.W.mg_none_of X G z4, PySem.W.mg_none_of X G z5, PySem.W.mg_none_of X G z6, PySem.W.mg_none_of X G z7, PySem.W.mg_none_of X G z8, PySem.W.mg_none_of X G z9, PySem.W.mg_none_of X G z10, PySem.W.mg_none_of X G z11, PySem.W.mg_none_of X G z12, PySem.W.mg_none_of X G z13, PySem.W.mg_none_of X G z14, PySem.W.mg_none_of X G z15, PySem.W.mg_none_of X G z16, PySem.W.mg_none_of X G z17, PySem.W.mg_none_of X G z18, PySem.W.mg_none_of X G z19⟩
  have C_FARTHEST : ∃ t, mg "FARTHEST" = some (.int 100 t) := ⟨_, PySem.W.mg_of X G n0⟩
  have C_MOST_DOTS : ∃ t, mg "MOST_DOTS" = some (.int 9 t) := ⟨_, PySem.W.mg_of X G n1⟩
  refine ⟨PySem.W.fnOf "law" "law" (defArgs s_law) (defBody s_law) (defScope s_law) .none kV22 dc22 pm22 an22 cd22 ct22, fun s v => .of_eq rfl, fun base _ _ => ?_⟩
  have D__law_hand : DfF P w K mg base 1 "_law_hand" 1 m__law_hand := mkDfF (k := 0) (e := retOf ((defBody s__law_hand).getD 1 (.Pass ⟨0, 0, 0, 0⟩))) (rpos := posOf ((defBody s__law_hand).getD 1 (.Pass ⟨0, 0, 0, 0⟩))) F0 sc__law_hand g0 b0 rfl (fun cdv A outer s H E F C => d1__law_hand B cdv A outer s H E F C) (fun cdv A outer s H E F C => d2__law_hand B cdv A outer s H E F C)
  have D_is_tuple : Df P w K mg base 1 "is_tuple" 3 m_is_tuple := mkDf (k := 0) F1 sc_is_tuple g1 b1 fun cdv A outer s H E F C => d_is_tuple B cdv A outer s H E F C
  have D_is_integer : Df P w K mg base 1 "is_integer" 1 m_is_integer := mkDf (k := 0) F2 sc_is_integer g2 b2 fun cdv A outer s H E F C => d_is_integer B cdv A outer s H E F C
  have D_is_within : Df P w K mg base 2 "is_within" 3 m_is_within := mkDf (k := 1) F3 sc_is_within g3 b3 fun cdv A outer s H E F C => d_is_within B (D_is_integer.mono (by decide)) cdv A outer s H E F C
  have D_is_dot : Df P w K mg base 3 "is_dot" 1 m_is_dot := mkDf (k := 2) F4 sc_is_dot g4 b4 fun cdv A outer s H E F C => d_is_dot B C_FARTHEST (D_is_tuple.mono (by decide)) (D_is_within.mono (by decide)) cdv A outer s H E F C
  have D_check_dot : Df P w K mg base 4 "check_dot" 1 m_check_dot := mkDf (k := 3) F5 sc_check_dot g5 b5 fun cdv A outer s H E F C => d_check_dot B (D_is_dot.mono (by decide)) cdv A outer s H E F C
  have D_street_of : Df P w K mg base 1 "street_of" 2 m_street_of := mkDf (k := 0) F6 sc_street_of g6 b6 fun cdv A outer s H E F C => d_street_of B cdv A outer s H E F C
  have D_street : Df P w K mg base 5 "street" 2 m_street := mkDf (k := 4) F7 sc_street g7 b7 fun cdv A outer s H E F C => d_street B (D_check_dot.mono (by decide)) (D_street_of.mono (by decide)) cdv A outer s H E F C
  have D_are_dots : Df P w K mg base 4 "are_dots" 1 m_are_dots := mkDf (k := 3) F8 sc_are_dots g8 b8 fun cdv A outer s H E F C => d_are_dots B C_MOST_DOTS (D_is_tuple.mono (by decide)) (D_is_dot.mono (by decide)) cdv A outer s H E F C
  have D_check_dots : Df P w K mg base 5 "check_dots" 1 m_check_dots := mkDf (k := 4) F9 sc_check_dots g9 b9 fun cdv A outer s H E F C => d_check_dots B (D_are_dots.mono (by decide)) cdv A outer s H E F C
  have D_street_centre : Df P w K mg base 6 "street_centre" 1 m_street_centre := mkDf (k := 5) F10 sc_street_centre g10 b10 fun cdv A outer s H E F C => d_street_centre B (D_check_dots.mono (by decide)) (D_street_of.mono (by decide)) cdv A outer s H E F C
  have D_far_street : Df P w K mg base 6 "far_street" 1 m_far_street := mkDf (k := 5) F11 sc_far_street g11 b11 fun cdv A outer s H E F C => d_far_street B (D_check_dots.mono (by decide)) (D_street_of.mono (by decide)) cdv A outer s H E F C
  have D__law_draw : Df P w K mg base 1 "_law_draw" 2 m__law_draw := mkDf (k := 0) F12 sc__law_draw g12 b12 fun cdv A outer s H E F C => d__law_draw B cdv A outer s H E F C
  have D__law_dot : Df P w K mg base 2 "_law_dot" 2 m__law_dot := mkDf (k := 1) F13 sc__law_dot g13 b13 fun cdv A outer s H E F C => d__law_dot B (D__law_draw.mono (by decide)) cdv A outer s H E F C
  have D__law_street : Df P w K mg base 1 "_law_street" 2 m__law_street := mkDf (k := 0) F14 sc__law_street g14 b14 fun cdv A outer s H E F C => d__law_street B cdv A outer s H E F C
  have D__law_box : Df P w K mg base 1 "_law_box" 1 m__law_box := mkDf (k := 0) F15 sc__law_box g15 b15 fun cdv A outer s H E F C => d__law_box B cdv A outer s H E F C
  have D__law_middles : Df P w K mg base 1 "_law_middles" 1 m__law_middles := mkDf (k := 0) F16 sc__law_middles g16 b16 fun cdv A outer s H E F C => d__law_middles B cdv A outer s H E F C
  have D__law_sum : Df P w K mg base 2 "_law_sum" 2 m__law_sum := mkDf (k := 1) F17 sc__law_sum g17 b17 fun cdv A outer s H E F C => d__law_sum B (D__law_street.mono (by decide)) cdv A outer s H E F C
  have D__law_any : Df P w K mg base 2 "_law_any" 2 m__law_any := mkDf (k := 1) F18 sc__law_any g18 b18 fun cdv A outer s H E F C => d__law_any B (D__law_draw.mono (by decide)) cdv A outer s H E F C
  have D__law_most : Df P w K mg base 2 "_law_most" 2 m__law_most := mkDf (k := 1) F19 sc__law_most g19 b19 fun cdv A outer s H E F C => d__law_most B (D__law_street.mono (by decide)) cdv A outer s H E F C
  have D__law_is_right : Df P w K mg base 7 "_law_is_right" 2 m__law_is_right := mkDf (k := 6) F20 sc__law_is_right g20 b20 fun cdv A outer s H E F C => d__law_is_right B (D__law_box.mono (by decide)) (D__law_most.mono (by decide)) (D__law_sum.mono (by decide)) (D_street_centre.mono (by decide)) (D_far_street.mono (by decide)) (D__law_middles.mono (by decide)) (D__law_any.mono (by decide)) (D__law_dot.mono (by decide)) (D_street.mono (by decide)) (D__law_street.mono (by decide)) cdv A outer s H E F C
  have D__law_dots : Df P w K mg base 3 "_law_dots" 1 m__law_dots := mkDf (k := 2) F21 sc__law_dots g21 b21 fun cdv A outer s H E F C => d__law_dots B (D__law_any.mono (by decide)) (D__law_draw.mono (by decide)) (D__law_dot.mono (by decide)) cdv A outer s H E F C
  exact okL F22 sc_law fun cdv A outer s H E F h0 C => d_law B (D__law_hand.mono (by decide)) (D_street_centre.mono (by decide)) (D_far_street.mono (by decide)) (D_street.mono (by decide)) (D__law_dot.mono (by decide)) (D__law_street.mono (by decide)) (D__law_dots.mono (by decide)) (D__law_is_right.mono (by decide)) cdv A outer s H E F h0 C
def Plain : Prop := ∀ ns : List Int, ns.length ≤ 63 → ∃ hs, m_law [.scr ns] [] = .ok (.bool true, hs)
theorem plainAt (p : Plain) {ns : List Int} (h : ns.length ≤ 63) : match m_law [.scr ns] [] with | .ok (d, _) => d = .bool true | _ => False := by
  obtain ⟨hs, e⟩ := p ns h
  rw [e]
end K87
namespace K87
open PySem PySem.Spec PyProof.Rows L3 L4 L5
open Enc (enc)
open L2 (atI ixN)
theorem q_check_dot : m_check_dot = checkDotF := rfl
theorem q_check_dots : m_check_dots = checkDotsF := rfl
theorem q_draw : m__law_draw = drawF := rfl
theorem q_hand : m__law_hand = handF 87 17 := rfl
theorem q_any : m__law_any = anyF := rfl
theorem q_dot : m__law_dot = dotF := rfl
/-! ## streets -/
def st (p q : Dot) : Int := ((p.1 - q.1).natAbs : Int) + ((p.2 - q.2).natAbs : Int)
theorem v_street_of {a b c d : Int} {hs : HSt} : m_street_of [.val (.tuple [.int a, .int b]), .val (.tuple [.int c, .int d])] hs = .ok (.int (st (a, b) (c, d)), hs) := by
  simp [m_street_of, semF, b_street_of, st]
theorem v_lstreet {a b c d : Int} {hs : HSt} : m__law_street [.val (.tuple [.int a, .int b]), .val (.tuple [.int c, .int d])] hs = .ok (.int (st (a, b) (c, d)), hs) := by
  simp [m__law_street, semF, b__law_street, st]
theorem v_street {a b c d : Int} {hs : HSt} (h1 : dotOk (a, b)) (h2 : dotOk (c, d)) : m_street [.val (.tuple [.int a, .int b]), .val (.tuple [.int c, .int d])] hs = .ok (.int (st (a, b) (c, d)), hs) := by
  simp [m_street, semF, b_street, v_street_of, q_check_dot, checkDot_ok h1, checkDot_ok h2]
def mxI : List Int → Int
  | [] => 0
  | x :: r => maxA x r
def mnI : List Int → Int
  | [] => 0
  | x :: r => minA x r
theorem mxE {l : List Int} (h : l ≠ []) : dMaxL (.list (E l)) = .ok (.int (mxI l)) := by
  cases l with
  | nil => exact absurd rfl h
  | cons x r => exact dMaxL_list x r
theorem mnE {l : List Int} (h : l ≠ []) : dMinL (.list (E l)) = .ok (.int (mnI l)) := by
  cases l with
  | nil => exact absurd rfl h
  | cons x r => exact dMinL_list x r
theorem mxI_mem {l : List Int} (h : l ≠ []) : mxI l ∈ l := by
  cases l with
  | nil => exact absurd rfl h
  | cons x r => exact maxA_mem x r
theorem mnI_mem {l : List Int} (h : l ≠ []) : mnI l ∈ l := by
  cases l with
  | nil => exact absurd rfl h
  | cons x r => exact minA_mem x r
theorem mxI_ge {l : List Int} {y : Int} (hy : y ∈ l) : y ≤ mxI l := by
  cases l with
  | nil => cases hy
  | cons x r => exact maxI_ge (l := x :: r) (by simp) hy
theorem mnI_le {l : List Int} {y : Int} (hy : y ∈ l) : mnI l ≤ y := by
  cases l with
  | nil => cases hy
  | cons x r => exact minI_le (l := x :: r) (by simp) hy
def sumSt (D : List Dot) (p : Dot) : Int := (D.map (st p)).sum
def mostSt (D : List Dot) (p : Dot) : Int := mxI (D.map (st p))
theorem v_sum {D : List Dot} {a b : Int} {hs : HSt} : m__law_sum [.val (.tuple (E D)), .val (.tuple [.int a, .int b])] hs = .ok (.int (sumSt D (a, b)), hs) := by
  have e := lcE (T := .nm 2) (f := pCall 2 m__law_street (gConsP (pVar 1) (gConsP (pVar 2) gNilX))) (ρ := [some (.val (.tuple (E D))), some (.val (.tuple [.int a, .int b])), none]) (hs := hs) D (st (a, b)) fun v _ => ⟨_, rfl, by simp [v_lstreet]⟩
  simp [m__law_sum, semF, b__law_sum, e, sumSt]
theorem v_most {D : List Dot} {a b : Int} {hs : HSt} (h : D ≠ []) : m__law_most [.val (.tuple (E D)), .val (.tuple [.int a, .int b])] hs = .ok (.int (mostSt D (a, b)), hs) := by
  have e := lcE (T := .nm 2) (f := pCall 2 m__law_street (gConsP (pVar 1) (gConsP (pVar 2) gNilX))) (ρ := [some (.val (.tuple (E D))), some (.val (.tuple [.int a, .int b])), none]) (hs := hs) D (st (a, b)) fun v _ => ⟨_, rfl, by simp [v_lstreet]⟩
  have m := mxE (l := D.map (st (a, b))) (by simpa using h)
  simp [m__law_most, semF, b__law_most, e, m, mostSt]
def xs (D : List Dot) : List Int := D.map (·.1)
def ys (D : List Dot) : List Int := D.map (·.2)
def med (l : List Int) : Int := (sortA l).getD ((l.length - 1) / 2) 0
def medH (l : List Int) : Int := (sortA l).getD (l.length / 2) 0
theorem ixS {l : List Int} {i : Nat} (h : i < l.length) : dIx (.list (E (sortA l))) (.int (i : Int)) = .ok (.int ((sortA l).getD i 0)) := by
  have hi : i < (sortA l).length := by rw [sortA_len]; exact h
  rw [ixE (List.getElem?_eq_getElem hi)]
  simp [hi]
theorem v_middles {l : List Int} {hs : HSt} (h : l ≠ []) (hl : l.length ≤ 1000) : m__law_middles [.val (.list (E l))] hs = .ok (.tuple [.int (med l), .int (medH l)], hs) := by
  have hp : 0 < l.length := List.length_pos_iff.mpr h
  have e1 : dSorted (.list (E l)) = _ := sortE l (by unfold BIG; omega)
  have e2 := ixS (l := l) (i := (l.length - 1) / 2) (by omega)
  have e3 := ixS (l := l) (i := l.length / 2) (by omega)
  have c1 : (((l.length - 1) / 2 : Nat) : Int) = ((l.length : Int) - 1) / 2 := by omega
  have c2 : ((l.length / 2 : Nat) : Int) = (l.length : Int) / 2 := by omega
  rw [c1] at e2
  rw [c2] at e3
  simp [m__law_middles, semF, b__law_middles, e1, sortA_len, d_divP (k := 2) (by decide) (by decide), e2, e3, med, medH]
def box (D : List Dot) : List Dot := (rangeI (mnI (xs D)) (mxI (xs D) + 1)).flatMap fun x => (rangeI (mnI (ys D)) (mxI (ys D) + 1)).map fun y => (x, y)
theorem xsE {D : List Dot} {ρ : Rho} {hs : HSt} {f : PX} (h : ∀ p ∈ D, ∃ ρ1, tgPut (.nm 5) (enc p) ρ = some ρ1 ∧ f ρ1 hs = .ok (.int p.1, hs)) : lcGo (.nm 5) tYesX f ρ (E D) hs = .ok (E (xs D), hs) := lcE D (·.1) h
/-- within the greatest -/
theorem box_bounds {D : List Dot} (h : DotsOk D) : (xs D ≠ [] ∧ ys D ≠ []) ∧ (-100 ≤ mnI (xs D) ∧ mnI (xs D) ≤ 100 ∧ -100 ≤ mxI (xs D) ∧ mxI (xs D) ≤ 100) ∧ -100 ≤ mnI (ys D) ∧ mnI (ys D) ≤ 100 ∧ -100 ≤ mxI (ys D) ∧ mxI (ys D) ≤ 100 := by
  have hne : D ≠ [] := by
    have := h.pos
    intro e
    subst e
    simp at this
  have nx : xs D ≠ [] := by simpa [xs] using hne
  have ny : ys D ≠ [] := by simpa [ys] using hne
  refine ⟨⟨nx, ny⟩, ?_, ?_⟩
  · obtain ⟨p, hp, e1⟩ := List.mem_map.mp (mnI_mem nx)
    obtain ⟨q, hq, e2⟩ := List.mem_map.mp (mxI_mem nx)
    have g1 := h.ok p hp
    have g2 := h.ok q hq
    unfold dotOk at g1 g2
    have e1 : p.1 = mnI (xs D) := e1
    have e2 : q.1 = mxI (xs D) := e2
    omega
  · obtain ⟨p, hp, e1⟩ := List.mem_map.mp (mnI_mem ny)
    obtain ⟨q, hq, e2⟩ := List.mem_map.mp (mxI_mem ny)
    have g1 := h.ok p hp
    have g2 := h.ok q hq
    unfold dotOk at g1 g2
    have e1 : p.2 = mnI (ys D) := e1
    have e2 : q.2 = mxI (ys D) := e2
    omega
theorem flat_len {α β : Type} (l : List α) (f : α → List β) (k : Nat) (h : ∀ x ∈ l, (f x).length ≤ k) : (l.flatMap f).length ≤ l.length * k := by
  induction l with
  | nil => simp
  | cons x r ih =>
    rw [List.flatMap_cons, List.length_append, List.length_cons, Nat.succ_mul]
    have h1 := h x List.mem_cons_self
    have h2 := ih fun y hy => h y (List.mem_cons_of_mem _ hy)
    omega
theorem v_box {D : List Dot} {hs : HSt} (h : DotsOk D) : m__law_box [.val (.tuple (E D))] hs = .ok (.list (E (box D)), hs) := by
  obtain ⟨⟨nx, ny⟩, bx, byy⟩ := box_bounds h
  have e1 : ∀ {r : Rho}, r = [some (.val (.tuple (E D))), none, none, none, none, none, none] → lcGo (.nm 5) tYesX (pop2 dIx (pVar 5) (pK (.int 0))) r (E D) hs = .ok (E (xs D), hs) := fun {r} e => by
    subst e
    exact lcE D (·.1) fun v _ => ⟨_, rfl, by simp⟩
  have e2 : ∀ {r : Rho}, r = [some (.val (.tuple (E D))), none, none, none, none, none, none] → lcGo (.nm 5) tYesX (pop2 dIx (pVar 5) (pK (.int 1))) r (E D) hs = .ok (E (ys D), hs) := fun {r} e => by
    subst e
    exact lcE D (·.2) fun v _ => ⟨_, rfl, by simp⟩
  have m1 := mnE nx
  have m2 := mxE nx
  have m3 := mnE ny
  have m4 := mxE ny
  have r1 : rOk2 (mnI (xs D)) (mxI (xs D) + 1) = true := r2_of (by omega) (by omega) (by omega) (by omega)
  have r2 : rOk2 (mnI (ys D)) (mxI (ys D) + 1) = true := r2_of (by omega) (by omega) (by omega) (by omega)
  let row := fun x : Int => (rangeI (mnI (ys D)) (mxI (ys D) + 1)).map fun y => (x, y)
  obtain ⟨ρ', hs', g1, ⟨o4, o5, o6, rfl⟩, rfl⟩ := forE (T := .nm 4) (hs := hs) (ρ := [some (.val (.tuple (E D))), some (.val (.list (E (xs D)))), some (.val (.list (E (ys D)))), some (.val (.list [])), none, none, none])
    (s := sAsg (pop2 dAdd (pVar 3) (pLc (iRange2 (pop1 dMinL (pVar 2)) (pop2 dAdd (pop1 dMaxL (pVar 2)) (pK (.int 1)))) (.nm 6) tYesX (pTup (aCons (pVar 4) (aCons (pVar 6) aNil))) [6])) (.nm 3))
    (rangeI (mnI (xs D)) (mxI (xs D) + 1)) (fun d ρ hs' => (∃ o4 o5 o6, ρ = [some (.val (.tuple (E D))), some (.val (.list (E (xs D)))), some (.val (.list (E (ys D)))), some (.val (.list (E (d.flatMap row)))), o4, o5, o6]) ∧ hs' = hs) ⟨⟨none, none, none, rfl⟩, rfl⟩ fun d x r ρ hs' ed q => by
      obtain ⟨⟨o4, o5, o6, rfl⟩, rfl⟩ := q
      refine ⟨_, rfl, ?_⟩
      have e3 := lcE (T := .nm 6) (f := pTup (aCons (pVar 4) (aCons (pVar 6) aNil))) (ρ := [some (.val (.tuple (E D))), some (.val (.list (E (xs D)))), some (.val (.list (E (ys D)))), some (.val (.list (E (d.flatMap row)))), some (.val (.int x)), o5, none]) (hs := hs') (rangeI (mnI (ys D)) (mxI (ys D) + 1)) (fun y => (x, y)) fun v _ => ⟨_, rfl, by simp⟩
      have len : (d.flatMap row).length + ((rangeI (mnI (ys D)) (mxI (ys D) + 1)).map fun y => (x, y)).length ≤ BIG := by
        have l1 := flat_len d row 202 fun y _ => by simp only [row, List.length_map, rangeI_len]; omega
        have l2 : d.length ≤ (rangeI (mnI (xs D)) (mxI (xs D) + 1)).length := by rw [ed]; simp
        rw [rangeI_len] at l2
        rw [List.length_map, rangeI_len]
        have : d.length * 202 ≤ 202 * 202 := Nat.mul_le_mul_right _ (by omega)
        unfold BIG
        omega
      have a1 := addL _ _ len
      refine ⟨_, hs', by simp [m3, m4, r2, e3, a1]; rfl, ⟨some (.val (.int x)), o5, o6, ?_⟩, rfl⟩
      simp [List.flatMap_append, row]
  simp [m__law_box, semF, b__law_box, e1, e2, m1, m2, r1, E_nil]
  simp [g1]
  rfl
def centre (D : List Dot) : Int × Dot := (sumSt D (med (xs D), med (ys D)), (med (xs D), med (ys D)))
theorem v_centre {D : List Dot} {hs : HSt} (h : DotsOk D) : m_street_centre [.val (.tuple (E D))] hs = .ok (enc (centre D), hs) := by
  obtain ⟨⟨nx, ny⟩, _⟩ := box_bounds h
  have hp := h.pos
  have hf := h.few
  have e1 : lcGo (.tp [.nm 3, .nm 4]) tYesX (pVar 3) [some (.val (.tuple (E D))), some (.val (.int (((D.length : Int) - 1) / 2))), none, none, none, none] (E D) hs = .ok (E (xs D), hs) := lcE D (·.1) fun v _ => ⟨_, rfl, by simp⟩
  have e2 : lcGo (.tp [.nm 3, .nm 4]) tYesX (pVar 4) [some (.val (.tuple (E D))), some (.val (.int (((D.length : Int) - 1) / 2))), none, none, none, none] (E D) hs = .ok (E (ys D), hs) := lcE D (·.2) fun v _ => ⟨_, rfl, by simp⟩
  have lx : (xs D).length = D.length := List.length_map ..
  have ly : (ys D).length = D.length := List.length_map ..
  have s1 : dSorted (.list (E (xs D))) = _ := sortE (xs D) (by unfold BIG; omega)
  have s2 : dSorted (.list (E (ys D))) = _ := sortE (ys D) (by unfold BIG; omega)
  have c1 : (((D.length - 1) / 2 : Nat) : Int) = ((D.length : Int) - 1) / 2 := by omega
  have i1 := ixS (l := xs D) (i := (D.length - 1) / 2) (by omega)
  have i2 := ixS (l := ys D) (i := (D.length - 1) / 2) (by omega)
  rw [c1] at i1 i2
  have e3 := lcE (T := .nm 5) (f := pCall 2 m_street_of (gConsP (pVar 2) (gConsP (pVar 5) gNilX))) (ρ := [some (.val (.tuple (E D))), some (.val (.int (((D.length : Int) - 1) / 2))), some (.val (.tuple [.int (med (xs D)), .int (med (ys D))])), none, none, none]) (hs := hs) D (st (med (xs D), med (ys D))) fun v _ => ⟨_, rfl, by simp [v_street_of]⟩
  have m1 : (sortA (xs D)).getD ((D.length - 1) / 2) 0 = med (xs D) := by unfold med; rw [lx]
  have m2 : (sortA (ys D)).getD ((D.length - 1) / 2) 0 = med (ys D) := by unfold med; rw [ly]
  rw [m1] at i1
  rw [m2] at i2
  simp [m_street_centre, semF, b_street_centre, q_check_dots, checkDots_ok h, d_divP (k := 2) (by decide) (by decide), e1, e2, s1, s2, i1, i2, e3, centre, sumSt]
/-! ## the least greatest street -/
def bestOf : List (Int × Dot) → PyData
  | [] => .none
  | x :: r => enc (minA x r)
theorem bestOf_snoc (l : List (Int × Dot)) (y : Int × Dot) : bestOf (l ++ [y]) = match l with
  | [] => enc y
  | x :: r => if EncO.lt y (minA x r) = true then enc y else enc (minA x r) := by
  cases l with
  | nil => rfl
  | cons x r =>
    show enc (minA x (r ++ [y])) = _
    unfold minA
    rw [List.foldl_append]
    show enc (if EncO.lt y (minA x r) = true then y else minA x r) = if EncO.lt y (minA x r) = true then enc y else enc (minA x r)
    split <;> rfl
abbrev farS : SX := (sSeq (sAsg (pTup (aCons (pop1 dMaxL (pLc (iOf (pVar 0)) (.nm 7) tYesX (pCall 2 m_street_of (gConsP (pTup (aCons (pVar 4) (aCons (pVar 5) aNil))) (gConsP (pVar 7) gNilX))) [7])) (aCons (pTup (aCons (pVar 4) (aCons (pVar 5) aNil))) aNil))) (.nm 6))
 (sAsg (pIf (tOrX (pTst (pop2 dIs (pVar 3) (pK .none))) (pTst (pop2 dLt (pVar 6) (pVar 3)))) (pVar 6) (pVar 3)) (.nm 3)))
def farOne (D : List Dot) (p : Dot) : Int × Dot := (mostSt D p, p)
theorem far_step {D : List Dot} {X Y : Option SV} {x y : Int} {o6 o7 : Option SV} {hs : HSt} {l : List (Int × Dot)} (h : D ≠ []) :
    farS [some (.val (.tuple (E D))), X, Y, some (.val (bestOf l)), some (.val (.int x)), some (.val (.int y)), o6, o7] hs = .nx [some (.val (.tuple (E D))), X, Y, some (.val (bestOf (l ++ [farOne D (x, y)]))), some (.val (.int x)), some (.val (.int y)), some (.val (enc (farOne D (x, y)))), o7] hs := by
  have e := fun w : Option SV => lcE (T := .nm 7) (f := pCall 2 m_street_of (gConsP (pTup (aCons (pVar 4) (aCons (pVar 5) aNil))) (gConsP (pVar 7) gNilX))) (ρ := [some (.val (.tuple (E D))), X, Y, w, some (.val (.int x)), some (.val (.int y)), o6, none]) (hs := hs) D (st (x, y)) fun v _ => ⟨_, rfl, by simp [v_street_of]⟩
  have m := mxE (l := D.map (st (x, y))) (by simpa using h)
  rw [bestOf_snoc]
  cases l with
  | nil => simp [e, m, bestOf, farOne, mostSt]
  | cons z r =>
    have c := dLt_enc (farOne D (x, y)) (minA z r)
    simp [farOne, mostSt] at c
    cases hlt : EncO.lt (mxI (D.map (st (x, y))), (x, y)) (minA z r) with
    | true =>
      rw [hlt] at c
      simp [e, m, bestOf, farOne, mostSt, c, hlt]
    | false =>
      rw [hlt] at c
      simp [e, m, bestOf, farOne, mostSt, c, hlt]
theorem v_far {D : List Dot} {hs : HSt} (h : DotsOk D) : m_far_street [.val (.tuple (E D))] hs = .ok (bestOf ((box D).map (farOne D)), hs) := by
  obtain ⟨⟨nx, ny⟩, bx, byy⟩ := box_bounds h
  have hne : D ≠ [] := by
    have := h.pos
    intro e
    subst e
    simp at this
  have e1 : lcGo (.tp [.nm 4, .nm 5]) tYesX (pVar 4) [some (.val (.tuple (E D))), none, none, none, none, none, none, none] (E D) hs = .ok (E (xs D), hs) := lcE D (·.1) fun v _ => ⟨_, rfl, by simp⟩
  have e2 : lcGo (.tp [.nm 4, .nm 5]) tYesX (pVar 5) [some (.val (.tuple (E D))), none, none, none, none, none, none, none] (E D) hs = .ok (E (ys D), hs) := lcE D (·.2) fun v _ => ⟨_, rfl, by simp⟩
  have m1 := mnE nx
  have m2 := mxE nx
  have m3 := mnE ny
  have m4 := mxE ny
  have r1 : rOk2 (mnI (xs D)) (mxI (xs D) + 1) = true := r2_of (by omega) (by omega) (by omega) (by omega)
  have r2 : rOk2 (mnI (ys D)) (mxI (ys D) + 1) = true := r2_of (by omega) (by omega) (by omega) (by omega)
  let row := fun x : Int => (rangeI (mnI (ys D)) (mxI (ys D) + 1)).map fun y => (x, y)
  obtain ⟨ρ', hs', g1, ⟨o4, o5, o6, rfl⟩, rfl⟩ := forE (T := .nm 4) (hs := hs) (ρ := [some (.val (.tuple (E D))), some (.val (.list (E (xs D)))), some (.val (.list (E (ys D)))), some (.val .none), none, none, none, none])
    (s := sFor (iRange2 (pop1 dMinL (pVar 2)) (pop2 dAdd (pop1 dMaxL (pVar 2)) (pK (.int 1)))) (.nm 5) farS)
    (rangeI (mnI (xs D)) (mxI (xs D) + 1)) (fun d ρ hs' => (∃ o4 o5 o6, ρ = [some (.val (.tuple (E D))), some (.val (.list (E (xs D)))), some (.val (.list (E (ys D)))), some (.val (bestOf ((d.flatMap row).map (farOne D)))), o4, o5, o6, none]) ∧ hs' = hs) ⟨⟨none, none, none, rfl⟩, rfl⟩ fun d x r ρ hs' ed q => by
      obtain ⟨⟨o4, o5, o6, rfl⟩, rfl⟩ := q
      refine ⟨_, rfl, ?_⟩
      obtain ⟨ρ2, hs2, g2, ⟨q5, q6, rfl⟩, rfl⟩ := forE (T := .nm 5) (hs := hs') (ρ := [some (.val (.tuple (E D))), some (.val (.list (E (xs D)))), some (.val (.list (E (ys D)))), some (.val (bestOf ((d.flatMap row).map (farOne D)))), some (.val (.int x)), o5, o6, none])
        (s := farS) (rangeI (mnI (ys D)) (mxI (ys D) + 1)) (fun c ρ hs2 => (∃ o5 o6, ρ = [some (.val (.tuple (E D))), some (.val (.list (E (xs D)))), some (.val (.list (E (ys D)))), some (.val (bestOf ((d.flatMap row ++ c.map fun y => (x, y)).map (farOne D)))), some (.val (.int x)), o5, o6, none]) ∧ hs2 = hs') ⟨⟨o5, o6, by simp⟩, rfl⟩ fun c y r ρ hs2 ec q => by
          obtain ⟨⟨o5, o6, rfl⟩, rfl⟩ := q
          refine ⟨_, rfl, _, _, far_step hne, ⟨some (.val (.int y)), some (.val (enc (farOne D (x, y)))), ?_⟩, rfl⟩
          simp
      have ej : d.flatMap row ++ (rangeI (mnI (ys D)) (mxI (ys D) + 1)).map (fun y => (x, y)) = (d ++ [x]).flatMap row := by simp [row]
      rw [ej] at g2
      refine ⟨_, _, ?_, ⟨some (.val (.int x)), q5, q6, rfl⟩, rfl⟩
      simp [m3, m4, r2, -e_sSeq]
      rw [g2]
      simp
  simp [m_far_street, semF, b_far_street, q_check_dots, checkDots_ok h, e1, e2, m1, m2, r1]
  rw [g1]
  simp [box, row]
end K87
namespace K87
open PySem PySem.Spec PyProof.Rows L3 L4 L5
open Enc (enc)
/-! ## middles -/
def S (l : List Int) (t : Int) : Int := (l.map fun x => ((t - x).natAbs : Int)).sum
theorem S_cons (x : Int) (l : List Int) (t : Int) : S (x :: l) t = ((t - x).natAbs : Int) + S l t := by simp [S]
theorem S_perm {l m : List Int} (p : l.Perm m) (t : Int) : S l t = S m t := by
  induction p with
  | nil => rfl
  | cons x _ ih => rw [S_cons, S_cons, ih]
  | swap x y l => simp only [S_cons]; omega
  | trans _ _ h1 h2 => rw [h1, h2]
theorem S_up (l : List Int) {t m : Int} (h : m ≤ t) : S l m + (t - m) * (2 * (l.countP (fun x => decide (x ≤ m)) : Int) - l.length) ≤ S l t := by
  induction l with
  | nil => simp [S]
  | cons x r ih =>
    rw [S_cons, S_cons, List.countP_cons, List.length_cons]
    generalize r.countP (fun x => decide (x ≤ m)) = c at ih
    by_cases q : x ≤ m
    · simp only [decide_eq_true q, if_true]
      have e : (t - m) * (2 * ((c + 1 : Nat) : Int) - ((r.length + 1 : Nat) : Int)) = (t - m) * (2 * (c : Int) - r.length) + (t - m) := by
        rw [show 2 * ((c + 1 : Nat) : Int) - ((r.length + 1 : Nat) : Int) = (2 * (c : Int) - r.length) + 1 by omega, Int.mul_add, Int.mul_one]
      rw [e]
      omega
    · simp only [decide_eq_false q, Bool.false_eq_true, if_false]
      have e : (t - m) * (2 * ((c + 0 : Nat) : Int) - ((r.length + 1 : Nat) : Int)) = (t - m) * (2 * (c : Int) - r.length) - (t - m) := by
        rw [show 2 * ((c + 0 : Nat) : Int) - ((r.length + 1 : Nat) : Int) = (2 * (c : Int) - r.length) - 1 by omega, Int.mul_sub, Int.mul_one]
      rw [e]
      omega
theorem S_down (l : List Int) {t m : Int} (h : t ≤ m) : S l m + (m - t) * (2 * (l.countP (fun x => decide (m ≤ x)) : Int) - l.length) ≤ S l t := by
  induction l with
  | nil => simp [S]
  | cons x r ih =>
    rw [S_cons, S_cons, List.countP_cons, List.length_cons]
    generalize r.countP (fun x => decide (m ≤ x)) = c at ih
    by_cases q : m ≤ x
    · simp only [decide_eq_true q, if_true]
      have e : (m - t) * (2 * ((c + 1 : Nat) : Int) - ((r.length + 1 : Nat) : Int)) = (m - t) * (2 * (c : Int) - r.length) + (m - t) := by
        rw [show 2 * ((c + 1 : Nat) : Int) - ((r.length + 1 : Nat) : Int) = (2 * (c : Int) - r.length) + 1 by omega, Int.mul_add, Int.mul_one]
      rw [e]
      omega
    · simp only [decide_eq_false q, Bool.false_eq_true, if_false]
      have e : (m - t) * (2 * ((c + 0 : Nat) : Int) - ((r.length + 1 : Nat) : Int)) = (m - t) * (2 * (c : Int) - r.length) - (m - t) := by
        rw [show 2 * ((c + 0 : Nat) : Int) - ((r.length + 1 : Nat) : Int) = (2 * (c : Int) - r.length) - 1 by omega, Int.mul_sub, Int.mul_one]
      rw [e]
      omega
theorem sorted_le {l : List Int} {i j : Nat} (hi : i < (sortA l).length) (hj : j < (sortA l).length) (h : i ≤ j) : (sortA l)[i] ≤ (sortA l)[j] := by
  by_cases e : i = j
  · subst e; exact Int.le_refl _
  · have := List.pairwise_iff_getElem.mp (sortA_sorted l) i j hi hj (by omega)
    have : decide ((sortA l)[j] < (sortA l)[i]) = false := this
    simpa using this
theorem cnt_le {l : List Int} {i : Nat} (hi : i < (sortA l).length) : i + 1 ≤ (sortA l).countP (fun x => decide (x ≤ (sortA l)[i])) := by
  have e : (sortA l).countP (fun x => decide (x ≤ (sortA l)[i])) = ((sortA l).take (i + 1)).countP (fun x => decide (x ≤ (sortA l)[i])) + ((sortA l).drop (i + 1)).countP (fun x => decide (x ≤ (sortA l)[i])) := by
    rw [← List.countP_append, List.take_append_drop]
  have e2 : ((sortA l).take (i + 1)).countP (fun x => decide (x ≤ (sortA l)[i])) = ((sortA l).take (i + 1)).length := by
    rw [List.countP_eq_length]
    intro x hx
    obtain ⟨j, hj, rfl⟩ := List.mem_iff_getElem.mp hx
    rw [List.getElem_take]
    rw [List.length_take] at hj
    exact decide_eq_true (sorted_le (by omega) hi (by omega))
  rw [List.length_take] at e2
  omega
theorem cnt_ge {l : List Int} {i : Nat} (hi : i < (sortA l).length) : (sortA l).length - i ≤ (sortA l).countP (fun x => decide ((sortA l)[i] ≤ x)) := by
  have e : (sortA l).countP (fun x => decide ((sortA l)[i] ≤ x)) = ((sortA l).take i).countP (fun x => decide ((sortA l)[i] ≤ x)) + ((sortA l).drop i).countP (fun x => decide ((sortA l)[i] ≤ x)) := by
    rw [← List.countP_append, List.take_append_drop]
  have e2 : ((sortA l).drop i).countP (fun x => decide ((sortA l)[i] ≤ x)) = ((sortA l).drop i).length := by
    rw [List.countP_eq_length]
    intro x hx
    obtain ⟨j, hj, rfl⟩ := List.mem_iff_getElem.mp hx
    rw [List.getElem_drop]
    rw [List.length_drop] at hj
    exact decide_eq_true (sorted_le hi (by omega) (by omega))
  rw [List.length_drop] at e2
  omega
theorem med_at {l : List Int} (h : l ≠ []) : ∃ hi : (l.length - 1) / 2 < (sortA l).length, med l = (sortA l)[(l.length - 1) / 2] := by
  have hp : 0 < l.length := List.length_pos_iff.mpr h
  have hi : (l.length - 1) / 2 < (sortA l).length := by rw [sortA_len]; omega
  exact ⟨hi, by unfold med; simp [hi]⟩
theorem medH_at {l : List Int} (h : l ≠ []) : ∃ hi : l.length / 2 < (sortA l).length, medH l = (sortA l)[l.length / 2] := by
  have hp : 0 < l.length := List.length_pos_iff.mpr h
  have hi : l.length / 2 < (sortA l).length := by rw [sortA_len]; omega
  exact ⟨hi, by unfold medH; simp [hi]⟩
theorem med_mem {l : List Int} (h : l ≠ []) : med l ∈ l := by
  obtain ⟨hi, e⟩ := med_at h
  rw [e, ← mem_sortA]
  exact List.getElem_mem hi
theorem S_sort (l : List Int) (t : Int) : S (sortA l) t = S l t := S_perm (sortA_perm l) t
theorem med_least {l : List Int} (h : l ≠ []) (t : Int) : S l (med l) ≤ S l t := by
  obtain ⟨hi, e⟩ := med_at h
  have hp : 0 < l.length := List.length_pos_iff.mpr h
  rw [← S_sort, ← S_sort l t, e]
  rcases Int.le_total ((sortA l)[(l.length - 1) / 2]) t with q | q
  · have h1 := S_up (sortA l) q
    have h2 := cnt_le hi
    have h3 := sortA_len l
    have h4 : 0 ≤ (t - (sortA l)[(l.length - 1) / 2]) * (2 * ((sortA l).countP (fun x => decide (x ≤ (sortA l)[(l.length - 1) / 2])) : Int) - (sortA l).length) := Int.mul_nonneg (by omega) (by omega)
    omega
  · have h1 := S_down (sortA l) q
    have h2 := cnt_ge hi
    have h3 := sortA_len l
    have h4 : 0 ≤ ((sortA l)[(l.length - 1) / 2] - t) * (2 * ((sortA l).countP (fun x => decide ((sortA l)[(l.length - 1) / 2] ≤ x)) : Int) - (sortA l).length) := Int.mul_nonneg (by omega) (by omega)
    omega
theorem med_strict {l : List Int} (h : l ≠ []) {t : Int} (ht : t < med l) : S l (med l) < S l t := by
  obtain ⟨hi, e⟩ := med_at h
  have hp : 0 < l.length := List.length_pos_iff.mpr h
  rw [e] at ht
  rw [← S_sort, ← S_sort l t, e]
  have h1 := S_down (sortA l) (Int.le_of_lt ht)
  have h2 := cnt_ge hi
  have h3 := sortA_len l
  have h4 : 0 < ((sortA l)[(l.length - 1) / 2] - t) * (2 * ((sortA l).countP (fun x => decide ((sortA l)[(l.length - 1) / 2] ≤ x)) : Int) - (sortA l).length) := Int.mul_pos (by omega) (by omega)
  omega
theorem medH_least {l : List Int} (h : l ≠ []) : S l (medH l) = S l (med l) := by
  refine Int.le_antisymm ?_ (med_least h _)
  obtain ⟨hi, e⟩ := medH_at h
  have hp : 0 < l.length := List.length_pos_iff.mpr h
  rw [← S_sort, ← S_sort l (med l), e]
  generalize med l = t
  rcases Int.le_total ((sortA l)[l.length / 2]) t with q | q
  · have h1 := S_up (sortA l) q
    have h2 := cnt_le hi
    have h3 := sortA_len l
    have h4 : 0 ≤ (t - (sortA l)[l.length / 2]) * (2 * ((sortA l).countP (fun x => decide (x ≤ (sortA l)[l.length / 2])) : Int) - (sortA l).length) := Int.mul_nonneg (by omega) (by omega)
    omega
  · have h1 := S_down (sortA l) q
    have h2 := cnt_ge hi
    have h3 := sortA_len l
    have h4 : 0 ≤ ((sortA l)[l.length / 2] - t) * (2 * ((sortA l).countP (fun x => decide ((sortA l)[l.length / 2] ≤ x)) : Int) - (sortA l).length) := Int.mul_nonneg (by omega) (by omega)
    omega
theorem med_move (l : List Int) (c : Int) (h : l ≠ []) : med (l.map (· + c)) = med l + c := by
  have e : sortA (l.map (· + c)) = (sortA l).map (· + c) := by
    refine sortA_eq ((sortA_perm l).map _) ?_
    rw [List.pairwise_map]
    refine (sortA_sorted l).imp fun {a b} q => ?_
    have q : decide (b < a) = false := q
    show decide (b + c < a + c) = false
    simp at q ⊢
    omega
  unfold med
  have hp : 0 < l.length := List.length_pos_iff.mpr h
  have hi : (l.length - 1) / 2 < (sortA l).length := by rw [sortA_len]; omega
  rw [e, List.length_map]
  simp [hi]
/-! ## sums of streets -/
theorem sumSt_S (D : List Dot) (p : Dot) : sumSt D p = S (xs D) p.1 + S (ys D) p.2 := by
  induction D with
  | nil => rfl
  | cons d r ih =>
    have h1 : sumSt (d :: r) p = st p d + sumSt r p := by simp [sumSt]
    have h2 : S (xs (d :: r)) p.1 = ((p.1 - d.1).natAbs : Int) + S (xs r) p.1 := S_cons _ _ _
    have h3 : S (ys (d :: r)) p.2 = ((p.2 - d.2).natAbs : Int) + S (ys r) p.2 := S_cons _ _ _
    rw [h1, h2, h3, ih]
    unfold st
    omega
section
variable {D : List Dot}
theorem centre_least (h : DotsOk D) (p : Dot) : (centre D).1 ≤ sumSt D p := by
  obtain ⟨⟨nx, ny⟩, _⟩ := box_bounds h
  show sumSt D (med (xs D), med (ys D)) ≤ _
  rw [sumSt_S, sumSt_S]
  have := med_least nx p.1
  have := med_least ny p.2
  show S (xs D) (med (xs D)) + S (ys D) (med (ys D)) ≤ _
  omega
theorem lt_sum {a b : Int} {p q : Dot} (h : EncO.lt (a, p) (b, q) = true) : a < b ∨ (a = b ∧ (p.1 < q.1 ∨ (p.1 = q.1 ∧ p.2 < q.2))) := by
  have h : (decide (a < b) || (decide (a = b) && (decide (p.1 < q.1) || (decide (p.1 = q.1) && decide (p.2 < q.2))))) = true := h
  simpa using h
theorem lt_sum_false {a b : Int} {p q : Dot} (h : ¬(a < b ∨ (a = b ∧ (p.1 < q.1 ∨ (p.1 = q.1 ∧ p.2 < q.2))))) : EncO.lt (a, p) (b, q) = false := by
  cases z : EncO.lt (a, p) (b, q) with
  | false => rfl
  | true => exact absurd (lt_sum z) h
theorem centre_min (h : DotsOk D) (p : Dot) : EncO.lt (sumSt D p, p) (centre D) = false := by
  obtain ⟨⟨nx, ny⟩, _⟩ := box_bounds h
  refine lt_sum_false ?_
  show ¬(sumSt D p < sumSt D (med (xs D), med (ys D)) ∨ (sumSt D p = sumSt D (med (xs D), med (ys D)) ∧ (p.1 < med (xs D) ∨ (p.1 = med (xs D) ∧ p.2 < med (ys D)))))
  rw [sumSt_S, sumSt_S]
  show ¬(_ < S (xs D) (med (xs D)) + S (ys D) (med (ys D)) ∨ (_ = S (xs D) (med (xs D)) + S (ys D) (med (ys D)) ∧ _))
  have h1 := med_least nx p.1
  have h2 := med_least ny p.2
  rintro (q | ⟨q, q1 | ⟨q1, q2⟩⟩)
  · omega
  · have := med_strict nx q1
    omega
  · have := med_strict ny q2
    omega
theorem mem_box {p : Dot} : p ∈ box D ↔ (mnI (xs D) ≤ p.1 ∧ p.1 ≤ mxI (xs D)) ∧ mnI (ys D) ≤ p.2 ∧ p.2 ≤ mxI (ys D) := by
  unfold box
  simp only [List.mem_flatMap, List.mem_map, mem_rangeI]
  constructor
  · rintro ⟨x, h1, y, h2, rfl⟩
    exact ⟨⟨h1.1, by have := h1.2; show x ≤ _; omega⟩, h2.1, by have := h2.2; show y ≤ _; omega⟩
  · intro ⟨h1, h2⟩
    exact ⟨p.1, by omega, p.2, by omega, rfl⟩
theorem dot_box {p : Dot} (h : p ∈ D) : p ∈ box D := by
  have h1 : p.1 ∈ xs D := List.mem_map.mpr ⟨p, h, rfl⟩
  have h2 : p.2 ∈ ys D := List.mem_map.mpr ⟨p, h, rfl⟩
  exact mem_box.mpr ⟨⟨mnI_le h1, mxI_ge h1⟩, mnI_le h2, mxI_ge h2⟩
theorem centre_box (h : DotsOk D) : (centre D).2 ∈ box D := by
  obtain ⟨⟨nx, ny⟩, _⟩ := box_bounds h
  have h1 := med_mem nx
  have h2 := med_mem ny
  exact mem_box.mpr ⟨⟨mnI_le h1, mxI_ge h1⟩, mnI_le h2, mxI_ge h2⟩
def sumOne (D : List Dot) (p : Dot) : Int × Dot := (sumSt D p, p)
theorem box_ne (h : DotsOk D) : box D ≠ [] := by
  intro e
  have := centre_box h
  rw [e] at this
  cases this
theorem least_eq (h : DotsOk D) (hne : (box D).map (sumOne D) ≠ []) : minL ((box D).map (sumOne D)) hne = centre D := by
  refine minL_eq hne (List.mem_map.mpr ⟨(centre D).2, centre_box h, rfl⟩) fun y hy => ?_
  obtain ⟨p, _, rfl⟩ := List.mem_map.mp hy
  exact centre_min h p
theorem best_min (l : List (Int × Dot)) (h : l ≠ []) : bestOf l = enc (minL l h) := by
  cases l with
  | nil => exact absurd rfl h
  | cons x r => rfl
/-! ## the greatest street -/
theorem mostSt_ge {p d : Dot} (h : d ∈ D) : st p d ≤ mostSt D p := mxI_ge (List.mem_map.mpr ⟨d, h, rfl⟩)
theorem mostSt_at (h : D ≠ []) (p : Dot) : ∃ d ∈ D, mostSt D p = st p d := by
  have := mxI_mem (l := D.map (st p)) (by simpa using h)
  obtain ⟨d, hd, e⟩ := List.mem_map.mp this
  exact ⟨d, hd, e.symm⟩
/-- all greatest streets are alike for the same dots -/
theorem mostSt_mem {D E' : List Dot} (h : ∀ d, d ∈ D ↔ d ∈ E') (hD : D ≠ []) (p : Dot) : mostSt D p = mostSt E' p := by
  have hE : E' ≠ [] := by
    obtain ⟨d, hd⟩ := List.exists_mem_of_ne_nil D hD
    intro e
    have := (h d).mp hd
    rw [e] at this
    cases this
  obtain ⟨d, hd, e1⟩ := mostSt_at hD p
  obtain ⟨d', hd', e2⟩ := mostSt_at hE p
  have := mostSt_ge (p := p) ((h d).mp hd)
  have := mostSt_ge (p := p) ((h d').mpr hd')
  omega
theorem st_tri (a b p : Dot) : st a b ≤ st p a + st p b := by unfold st; omega
theorem st_comm (a b : Dot) : st a b = st b a := by unfold st; omega
end
end K87
namespace K87
open PySem PySem.Spec PyProof.Rows L3 L4 L5
open Enc (enc)
/-! ## least, greatest numbers -/
theorem mnI_is {l : List Int} {m : Int} (hm : m ∈ l) (h : ∀ y ∈ l, m ≤ y) : mnI l = m := by
  have hne : l ≠ [] := by
    intro e
    rw [e] at hm
    cases hm
  have h1 := mnI_le hm
  have h2 := h _ (mnI_mem hne)
  omega
theorem mxI_is {l : List Int} {m : Int} (hm : m ∈ l) (h : ∀ y ∈ l, y ≤ m) : mxI l = m := by
  have hne : l ≠ [] := by
    intro e
    rw [e] at hm
    cases hm
  have h1 := mxI_ge hm
  have h2 := h _ (mxI_mem hne)
  omega
theorem mnI_add {l : List Int} (c : Int) (h : l ≠ []) : mnI (l.map (· + c)) = mnI l + c := by
  refine mnI_is (List.mem_map.mpr ⟨_, mnI_mem h, rfl⟩) fun y hy => ?_
  obtain ⟨z, hz, rfl⟩ := List.mem_map.mp hy
  have := mnI_le hz
  omega
theorem mxI_add {l : List Int} (c : Int) (h : l ≠ []) : mxI (l.map (· + c)) = mxI l + c := by
  refine mxI_is (List.mem_map.mpr ⟨_, mxI_mem h, rfl⟩) fun y hy => ?_
  obtain ⟨z, hz, rfl⟩ := List.mem_map.mp hy
  have := mxI_ge hz
  omega
section
variable {D : List Dot}
/-! ## moved -/
def mv (b p : Dot) : Dot := (p.1 + b.1, p.2 + b.2)
theorem st_mv (b p q : Dot) : st (mv b p) (mv b q) = st p q := by unfold st mv; simp only; omega
theorem sumSt_mv (b p : Dot) : sumSt (D.map (mv b)) (mv b p) = sumSt D p := by
  unfold sumSt
  rw [List.map_map]
  congr 1
  exact List.map_congr_left fun q _ => st_mv b p q
theorem mostSt_mv (b p : Dot) : mostSt (D.map (mv b)) (mv b p) = mostSt D p := by
  unfold mostSt
  rw [List.map_map]
  congr 1
  exact List.map_congr_left fun q _ => st_mv b p q
theorem lt_dot {p q : Dot} : EncO.lt p q = (decide (p.1 < q.1) || (decide (p.1 = q.1) && decide (p.2 < q.2))) := rfl
theorem inc_mv {b : Dot} (h : Inc D) : Inc (D.map (mv b)) := by
  unfold Inc
  rw [List.pairwise_map]
  refine h.imp fun {p q} e => ?_
  have e : (decide (p.1 < q.1) || (decide (p.1 = q.1) && decide (p.2 < q.2))) = true := e
  show (decide (p.1 + b.1 < q.1 + b.1) || (decide (p.1 + b.1 = q.1 + b.1) && decide (p.2 + b.2 < q.2 + b.2))) = true
  simp only [Bool.or_eq_true, Bool.and_eq_true, decide_eq_true_eq] at e ⊢
  omega
theorem xs_mv (b : Dot) : xs (D.map (mv b)) = (xs D).map (· + b.1) := by simp [xs, mv, Function.comp_def]
theorem ys_mv (b : Dot) : ys (D.map (mv b)) = (ys D).map (· + b.2) := by simp [ys, mv, Function.comp_def]
theorem centre_mv (b : Dot) (h : DotsOk D) : centre (D.map (mv b)) = ((centre D).1, mv b (centre D).2) := by
  obtain ⟨⟨nx, ny⟩, _⟩ := box_bounds h
  unfold centre
  rw [xs_mv, ys_mv, med_move _ _ nx, med_move _ _ ny]
  show (sumSt (D.map (mv b)) (mv b (med (xs D), med (ys D))), _) = _
  rw [sumSt_mv]
  rfl
theorem box_mv (b p : Dot) (h : DotsOk D) : mv b p ∈ box (D.map (mv b)) ↔ p ∈ box D := by
  obtain ⟨⟨nx, ny⟩, _⟩ := box_bounds h
  rw [mem_box, mem_box, xs_mv, ys_mv, mnI_add _ nx, mnI_add _ ny, mxI_add _ nx, mxI_add _ ny]
  unfold mv
  simp only
  omega
/-- the least greatest street, by what it is -/
structure Far (D : List Dot) (m : Int × Dot) : Prop where
  box : m.2 ∈ box D
  at' : m = farOne D m.2
  le : ∀ p ∈ K87.box D, EncO.lt (farOne D p) m = false
theorem far_is (h : DotsOk D) : ∃ m, bestOf ((box D).map (farOne D)) = enc m ∧ Far D m ∧ ∀ hne, minL ((box D).map (farOne D)) hne = m := by
  have hne : (box D).map (farOne D) ≠ [] := by simpa using box_ne h
  obtain ⟨p, hp, e⟩ := List.mem_map.mp (minL_mem hne)
  refine ⟨minL _ hne, best_min _ hne, ⟨?_, ?_, fun q hq => minL_le hne _ (List.mem_map.mpr ⟨q, hq, rfl⟩)⟩, fun _ => rfl⟩
  · rw [← e]; exact hp
  · rw [← e]; rfl
theorem Far.unique {m n : Int × Dot} (h1 : Far D m) (h2 : Far D n) : m = n := by
  have e1 := h2.le _ h1.box
  have e2 := h1.le _ h2.box
  rw [← h1.at'] at e1
  rw [← h2.at'] at e2
  exact least_unique e1 e2
theorem Far.mv {m : Int × Dot} {b : Dot} (h : DotsOk D) (f : Far D m) : Far (D.map (mv b)) (m.1, K87.mv b m.2) where
  box := (box_mv b m.2 h).mpr f.box
  at' := by
    show (m.1, _) = (mostSt _ (K87.mv b m.2), _)
    rw [mostSt_mv]
    have := congrArg Prod.fst f.at'
    rw [this]
    rfl
  le := fun q hq => by
    obtain ⟨p, rfl⟩ : ∃ p, q = K87.mv b p := ⟨(q.1 - b.1, q.2 - b.2), by unfold K87.mv; ext <;> simp⟩
    have := f.le p ((box_mv b p h).mp hq)
    show EncO.lt (mostSt _ (K87.mv b p), K87.mv b p) (m.1, K87.mv b m.2) = false
    rw [mostSt_mv]
    refine lt_sum_false fun z => ?_
    have w : EncO.lt (mostSt D p, p) (m.1, m.2) = true := by
      show (decide _ || (decide _ && (decide _ || (decide _ && decide _)))) = true
      simp only [K87.mv] at z
      simp only [Bool.or_eq_true, Bool.and_eq_true, decide_eq_true_eq]
      omega
    have this' : EncO.lt (mostSt D p, p) (m.1, m.2) = false := this
    rw [w] at this'
    cases this'
theorem dots_mv {b : Dot} (h : DotsOk D) (hb : ∀ p ∈ D, dotOk (mv b p)) : DotsOk (D.map (mv b)) where
  inc := inc_mv h.inc
  pos := by rw [List.length_map]; exact h.pos
  few := by rw [List.length_map]; exact h.few
  ok := fun q hq => by
    obtain ⟨p, hp, rfl⟩ := List.mem_map.mp hq
    exact hb p hp
/-! ## mirrored -/
def rot (p : Dot) : Dot := (p.2, 0 - p.1)
def unrot (p : Dot) : Dot := (0 - p.2, p.1)
theorem rot_unrot (p : Dot) : rot (unrot p) = p := by unfold rot unrot; ext <;> simp
theorem unrot_rot (p : Dot) : unrot (rot p) = p := by unfold rot unrot; ext <;> simp
def Mi (D : List Dot) : List Dot := sortA (D.map rot)
theorem mi_perm : (Mi D).Perm (D.map rot) := sortA_perm _
theorem mem_mi {q : Dot} : q ∈ Mi D ↔ unrot q ∈ D := by
  unfold Mi
  rw [mem_sortA, List.mem_map]
  constructor
  · rintro ⟨p, hp, rfl⟩
    rw [unrot_rot]
    exact hp
  · exact fun h => ⟨_, h, rot_unrot q⟩
theorem st_rot (p q : Dot) : st (rot p) (rot q) = st p q := by unfold st rot; simp only; omega
theorem sum_perm {l m : List Int} (p : l.Perm m) : l.sum = m.sum := by
  induction p with
  | nil => rfl
  | cons x _ ih => rw [List.sum_cons, List.sum_cons, ih]
  | swap x y l => simp only [List.sum_cons]; omega
  | trans _ _ h1 h2 => rw [h1, h2]
theorem sumSt_mi (p : Dot) : sumSt (Mi D) (rot p) = sumSt D p := by
  unfold sumSt
  rw [sum_perm (mi_perm.map _), List.map_map]
  congr 1
  exact List.map_congr_left fun q _ => st_rot p q
theorem dots_mi (h : DotsOk D) : DotsOk (Mi D) where
  inc := by
    refine inc_of (sortA_sorted _) ?_
    refine (sortA_perm (D.map rot)).nodup_iff.mpr ?_
    unfold List.Nodup
    rw [List.pairwise_map]
    refine h.inc.nodup.imp fun {a b} hab e => hab ?_
    have := congrArg unrot e
    rwa [unrot_rot, unrot_rot] at this
  pos := by rw [mi_perm.length_eq, List.length_map]; exact h.pos
  few := by rw [mi_perm.length_eq, List.length_map]; exact h.few
  ok := fun q hq => by
    have := h.ok _ (mem_mi.mp hq)
    unfold dotOk unrot at this
    unfold dotOk
    simp only at this
    omega
theorem mostSt_mi (hD : D ≠ []) (p : Dot) : mostSt (Mi D) (rot p) = mostSt D p := by
  rw [mostSt_mem (E' := D.map rot) (fun d => mi_perm.mem_iff) (fun e => hD (by
    have := mi_perm (D := D)
    rw [e] at this
    simpa using this.symm)) (rot p)]
  unfold mostSt
  rw [List.map_map]
  congr 1
  exact List.map_congr_left fun q _ => st_rot p q
theorem box_mi (p : Dot) (h : DotsOk D) : rot p ∈ box (Mi D) ↔ p ∈ box D := by
  obtain ⟨⟨nx, ny⟩, _⟩ := box_bounds h
  have mx : ∀ x, x ∈ xs (Mi D) ↔ x ∈ ys D := fun x => by
    unfold xs ys
    simp only [List.mem_map]
    constructor
    · rintro ⟨q, hq, rfl⟩
      exact ⟨_, mem_mi.mp hq, rfl⟩
    · rintro ⟨p, hp, rfl⟩
      exact ⟨rot p, mem_mi.mpr (by rw [unrot_rot]; exact hp), rfl⟩
  have my : ∀ x, x ∈ ys (Mi D) ↔ 0 - x ∈ xs D := fun x => by
    unfold xs ys
    simp only [List.mem_map]
    constructor
    · rintro ⟨q, hq, rfl⟩
      exact ⟨_, mem_mi.mp hq, rfl⟩
    · rintro ⟨p, hp, e⟩
      refine ⟨rot p, mem_mi.mpr (by rw [unrot_rot]; exact hp), ?_⟩
      show 0 - p.1 = x
      omega
  have e1 : mnI (xs (Mi D)) = mnI (ys D) := mnI_is ((mx _).mpr (mnI_mem ny)) fun y hy => mnI_le ((mx y).mp hy)
  have e2 : mxI (xs (Mi D)) = mxI (ys D) := mxI_is ((mx _).mpr (mxI_mem ny)) fun y hy => mxI_ge ((mx y).mp hy)
  have e3 : mnI (ys (Mi D)) = 0 - mxI (xs D) := mnI_is ((my _).mpr (by
    have := mxI_mem nx
    rwa [show 0 - (0 - mxI (xs D)) = mxI (xs D) by omega])) fun y hy => by
    have := mxI_ge ((my y).mp hy)
    omega
  have e4 : mxI (ys (Mi D)) = 0 - mnI (xs D) := mxI_is ((my _).mpr (by
    have := mnI_mem nx
    rwa [show 0 - (0 - mnI (xs D)) = mnI (xs D) by omega])) fun y hy => by
    have := mnI_le ((my y).mp hy)
    omega
  rw [mem_box, mem_box, e1, e2, e3, e4]
  unfold rot
  simp only
  omega
theorem Far.fst_le {m : Int × Dot} (f : Far D m) {p : Dot} (hp : p ∈ K87.box D) : m.1 ≤ mostSt D p := by
  have := f.le p hp
  rcases Int.lt_or_le (mostSt D p) m.1 with q | q
  · exfalso
    have w : EncO.lt (mostSt D p, p) (m.1, m.2) = true := by
      show (decide _ || _) = true
      simp [q]
    have this' : EncO.lt (mostSt D p, p) (m.1, m.2) = false := this
    rw [w] at this'
    cases this'
  · exact q
theorem far_mi {m n : Int × Dot} (h : DotsOk D) (f : Far D m) (g : Far (Mi D) n) : n.1 = m.1 := by
  have e1 : n.1 = mostSt (Mi D) n.2 := congrArg Prod.fst g.at'
  have e2 : m.1 = mostSt D m.2 := congrArg Prod.fst f.at'
  have h1 := f.fst_le (p := unrot n.2) ((box_mi _ h).mp (by rw [rot_unrot]; exact g.box))
  have h2 := g.fst_le (p := rot m.2) ((box_mi _ h).mpr f.box)
  rw [← mostSt_mi h.ne, rot_unrot] at h1
  rw [mostSt_mi h.ne] at h2
  omega
theorem centre_mi (h : DotsOk D) : (centre (Mi D)).1 = (centre D).1 := by
  have h1 := centre_least (dots_mi h) (rot (centre D).2)
  have h2 := centre_least h (unrot (centre (Mi D)).2)
  rw [sumSt_mi] at h1
  rw [← sumSt_mi, rot_unrot] at h2
  have e1 : (centre D).1 = sumSt D (centre D).2 := rfl
  have e2 : (centre (Mi D)).1 = sumSt (Mi D) (centre (Mi D)).2 := rfl
  omega
/-! ## one less -/
theorem sumSt_tail (p : Dot) (h : D ≠ []) : sumSt D.tail p ≤ sumSt D p := by
  cases D with
  | nil => exact absurd rfl h
  | cons d r =>
    have : sumSt (d :: r) p = st p d + sumSt r p := by simp [sumSt]
    rw [this]
    show sumSt r p ≤ _
    have : 0 ≤ st p d := by unfold st; omega
    omega
theorem dots_tail (h : DotsOk D) (hl : D.tail ≠ []) : DotsOk D.tail where
  inc := by
    cases D with
    | nil => exact absurd rfl hl
    | cons d r => exact (List.pairwise_cons.mp h.inc).2
  pos := List.length_pos_iff.mpr hl
  few := by
    have := h.few
    rw [List.length_tail]
    omega
  ok := fun p hp => h.ok p (List.mem_of_mem_tail hp)
theorem centre_tail (h : DotsOk D) (hl : D.tail ≠ []) : (centre D.tail).1 ≤ (centre D).1 := by
  have h1 := centre_least (dots_tail h hl) (centre D).2
  have h2 := sumSt_tail (D := D) (centre D).2 h.ne
  have e1 : (centre D).1 = sumSt D (centre D).2 := rfl
  omega
/-! ## the widest -/
def widest (D : List Dot) : Int := mxI (D.map (mostSt D))
theorem widest_ge {m : Int × Dot} (h : DotsOk D) (f : Far D m) : m.1 ≤ widest D ∧ widest D ≤ 2 * m.1 := by
  have hm : D.map (mostSt D) ≠ [] := by simpa using h.ne
  obtain ⟨d, hd, e⟩ := List.mem_map.mp (mxI_mem hm)
  have e' : widest D = mostSt D d := e.symm
  refine ⟨by rw [e']; exact f.fst_le (dot_box hd), ?_⟩
  obtain ⟨d2, hd2, e2⟩ := mostSt_at h.ne d
  have e3 : m.1 = mostSt D m.2 := congrArg Prod.fst f.at'
  have g1 := mostSt_ge (p := m.2) hd
  have g2 := mostSt_ge (p := m.2) hd2
  have g3 := st_tri d d2 m.2
  omega
end
end K87
namespace K87
open PySem PySem.Spec PyProof.Rows L3 L4 L5
open Enc (enc)
theorem ne3 {a b c a' b' c' : Int} : dNe (.tuple [.int a, .tuple [.int b, .int c]]) (.tuple [.int a', .tuple [.int b', .int c']]) = .ok (.bool (!decide ((a, b, c) = (a', b', c')))) := dNe_enc (α := Int × Dot) (a, b, c) (a', b', c')
theorem ne2 {b c b' c' : Int} : dNe (.tuple [.int b, .int c]) (.tuple [.int b', .int c']) = .ok (.bool (!decide ((b, c) = (b', c')))) := dNe_enc (α := Dot) (b, c) (b', c')
abbrev turnS : SX := (sSeq (sPar [8, 9] (mConsP (pCallH 2 m__law_dot (gConsR 0 (gConsP (pK (.int 100)) gNilX))) (mConsP (pCallH 2 m__law_any (gConsR 0 (gConsP (pVar 1) gNilX))) mNil)))
 (sIf (tOrX (pTst (pop2 dNe (pCall 2 m_street (gConsP (pVar 8) (gConsP (pVar 9) gNilX))) (pCall 2 m__law_street (gConsP (pVar 8) (gConsP (pVar 9) gNilX))))) (tOrX (pTst (pop2 dNe (pCall 2 m_street (gConsP (pVar 9) (gConsP (pVar 8) gNilX))) (pCall 2 m__law_street (gConsP (pVar 8) (gConsP (pVar 9) gNilX))))) (pTst (pop2 dLt (pCall 2 m__law_sum (gConsP (pVar 1) (gConsP (pVar 8) gNilX))) (pop2 dIx (pVar 3) (pK (.int 0))))))) (sRet (pK (.bool false))) sNil))
theorem turn_ok {D : List Dot} {hs : HSt} {r2 r4 r5 r6 r7 r8 r9 r10 r11 r12 r13 r14 r15 : Option SV} {z : PyData} (h : DotsOk D) (hv : HandV hs) : ∃ p a hs', turnS [some .hand, some (.val (.tuple (E D))), r2, some (.val (.tuple [.int (centre D).1, z])), r4, r5, r6, r7, r8, r9, r10, r11, r12, r13, r14, r15] hs =
    .nx [some .hand, some (.val (.tuple (E D))), r2, some (.val (.tuple [.int (centre D).1, z])), r4, r5, r6, r7, some (.val p), some (.val a), r10, r11, r12, r13, r14, r15] hs' ∧ HandV hs' := by
  obtain ⟨p, hs1, e1, hp, hv1⟩ := dot_spec (w := 100) hv (by decide) (by decide)
  obtain ⟨a, ha, hs2, e2, hv2⟩ := any_tuple hv1 h.ne (by have := h.few; omega)
  have e2' : m__law_any [.hand, .val (.tuple (E D))] hs1 = .ok (enc a, hs2) := e2
  have e1' : m__law_dot [.hand, .val (.int 100)] hs = .ok (enc p, hs1) := e1
  have o1 : dotOk (p.1, p.2) := hp
  have o2 : dotOk (a.1, a.2) := h.ok a ha
  have c := centre_least h (p.1, p.2)
  have c' : ¬ sumSt D (p.1, p.2) < (centre D).1 := by omega
  have sc : st (a.1, a.2) (p.1, p.2) = st (p.1, p.2) (a.1, a.2) := st_comm _ _
  refine ⟨enc p, enc a, hs2, ?_, hv2⟩
  simp [e1', e2', v_street o1 o2, v_street o2 o1, v_lstreet, v_sum, c', sc]
theorem v_is_right {D : List Dot} {hs : HSt} (h : DotsOk D) (h8 : ∀ p ∈ D, (-8 ≤ p.1 ∧ p.1 ≤ 8) ∧ -8 ≤ p.2 ∧ p.2 ≤ 8) (hv : HandV hs) : ∃ hs', m__law_is_right [.hand, .val (.tuple (E D))] hs = .ok (.bool true, hs') ∧ HandV hs' := by
  obtain ⟨⟨nx, ny⟩, _⟩ := box_bounds h
  obtain ⟨m, f1, f2, f3⟩ := far_is h
  have bne := box_ne h
  have lx : (xs D).length ≤ 1000 := by
    have := h.few
    unfold xs
    rw [List.length_map]
    omega
  have ly : (ys D).length ≤ 1000 := by
    have := h.few
    unfold ys
    rw [List.length_map]
    omega
  -- near, least, most
  have e1 := v_box (hs := []) h
  let R2 : Rho := [some .hand, some (.val (.tuple (E D))), some (.val (.list (E (box D)))), none, none, none, none, none, none, none, none, none, none, none, none, none]
  have e2 : lcGo (.nm 8) tYesX (pTup (aCons (pCall 2 m__law_sum (gConsP (pVar 1) (gConsP (pVar 8) gNilX))) (aCons (pVar 8) aNil))) R2 (E (box D)) hs = .ok (E ((box D).map (sumOne D)), hs) := lcE (box D) (sumOne D) fun v _ => ⟨_, rfl, by simp [R2, v_sum, sumOne]⟩
  have e3 : lcGo (.nm 8) tYesX (pTup (aCons (pCall 2 m__law_most (gConsP (pVar 1) (gConsP (pVar 8) gNilX))) (aCons (pVar 8) aNil))) R2 (E (box D)) hs = .ok (E ((box D).map (farOne D)), hs) := lcE (box D) (farOne D) fun v _ => ⟨_, rfl, by simp [R2, v_most h.ne, farOne]⟩
  have m1 : dMinL (.list (E ((box D).map (sumOne D)))) = .ok (enc (centre D)) := by
    rw [minLE (by simpa using bne), least_eq h]
  have m2 : dMinL (.list (E ((box D).map (farOne D)))) = .ok (enc m) := by
    rw [minLE (by simpa using bne), f3]
  have c1 := v_centre (hs := []) h
  have c2 := v_far (hs := []) h
  rw [f1] at c2
  -- middles
  have e4 : ∀ {a b c : Option SV}, lcGo (.nm 15) tYesX (pop2 dIx (pVar 15) (pK (.int 0))) [some .hand, some (.val (.tuple (E D))), a, b, c, none, none, none, none, none, none, none, none, none, none, none] (E D) hs = .ok (E (xs D), hs) := lcE D (·.1) fun v _ => ⟨_, rfl, by simp⟩
  have e5 : ∀ {a b c : Option SV}, lcGo (.nm 15) tYesX (pop2 dIx (pVar 15) (pK (.int 1))) [some .hand, some (.val (.tuple (E D))), a, b, c, none, none, none, none, none, none, none, none, none, none, none] (E D) hs = .ok (E (ys D), hs) := lcE D (·.2) fun v _ => ⟨_, rfl, by simp⟩
  have d1 := v_middles (hs := []) nx lx
  have d2 := v_middles (hs := []) ny ly
  have sH : sumSt D (medH (xs D), medH (ys D)) = (centre D).1 := by
    show _ = sumSt D (med (xs D), med (ys D))
    rw [sumSt_S, sumSt_S]
    show S (xs D) (medH (xs D)) + S (ys D) (medH (ys D)) = _
    rw [medH_least nx, medH_least ny]
  -- the turns
  let R3 : Option SV → Option SV → Option SV → Rho := fun a b c => [some .hand, some (.val (.tuple (E D))), some (.val (.list (E (box D)))), some (.val (.tuple [.int (centre D).1, .tuple [.int (med (xs D)), .int (med (ys D))]])), some (.val (.tuple [.int m.1, .tuple [.int m.2.1, .int m.2.2]])), some (.val (.tuple [.int (med (xs D)), .int (medH (xs D))])), some (.val (.tuple [.int (med (ys D)), .int (medH (ys D))])), a, b, c, none, none, none, none, none, none]
  obtain ⟨ρ', hs1, g1, ⟨a7, a8, a9, rfl⟩, hv1⟩ := forE (T := .nm 7) (s := turnS) (ρ := R3 none none none) (hs := hs) (rangeI 0 4) (fun d ρ hs' => (∃ a b c, ρ = R3 a b c) ∧ HandV hs') ⟨⟨none, none, none, rfl⟩, hv⟩ fun d x r ρ hs' ed q => by
    obtain ⟨⟨a, b, c, rfl⟩, hv'⟩ := q
    refine ⟨_, rfl, ?_⟩
    obtain ⟨p, a', hs2, e, hv2⟩ := turn_ok (r2 := some (.val (.list (E (box D))))) (r4 := some (.val (.tuple [.int m.1, .tuple [.int m.2.1, .int m.2.2]]))) (r5 := some (.val (.tuple [.int (med (xs D)), .int (medH (xs D))]))) (r6 := some (.val (.tuple [.int (med (ys D)), .int (medH (ys D))]))) (r7 := some (.val (.int x))) (r8 := b) (r9 := c) (r10 := none) (r11 := none) (r12 := none) (r13 := none) (r14 := none) (r15 := none) (z := .tuple [.int (med (xs D)), .int (med (ys D))]) h hv'
    exact ⟨_, hs2, e, ⟨some (.val (.int x)), some (.val p), some (.val a'), rfl⟩, hv2⟩
  -- behind the turns
  obtain ⟨b, hs2, e6, hb, hv2⟩ := dot_spec (w := 40) hv1 (by decide) (by decide)
  have e6' : m__law_dot [.hand, .val (.int 40)] hs1 = .ok (enc b, hs2) := e6
  have w := widest_ge h f2
  have hM : DotsOk (D.map (mv b)) := dots_mv h fun p hp => by
    have := h8 p hp
    unfold dotOk mv
    simp only
    omega
  have hQ := dots_mi h
  obtain ⟨m', g1', f2', _⟩ := far_is hM
  have em : m' = (m.1, mv b m.2) := f2'.unique (f2.mv h)
  obtain ⟨n, k1, k2, _⟩ := far_is hQ
  have en := far_mi h f2 k2
  have c3 := v_centre (hs := []) hM
  rw [centre_mv b h] at c3
  have c4 := v_far (hs := []) hM
  rw [g1', em] at c4
  have c5 := v_centre (hs := []) hQ
  have c5e := centre_mi h
  have c6 := v_far (hs := []) hQ
  rw [k1] at c6
  have e7 : lcGo (.nm 15) tYesX (pCall 2 m__law_most (gConsP (pVar 1) (gConsP (pVar 15) gNilX))) (R3 a7 a8 a9) (E D) hs1 = .ok (E (D.map (mostSt D)), hs1) := lcE D (mostSt D) fun v _ => ⟨_, rfl, by simp [R3, v_most h.ne]⟩
  have e7m : dMaxL (.list (E (D.map (mostSt D)))) = .ok (.int (widest D)) := mxE (by simpa using h.ne)
  have e8 : lcGo (.tp [.nm 5, .nm 6]) tYesX (pTup (aCons (pVar 6) (aCons (pop2 dSub (pK (.int 0)) (pVar 5)) aNil))) [some .hand, some (.val (.tuple (E D))), some (.val (.list (E (box D)))), some (.val (.tuple [.int (centre D).1, .tuple [.int (med (xs D)), .int (med (ys D))]])), some (.val (.tuple [.int m.1, .tuple [.int m.2.1, .int m.2.2]])), none, none, a7, a8, a9, some (.val (.int (widest D))), none, none, none, none, none] (E D) hs2 = .ok (E (D.map rot), hs2) := lcE D rot fun v _ => ⟨_, rfl, by simp [rot]⟩
  have e8s : dSorted (.list (E (D.map rot))) = .ok (.list (E (Mi D))) := sortE (D.map rot) (by
    have := h.few
    rw [List.length_map]
    unfold BIG
    omega)
  have e9 : lcGo (.tp [.nm 5, .nm 6]) tYesX (pTup (aCons (pop2 dAdd (pVar 5) (pop2 dIx (pVar 11) (pK (.int 0)))) (aCons (pop2 dAdd (pVar 6) (pop2 dIx (pVar 11) (pK (.int 1)))) aNil))) [some .hand, some (.val (.tuple (E D))), some (.val (.list (E (box D)))), some (.val (.tuple [.int (centre D).1, .tuple [.int (med (xs D)), .int (med (ys D))]])), some (.val (.tuple [.int m.1, .tuple [.int m.2.1, .int m.2.2]])), none, none, a7, a8, a9, some (.val (.int (widest D))), some (.val (.tuple [.int b.1, .int b.2])), some (.val (.tuple (E (Mi D)))), none, none, none] (E D) hs2 = .ok (E (D.map (mv b)), hs2) := lcE D (mv b) fun v _ => ⟨_, rfl, by simp [mv]⟩
  have tl := cutTailT D h.pos
  have w1 : ¬ widest D < m.1 := by omega
  have w2 : ¬ 2 * m.1 < widest D := by omega
  have mm : dMul (.int 2) (.int m.1) = .ok (.int (2 * m.1)) := d_mulL (by decide) (by decide)
  refine ⟨hs2, ?_, hv2⟩
  simp only [enc_prod, enc_int] at m1 m2 c1 c2 e6' c3 c4 c5 c6
  have g1' : forGo (.nm 7) turnS (E (rangeI 0 4)) (R3 none none none) hs = .nx (R3 a7 a8 a9) hs1 := g1
  unfold m__law_is_right semF b__law_is_right
  have cx : (centre D).2.1 = med (xs D) := rfl
  have cy : (centre D).2.2 = med (ys D) := rfl
  simp only [R3] at g1' e7
  have r4 : rOk1 4 = true := r1_of (by decide) (by decide)
  by_cases q : D.tail = []
  · simp [e1, e2, R2, e3, m1, m2, c1, c2, e4, e5, d1, d2, ne3, ne2, v_sum, sH, cx, cy, g1', e7, e7m, e8, e8s, e9, w1, w2, mm, e6', c3, c4, c5, c5e, c6, en, mv, tl, r4, q]
  · have c7 := v_centre (hs := []) (dots_tail h q)
    have c8 := centre_tail h q
    have q1 : ¬ ((D.length - 1 : Nat) : Int) = 0 := by
      intro z
      apply q
      apply List.length_eq_zero_iff.mp
      rw [List.length_tail]
      omega
    simp only [enc_prod, enc_int] at c7
    simp [e1, e2, R2, e3, m1, m2, c1, c2, e4, e5, d1, d2, ne3, ne2, v_sum, sH, cx, cy, g1', e7, e7m, e8, e8s, e9, w1, w2, mm, e6', c3, c4, c5, c5e, c6, en, mv, tl, r4, c7, c8, q1]
end K87
namespace K87
open PySem PySem.Spec PyProof.Rows L3 L4 L5
open Enc (enc)
theorem v_dots {hs : HSt} (hv : HandV hs) : ∃ D hs', m__law_dots [.hand] hs = .ok (.tuple (E D), hs') ∧ DotsOk D ∧ (∀ p ∈ D, (-8 ≤ p.1 ∧ p.1 ≤ 8) ∧ -8 ≤ p.2 ∧ p.2 ≤ 8) ∧ HandV hs' := by
  obtain ⟨w, hw, hs1, e1, hv1⟩ := any_list (l := ([1, 2, 4, 8] : List Int)) hv (by simp) (by decide)
  have e1' : m__law_any [.hand, .val (.list [.int 1, .int 2, .int 4, .int 8])] hs = .ok (.int w, hs1) := e1
  have hw8 : 0 ≤ w ∧ w ≤ 8 := by
    simp at hw
    omega
  obtain ⟨d, hs2, e2, h1, h2, hv2⟩ := draw_spec (many := 9) hv1 (by decide) (by decide)
  have e2' : m__law_draw [.hand, .val (.int 9)] hs1 = .ok (.int d, hs2) := e2
  obtain ⟨qs, hs3, e3, h3, h4, hv3⟩ := lchE (β := Dot × Bool) (T := .nm 2) (ρ := [some .hand, some (.val (.int w)), none]) (f := pTup (aCons (pCallH 2 m__law_dot (gConsR 0 (gConsP (pVar 1) gNilX))) (aCons (pK (.bool true)) aNil))) (Iv := HandV) (P := fun y => -w ≤ y.1.1 ∧ y.1.1 ≤ w ∧ -w ≤ y.1.2 ∧ y.1.2 ≤ w) (rangeI 0 (1 + d)) (fun x _ hs hv => by
    obtain ⟨p, hs', e, hp, hv'⟩ := dot_spec (w := w) hv (by omega) (by omega)
    have e' : m__law_dot [.hand, .val (.int w)] hs = .ok (enc p, hs') := e
    exact ⟨_, rfl, (p, true), hs', by simp [e'], hp, hv'⟩) hv2
  rw [rangeI_len] at h3
  have lq : qs.length ≤ 9 := by omega
  have lq1 : 1 ≤ qs.length := by omega
  have sd : dSortedDict (.list (E qs)) = .ok (.list (E (uniq (qs.map (·.1))))) := sortDictE (fun _ => rfl) qs (by unfold BIG; omega)
  have r1 : rOk1 (1 + d) = true := r1_of (by omega) (by omega)
  refine ⟨uniq (qs.map (·.1)), hs3, ?_, ⟨uniq_inc _, ?_, ?_, fun p hp => ?_⟩, fun p hp => ?_, hv3⟩
  · simp only [m__law_dots, semF, b__law_dots]
    simp [e1', e2', r1, e3, sd]
  · have : (qs.map (·.1)) ≠ [] := by
      intro e
      have := congrArg List.length e
      rw [List.length_map] at this
      simp at this
      rw [this] at lq1
      simp at lq1
    obtain ⟨x, hx⟩ := List.exists_mem_of_ne_nil _ this
    exact List.length_pos_iff.mpr (List.ne_nil_of_mem (mem_uniq.mpr hx))
  · have := uniq_len (qs.map (·.1))
    rw [List.length_map] at this
    omega
  · obtain ⟨q, hq, rfl⟩ := List.mem_map.mp (mem_uniq.mp hp)
    have := h4 q hq
    unfold dotOk
    omega
  · obtain ⟨q, hq, rfl⟩ := List.mem_map.mp (mem_uniq.mp hp)
    have := h4 q hq
    omega
abbrev D3 : List Dot := [(0, 0), (0, 4), (3, 1)]
theorem ok3 : DotsOk D3 where
  inc := by
    unfold Inc
    decide
  pos := by decide
  few := by decide
  ok := by unfold dotOk; decide
theorem srt {l : List Int} (m : List Int) (p : m.isPerm l = true) (h : m.Pairwise fun a b => EncO.lt b a = false) : sortA l = m := sortA_eq (List.isPerm_iff.mp p) h
theorem centre3 : centre D3 = (7, (0, 1)) := by
  have e1 : med (xs D3) = 0 := by
    unfold med
    rw [srt [0, 0, 3] (by decide) (by decide)]
    rfl
  have e2 : med (ys D3) = 1 := by
    unfold med
    rw [srt [0, 1, 4] (by decide) (by decide)]
    rfl
  unfold centre
  rw [e1, e2]
  decide
theorem far_by {D : List Dot} {m : Int × Dot} (h : DotsOk D) (f : Far D m) : bestOf ((box D).map (farOne D)) = enc m := by
  obtain ⟨n, h1, h2, _⟩ := far_is h
  rw [h1, f.unique h2]
theorem far3 : bestOf ((box D3).map (farOne D3)) = enc ((3, (0, 1)) : Int × Dot) := far_by ok3 ⟨by decide +kernel, by decide +kernel, by decide +kernel⟩
abbrev D1 : List Dot := [(2, 2)]
theorem ok1 : DotsOk D1 where
  inc := by
    unfold Inc
    decide
  pos := by decide
  few := by decide
  ok := by unfold dotOk; decide
theorem centre1 : centre D1 = (0, (2, 2)) := by
  have e1 : med (xs D1) = 2 := by
    unfold med
    rw [srt [2] (by decide) (by decide)]
    rfl
  have e2 : med (ys D1) = 2 := by
    unfold med
    rw [srt [2] (by decide) (by decide)]
    rfl
  unfold centre
  rw [e1, e2]
  decide
theorem far1 : bestOf ((box D1).map (farOne D1)) = enc ((0, (2, 2)) : Int × Dot) := far_by ok1 ⟨by decide +kernel, by decide +kernel, by decide +kernel⟩
theorem two_ok {a b : Dot} (h : a ≠ b) (ha : dotOk a) (hb : dotOk b) : DotsOk (sortA [a, b]) where
  inc := by
    refine inc_of (sortA_sorted _) ((sortA_perm _).nodup_iff.mpr ?_)
    simpa using h
  pos := by rw [sortA_len]; simp
  few := by rw [sortA_len]; simp
  ok := fun p hp => by
    have := mem_sortA.mp hp
    simp at this
    rcases this with q | q <;> rw [q] <;> assumption
theorem two_centre {a b : Dot} (h : a ≠ b) (ha : dotOk a) (hb : dotOk b) : (centre (sortA [a, b])).1 = st a b := by
  have ok := two_ok h ha hb
  have s : ∀ p, sumSt (sortA [a, b]) p = st p a + st p b := fun p => by
    unfold sumSt
    rw [sum_perm ((sortA_perm _).map _)]
    simp
  have h1 := centre_least ok a
  rw [s] at h1
  have h2 := st_tri a b (centre (sortA [a, b])).2
  have e : (centre (sortA [a, b])).1 = sumSt (sortA [a, b]) (centre (sortA [a, b])).2 := rfl
  rw [s] at e
  have : st a a = 0 := by unfold st; omega
  omega
theorem plain : Plain := by
  intro ns hl
  obtain ⟨hs0, e0, hv0⟩ := hand_spec 87 17 ns
  have e0' : m__law_hand [.scr ns] [] = .ok (.list hs0, []) := e0
  obtain ⟨a, hs1, e1, ha, hv1⟩ := dot_spec (w := 50) hv0 (by decide) (by decide)
  obtain ⟨b, hs2, e2, hb, hv2⟩ := dot_spec (w := 50) hv1 (by decide) (by decide)
  have e1' : m__law_dot [.hand, .val (.int 50)] hs0 = .ok (enc a, hs1) := e1
  have e2' : m__law_dot [.hand, .val (.int 50)] hs1 = .ok (enc b, hs2) := e2
  have oa : dotOk a := by unfold dotOk; omega
  have ob : dotOk b := by unfold dotOk; omega
  have k1 : m_street [.val (.tuple [.int 0, .int 0]), .val (.tuple [.int 3, .int (-4)])] [] = .ok (.int 7, []) := v_street (by unfold dotOk; decide) (by unfold dotOk; decide)
  have k2 : m_street_centre [.val (.tuple [.tuple [.int 0, .int 0], .tuple [.int 0, .int 4], .tuple [.int 3, .int 1]])] [] = .ok (.tuple [.int 7, .tuple [.int 0, .int 1]], []) := by
    have := v_centre (hs := []) ok3
    rw [centre3] at this
    exact this
  have k3 : m_far_street [.val (.tuple [.tuple [.int 0, .int 0], .tuple [.int 0, .int 4], .tuple [.int 3, .int 1]])] [] = .ok (.tuple [.int 3, .tuple [.int 0, .int 1]], []) := by
    have := v_far (hs := []) ok3
    rw [far3] at this
    exact this
  have k4 : m_street_centre [.val (.tuple [.tuple [.int 2, .int 2]])] [] = .ok (.tuple [.int 0, .tuple [.int 2, .int 2]], []) := by
    have := v_centre (hs := []) ok1
    rw [centre1] at this
    exact this
  have k5 : m_far_street [.val (.tuple [.tuple [.int 2, .int 2]])] [] = .ok (.tuple [.int 0, .tuple [.int 2, .int 2]], []) := by
    have := v_far (hs := []) ok1
    rw [far1] at this
    exact this
  let T : PyData := .list [.int 7, .tuple [.int 7, .tuple [.int 0, .int 1]], .tuple [.int 3, .tuple [.int 0, .int 1]], .tuple [.int 0, .tuple [.int 2, .int 2]]]
  have k6 : dNe (.list [.int 7, .tuple [.int 7, .tuple [.int 0, .int 1]], .tuple [.int 3, .tuple [.int 0, .int 1]], .tuple [.int 0, .tuple [.int 2, .int 2]]]) (.list [.int 7, .tuple [.int 7, .tuple [.int 0, .int 1]], .tuple [.int 3, .tuple [.int 0, .int 1]], .tuple [.int 0, .tuple [.int 2, .int 2]]]) = .ok (.bool false) := by
    have sh : SeqAt.shaped T = true := by decide +kernel
    have eq : PyData.eqv T T = true := by decide +kernel
    show (if SeqAt.shaped T = true ∧ SeqAt.shaped T = true then Res.ok (PyData.bool (!PyData.eqv T T)) else .fail) = _
    rw [if_pos ⟨sh, sh⟩, eq]
    rfl
  have r3 : rOk1 3 = true := r1_of (by decide) (by decide)
  have last : ∀ ρ : Rho, ρ[1]? = some (some .hand) → ρ.length = 7 → ∃ ys hs', lcGo (.nm 6) tYesX (pCallH 2 m__law_is_right (gConsR 1 (gConsP (pCallH 1 m__law_dots (gConsR 1 gNilX)) gNilX))) ρ (E (rangeI 0 3)) hs2 = .ok (E ys, hs') ∧ ys.length = (rangeI 0 3).length ∧ (∀ y ∈ ys, y = true) ∧ HandV hs' := fun ρ h1 h7 => by
    refine lchE (β := Bool) (Iv := HandV) (P := fun y => y = true) (rangeI 0 3) (fun x _ hs hv => ?_) hv2
    obtain ⟨D, hs', e, h1', h2', hv'⟩ := v_dots hv
    obtain ⟨hs'', g, hv''⟩ := v_is_right h1' h2' hv'
    refine ⟨ρ.set 6 (some (.val (enc x))), by simp [h7], true, hs'', ?_, rfl, hv''⟩
    simp [h1, e, g]
  obtain ⟨ys, hs3, f1, f2, f3, f4⟩ := last [some (.scr ns), some .hand, some (.val (.tuple [.tuple [.int 0, .int 0], .tuple [.int 0, .int 4], .tuple [.int 3, .int 1]])), some (.val T), some (.val (enc a)), some (.val (enc b)), none] rfl rfl
  have fa : ys.all id = true := List.all_eq_true.mpr f3
  refine ⟨hs3, ?_⟩
  simp only [enc_prod, enc_int, T] at f1 e1' e2'
  unfold m_law semF b_law
  by_cases q : a = b
  · subst q
    simp [e0', k1, k2, k3, k4, k5, k6, ne3, ne2, e1', e2', r3, f1, fa]
  · have c1 := v_centre (hs := []) (two_ok q oa ob)
    have c2 := two_centre q oa ob
    have q' : ¬(a.1 = b.1 ∧ a.2 = b.2) := fun z => q (Prod.ext z.1 z.2)
    have sd : dSorted (.list [.tuple [.int a.1, .int a.2], .tuple [.int b.1, .int b.2]]) = .ok (.list (E (sortA [a, b]))) := sortE [a, b] (by simp; decide)
    simp only [enc_prod, enc_int] at c1
    simp [e0', k1, k2, k3, k4, k5, k6, ne3, ne2, e1', e2', r3, f1, fa, q', sd, c1, c2, v_lstreet]
end K87
open PySem PySem.W PyProof.Rows
set_option maxHeartbeats 0 in
theorem PySem.Challenge.cw_griddots_k87_whole_streets_and_their_mid_holds : PySem.Challenge.rw_griddots_k87_whole_streets_and_their_mid.Holds := by
  w_on; o_law; k_head; (case hw => w_witness2)
  k_fill
  refine L2.walk_of (l := PySem.Challenge.rw_griddots_k87_whole_streets_and_their_mid) (n := 63) (k := 8) (x := "script") (CX := fun w => L2.CX PySem.Challenge.rw_griddots_k87_whole_streets_and_their_mid.prog w) (sp := fun w => L3.spL _ 1 K87.m_law) rfl (by decide) rfl ⟨rfl, by decide, by decide⟩ (fun w h Y => PySem.W.kIn_of Y) ?F (fun _ _ a ns hl _ hS => ⟨a, ns, rfl, hS, rfl, true, (K87.plainAt K87.plain) hl, fun _ => rfl⟩) (fun _ _ _ _ _ h => L3.cx_false h)
  case F =>
    intro w mg fa h KX G hmg
    refine' K87.all_mk KX G hmg ?a0 ?l0 ?c0 ?k0 ?a1 ?l1 ?c1 ?k1 ?a2 ?l2 ?c2 ?k2 ?a3 ?l3 ?c3 ?k3 ?a4 ?l4 ?c4 ?k4 ?a5 ?l5 ?c5 ?k5 ?a6 ?l6 ?c6 ?k6 ?a7 ?l7 ?c7 ?k7 ?a8 ?l8 ?c8 ?k8 ?a9 ?l9 ?c9 ?k9 ?a10 ?l10 ?c10 ?k10 ?a11 ?l11 ?c11 ?k11 ?a12 ?l12 ?c12 ?k12 ?a13 ?l13 ?c13 ?k13 ?a14 ?l14 ?c14 ?k14 ?a15 ?l15 ?c15 ?k15 ?a16 ?l16 ?c16 ?k16 ?a17 ?l17 ?c17 ?k17 ?a18 ?l18 ?c18 ?k18 ?a19 ?l19 ?c19 ?k19 ?a20 ?l20 ?c20 ?k20 ?a21 ?l21 ?c21 ?k21 ?a22 ?l22 ?c22 ?k22 ?n0 ?n1 ?z0 ?z1 ?z2 ?z3 ?z4 ?z5 ?z6 ?z7 ?z8 ?z9 ?z10 ?z11 ?z12 ?z13 ?z14 ?z15 ?z16 ?z17 ?z18 ?z19
    (case a0 => k_is); (case l0 => k_is); (case c0 => k_is); (case k0 => k_is); (case a1 => k_is); (case l1 => k_is); (case c1 => k_is); (case k1 => k_is); (case a2 => k_is); (case l2 => k_is); (case c2 => k_is); (case k2 => k_is); (case a3 => k_is); (case l3 => k_is); (case c3 => k_is); (case k3 => k_is); (case a4 => k_is); (case l4 => k_is); (case c4 => k_is); (case k4 => k_is); (case a5 => k_is); (case l5 => k_is); (case c5 => k_is); (case k5 => k_is); (case a6 => k_is); (case l6 => k_is); (case c6 => k_is); (case k6 => k_is); (case a7 => k_is); (case l7 => k_is); (case c7 => k_is); (case k7 => k_is); (case a8 => k_is); (case l8 => k_is); (case c8 => k_is); (case k8 => k_is); (case a9 => k_is); (case l9 => k_is); (case c9 => k_is); (case k9 => k_is); (case a10 => k_is); (case l10 => k_is); (case c10 => k_is); (case k10 => k_is); (case a11 => k_is); (case l11 => k_is); (case c11 => k_is); (case k11 => k_is); (case a12 => k_is); (case l12 => k_is); (case c12 => k_is); (case k12 => k_is); (case a13 => k_is); (case l13 => k_is); (case c13 => k_is); (case k13 => k_is); (case a14 => k_is); (case l14 => k_is); (case c14 => k_is); (case k14 => k_is); (case a15 => k_is); (case l15 => k_is); (case c15 => k_is); (case k15 => k_is); (case a16 => k_is); (case l16 => k_is); (case c16 => k_is); (case k16 => k_is); (case a17 => k_is); (case l17 => k_is); (case c17 => k_is); (case k17 => k_is); (case a18 => k_is); (case l18 => k_is); (case c18 => k_is); (case k18 => k_is); (case a19 => k_is); (case l19 => k_is); (case c19 => k_is); (case k19 => k_is); (case a20 => k_is); (case l20 => k_is); (case c20 => k_is); (case k20 => k_is); (case a21 => k_is); (case l21 => k_is); (case c21 => k_is); (case k21 => k_is); (case a22 => k_is); (case l22 => k_is); (case c22 => k_is); (case k22 => k_is); (case n0 => k_is); (case n1 => k_is); (case z0 => k_is); (case z1 => k_is); (case z2 => k_is); (case z3 => k_is); (case z4 => k_is); (case z5 => k_is); (case z6 => k_is); (case z7 => k_is); (case z8 => k_is); (case z9 => k_is); (case z10 => k_is); (case z11 => k_is); (case z12 => k_is); (case z13 => k_is); (case z14 => k_is); (case z15 => k_is); (case z16 => k_is); (case z17 => k_is); (case z18 => k_is); (case z19 => k_is)
