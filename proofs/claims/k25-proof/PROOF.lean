import PyProof.Rows.All
import Wide.All
import OpenK.AllK
import Wide.FinOn
import HandS.ForMost
import HandS.Exc
import HandS.Walk
import HandS.Defaults
import HandS.HeadHook2
import HandS.HeadHook3
import HandS.HeadEnd
import HandS.IsInst
import HandS.Style
import HandS.Flow
import HandS.TupAny
import HandS.TupMul
import HandS.Text
import HandS.WideBits
import HandS.WordsDict
import HandS.RaiseMore
import PyProof.ReprLen
import HandS.Iter
import HandS.Zip
import HandS.Comp
import HandS.Dict
import HandS.Ends
import KE.GoesEnum
import PyProof.EnumMake
import PyProof.ListStr
import PyProof.P3Eq
import PyProof.StrLawsIn
import KE.KStateDown
import HandS.More
import HandS.Words
import HandS.WordsExc
import HandS.Head0
import HandS.Head1
import HandS.Head2
import HandS.HeadHook1
import PySem.Challenge.RW_needlecards_k25_the_first_row_that_parts
set_option Elab.async false
set_option linter.all false
set_option maxRecDepth 100000
set_option maxHeartbeats 4000000
namespace Nd
open PySem L2 PyProof.Rows PySem.Spec

/-! data -/
inductive D where
  | non | bl (b : Bool) | int (i : Int) | str (x : Str)
  | lst (ds : List D) | tup (ds : List D) | dct (kvs : List (Key × D))
  | obj (C : Addr) (fs : List (Str × D))
  | ro (ds : List D)
  | cel (a : Addr)
  | cls (c : V)

/-- a cell that may change -/
inductive Cl where
  | box (n : Nat)
  | lst (ds : List D)
  | dct (kvs : List (Key × D))
  | ins (C : Addr) (fs : List (Str × D))
abbrev Mu := Addr → Option Cl
def Mu.put (m : Mu) (a : Addr) (c : Option Cl) : Mu := fun b => if b = a then c else m b
theorem Mu.put_same {m : Mu} {a : Addr} {c : Option Cl} : m.put a c a = c := if_pos rfl
theorem Mu.put_ne {m : Mu} {a b : Addr} {c : Option Cl} (h : b ≠ a) : m.put a c b = m b := if_neg h

/-- the items of the written part's tuple at p -/
def KT (K : PySem.W.Frag) (p : Addr) (vs : List V) : Prop :=
  ∃ (o : Obj) (its : Array Value) (n : Nat), K.lookup p = some o ∧ o.cls = .type "tuple" ∧ o.data = .seq its n ∧ its.size ≤ sizeLine ∧ Vals vs its.toList
def KL (K : PySem.W.Frag) (p : Addr) (vs : List V) : Prop :=
  ∃ (o : Obj) (its : Array Value) (n : Nat), K.lookup p = some o ∧ o.cls = .type "list" ∧ o.dict = none ∧ o.data = .seq its n ∧ its.size ≤ sizeLine ∧ Vals vs its.toList

mutual
inductive Dt (K : PySem.W.Frag) (m : Mu) (H : Hp) : V → D → Prop
  | non : Dt K m H .non .non
  | bl (b : Bool) : Dt K m H (.bl b) (.bl b)
  | int (i : Int) : Dt K m H (.int i) (.int i)
  | str (x : Str) : Dt K m H (.str x) (.str x)
  | lst {p : Addr} {vs : List V} {ds : List D} : H p = some (.lst vs) → m p = none → Dts K m H vs ds → Dt K m H (.ref p) (.lst ds)
  | tup {p : Addr} {vs : List V} {ds : List D} : (H p = some (.tup vs) ∧ m p = none) ∨ KT K p vs → Dts K m H vs ds → Dt K m H (.ref p) (.tup ds)
  | dct {p : Addr} {kv : List (Key × V)} {kd : List (Key × D)} : H p = some (.dK kv) → m p = none → Dks K m H kv kd → Dt K m H (.ref p) (.dct kd)
  | obj {p C dx : Addr} {fv : List (Str × V)} {fd : List (Str × D)} : H p = some (.ins C dx fv) → m p = none → Dfs K m H fv fd → Dt K m H (.ref p) (.obj C fd)
  | ro {p : Addr} {vs : List V} {ds : List D} : (Rd H p (.lst vs) ∧ m p = none) ∨ KL K p vs → Dts K m H vs ds → Dt K m H (.ref p) (.ro ds)
  | cel (a : Addr) : Dt K m H (.ref a) (.cel a)
  | cls (c : V) : Dt K m H c (.cls c)
inductive Dts (K : PySem.W.Frag) (m : Mu) (H : Hp) : List V → List D → Prop
  | nil : Dts K m H [] []
  | cons {v : V} {vs : List V} {d : D} {ds : List D} : Dt K m H v d → Dts K m H vs ds → Dts K m H (v :: vs) (d :: ds)
inductive Dks (K : PySem.W.Frag) (m : Mu) (H : Hp) : List (Key × V) → List (Key × D) → Prop
  | nil : Dks K m H [] []
  | cons {k : Key} {v : V} {vs : List (Key × V)} {d : D} {ds : List (Key × D)} : Dt K m H v d → Dks K m H vs ds → Dks K m H ((k, v) :: vs) ((k, d) :: ds)
inductive Dfs (K : PySem.W.Frag) (m : Mu) (H : Hp) : List (Str × V) → List (Str × D) → Prop
  | nil : Dfs K m H [] []
  | cons {k : Str} {v : V} {vs : List (Str × V)} {d : D} {ds : List (Str × D)} : Dt K m H v d → Dfs K m H vs ds → Dfs K m H ((k, v) :: vs) ((k, d) :: ds)
end

/-- what may have come to pass: what is tracked and no cell is as it was; cells are old ones or new objects -/
structure Ext (m : Mu) (H : Hp) (m' : Mu) (H' : Hp) : Prop where
  keep : ∀ p o, H p = some o → m p = none → H' p = some o
  dom : ∀ a, m' a ≠ none → m a ≠ none ∨ H a = none
theorem Ext.refl (m : Mu) (H : Hp) : Ext m H m H := ⟨fun _ _ h _ => h, fun _ h => .inl h⟩
theorem Ext.at {m m' : Mu} {H H' : Hp} (e : Ext m H m' H') {p : Addr} {o : HO} (h : H p = some o) (n : m p = none) : H' p = some o ∧ m' p = none := by
  refine ⟨e.keep p o h n, ?_⟩
  cases q : m' p with
  | none => rfl
  | some c =>
    rcases e.dom p (by rw [q]; simp) with z | z
    · exact absurd n z
    · rw [h] at z; cases z
/-- cells are tracked -/
structure CellsIn (m : Mu) (H : Hp) : Prop where
  at_ : ∀ a, m a ≠ none → H a ≠ none
theorem Ext.trans {m m1 m2 : Mu} {H H1 H2 : Hp} (a : Ext m H m1 H1) (b : Ext m1 H1 m2 H2) (c : CellsIn m1 H1) : Ext m H m2 H2 where
  keep := fun p o h n => let ⟨h1, n1⟩ := a.at h n; b.keep p o h1 n1
  dom := fun x hx => by
    rcases b.dom x hx with z | z
    · exact a.dom x z
    · by_cases q : H x = none
      · exact .inr q
      · left
        intro n
        cases hq : H x with
        | none => exact q hq
        | some o =>
          have := (a.at hq n).1
          rw [z] at this; cases this

mutual
theorem Dt.ext {K : PySem.W.Frag} {m m' : Mu} {H H' : Hp} (e : Ext m H m' H') : ∀ {v : V} {d : D}, Dt K m H v d → Dt K m' H' v d
  | _, _, .non => .non
  | _, _, .bl b => .bl b
  | _, _, .int i => .int i
  | _, _, .str x => .str x
  | _, _, .lst h n t => .lst (e.at h n).1 (e.at h n).2 (t.ext e)
  | _, _, .tup (.inl ⟨h, n⟩) t => .tup (.inl (e.at h n)) (t.ext e)
  | _, _, .tup (.inr h) t => .tup (.inr h) (t.ext e)
  | _, _, .dct h n t => .dct (e.at h n).1 (e.at h n).2 (t.ext e)
  | _, _, .obj h n t => .obj (e.at h n).1 (e.at h n).2 (t.ext e)
  | _, _, .ro (.inl ⟨.inl h, n⟩) t => .ro (.inl ⟨.inl (e.at h n).1, (e.at h n).2⟩) (t.ext e)
  | _, _, .ro (.inl ⟨.inr ⟨o, h⟩, n⟩) t => .ro (.inl ⟨.inr ⟨o, (e.at h n).1⟩, (e.at h n).2⟩) (t.ext e)
  | _, _, .ro (.inr h) t => .ro (.inr h) (t.ext e)
  | _, _, .cel a => .cel a
  | _, _, .cls c => .cls c
theorem Dts.ext {K : PySem.W.Frag} {m m' : Mu} {H H' : Hp} (e : Ext m H m' H') : ∀ {v : List V} {d : List D}, Dts K m H v d → Dts K m' H' v d
  | _, _, .nil => .nil
  | _, _, .cons h t => .cons (h.ext e) (t.ext e)
theorem Dks.ext {K : PySem.W.Frag} {m m' : Mu} {H H' : Hp} (e : Ext m H m' H') : ∀ {v : List (Key × V)} {d : List (Key × D)}, Dks K m H v d → Dks K m' H' v d
  | _, _, .nil => .nil
  | _, _, .cons h t => .cons (h.ext e) (t.ext e)
theorem Dfs.ext {K : PySem.W.Frag} {m m' : Mu} {H H' : Hp} (e : Ext m H m' H') : ∀ {v : List (Str × V)} {d : List (Str × D)}, Dfs K m H v d → Dfs K m' H' v d
  | _, _, .nil => .nil
  | _, _, .cons h t => .cons (h.ext e) (t.ext e)
end
theorem Dts.length {K : PySem.W.Frag} {m : Mu} {H : Hp} : ∀ {v : List V} {d : List D}, Dts K m H v d → v.length = d.length
  | _, _, .nil => rfl
  | _, _, .cons _ t => congrArg (· + 1) t.length
theorem Dts.get {K : PySem.W.Frag} {m : Mu} {H : Hp} : ∀ {v : List V} {d : List D} {i : Nat} {x : D}, Dts K m H v d → d[i]? = some x → ∃ y, v[i]? = some y ∧ Dt K m H y x
  | _, _, _, _, .nil, e => by simp at e
  | _, _, 0, _, .cons h _, e => by simp at e; subst e; exact ⟨_, rfl, h⟩
  | _, _, i + 1, _, .cons _ t, e => by
    obtain ⟨y, h1, h2⟩ := Dts.get (i := i) t (by simpa using e)
    exact ⟨y, by simpa using h1, h2⟩
theorem Dts.get' {K : PySem.W.Frag} {m : Mu} {H : Hp} : ∀ {v : List V} {d : List D} {i : Nat} {y : V}, Dts K m H v d → v[i]? = some y → ∃ x, d[i]? = some x ∧ Dt K m H y x
  | _, _, _, _, .nil, e => by simp at e
  | _, _, 0, _, .cons h _, e => by simp at e; subst e; exact ⟨_, rfl, h⟩
  | _, _, i + 1, _, .cons _ t, e => by
    obtain ⟨y, h1, h2⟩ := Dts.get' (i := i) t (by simpa using e)
    exact ⟨y, by simpa using h1, h2⟩
theorem Dts.append {K : PySem.W.Frag} {m : Mu} {H : Hp} : ∀ {v w : List V} {d e : List D}, Dts K m H v d → Dts K m H w e → Dts K m H (v ++ w) (d ++ e)
  | _, _, _, _, .nil, h => h
  | _, _, _, _, .cons h t, q => .cons h (t.append q)
theorem Dts.take {K : PySem.W.Frag} {m : Mu} {H : Hp} : ∀ {v : List V} {d : List D} (n : Nat), Dts K m H v d → Dts K m H (v.take n) (d.take n)
  | _, _, 0, _ => .nil
  | _, _, _ + 1, .nil => .nil
  | _, _, n + 1, .cons h t => .cons h (t.take n)
theorem Dts.drop {K : PySem.W.Frag} {m : Mu} {H : Hp} : ∀ {v : List V} {d : List D} (n : Nat), Dts K m H v d → Dts K m H (v.drop n) (d.drop n)
  | _, _, 0, h => h
  | _, _, _ + 1, .nil => .nil
  | _, _, n + 1, .cons _ t => t.drop n
theorem Dts.set {K : PySem.W.Frag} {m : Mu} {H : Hp} {y : V} {x : D} (q : Dt K m H y x) : ∀ {v : List V} {d : List D} (n : Nat), Dts K m H v d → Dts K m H (v.set n y) (d.set n x)
  | _, _, _, .nil => .nil
  | _, _, 0, .cons h t => .cons q t
  | _, _, n + 1, .cons h t => .cons h (t.set q n)
theorem Dts.eraseIdx {K : PySem.W.Frag} {m : Mu} {H : Hp} : ∀ {v : List V} {d : List D} (n : Nat), Dts K m H v d → Dts K m H (v.eraseIdx n) (d.eraseIdx n)
  | _, _, _, .nil => .nil
  | _, _, 0, .cons h t => t
  | _, _, n + 1, .cons h t => .cons h (t.eraseIdx n)
theorem Dts.reverse {K : PySem.W.Frag} {m : Mu} {H : Hp} : ∀ {v : List V} {d : List D}, Dts K m H v d → Dts K m H v.reverse d.reverse
  | _, _, .nil => .nil
  | _, _, .cons h t => by rw [List.reverse_cons, List.reverse_cons]; exact t.reverse.append (.cons h .nil)

/-- a cell as it stands -/
def Ck (K : PySem.W.Frag) (m : Mu) (H : Hp) (a : Addr) : Cl → Prop
  | .box n => ∃ x y z : Int, H a = some (.lst [.int x, .int y, .int z]) ∧ 0 ≤ y ∧ y < 2147483647 ∧ 0 ≤ z ∧ z ≤ n
  | .lst ds => ∃ vs, H a = some (.lst vs) ∧ Dts K m H vs ds
  | .dct kd => ∃ kv, H a = some (.dK kv) ∧ Dks K m H kv kd
  | .ins C fd => ∃ dx fv, H a = some (.ins C dx fv) ∧ Dfs K m H fv fd
def Ok (K : PySem.W.Frag) (m : Mu) (H : Hp) : Prop := ∀ a c, m a = some c → Ck K m H a c
theorem Ck.there {K : PySem.W.Frag} {m : Mu} {H : Hp} {a : Addr} {c : Cl} (h : Ck K m H a c) : H a ≠ none := by
  cases c with
  | box n => obtain ⟨_, _, _, e, _⟩ := h; rw [e]; simp
  | lst ds => obtain ⟨_, e, _⟩ := h; rw [e]; simp
  | dct ds => obtain ⟨_, e, _⟩ := h; rw [e]; simp
  | ins C ds => obtain ⟨_, _, e, _⟩ := h; rw [e]; simp
theorem Ok.cells {K : PySem.W.Frag} {m : Mu} {H : Hp} (o : Ok K m H) : CellsIn m H := ⟨fun a h => by
  cases q : m a with
  | none => exact absurd q h
  | some c => exact (o a c q).there⟩
/-- a new object that is no cell -/
theorem ext_new {m : Mu} {H : Hp} {p : Addr} {o : HO} (hp : H p = none) : Ext m H m (upd H p o) :=
  ⟨fun q u h _ => by rw [upd_ne (ne_of_none h hp)]; exact h, fun _ h => .inl h⟩
theorem Ck.ext {K : PySem.W.Frag} {m m' : Mu} {H H' : Hp} {a : Addr} {c : Cl} (e : Ext m H m' H') (ha : H' a = H a) (h : Ck K m H a c) : Ck K m' H' a c := by
  cases c with
  | box n => obtain ⟨x, y, z, q, r⟩ := h; exact ⟨x, y, z, ha.trans q, r⟩
  | lst ds => obtain ⟨vs, q, r⟩ := h; exact ⟨vs, ha.trans q, r.ext e⟩
  | dct ds => obtain ⟨vs, q, r⟩ := h; exact ⟨vs, ha.trans q, r.ext e⟩
  | ins C ds => obtain ⟨dx, vs, q, r⟩ := h; exact ⟨dx, vs, ha.trans q, r.ext e⟩
theorem ok_new {K : PySem.W.Frag} {m : Mu} {H : Hp} {p : Addr} {o : HO} (ok : Ok K m H) (hp : H p = none) : Ok K m (upd H p o) := fun a c h =>
  (ok a c h).ext (ext_new hp) (upd_ne fun z => (ok a c h).there (z ▸ hp))
theorem mu_none {K : PySem.W.Frag} {m : Mu} {H : Hp} {p : Addr} (ok : Ok K m H) (hp : H p = none) : m p = none := by
  cases q : m p with
  | none => rfl
  | some c => exact absurd hp (ok p c q).there

/-! slots -/
abbrev Env := List (Option D)
structure Sl (K : PySem.W.Frag) (m : Mu) (H : Hp) (σ : L2.St) (ρ : Env) : Prop where
  len : ρ.length = σ.length
  at_ : ∀ (i : Nat) (d : D), ρ[i]? = some (some d) → ∃ v, σ[i]? = some (some v) ∧ Dt K m H v d
theorem Sl.ext {K : PySem.W.Frag} {m m' : Mu} {H H' : Hp} {σ : L2.St} {ρ : Env} (s : Sl K m H σ ρ) (e : Ext m H m' H') : Sl K m' H' σ ρ :=
  ⟨s.len, fun i d h => let ⟨v, h1, h2⟩ := s.at_ i d h; ⟨v, h1, h2.ext e⟩⟩
theorem Sl.set {K : PySem.W.Frag} {m : Mu} {H : Hp} {σ : L2.St} {ρ : Env} (s : Sl K m H σ ρ) {v : V} {d : D} (q : Dt K m H v d) (i : Nat) : Sl K m H (σ.set i (some v)) (ρ.set i (some d)) := by
  refine ⟨by rw [List.length_set, List.length_set, s.len], fun j x h => ?_⟩
  by_cases e : i = j
  · subst e
    have hi : i < ρ.length := by
      by_cases hi : i < ρ.length
      · exact hi
      · rw [List.getElem?_eq_none (by rw [List.length_set]; omega)] at h; cases h
    rw [List.getElem?_set_self hi] at h
    cases h
    exact ⟨v, List.getElem?_set_self (by rw [← s.len]; exact hi), q⟩
  · rw [List.getElem?_set_ne e] at h ⊢
    exact s.at_ j x h
/-- a slot is forgotten -/
theorem Sl.drop {K : PySem.W.Frag} {m : Mu} {H : Hp} {σ : L2.St} {ρ : Env} (s : Sl K m H σ ρ) (i : Nat) : Sl K m H (σ.set i none) (ρ.set i none) := by
  refine ⟨by rw [List.length_set, List.length_set, s.len], fun j x h => ?_⟩
  by_cases e : i = j
  · subst e
    have hi : i < ρ.length := by
      by_cases hi : i < ρ.length
      · exact hi
      · rw [List.getElem?_eq_none (by rw [List.length_set]; omega)] at h; cases h
    rw [List.getElem?_set_self hi] at h
    cases h
  · rw [List.getElem?_set_ne e] at h ⊢
    exact s.at_ j x h

/-! exceptions as data -/
structure XD where
  cls : Value
  fs : List (Str × D)
def XDt (K : PySem.W.Frag) (m : Mu) (H : Hp) (x : XD) (c : Value) (d : Option Addr) : Prop :=
  x.cls = c ∧ ((x.fs = [] ∧ d = none) ∨ ∃ dx fv, d = some dx ∧ H dx = some (.xd fv) ∧ m dx = none ∧ Dfs K m H fv x.fs)
abbrev Exx := XD → Env → Mu → Prop
abbrev GE0 := Env → Mu → (D → Mu → Prop) → Prop
abbrev GT0 := Env → Mu → (Bool → Mu → Prop) → Prop
abbrev GA0 := Env → Mu → (List D → Mu → Prop) → Prop
abbrev GE := Exx → GE0
abbrev GT := Exx → GT0
abbrev GA := Exx → GA0
structure Gn where
  nx : Env → Mu → Prop
  rt : D → Mu → Prop
  bk : Env → Mu → Prop := fun _ _ => False
  ct : Env → Mu → Prop := fun _ _ => False
abbrev GS0 := Gn → Env → Mu → Prop
abbrev GS := Exx → GS0
abbrev Cur := Mu → Hp → Prop
structure CurOk (cur : Cur) : Prop where
  ext : ∀ {m H m' H'}, cur m H → CellsIn m H → Ext m H m' H' → cur m' H'

section
variable (K : PySem.W.Frag) (cur : Cur)
def lE (g : GE0) : TE := fun σ H Q => ∃ ρ m Q', cur m H ∧ Ok K m H ∧ Sl K m H σ ρ ∧ g ρ m Q' ∧ ∀ d m' v H', Q' d m' → Ext m H m' H' → Ok K m' H' → Dt K m' H' v d → Q v H'
def lT (g : GT0) : TT := fun σ H Q => ∃ ρ m Q', cur m H ∧ Ok K m H ∧ Sl K m H σ ρ ∧ g ρ m Q' ∧ ∀ b m' H', Q' b m' → Ext m H m' H' → Ok K m' H' → Q b H'
def lA (g : GA0) : TA := fun σ H Q => ∃ ρ m Q', cur m H ∧ Ok K m H ∧ Sl K m H σ ρ ∧ g ρ m Q' ∧ ∀ d m' v H', Q' d m' → Ext m H m' H' → Ok K m' H' → Dts K m' H' v d → Q v H'
structure Gk (m : Mu) (H : Hp) (G : Gn) (E : Ends) : Prop where
  nx : ∀ ρ' m' σ' H', G.nx ρ' m' → Ext m H m' H' → Ok K m' H' → Sl K m' H' σ' ρ' → E.nx σ' H'
  rt : ∀ d m' v H', G.rt d m' → Ext m H m' H' → Ok K m' H' → Dt K m' H' v d → E.rt v H'
  bk : ∀ ρ' m' σ' H', G.bk ρ' m' → Ext m H m' H' → Ok K m' H' → Sl K m' H' σ' ρ' → E.bk σ' H'
  ct : ∀ ρ' m' σ' H', G.ct ρ' m' → Ext m H m' H' → Ok K m' H' → Sl K m' H' σ' ρ' → E.ct σ' H'
def lS (g : GS0) : TS := fun E σ H => ∃ ρ m G, cur m H ∧ Ok K m H ∧ Sl K m H σ ρ ∧ g G ρ m ∧ Gk K m H G E
end
theorem Gk.ext {K : PySem.W.Frag} {m m1 : Mu} {H H1 : Hp} {G : Gn} {E : Ends} (k : Gk K m H G E) (e : Ext m H m1 H1) (c : CellsIn m1 H1) : Gk K m1 H1 G E :=
  ⟨fun ρ' m' σ' H' g e' => k.nx ρ' m' σ' H' g (e.trans e' c), fun d m' v H' g e' => k.rt d m' v H' g (e.trans e' c),
    fun ρ' m' σ' H' g e' => k.bk ρ' m' σ' H' g (e.trans e' c), fun ρ' m' σ' H' g e' => k.ct ρ' m' σ' H' g (e.trans e' c)⟩

/-- how the wish of exceptions is answered -/
def Lk (K : PySem.W.Frag) (cur : Cur) (W : WX) (ex : Exx) : Prop :=
  ∀ x ρ m σ H c d, ex x ρ m → cur m H → Ok K m H → Sl K m H σ ρ → XDt K m H x c d → W c d σ H

structure DE (X : Cx) (e : Expr) (g : GE) : Prop where
  run : ∀ cur W ex, CurOk cur → Takes X W → Lk X.K cur W ex → PE X e (lE X.K cur (g ex))
structure DT (X : Cx) (e : Expr) (g : GT) : Prop where
  run : ∀ cur W ex, CurOk cur → Takes X W → Lk X.K cur W ex → PT X e (lT X.K cur (g ex))
structure DW (X : Cx) (e : Expr) (g : GT) : Prop where
  run : ∀ cur W ex, CurOk cur → Takes X W → Lk X.K cur W ex → PW X e (lT X.K cur (g ex))
structure DA (X : Cx) (es : List Expr) (g : GA) : Prop where
  run : ∀ cur W ex, CurOk cur → Takes X W → Lk X.K cur W ex → PA X es (lA X.K cur (g ex))
structure DS (X : Cx) (s : Stmt) (g : GS) : Prop where
  run : ∀ cur W ex, CurOk cur → Takes X W → Lk X.K cur W ex → PS X s (lS X.K cur (g ex))
structure DSs (X : Cx) (s : List Stmt) (g : GS) : Prop where
  run : ∀ cur W ex, CurOk cur → Takes X W → Lk X.K cur W ex → PSs X s (lS X.K cur (g ex))
theorem pe_imp {X : Cx} {e : Expr} {t t' : TE} (h : PE X e t) (i : ∀ σ H Q, t' σ H Q → t σ H Q) : PE X e t' := ⟨fun pins s σ H Q I q => h.run pins s σ H Q I (i σ H Q q)⟩
theorem pt_imp {X : Cx} {e : Expr} {t t' : TT} (h : PT X e t) (i : ∀ σ H Q, t' σ H Q → t σ H Q) : PT X e t' := ⟨fun pins s σ H Q I q => h.run pins s σ H Q I (i σ H Q q)⟩
theorem pw_imp {X : Cx} {e : Expr} {t t' : TT} (h : PW X e t) (i : ∀ σ H Q, t' σ H Q → t σ H Q) : PW X e t' := ⟨fun wh pins s σ H Q I q => h.run wh pins s σ H Q I (i σ H Q q)⟩
theorem pa_imp {X : Cx} {e : List Expr} {t t' : TA} (h : PA X e t) (i : ∀ σ H Q, t' σ H Q → t σ H Q) : PA X e t' := ⟨fun pos pins s σ H Q I q => h.run pos pins s σ H Q I (i σ H Q q)⟩
theorem ps_imp {X : Cx} {e : Stmt} {t t' : TS} (h : PS X e t) (i : ∀ E σ H, t' E σ H → t E σ H) : PS X e t' := ⟨fun pins s σ H E I q => h.run pins s σ H E I (i E σ H q)⟩
theorem pss_imp {X : Cx} {e : List Stmt} {t t' : TS} (h : PSs X e t) (i : ∀ E σ H, t' E σ H → t E σ H) : PSs X e t' := ⟨fun pins s σ H E I q => h.run pins s σ H E I (i E σ H q)⟩

/-! statements: blocks -/
section
variable {X : Cx}
def sNx : GS := fun _ G ρ m => G.nx ρ m
def sSeq (f g : GS) : GS := fun ex G ρ m => f ex { G with nx := g ex G } ρ m
theorem gk_seq {K : PySem.W.Frag} {cur : Cur} {m : Mu} {H : Hp} {G : Gn} {E : Ends} {g : GS0} (co : CurOk cur) (cu : cur m H) (oc : CellsIn m H) (k : Gk K m H G E) : Gk K m H { G with nx := g G } { E with nx := lS K cur g E } :=
  ⟨fun ρ' m' σ' H' q e o s => ⟨ρ', m', G, co.ext cu oc e, o, s, q, k.ext e o.cells⟩, k.rt, k.bk, k.ct⟩
theorem dss_nil : DSs X [] sNx := ⟨fun cur W ex co tk lk => pss_imp pss_nil fun E σ H ⟨ρ, m, G, cu, o, s, g, k⟩ => k.nx ρ m σ H g (Ext.refl m H) o s⟩
theorem dss_cons {s : Stmt} {r : List Stmt} {f g : GS} (h1 : DS X s f) (h2 : DSs X r g) : DSs X (s :: r) (sSeq f g) := ⟨fun cur W ex co tk lk =>
  pss_imp (pss_cons (h1.run cur W ex co tk lk) (h2.run cur W ex co tk lk)) fun E σ H ⟨ρ, m, G, cu, o, s, q, k⟩ => ⟨ρ, m, { G with nx := g ex G }, cu, o, s, q, gk_seq co cu o.cells k⟩⟩
theorem dss_one {s : Stmt} {f : GS} (h1 : DS X s f) : DSs X [s] f := ⟨fun cur W ex co tk lk => pss_one (h1.run cur W ex co tk lk)⟩
def sBreak : GS := fun _ G ρ m => G.bk ρ m
def sCont : GS := fun _ G ρ m => G.ct ρ m
theorem ds_pass {pos : Pos} : DS X (.Pass pos) sNx := ⟨fun cur W ex co tk lk => ps_imp ps_pass fun E σ H ⟨ρ, m, G, cu, o, s, g, k⟩ => k.nx ρ m σ H g (Ext.refl m H) o s⟩
theorem ds_break {pos : Pos} : DS X (.Break pos) sBreak := ⟨fun cur W ex co tk lk => ps_imp ps_break fun E σ H ⟨ρ, m, G, cu, o, s, g, k⟩ => k.bk ρ m σ H g (Ext.refl m H) o s⟩
theorem ds_continue {pos : Pos} : DS X (.Continue pos) sCont := ⟨fun cur W ex co tk lk => ps_imp ps_continue fun E σ H ⟨ρ, m, G, cu, o, s, g, k⟩ => k.ct ρ m σ H g (Ext.refl m H) o s⟩
def sDrop (f : GE) : GS := fun ex G ρ m => f ex ρ m fun _ m' => G.nx ρ m'
theorem ds_expr {e : Expr} {pos : Pos} {f : GE} (h : DE X e f) (hs : swapsWith e none pos.line X.env = pure false := by rfl) : DS X (.Expr e pos) (sDrop f) := ⟨fun cur W ex co tk lk =>
  ps_imp (ps_expr (h.run cur W ex co tk lk) hs) fun E σ H ⟨ρ, m, G, cu, o, s, g, k⟩ => ⟨ρ, m, _, cu, o, s, g, fun d m' v H' q e o' _ => k.nx ρ m' σ H' q e o' (s.ext e)⟩⟩
def sRet (f : GE) : GS := fun ex G ρ m => f ex ρ m G.rt
theorem ds_ret {e : Expr} {pos : Pos} {f : GE} (h : DE X e f) : DS X (.Return (some e) pos) (sRet f) := ⟨fun cur W ex co tk lk =>
  ps_imp (ps_ret (h.run cur W ex co tk lk)) fun E σ H ⟨ρ, m, G, cu, o, s, g, k⟩ => ⟨ρ, m, _, cu, o, s, g, fun d m' v H' q e o' t => k.rt d m' v H' q e o' t⟩⟩
def sRetN : GS := fun _ G _ m => G.rt .non m
theorem ds_retN {pos : Pos} : DS X (.Return none pos) sRetN := ⟨fun cur W ex co tk lk => ps_imp ps_retN fun E σ H ⟨ρ, m, G, cu, o, s, g, k⟩ => k.rt .non m .non H g (Ext.refl m H) o .non⟩
def sIf (c : GT) (f g : GS) : GS := fun ex G ρ m => c ex ρ m fun b m' => if b = true then f ex G ρ m' else g ex G ρ m'
theorem ds_if {c : Expr} {a b : List Stmt} {pos : Pos} {fc : GT} {f g : GS} (hc : DT X c fc) (ha : DSs X a f) (hb : DSs X b g) : DS X (.If c a b pos) (sIf fc f g) := ⟨fun cur W ex co tk lk =>
  ps_imp (ps_if (hc.run cur W ex co tk lk) (ha.run cur W ex co tk lk) (hb.run cur W ex co tk lk)) fun E σ H ⟨ρ, m, G, cu, o, s, q, k⟩ => ⟨ρ, m, _, cu, o, s, q, fun b m' H' q e o' => by
    cases b with
    | true => exact ⟨ρ, m', G, co.ext cu o.cells e, o', s.ext e, q, k.ext e o'.cells⟩
    | false => exact ⟨ρ, m', G, co.ext cu o.cells e, o', s.ext e, q, k.ext e o'.cells⟩⟩⟩
def sNever : GS := fun _ _ _ _ => False
theorem ds_never {s : Stmt} : DS X s sNever := ⟨fun cur W ex co tk lk => ps_imp ps_never fun E σ H ⟨ρ, m, G, cu, o, s, g, k⟩ => g⟩
theorem dss_never {s : List Stmt} : DSs X s sNever := ⟨fun cur W ex co tk lk => pss_imp pss_never fun E σ H ⟨ρ, m, G, cu, o, s, g, k⟩ => g⟩
end

/-! names, constants -/
section
variable {X : Cx}
def gVar (i : Nat) : GE := fun _ ρ m Q => match ρ[i]? with | some (some d) => Q d m | _ => False
def gC (d : D) : GE := fun _ _ m Q => Q d m
theorem dv (i : Nat) {x : Str} {pos : Pos} (hN : X.N[i]? = some x := by rfl) (hv : Vis X.env.scope x := by first | exact Or.inl rfl | exact Or.inr (Or.inl rfl) | exact Or.inr (Or.inr rfl)) (hd : (x == ("__debug__" : Str)) = false := by decide)
    (hcd : (x == ("__classdict__" : Str)) = false := by decide) : DE X (.Name x pos) (gVar i) := ⟨fun cur W ex co tk lk => pe_imp (pe_var hN hv hd hcd) fun σ H Q ⟨ρ, m, Q', cu, o, s, g, k⟩ => by
    have g' : (match ρ[i]? with | some (some d) => Q' d m | _ => False) := g
    split at g'
    · rename_i d hd
      obtain ⟨v, hv, hr⟩ := s.at_ i d hd
      exact ⟨v, hv, k d m v H g' (Ext.refl m H) o hr⟩
    · exact g'.elim⟩
theorem de_const {e : Expr} {v : V} {d : D} (h : PE X e (tC v)) (r : ∀ m H, Dt X.K m H v d) : DE X e (gC d) := ⟨fun cur W ex co tk lk => pe_imp h fun σ H Q ⟨ρ, m, Q', cu, o, s, g, k⟩ => k d m v H g (Ext.refl m H) o (r m H)⟩
theorem de_int {i j pos} : DE X (.Constant (.int i) j pos) (gC (.int i)) := de_const pe_int fun _ _ => .int i
theorem de_bl {b j pos} : DE X (.Constant (.bool b) j pos) (gC (.bl b)) := de_const pe_bl fun _ _ => .bl b
theorem de_non {j pos} : DE X (.Constant .none j pos) (gC .non) := de_const pe_non fun _ _ => .non
theorem de_str {x j pos} : DE X (.Constant (.str x) j pos) (gC (.str x)) := de_const pe_str fun _ _ => .str x
theorem de_glob {x : Str} {v : V} {u : Value} {d : D} {pos : Pos} (hg : Gl X x) (hm : X.mg x = some u) (r : RelV v u) (rd : ∀ m H, Dt X.K m H v d) (hd : (x == ("__debug__" : Str)) = false := by decide) : DE X (.Name x pos) (gC d) :=
  de_const (pe_glob hg hm r hd) rd
theorem de_bltn {x : Str} {v : V} {u : Value} {d : D} {pos : Pos} (hg : Gl X x) (hm : X.mg x = none) (hv : bootBuiltins x = some u) (r : RelV v u) (rd : ∀ m H, Dt X.K m H v d) (hn : x ≠ "__name__" := by decide) (hd : (x == ("__debug__" : Str)) = false := by decide) : DE X (.Name x pos) (gC d) :=
  de_const (pe_bltn hg hm hv r hn hd) rd
end
end Nd

namespace Nd
open PySem L2 PyProof.Rows PySem.Spec
/-! what a def promises, over data -/
abbrev Spec := List D → Mu → (D → Mu → Prop) → (XD → Mu → Prop) → Prop
def rQ (K : PySem.W.Frag) (m : Mu) (H : Hp) (Q : D → Mu → Prop) : VK := fun v H' => ∃ d m', Q d m' ∧ Ext m H m' H' ∧ Ok K m' H' ∧ Dt K m' H' v d
def rX (K : PySem.W.Frag) (m : Mu) (H : Hp) (E : XD → Mu → Prop) : XK := fun c d H' => ∃ x m', E x m' ∧ Ext m H m' H' ∧ Ok K m' H' ∧ XDt K m' H' x c d
structure FnG (P : Program) (w : World) (K : PySem.W.Frag) (mg : Str → Option Value) (base : Heap) (k : Nat) (f : Addr) (fd : FuncData) (ps : List Str) (S : Spec) : Prop where
  len : ∀ ds m Q E, S ds m Q E → ds.length = ps.length
  run : ∀ (A : Around) (outer : List PySem.Env) (s : Shared) (H : Hp) (args : Args) (us : List Value) (vs : List V) (ds : List D) (m : Mu) (Q : D → Mu → Prop) (E : XD → Mu → Prop),
    A.guards = some [] → Room k A → Env0 P w K mg base A outer s H → BindsTo s fd args (ps.zip us) → Vals vs us → Ok K m H → Dts K m H vs ds → S ds m Q E →
    codeAny (model P w) A (.call (.ref f) args) (CR (L2.CX P w) outer P w H s (rQ K m H Q) (rX K m H E)) s
section
variable {P : Program} {w : World} {K : PySem.W.Frag} {mg : Str → Option Value} {base : Heap} {k : Nat} {f : Addr} {fd : FuncData} {ps : List Str} {S : Spec}
theorem FnG.mono {j : Nat} (F : FnG P w K mg base j f fd ps S) (h : j ≤ k) : FnG P w K mg base k f fd ps S :=
  ⟨F.len, fun A outer s H args us vs ds m Q E hg hr => F.run A outer s H args us vs ds m Q E hg (hr.mono h)⟩
theorem FnG.imp {S' : Spec} (F : FnG P w K mg base k f fd ps S) (h : ∀ ds m Q E, S' ds m Q E → S ds m Q E) : FnG P w K mg base k f fd ps S' :=
  ⟨fun ds m Q E q => F.len ds m Q E (h _ _ _ _ q), fun A outer s H args us vs ds m Q E hg hr he hb hv ho hd q => F.run A outer s H args us vs ds m Q E hg hr he hb hv ho hd (h _ _ _ _ q)⟩

/-- the names at the entry -/
def startD (N : List Str) (ds : List D) : Env := ds.map some ++ List.replicate (N.length - ds.length) none
theorem sl_start {m : Mu} {H : Hp} {N : List Str} {vs : List V} {ds : List D} (h : Dts K m H vs ds) : Sl K m H (L2.start N vs) (startD N ds) := by
  have e := h.length
  refine ⟨by unfold startD L2.start; simp [e], fun i d q => ?_⟩
  unfold startD at q
  by_cases hi : i < ds.length
  · rw [List.getElem?_append_left (by simpa using hi), List.getElem?_map] at q
    cases z : ds[i]? with
    | none => rw [z] at q; cases q
    | some y =>
      rw [z] at q
      obtain rfl : y = d := by simpa using q
      obtain ⟨v, hv, r⟩ := h.get z
      refine ⟨v, ?_, r⟩
      unfold L2.start
      rw [List.getElem?_append_left (by simp; omega), List.getElem?_map, hv]; rfl
  · rw [List.getElem?_append_right (by simpa using hi), List.getElem?_replicate] at q
    split at q <;> cases q

/-- a def by its body -/
theorem FnG.mk' {x qual : Str} {params : Arguments} {body : List Stmt} {scope : Scope} {dvs : List V} {kws : List (Str × V)} {N : List Str} (F : FunD K x qual params body scope dvs kws f fd) (sc : FnScope N ps scope) (g : GS)
    (hb : ∀ (cdv : Value) (A : Around) (outer : List PySem.Env) (s : Shared) (H : Hp) (E : XK), A.guards = some [] → Room k (A.deeper (envOfC qual scope s.heap.objs.size f cdv)) →
      DSs (cxOf (L2.CX P w) P w K mg base N qual scope f cdv A outer s H E) body g)
    (sem : ∀ ds m Q E, S ds m Q E → ds.length = ps.length ∧ g (fun x _ m' => E x m') { nx := fun _ m' => Q .non m', rt := Q } (startD N ds) m) : FnG P w K mg base (k + 1) f fd ps S := by
  obtain ⟨oc, od, dV, kV, doc, pm, an, cdv, ct, osl, rfl, lk, hcd, _, _⟩ := F.ex
  refine ⟨fun ds m Q E q => (sem ds m Q E q).1, fun A outer s H args us vs ds m Q E hg hr e0 hbi hv ho hd hS => ?_⟩
  obtain ⟨hl, hq⟩ := sem ds m Q E hS
  have hlv : vs.length = ps.length := hd.length.trans hl
  have KI : K.In s.heap := e0.mod.kin.keeps fun b o e => (e0.bs b o e).1
  have NL : s.heap.NoLimit := e0.mod.nolimit.keeps fun b o e => (e0.bs b o e).1
  refine codeAny_call_function hr.depth (KI _ _ lk) rfl sc.co sc.gen rfl (PySem.W.codeRec_of KI hcd) (hbi _ _ _ _ ?_)
  refine wpAny_newFunctionEnv_cells sc.kind (fun y hy => ?_) fun env he s1 z => ?_
  · have hm := (List.of_mem_zip (show (y.1, y.2) ∈ ps.zip us from hy)).1
    rcases sc.par y.1 hm with q | q
    · exact Or.inl q
    · exact Or.inr ⟨q, PySem.W.cellsFrom_some _ _ _ (Or.inl q)⟩
  subst he
  refine ⟨NL.keeps z.toInCall.keep, codeAny_func ?_⟩
  have I := inv_start (CX := L2.CX P w) (E := rX K m H E) sc hr.hd e0 hlv hv z
  have B := hb cdv A outer s H (rX K m H E) hg (hr.deeper _)
  have T : Takes (cxOf (L2.CX P w) P w K mg base N qual scope f cdv A outer s H (rX K m H E)) (fun c d _ H' => rX K m H E c d H') := takes_of (E := rX K m H E) rfl rfl rfl rfl
  have R := B.run (fun m' H' => Ext m H m' H') _ (fun x _ m' => E x m') ⟨fun a c b => a.trans b c⟩ T ?_
  · refine wpAny_mono (R.run [] s1 (L2.start N vs) H { nx := fun _ H' => rQ K m H Q .non H', rt := rQ K m H Q } I ⟨startD N ds, m, _, Ext.refl m H, ho, sl_start hd, hq, ?_⟩) (fun fl s' hs => ?_) fun e s' hs => hs
    · exact ⟨fun _ m' σ' H' q e o _ => ⟨.non, m', q, e, o, .non⟩, fun d m' v H' q e o t => ⟨d, m', q, e, o, t⟩, fun _ _ _ _ q _ _ _ => q.elim, fun _ _ _ _ q _ _ _ => q.elim⟩
    · cases fl with
      | ret u =>
        obtain ⟨v, σ', H', J, rv, q⟩ := hs
        exact ⟨v, H', J.os, J.bare, J.base, J.hok, rv, q⟩
      | next =>
        obtain ⟨σ', H', J, q⟩ := hs
        exact ⟨V.non, H', J.os, J.bare, J.base, J.hok, rfl, q⟩
      | brk =>
        obtain ⟨_, _, _, q⟩ := hs
        exact q.elim
      | cont =>
        obtain ⟨_, _, _, q⟩ := hs
        exact q.elim
  · intro x ρ m' σ H' c d q e o _ t
    exact ⟨x, m', q, e, o, t⟩
end
end Nd

namespace Nd
open PySem L2 PyProof.Rows PySem.Spec
/-! cells laid, changed -/
theorem ext_cell {m : Mu} {H : Hp} {p : Addr} {o : HO} {c : Cl} (hp : H p = none) : Ext m H (m.put p (some c)) (upd H p o) :=
  ⟨fun q u h _ => by rw [upd_ne (ne_of_none h hp)]; exact h, fun a h => by
    by_cases e : a = p
    · exact .inr (e ▸ hp)
    · rw [Mu.put_ne e] at h; exact .inl h⟩
theorem ext_put {m : Mu} {H : Hp} {p : Addr} {o : HO} {c : Cl} (hm : m p ≠ none) : Ext m H (m.put p (some c)) (upd H p o) :=
  ⟨fun q u h n => by
    have e : q ≠ p := fun z => hm (z ▸ n)
    rw [upd_ne e]; exact h, fun a h => by
    by_cases e : a = p
    · exact .inl (e ▸ hm)
    · rw [Mu.put_ne e] at h; exact .inl h⟩
theorem ext_free {m : Mu} {H : Hp} {p : Addr} : Ext m H (m.put p none) H :=
  ⟨fun q u h _ => h, fun a h => by
    by_cases e : a = p
    · rw [e, Mu.put_same] at h; exact absurd rfl h
    · rw [Mu.put_ne e] at h; exact .inl h⟩
theorem ok_at {K : PySem.W.Frag} {m : Mu} {H : Hp} {p : Addr} {o : HO} {c : Cl} (ok : Ok K m H) (e : Ext m H (m.put p (some c)) (upd H p o)) (h : Ck K (m.put p (some c)) (upd H p o) p c) : Ok K (m.put p (some c)) (upd H p o) := fun a d q => by
  by_cases z : a = p
  · subst z
    rw [Mu.put_same] at q
    cases q
    exact h
  · rw [Mu.put_ne z] at q
    exact (ok a d q).ext e (upd_ne z)
theorem ok_free {K : PySem.W.Frag} {m : Mu} {H : Hp} {p : Addr} (ok : Ok K m H) : Ok K (m.put p none) H := fun a d q => by
  by_cases z : a = p
  · subst z
    rw [Mu.put_same] at q
    cases q
  · rw [Mu.put_ne z] at q
    exact (ok a d q).ext ext_free rfl

/-- a datum as it stands now -/
def vw (m : Mu) : D → D
  | .cel a => match m a with
    | some (.lst ds) => .lst ds
    | some (.dct kv) => .dct kv
    | some (.ins C fs) => .obj C fs
    | _ => .cel a
  | d => d
abbrev Cq (K : PySem.W.Frag) (m : Mu) (H : Hp) (Q' : D → Mu → Prop) (Q : VK) : Prop := ∀ d m' v H', Q' d m' → Ext m H m' H' → Ok K m' H' → Dt K m' H' v d → Q v H'
theorem Cq.ext {K : PySem.W.Frag} {m m1 : Mu} {H H1 : Hp} {Q' : D → Mu → Prop} {Q : VK} (k : Cq K m H Q' Q) (e : Ext m H m1 H1) (c : CellsIn m1 H1) : Cq K m1 H1 Q' Q := fun d m' v H' q e' o t => k d m' v H' q (e.trans e' c) o t
section
variable {K : PySem.W.Frag} {m : Mu} {H : Hp} {v : V} {d : D}
theorem vw_cases (m : Mu) (a : Addr) : vw m (.cel a) = .cel a ∨ (∃ ds, m a = some (.lst ds) ∧ vw m (.cel a) = .lst ds) ∨ (∃ ds, m a = some (.dct ds) ∧ vw m (.cel a) = .dct ds) ∨ (∃ C fs, m a = some (.ins C fs) ∧ vw m (.cel a) = .obj C fs) := by
  cases h : m a with
  | none => exact .inl (by simp [vw, h])
  | some c =>
    cases c with
    | box n => exact .inl (by simp [vw, h])
    | lst ds => exact .inr (.inl ⟨ds, rfl, by simp [vw, h]⟩)
    | dct ds => exact .inr (.inr (.inl ⟨ds, rfl, by simp [vw, h]⟩))
    | ins C fs => exact .inr (.inr (.inr ⟨C, fs, rfl, by simp [vw, h]⟩))
/-- what the view tells -/
inductive Vw (K : PySem.W.Frag) (m : Mu) (H : Hp) : V → D → Prop
  | non : Vw K m H .non .non
  | bl (b : Bool) : Vw K m H (.bl b) (.bl b)
  | int (i : Int) : Vw K m H (.int i) (.int i)
  | str (x : Str) : Vw K m H (.str x) (.str x)
  | lst {p : Addr} {vs : List V} {ds : List D} : H p = some (.lst vs) → Dts K m H vs ds → Vw K m H (.ref p) (.lst ds)
  | tup {p : Addr} {vs : List V} {ds : List D} : SqT K H p vs → Dts K m H vs ds → Dt K m H (.ref p) (.tup ds) → Vw K m H (.ref p) (.tup ds)
  | dct {p : Addr} {kv : List (Key × V)} {kd : List (Key × D)} : H p = some (.dK kv) → Dks K m H kv kd → Vw K m H (.ref p) (.dct kd)
  | obj {p C dx : Addr} {fv : List (Str × V)} {fd : List (Str × D)} : H p = some (.ins C dx fv) → Dfs K m H fv fd → Vw K m H (.ref p) (.obj C fd)
  | ro {p : Addr} {vs : List V} {ds : List D} : SqL K H p vs → Dts K m H vs ds → Vw K m H (.ref p) (.ro ds)
  | cel (a : Addr) : Vw K m H (.ref a) (.cel a)
  | cls (c : V) : Vw K m H c (.cls c)
theorem Dt.vw (ok : Ok K m H) (h : Dt K m H v d) : Vw K m H v (Nd.vw m d) := by
  cases h with
  | non => exact .non
  | bl b => exact .bl b
  | int b => exact .int b
  | str b => exact .str b
  | lst a b c => exact .lst a c
  | tup a b =>
    rcases a with ⟨a, n⟩ | a
    · exact .tup (SqT.of a) b (.tup (.inl ⟨a, n⟩) b)
    · exact .tup (.inr a) b (.tup (.inr a) b)
  | dct a b c => exact .dct a c
  | obj a b c => exact .obj a c
  | ro a b =>
    rcases a with ⟨a, _⟩ | a
    · exact .ro (.inl a) b
    · exact .ro (.inr a) b
  | cls => exact .cls _
  | cel a =>
    rcases vw_cases m a with e | ⟨ds, q, e⟩ | ⟨ds, q, e⟩ | ⟨C, fs, q, e⟩
    · rw [e]; exact .cel a
    · rw [e]; obtain ⟨vs, h1, h2⟩ := ok a _ q; exact .lst h1 h2
    · rw [e]; obtain ⟨vs, h1, h2⟩ := ok a _ q; exact .dct h1 h2
    · rw [e]; obtain ⟨dx, vs, h1, h2⟩ := ok a _ q; exact .obj h1 h2
end

/-! arguments, displays -/
section
variable {X : Cx} {e : Expr} {es : List Expr} {pos : Pos} {f : GE} {g : GA}
def aNil : GA := fun _ _ m Q => Q [] m
def aCons (f : GE) (g : GA) : GA := fun ex ρ m Q => f ex ρ m fun d m1 => g ex ρ m1 fun ds m2 => Q (d :: ds) m2
theorem da_nil : DA X [] aNil := ⟨fun cur W ex co tk lk => pa_imp pa_nil fun σ H Q ⟨ρ, m, Q', cu, o, s, g, k⟩ => k [] m [] H g (Ext.refl m H) o .nil⟩
theorem da_cons (h1 : DE X e f) (h2 : DA X es g) (hs : starEach (e :: es) X.env = (false, eval e X.env) :: starEach es X.env := by rfl) : DA X (e :: es) (aCons f g) := ⟨fun cur W ex co tk lk =>
  pa_imp (pa_cons (h1.run cur W ex co tk lk) (h2.run cur W ex co tk lk) hs) fun σ H Q ⟨ρ, m, Q', cu, o, s, q, k⟩ => ⟨ρ, m, _, cu, o, s, q, fun d m1 v H1 q1 e1 o1 t1 =>
    ⟨ρ, m1, _, co.ext cu o.cells e1, o1, s.ext e1, q1, fun ds m2 vs H2 q2 e2 o2 t2 => k (d :: ds) m2 (v :: vs) H2 q2 (e1.trans e2 o1.cells) o2 (.cons (t1.ext e2) t2)⟩⟩⟩
/-- a tuple; a list that is not changed; a list that is -/
def gTup (g : GA) : GE := fun ex ρ m Q => g ex ρ m fun ds m' => ds.length ≤ sizeLine ∧ Q (.tup ds) m'
def gLst (g : GA) : GE := fun ex ρ m Q => g ex ρ m fun ds m' => ds.length ≤ sizeLine ∧ Q (.lst ds) m'
def gLstM (g : GA) : GE := fun ex ρ m Q => g ex ρ m fun ds m' => ds.length ≤ sizeLine ∧ ∀ a, m' a = none → Q (.cel a) (m'.put a (some (.lst ds)))
theorem de_tup {x1} (h : DA X es g) : DE X (.Tuple es x1 pos) (gTup g) := ⟨fun cur W ex co tk lk =>
  pe_imp (pe_tup (h.run cur W ex co tk lk)) fun σ H Q ⟨ρ, m, Q', cu, o, s, q, k⟩ => ⟨ρ, m, _, cu, o, s, q, fun ds m' vs H' ⟨z, q⟩ e o' t => ⟨by rw [t.length]; exact z, fun p hp =>
    k (.tup ds) m' (.ref p) _ q (e.trans (ext_new hp) o'.cells) (ok_new o' hp) (.tup (.inl ⟨upd_same, mu_none o' hp⟩) (t.ext (ext_new hp)))⟩⟩⟩
theorem de_lst (h : DA X es g) : DE X (.List es pos) (gLst g) := ⟨fun cur W ex co tk lk =>
  pe_imp (pe_lst (h.run cur W ex co tk lk)) fun σ H Q ⟨ρ, m, Q', cu, o, s, q, k⟩ => ⟨ρ, m, _, cu, o, s, q, fun ds m' vs H' ⟨z, q⟩ e o' t => ⟨by rw [t.length]; exact z, fun p hp =>
    k (.lst ds) m' (.ref p) _ q (e.trans (ext_new hp) o'.cells) (ok_new o' hp) (.lst upd_same (mu_none o' hp) (t.ext (ext_new hp)))⟩⟩⟩
theorem de_lstM (h : DA X es g) : DE X (.List es pos) (gLstM g) := ⟨fun cur W ex co tk lk =>
  pe_imp (pe_lst (h.run cur W ex co tk lk)) fun σ H Q ⟨ρ, m, Q', cu, o, s, q, k⟩ => ⟨ρ, m, _, cu, o, s, q, fun ds m' vs H' ⟨z, q⟩ e o' t => ⟨by rw [t.length]; exact z, fun p hp =>
    k (.cel p) _ (.ref p) _ (q p (mu_none o' hp)) (e.trans (ext_cell hp) o'.cells) (ok_at o' (ext_cell hp) ⟨vs, upd_same, t.ext (ext_cell hp)⟩) (.cel p)⟩⟩⟩

/-! operators -/
abbrev DR2 := D → D → Mu → (D → Mu → Prop) → Prop
def OpD (K : PySem.W.Frag) (r : DR2) (rr : R2) : Prop := ∀ m H x y dx dy Q' Q, Ok K m H → Dt K m H x dx → Dt K m H y dy → r dx dy m Q' → Cq K m H Q' Q → rr x y H Q
def gBin (r : DR2) (f g : GE) : GE := fun ex ρ m Q => f ex ρ m fun x m1 => g ex ρ m1 fun y m2 => r x y m2 Q
variable {a b c : Expr} {fa fb fc : GE} {r r' : DR2} {rr rr' : R2}
theorem bin_imp {K : PySem.W.Frag} {cur : Cur} {ex : Exx} (co : CurOk cur) (od : OpD K r rr) {σ : L2.St} {H : Hp} {Q : VK} (h : lE K cur (gBin r fa fb ex) σ H Q) : tOp rr (lE K cur (fa ex)) (lE K cur (fb ex)) σ H Q := by
  obtain ⟨ρ, m, Q', cu, o, s, q, k⟩ := h
  exact ⟨ρ, m, _, cu, o, s, q, fun x m1 v H1 q1 e1 o1 t1 => ⟨ρ, m1, _, co.ext cu o.cells e1, o1, s.ext e1, q1, fun y m2 u H2 q2 e2 o2 t2 =>
    od m2 H2 v u x y Q' Q o2 (t1.ext e2) t2 q2 (Cq.ext k (e1.trans e2 o1.cells) o2.cells)⟩⟩
theorem de_bin {op : Operator} (ho : OpR X (binaryOp op) rr) (od : OpD X.K r rr) (ha : DE X a fa) (hb : DE X b fb) : DE X (.BinOp a op b pos) (gBin r fa fb) := ⟨fun cur W ex co tk lk =>
  pe_imp (pe_op ho (ha.run cur W ex co tk lk) (hb.run cur W ex co tk lk)) fun σ H Q h => bin_imp co od h⟩
theorem de_cmp {op : CmpOp} (ho : OpR X (compareOp op) rr) (od : OpD X.K r rr) (ha : DE X a fa) (hb : DE X b fb) (hm : behindInMarks op b = false) : DE X (.Compare a [op] [b] pos) (gBin r fa fb) := ⟨fun cur W ex co tk lk =>
  pe_imp (pe_cmpR ho (ha.run cur W ex co tk lk) (hb.run cur W ex co tk lk) hm) fun σ H Q h => bin_imp co od h⟩
/-- a truth -/
def onBl (d : D) (P : Bool → Prop) : Prop := match d with
  | .bl b => P b
  | _ => False
/-- a value as a test: a truth -/
def cVal (f : GE) : GT := fun ex ρ m Q => f ex ρ m fun d m' => onBl d fun b => Q b m'
theorem bl_imp {K : PySem.W.Frag} {cur : Cur} {g : GE} {ex : Exx} {σ : L2.St} {H : Hp} {Q : Bool → Hp → Prop} (h : lT K cur (cVal g ex) σ H Q) : lE K cur (g ex) σ H fun x H1 => ∃ c, x = .bl c ∧ Q c H1 := by
  obtain ⟨ρ, m, Q', cu, o, s, q, k⟩ := h
  refine ⟨ρ, m, _, cu, o, s, q, fun d m' v H' q e o' t => ?_⟩
  have q2 : onBl d (fun b => Q' b m') := q
  cases t with
  | bl b => exact ⟨b, rfl, k b m' H' q2 e o'⟩
  | _ => exact q2.elim
theorem dt_cmp {op : CmpOp} (ho : OpR X (compareOp op) rr) (od : OpD X.K r rr) (ha : DE X a fa) (hb : DE X b fb) (hm : behindInMarks op b = false) : DT X (.Compare a [op] [b] pos) (cVal (gBin r fa fb)) := ⟨fun cur W ex co tk lk =>
  pt_imp (pt_cmpR ho (ha.run cur W ex co tk lk) (hb.run cur W ex co tk lk) hm) fun σ H Q h => bin_imp (fa := fa) (fb := fb) co od (bl_imp h)⟩
theorem dt_val {e : Expr} {f : GE} (h : DE X e f) (he : ∀ whole, isTrue e X.env whole = (do let v ← whole; standAt e.pos; holding [v] (truthy v)) := by intro _; rfl) : DT X e (cVal f) := ⟨fun cur W ex co tk lk =>
  pt_imp (pt_val (h.run cur W ex co tk lk) he) fun σ H Q h => bl_imp h⟩
/-- a op1 b op2 c -/
def gChain (r r' : DR2) (f g h : GE) : GE := fun ex ρ m Q => f ex ρ m fun x m1 => g ex ρ m1 fun y m2 => r x y m2 fun z m3 => onBl z fun b => if b = true then h ex ρ m3 fun w m4 => r' y w m4 Q else Q (.bl false) m3
theorem chain_imp {K : PySem.W.Frag} {cur : Cur} {ex : Exx} (co : CurOk cur) (od : OpD K r rr) (od' : OpD K r' rr') {σ : L2.St} {H : Hp} {Q : VK} (h : lE K cur (gChain r r' fa fb fc ex) σ H Q) : tChain rr rr' (lE K cur (fa ex)) (lE K cur (fb ex)) (lE K cur (fc ex)) σ H Q := by
  obtain ⟨ρ, m, Q', cu, o, s, q, k⟩ := h
  refine ⟨ρ, m, _, cu, o, s, q, fun x m1 v H1 q1 e1 o1 t1 => ⟨ρ, m1, _, co.ext cu o.cells e1, o1, s.ext e1, q1, fun y m2 u H2 q2 e2 o2 t2 => ?_⟩⟩
  have e12 := e1.trans e2 o1.cells
  refine od m2 H2 v u x y _ _ o2 (t1.ext e2) t2 q2 fun z m3 w H3 q3 e3 o3 t3 => ?_
  have e123 := e12.trans e3 o2.cells
  have q4 : onBl z (fun b => if b = true then fc ex ρ m3 fun w m4 => r' y w m4 Q' else Q' (.bl false) m3) := q3
  cases t3 with
  | bl b =>
    cases b with
    | true => exact ⟨true, rfl, by
        rw [if_pos rfl]
        exact ⟨ρ, m3, _, co.ext cu o.cells e123, o3, s.ext e123, q4, fun w m4 u4 H4 q5 e4 o4 t4 => od' m4 H4 u u4 y w Q' Q o4 ((t2.ext e3).ext e4) t4 q5 (Cq.ext k (e123.trans e4 o3.cells) o4.cells)⟩⟩
    | false => exact ⟨false, rfl, by
        rw [if_neg (by decide)]
        exact k (.bl false) m3 (.bl false) H3 q4 e123 o3 (.bl false)⟩
  | _ => exact q4.elim
theorem de_chain {op op' : CmpOp} (ho : OpR X (compareOp op) rr) (od : OpD X.K r rr) (ho' : OpR X (compareOp op') rr') (od' : OpD X.K r' rr') (ha : DE X a fa) (hb : DE X b fb) (hc : DE X c fc)
    (hm : lastMarks [op, op'] [b, c] = false := by with_unfolding_all rfl) : DE X (.Compare a [op, op'] [b, c] pos) (gChain r r' fa fb fc) := ⟨fun cur W ex co tk lk =>
  pe_imp (pe_chain ho ho' (ha.run cur W ex co tk lk) (hb.run cur W ex co tk lk) (hc.run cur W ex co tk lk) hm) fun σ H Q h => chain_imp co od od' h⟩
theorem dt_chain {op op' : CmpOp} (ho : OpR X (compareOp op) rr) (od : OpD X.K r rr) (ho' : OpR X (compareOp op') rr') (od' : OpD X.K r' rr') (ha : DE X a fa) (hb : DE X b fb) (hc : DE X c fc)
    (hm : lastMarks [op, op'] [b, c] = false := by with_unfolding_all rfl) : DT X (.Compare a [op, op'] [b, c] pos) (cVal (gChain r r' fa fb fc)) := ⟨fun cur W ex co tk lk =>
  pt_imp (pt_chain ho ho' (ha.run cur W ex co tk lk) (hb.run cur W ex co tk lk) (hc.run cur W ex co tk lk) hm) fun σ H Q h => chain_imp (fa := fa) (fb := fb) (fc := fc) co od od' (bl_imp h)⟩

/-! and, or, not, if else -/
variable {ca cb : GT} {rest : List Expr}
def cAnd (f g : GT) : GT := fun ex ρ m Q => f ex ρ m fun b m' => if b = true then g ex ρ m' Q else Q false m'
def cOr (f g : GT) : GT := fun ex ρ m Q => f ex ρ m fun b m' => if b = true then Q true m' else g ex ρ m' Q
def cNot (f : GT) : GT := fun ex ρ m Q => f ex ρ m fun b m' => Q (!b) m'
theorem DW.dt {e : Expr} {f : GT} (h : DW X e f) : DT X e f := ⟨fun cur W ex co tk lk => (h.run cur W ex co tk lk).pt⟩
theorem dw_and1 (h : DT X a ca) : DW X (.BoolOp .And [a] pos) ca := ⟨fun cur W ex co tk lk => pw_and1 (h.run cur W ex co tk lk)⟩
theorem dw_or1 (h : DT X a ca) : DW X (.BoolOp .Or [a] pos) ca := ⟨fun cur W ex co tk lk => pw_or1 (h.run cur W ex co tk lk)⟩
theorem dw_and (ha : DT X a ca) (hb : DW X (.BoolOp .And (b :: rest) pos) cb) : DW X (.BoolOp .And (a :: b :: rest) pos) (cAnd ca cb) := ⟨fun cur W ex co tk lk =>
  pw_imp (pw_and (ha.run cur W ex co tk lk) (hb.run cur W ex co tk lk)) fun σ H Q ⟨ρ, m, Q', cu, o, s, q, k⟩ => ⟨ρ, m, _, cu, o, s, q, fun d m1 H1 q1 e1 o1 => by
    cases d with
    | true => exact ⟨ρ, m1, Q', co.ext cu o.cells e1, o1, s.ext e1, q1, fun d m2 H2 q2 e2 o2 => k d m2 H2 q2 (e1.trans e2 o1.cells) o2⟩
    | false => exact k false m1 H1 q1 e1 o1⟩⟩
theorem dw_or (ha : DT X a ca) (hb : DW X (.BoolOp .Or (b :: rest) pos) cb) : DW X (.BoolOp .Or (a :: b :: rest) pos) (cOr ca cb) := ⟨fun cur W ex co tk lk =>
  pw_imp (pw_or (ha.run cur W ex co tk lk) (hb.run cur W ex co tk lk)) fun σ H Q ⟨ρ, m, Q', cu, o, s, q, k⟩ => ⟨ρ, m, _, cu, o, s, q, fun d m1 H1 q1 e1 o1 => by
    cases d with
    | true => exact k true m1 H1 q1 e1 o1
    | false => exact ⟨ρ, m1, Q', co.ext cu o.cells e1, o1, s.ext e1, q1, fun d m2 H2 q2 e2 o2 => k d m2 H2 q2 (e1.trans e2 o1.cells) o2⟩⟩⟩
theorem dt_not (ha : DT X a ca) : DT X (.UnaryOp .Not a pos) (cNot ca) := ⟨fun cur W ex co tk lk =>
  pt_imp (pt_not (ha.run cur W ex co tk lk)) fun σ H Q ⟨ρ, m, Q', cu, o, s, q, k⟩ => ⟨ρ, m, _, cu, o, s, q, fun d m1 H1 q1 e1 o1 => k (!d) m1 H1 q1 e1 o1⟩⟩
/-- .. as values -/
def gAnd (f g : GE) : GE := fun ex ρ m Q => f ex ρ m fun d m' => onBl d fun b => if b = true then g ex ρ m' Q else Q (.bl false) m'
def gOr (f g : GE) : GE := fun ex ρ m Q => f ex ρ m fun d m' => onBl d fun b => if b = true then Q (.bl true) m' else g ex ρ m' Q
def gNot (f : GE) : GE := fun ex ρ m Q => f ex ρ m fun d m' => onBl d fun b => Q (.bl (!b)) m'
theorem de_one {op} {f : GE} (h : DE X a f) : DE X (.BoolOp op [a] pos) f := ⟨fun cur W ex co tk lk => pe_one (h.run cur W ex co tk lk)⟩
theorem de_and (ha : DE X a fa) (hb : DE X (.BoolOp .And (b :: rest) pos) fb) : DE X (.BoolOp .And (a :: b :: rest) pos) (gAnd fa fb) := ⟨fun cur W ex co tk lk =>
  pe_imp (pe_and (ha.run cur W ex co tk lk) (hb.run cur W ex co tk lk)) fun σ H Q ⟨ρ, m, Q', cu, o, s, q, k⟩ => ⟨ρ, m, _, cu, o, s, q, fun d m1 v H1 q1 e1 o1 t1 => by
    have q2 : onBl d (fun b => if b = true then fb ex ρ m1 Q' else Q' (.bl false) m1) := q1
    cases t1 with
    | bl c =>
      cases c with
      | true => exact ⟨true, rfl, by rw [if_pos rfl]; exact ⟨ρ, m1, Q', co.ext cu o.cells e1, o1, s.ext e1, q2, Cq.ext k e1 o1.cells⟩⟩
      | false => exact ⟨false, rfl, by rw [if_neg (by decide)]; exact k _ m1 _ H1 q2 e1 o1 (.bl false)⟩
    | _ => exact q2.elim⟩⟩
theorem de_or (ha : DE X a fa) (hb : DE X (.BoolOp .Or (b :: rest) pos) fb) : DE X (.BoolOp .Or (a :: b :: rest) pos) (gOr fa fb) := ⟨fun cur W ex co tk lk =>
  pe_imp (pe_or (ha.run cur W ex co tk lk) (hb.run cur W ex co tk lk)) fun σ H Q ⟨ρ, m, Q', cu, o, s, q, k⟩ => ⟨ρ, m, _, cu, o, s, q, fun d m1 v H1 q1 e1 o1 t1 => by
    have q2 : onBl d (fun b => if b = true then Q' (.bl true) m1 else fb ex ρ m1 Q') := q1
    cases t1 with
    | bl c =>
      cases c with
      | true => exact ⟨true, rfl, by rw [if_pos rfl]; exact k _ m1 _ H1 q2 e1 o1 (.bl true)⟩
      | false => exact ⟨false, rfl, by rw [if_neg (by decide)]; exact ⟨ρ, m1, Q', co.ext cu o.cells e1, o1, s.ext e1, q2, Cq.ext k e1 o1.cells⟩⟩
    | _ => exact q2.elim⟩⟩
theorem de_not (ha : DE X a fa) : DE X (.UnaryOp .Not a pos) (gNot fa) := ⟨fun cur W ex co tk lk =>
  pe_imp (pe_not (ha.run cur W ex co tk lk)) fun σ H Q ⟨ρ, m, Q', cu, o, s, q, k⟩ => ⟨ρ, m, _, cu, o, s, q, fun d m1 v H1 q1 e1 o1 t1 => by
    have q2 : onBl d (fun b => Q' (.bl (!b)) m1) := q1
    cases t1 with
    | bl c => exact ⟨c, rfl, k _ m1 _ H1 q2 e1 o1 (.bl _)⟩
    | _ => exact q2.elim⟩⟩
def gIf (c : GT) (f g : GE) : GE := fun ex ρ m Q => c ex ρ m fun b m' => if b = true then f ex ρ m' Q else g ex ρ m' Q
theorem de_if {t : Expr} (hc : DT X t ca) (ha : DE X a fa) (hb : DE X b fb) : DE X (.IfExp t a b pos) (gIf ca fa fb) := ⟨fun cur W ex co tk lk =>
  pe_imp (pe_ifExp (hc.run cur W ex co tk lk) (ha.run cur W ex co tk lk) (hb.run cur W ex co tk lk)) fun σ H Q ⟨ρ, m, Q', cu, o, s, q, k⟩ => ⟨ρ, m, _, cu, o, s, q, fun d m1 H1 q1 e1 o1 => by
    cases d with
    | true => exact ⟨ρ, m1, Q', co.ext cu o.cells e1, o1, s.ext e1, q1, Cq.ext k e1 o1.cells⟩
    | false => exact ⟨ρ, m1, Q', co.ext cu o.cells e1, o1, s.ext e1, q1, Cq.ext k e1 o1.cells⟩⟩⟩
end

/-! names stored -/
section
variable {X : Cx} {pos : Pos}
abbrev GG := Exx → D → Env → Mu → (Env → Mu → Prop) → Prop
/-- all but the slots ws are as they were -/
def Apart (ws : List Nat) (σ σ' : L2.St) : Prop := σ'.length = σ.length ∧ ∀ j, j ∉ ws → σ'[j]? = σ[j]?
theorem Apart.refl (σ : L2.St) : Apart [] σ σ := ⟨rfl, fun _ _ => rfl⟩
theorem Apart.trans {a b : List Nat} {σ σ1 σ2 : L2.St} (h : Apart a σ σ1) (g : Apart b σ1 σ2) : Apart (a ++ b) σ σ2 :=
  ⟨g.1.trans h.1, fun j hj => (g.2 j fun z => hj (List.mem_append_right _ z)).trans (h.2 j fun z => hj (List.mem_append_left _ z))⟩
structure DG (X : Cx) (target : Expr) (ws : List Nat) (g : GG) : Prop where
  run : ∀ cur W ex, CurOk cur → Takes X W → Lk X.K cur W ex → PG X target fun v σ H Q => ∃ d ρ m Q', cur m H ∧ Ok X.K m H ∧ Sl X.K m H σ ρ ∧ Dt X.K m H v d ∧ g ex d ρ m Q' ∧ ∀ ρ' m' σ' H', Q' ρ' m' → Ext m H m' H' → Ok X.K m' H' → Sl X.K m' H' σ' ρ' → Apart ws σ σ' → Q σ' H'
theorem pg_imp {X : Cx} {e : Expr} {t t' : TG} (h : PG X e t) (i : ∀ v σ H Q, t' v σ H Q → t v σ H Q) : PG X e t' := ⟨fun pins s σ H v u Q I r q => h.run pins s σ H v u Q I r (i v σ H Q q)⟩
def nName (i : Nat) : GG := fun _ d ρ m Q => Q (ρ.set i (some d)) m
theorem dg_name {i : Nat} {x : Str} (hN : X.N.Nodup) (hi : X.N[i]? = some x) (hx : Loc X.env.scope x) (hf : X.fn x = true ∨ X.env.scope.names.lookup x = some .local := by first | exact .inl rfl | exact .inr rfl | assumption) : DG X (.Name x pos) [i] (nName i) := ⟨fun cur W ex co tk lk =>
  pg_imp (pg_name hN hi hx hf) fun v σ H Q ⟨d, ρ, m, Q', cu, o, s, t, q, k⟩ => k _ m _ H q (Ext.refl m H) o (s.set t i) ⟨List.length_set, fun j hj => List.getElem?_set_ne fun z => hj (by simp [z])⟩⟩
/-- several targets -/
abbrev GGs := Exx → List D → Env → Mu → (Env → Mu → Prop) → Prop
structure DGs (X : Cx) (ts : List Expr) (ws : List Nat) (g : GGs) : Prop where
  run : ∀ cur W ex, CurOk cur → Takes X W → Lk X.K cur W ex → PGs X ts fun vs σ H Q => ∃ ds ρ m Q', cur m H ∧ Ok X.K m H ∧ Sl X.K m H σ ρ ∧ Dts X.K m H vs ds ∧ g ex ds ρ m Q' ∧ ∀ ρ' m' σ' H', Q' ρ' m' → Ext m H m' H' → Ok X.K m' H' → Sl X.K m' H' σ' ρ' → Apart ws σ σ' → Q σ' H'
theorem pgs_imp {X : Cx} {e : List Expr} {t t' : TGs} (h : PGs X e t) (i : ∀ v σ H Q, t' v σ H Q → t v σ H Q) : PGs X e t' := ⟨fun pins s σ H v u Q I r q => h.run pins s σ H v u Q I r (i v σ H Q q)⟩
def nNil : GGs := fun _ ds ρ m Q => ds = [] ∧ Q ρ m
def nCons (f : GG) (g : GGs) : GGs := fun ex ds ρ m Q => match ds with
  | d :: r => f ex d ρ m fun ρ' m' => g ex r ρ' m' Q
  | [] => False
theorem dgs_nil : DGs X [] [] nNil := ⟨fun cur W ex co tk lk => pgs_imp pgs_nil fun v σ H Q ⟨ds, ρ, m, Q', cu, o, s, t, ⟨e, q⟩, k⟩ => by
  subst e
  cases t
  exact ⟨rfl, k ρ m σ H q (Ext.refl m H) o s (Apart.refl σ)⟩⟩
theorem dgs_cons {e : Expr} {es : List Expr} {ws1 ws2 : List Nat} {f : GG} {g : GGs} (h1 : DG X e ws1 f) (h2 : DGs X es ws2 g)
    (hs : (assignEach (e :: es) X.env).map (·.2) = assign e X.env :: (assignEach es X.env).map (·.2) := by rfl) : DGs X (e :: es) (ws1 ++ ws2) (nCons f g) := ⟨fun cur W ex co tk lk =>
  pgs_imp (pgs_cons (h1.run cur W ex co tk lk) (h2.run cur W ex co tk lk) hs) fun v σ H Q ⟨ds, ρ, m, Q', cu, o, s, t, q, k⟩ => by
    cases t with
    | nil => exact q.elim
    | @cons v vs d ds t1 t2 => exact ⟨v, vs, rfl, d, ρ, m, _, cu, o, s, t1, q, fun ρ' m' σ' H' q' e' o' s' a' => ⟨ds, ρ', m', Q', co.ext cu o.cells e', o', s', t2.ext e', q', fun ρ2 m2 σ2 H2 q2 e2 o2 s2 a2 => k ρ2 m2 σ2 H2 q2 (e'.trans e2 o'.cells) o2 s2 (a'.trans a2)⟩⟩⟩
def nTup (n : Nat) (g : GGs) : GG := fun ex d ρ m Q => match d with
  | .tup ds => ds.length = n ∧ g ex ds ρ m Q
  | _ => False
theorem dg_tup {es : List Expr} {kk : Nat} {ws : List Nat} {g : GGs} {n : Nat} (hc : X.calm = true) (h : DGs X es ws g) (hn : (assignEach es X.env).length = n := by rfl) (hst : (assignEach es X.env).findIdx? (·.1) = none := by rfl) : DG X (.Tuple es kk pos) ws (nTup n g) := ⟨fun cur W ex co tk lk =>
  pg_imp (pg_tup hc (h.run cur W ex co tk lk) hn hst) fun v σ H Q ⟨d, ρ, m, Q', cu, o, s, t, q, k⟩ => by
    cases t with
    | @tup p vs ds ht hts =>
      obtain ⟨hl, q⟩ := (q : ds.length = n ∧ g ex ds ρ m Q')
      refine ⟨p, vs, rfl, ?_, hts.length.trans hl, ds, ρ, m, Q', cu, o, s, hts, q, k⟩
      rcases ht with ⟨h1, _⟩ | h1
      · exact SqT.of h1
      · exact .inr h1
    | _ => exact q.elim⟩
def sAsg (f : GE) (g : GG) : GS := fun ex G ρ m => f ex ρ m fun d m' => g ex d ρ m' G.nx
theorem asg_imp {cur : Cur} {W : WX} {ex : Exx} {f : GE} {g : GG} {ws : List Nat} (co : CurOk cur) {E : Ends} {σ : L2.St} {H : Hp} (h : lS X.K cur (sAsg f g ex) E σ H) :
    tAsg (lE X.K cur (f ex)) (fun v σ H Q => ∃ d ρ m Q', cur m H ∧ Ok X.K m H ∧ Sl X.K m H σ ρ ∧ Dt X.K m H v d ∧ g ex d ρ m Q' ∧ ∀ ρ' m' σ' H', Q' ρ' m' → Ext m H m' H' → Ok X.K m' H' → Sl X.K m' H' σ' ρ' → Apart ws σ σ' → Q σ' H') E σ H := by
  obtain ⟨ρ, m, G, cu, o, s, q, k⟩ := h
  exact ⟨ρ, m, _, cu, o, s, q, fun d m' v H' q' e o' t => ⟨d, ρ, m', G.nx, co.ext cu o.cells e, o', s.ext e, t, q', fun ρ2 m2 σ2 H2 q2 e2 o2 s2 _ => k.nx ρ2 m2 σ2 H2 q2 (e.trans e2 o'.cells) o2 s2⟩⟩
theorem ds_asg {tg e : Expr} {f : GE} {g : GG} {ws : List Nat} (he : DE X e f) (hg : DG X tg ws g) (hs : swapsWithSole [tg] e pos.line X.env = pure false := by rfl) (hw : swappedStores [tg] e X.env = pure none := by rfl)
    (h1 : (assignEach [tg] X.env).map (·.2) = [assign tg X.env] := by rfl) : DS X (.Assign [tg] e pos) (sAsg f g) := ⟨fun cur W ex co tk lk =>
  ps_imp (ps_asg (he.run cur W ex co tk lk) (hg.run cur W ex co tk lk) hs hw h1) fun E σ H h => asg_imp (W := W) co h⟩
def sSet (i : Nat) (f : GE) : GS := fun ex G ρ m => f ex ρ m fun d m' => G.nx (ρ.set i (some d)) m'
theorem ds_set {i : Nat} {x : Str} {e : Expr} {f : GE} {pos' : Pos} (hN : X.N.Nodup) (hi : X.N[i]? = some x) (hx : Loc X.env.scope x) (he : DE X e f) (hs : swapsWith e (some (.Name x pos')) pos.line X.env = pure false := by rfl)
    (hf : X.fn x = true ∨ X.env.scope.names.lookup x = some .local := by first | exact .inl rfl | exact .inr rfl | assumption) : DS X (.Assign [.Name x pos'] e pos) (sSet i f) := ⟨fun cur W ex co tk lk =>
  ps_imp (ps_set hN hi hx (he.run cur W ex co tk lk) hs hf) fun E σ H ⟨ρ, m, G, cu, o, s, q, k⟩ => ⟨ρ, m, _, cu, o, s, q, fun d m' v H' q e o' t => k.nx _ m' _ H' q e o' ((s.ext e).set t i)⟩⟩
end
end Nd

namespace Nd
open PySem L2 PyProof.Rows PySem.Spec
/-! ints -/
def onInt (d : D) (P : Int → Prop) : Prop := match d with
  | .int i => P i
  | _ => False
def onStr (d : D) (P : Str → Prop) : Prop := match d with
  | .str i => P i
  | _ => False
section
variable {K : PySem.W.Frag}
def dInt (C : Int → Int → Prop) (g : Int → Int → D) : DR2 := fun x y m Q => onInt x fun i => onInt y fun j => C i j ∧ Q (g i j) m
theorem od_int {C : Int → Int → Prop} {g : Int → Int → D} {gv : Int → Int → V} (r : ∀ m H i j, Dt K m H (gv i j) (g i j)) : OpD K (dInt C g) (rI C gv) := by
  intro m H x y dx dy Q' Q ok tx ty q k
  cases tx with
  | int i =>
    cases ty with
    | int j =>
      obtain ⟨c, q⟩ := (q : C i j ∧ Q' (g i j) m)
      exact ⟨i, j, rfl, rfl, c, k _ m _ H q (Ext.refl m H) ok (r m H i j)⟩
    | _ => exact (q : False).elim
  | _ => exact (q : False).elim
def dInt0 (g : Int → Int → D) : DR2 := fun x y m Q => onInt x fun i => onInt y fun j => Q (g i j) m
theorem od_int0 {g : Int → Int → D} {gv : Int → Int → V} (r : ∀ m H i j, Dt K m H (gv i j) (g i j)) : OpD K (dInt0 g) (rI0 gv) := by
  intro m H x y dx dy Q' Q ok tx ty q k
  cases tx with
  | int i =>
    cases ty with
    | int j =>
      have q : Q' (g i j) m := q
      exact ⟨i, j, rfl, rfl, k _ m _ H q (Ext.refl m H) ok (r m H i j)⟩
    | _ => exact (q : False).elim
  | _ => exact (q : False).elim
abbrev ri (g : Int → Int → Int) : ∀ (m : Mu) (H : Hp) (i j : Int), Dt K m H (.int (g i j)) (.int (g i j)) := fun m H i j => .int (g i j)
abbrev rb (g : Int → Int → Bool) : ∀ (m : Mu) (H : Hp) (i j : Int), Dt K m H (.bl (g i j)) (.bl (g i j)) := fun m H i j => .bl (g i j)
abbrev dSub : DR2 := dInt0 fun i j => .int (i - j)
abbrev dFdiv : DR2 := dInt CDiv fun i j => .int (i / j)
abbrev dMod : DR2 := dInt (fun _ j => 0 < j) fun i j => .int (i % j)
abbrev dPow : DR2 := dInt CPow fun i j => .int (i ^ j.toNat)
abbrev dShl : DR2 := dInt CPow fun i j => .int (i * 2 ^ j.toNat)
abbrev dShr : DR2 := dInt (fun _ j => 0 ≤ j) fun i j => .int (i / 2 ^ j.toNat)
abbrev dBand : DR2 := dInt0 fun i j => .int (Builtin.bitAnd i j)
abbrev dBor : DR2 := dInt0 fun i j => .int (Builtin.bitOr i j)
abbrev dLt : DR2 := dInt0 fun i j => .bl (decide (i < j))
abbrev dLe : DR2 := dInt0 fun i j => .bl (decide (i ≤ j))
abbrev dGt : DR2 := dInt0 fun i j => .bl (decide (j < i))
abbrev dGe : DR2 := dInt0 fun i j => .bl (decide (j ≤ i))
theorem od_sub : OpD K dSub (rI0 fun i j => .int (i - j)) := od_int0 (ri fun i j => i - j)
theorem od_fdiv : OpD K dFdiv (rI CDiv fun i j => .int (i / j)) := od_int (ri fun i j => i / j)
theorem od_mod : OpD K dMod (rI (fun _ j => 0 < j) fun i j => .int (i % j)) := od_int (ri fun i j => i % j)
theorem od_pow : OpD K dPow (rI CPow fun i j => .int (i ^ j.toNat)) := od_int (ri fun i j => i ^ j.toNat)
theorem od_shl : OpD K dShl (rI CPow fun i j => .int (i * 2 ^ j.toNat)) := od_int (ri fun i j => i * 2 ^ j.toNat)
theorem od_shr : OpD K dShr (rI (fun _ j => 0 ≤ j) fun i j => .int (i / 2 ^ j.toNat)) := od_int (ri fun i j => i / 2 ^ j.toNat)
theorem od_band : OpD K dBand (rI0 fun i j => .int (Builtin.bitAnd i j)) := od_int0 (ri fun i j => Builtin.bitAnd i j)
theorem od_bor : OpD K dBor (rI0 fun i j => .int (Builtin.bitOr i j)) := od_int0 (ri fun i j => Builtin.bitOr i j)
theorem od_lt : OpD K dLt (rI0 fun i j => .bl (decide (i < j))) := od_int0 (rb fun i j => decide (i < j))
theorem od_le : OpD K dLe (rI0 fun i j => .bl (decide (i ≤ j))) := od_int0 (rb fun i j => decide (i ≤ j))
theorem od_gt : OpD K dGt (rI0 fun i j => .bl (decide (j < i))) := od_int0 (rb fun i j => decide (j < i))
theorem od_ge : OpD K dGe (rI0 fun i j => .bl (decide (j ≤ i))) := od_int0 (rb fun i j => decide (j ≤ i))

/-! + of ints, texts, lists, tuples -/
def rAddU (K : PySem.W.Frag) : R2 := fun x y H Q => rI0 (fun i j => .int (i + j)) x y H Q ∨ (∃ i j : Str, x = .str i ∧ y = .str j ∧ i.length + j.length ≤ sizeLine ∧ Q (.str (i ++ j)) H) ∨ rCat x y H Q ∨ rCatA K x y H Q
theorem op_addstr {X : Cx} : OpR X (binaryOp .Add) (fun x y H Q => ∃ i j : Str, x = .str i ∧ y = .str j ∧ i.length + j.length ≤ sizeLine ∧ Q (.str (i ++ j)) H) := op_add_str
theorem op_addU {X : Cx} : OpR X (binaryOp .Add) (rAddU X.K) := op_add.or (op_addstr.or (op_cat.or op_catA))
def dAdd : DR2 := fun x y m Q => match vw m x, vw m y with
  | .int i, .int j => Q (.int (i + j)) m
  | .str a, .str b => a.length + b.length ≤ sizeLine ∧ Q (.str (a ++ b)) m
  | .lst a, .lst b => a.length + b.length ≤ sizeLine ∧ Q (.lst (a ++ b)) m
  | .tup a, .tup b => a.length + b.length ≤ sizeLine ∧ Q (.tup (a ++ b)) m
  | _, _ => False
theorem new_lst {m : Mu} {H : Hp} {p : Addr} {vs : List V} {ds : List D} (ok : Ok K m H) (hp : H p = none) (t : Dts K m H vs ds) : Dt K m (upd H p (.lst vs)) (.ref p) (.lst ds) := .lst upd_same (mu_none ok hp) (t.ext (ext_new hp))
theorem new_tup {m : Mu} {H : Hp} {p : Addr} {vs : List V} {ds : List D} (ok : Ok K m H) (hp : H p = none) (t : Dts K m H vs ds) : Dt K m (upd H p (.tup vs)) (.ref p) (.tup ds) := .tup (.inl ⟨upd_same, mu_none ok hp⟩) (t.ext (ext_new hp))
theorem od_add : OpD K dAdd (rAddU K) := by
  intro m H x y dx dy Q' Q ok tx ty q k
  have hx := tx.vw ok
  have hy := ty.vw ok
  unfold dAdd at q
  generalize Nd.vw m dx = ex at hx q
  generalize Nd.vw m dy = ey at hy q
  cases hx with
  | int i =>
    cases hy with
    | int j => exact .inl ⟨i, j, rfl, rfl, k _ m _ H q (Ext.refl m H) ok (.int _)⟩
    | _ => exact q.elim
  | str i =>
    cases hy with
    | str j => exact .inr (.inl ⟨i, j, rfl, rfl, q.1, k _ m _ H q.2 (Ext.refl m H) ok (.str _)⟩)
    | _ => exact q.elim
  | lst h1 t1 =>
    cases hy with
    | lst h2 t2 => exact .inr (.inr (.inl ⟨_, _, _, _, rfl, rfl, h1, h2, by rw [t1.length, t2.length]; exact q.1, fun p hp => k _ m _ _ q.2 (ext_new hp) (ok_new ok hp) (new_lst ok hp (t1.append t2))⟩))
    | _ => exact q.elim
  | @tup p1 v1 d1 s1 t1 r1 =>
    cases hy with
    | @tup p2 v2 d2 s2 t2 r2 =>
      refine .inr (.inr (.inr ⟨_, _, _, _, rfl, rfl, s1, s2, by rw [t1.length, t2.length]; exact q.1, fun e => ?_, fun e1 e2 => ?_, fun e1 e2 p hp => ?_⟩))
      · subst e
        cases t1
        exact k _ m _ H q.2 (Ext.refl m H) ok (by simpa using r2)
      · subst e2
        cases t2
        exact k _ m _ H q.2 (Ext.refl m H) ok (by simpa using r1)
      · exact k _ m _ _ q.2 (ext_new hp) (ok_new ok hp) (new_tup ok hp (t1.append t2))
    | _ => exact q.elim
  | _ => exact q.elim

/-! * of ints, a text, a list, a tuple and an int -/
def rMulS : R2 := fun x y H Q => ∃ (z : Str) (i : Int), x = .str z ∧ y = .int i ∧ i ≤ 1000000 ∧ -(2 ^ 63) ≤ i ∧ z.length * i.toNat ≤ 16000000 ∧ Q (.str (Txt.mul z i)) H
theorem op_mulS {X : Cx} : OpR X (binaryOp .Mult) rMulS := by
  intro pins s σ H x y v u Q I rx ry h
  obtain ⟨z, i, rfl, rfl, h1, h0, h2, q⟩ := h
  obtain ⟨t, rfl⟩ := rx
  obtain ⟨t', rfl⟩ := ry
  refine PySem.SB.mul ⟨?_, fun a b => ?_, fun a b => ?_⟩ fun t2 k2 => ⟨.str _, H, I.tok _, ⟨_, rfl⟩, q⟩
  · rw [decide_eq_false (by omega), decide_eq_false (by omega)]; rfl
  · have e : (2 ^ 63 - 1 : Int) / 1000000 ≤ (2 ^ 63 - 1) / i := by
      refine Int.le_ediv_of_mul_le (by omega) ?_
      have hz : ((2 ^ 63 - 1 : Int) / 1000000) * i ≤ ((2 ^ 63 - 1 : Int) / 1000000) * 1000000 := Int.mul_le_mul_of_nonneg_left h1 (by decide)
      exact Int.le_trans hz (by decide)
    have hl : z.length ≤ z.length * i.toNat := Nat.le_mul_of_pos_right _ (by omega)
    have e2 : (2 ^ 63 - 1 : Int) / 1000000 = 9223372036854 := by decide
    omega
  · unfold Builtin.Str.tooLong
    simp only [decide_eq_false_iff_not]
    have hs : sizeLine = 16777216 := sizeLine_eq
    omega
def rMulU (K : PySem.W.Frag) : R2 := fun x y H Q => rI CMul (fun i j => .int (i * j)) x y H Q ∨ rMulS x y H Q ∨ rRep x y H Q
theorem op_mulU {X : Cx} : OpR X (binaryOp .Mult) (rMulU X.K) := op_mul.or (op_mulS.or op_rep)
def dMul : DR2 := fun x y m Q => match vw m x, y with
  | .int i, .int j => CMul i j ∧ Q (.int (i * j)) m
  | .str z, .int i => (i ≤ 1000000 ∧ -(2 ^ 63) ≤ i ∧ z.length * i.toNat ≤ 16000000) ∧ Q (.str (Txt.mul z i)) m
  | .lst ds, .int i => (-(2 ^ 63) ≤ i ∧ i < 2 ^ 63 ∧ ds.length * i.toNat ≤ sizeLine) ∧ Q (.lst (List.replicate i.toNat ds).flatten) m
  | _, _ => False
theorem Dts.rep {m : Mu} {H : Hp} {vs : List V} {ds : List D} (t : Dts K m H vs ds) : ∀ n : Nat, Dts K m H (List.replicate n vs).flatten (List.replicate n ds).flatten
  | 0 => .nil
  | n + 1 => by rw [List.replicate_succ, List.replicate_succ, List.flatten_cons, List.flatten_cons]; exact t.append (t.rep n)
theorem od_mul : OpD K dMul (rMulU K) := by
  intro m H x y dx dy Q' Q ok tx ty q k
  have hx := tx.vw ok
  unfold dMul at q
  generalize Nd.vw m dx = ex at hx q
  cases hx with
  | int i =>
    cases ty with
    | int j => exact .inl ⟨i, j, rfl, rfl, q.1, k _ m _ H q.2 (Ext.refl m H) ok (.int _)⟩
    | _ => exact q.elim
  | str i =>
    cases ty with
    | int j => exact .inr (.inl ⟨i, j, rfl, rfl, q.1.1, q.1.2.1, q.1.2.2, k _ m _ H q.2 (Ext.refl m H) ok (.str _)⟩)
    | _ => exact q.elim
  | lst h1 t1 =>
    cases ty with
    | int j => exact .inr (.inr ⟨_, _, _, rfl, rfl, h1, q.1.1, q.1.2.1, by rw [t1.length]; exact q.1.2.2, fun p hp => k _ m _ _ q.2 (ext_new hp) (ok_new ok hp) (new_lst ok hp (t1.rep _))⟩)
    | _ => exact q.elim
  | _ => exact q.elim

/-! items and parts -/
def rIxU (K : PySem.W.Frag) : R2 := rIx K
def onSome {α : Type} (o : Option α) (P : α → Prop) : Prop := match o with
  | some a => P a
  | none => False
def dIx : DR2 := fun x y m Q => match vw m x, y with
  | .lst ds, .int i => onSome (atI ds i) fun d => Q d m
  | .ro ds, .int i => onSome (atI ds i) fun d => Q d m
  | .tup ds, .int i => onSome (atI ds i) fun d => Q d m
  | .str z, .int i => z.length ≤ sizeLine ∧ onSome (atI z.cps.toList i) fun c => Q (.str ⟨#[c]⟩) m
  | _, _ => False
theorem dts_at {m : Mu} {H : Hp} {vs : List V} {ds : List D} (t : Dts K m H vs ds) {i : Int} {P : D → Prop} (h : onSome (atI ds i) P) : ∃ v d, atI vs i = some v ∧ Dt K m H v d ∧ P d := by
  cases e : atI ds i with
  | none => rw [e] at h; exact h.elim
  | some d =>
    rw [e] at h
    unfold atI at e ⊢
    rw [t.length]
    cases q : ixN ds.length i with
    | none => rw [q] at e; cases e
    | some j =>
      rw [q] at e
      obtain ⟨v, h1, h2⟩ := t.get e
      exact ⟨v, d, h1, h2, h⟩
theorem od_ix : OpD K dIx (rIx K) := by
  intro m H x y dx dy Q' Q ok tx ty q k
  have hx := tx.vw ok
  unfold dIx at q
  generalize Nd.vw m dx = ex at hx q
  cases hx with
  | lst h1 t1 =>
    cases ty with
    | int j =>
      obtain ⟨v, d, e, r, q⟩ := dts_at t1 q
      exact .inl ⟨_, _, j, v, rfl, rfl, SqL.of h1, e, k d m v H q (Ext.refl m H) ok r⟩
    | _ => exact q.elim
  | ro h1 t1 =>
    cases ty with
    | int j =>
      obtain ⟨v, d, e, r, q⟩ := dts_at t1 q
      exact .inl ⟨_, _, j, v, rfl, rfl, h1, e, k d m v H q (Ext.refl m H) ok r⟩
    | _ => exact q.elim
  | tup h1 t1 _ =>
    cases ty with
    | int j =>
      obtain ⟨v, d, e, r, q⟩ := dts_at t1 q
      exact .inr (.inl ⟨_, _, j, v, rfl, rfl, h1, e, k d m v H q (Ext.refl m H) ok r⟩)
    | _ => exact q.elim
  | str z =>
    cases ty with
    | int j =>
      obtain ⟨q0, q⟩ := q
      cases e : atI z.cps.toList j with
      | none => rw [e] at q; exact q.elim
      | some c =>
        rw [e] at q
        exact .inr (.inr ⟨z, j, c, rfl, rfl, q0, e, k _ m _ H q (Ext.refl m H) ok (.str _)⟩)
    | _ => exact q.elim
  | _ => exact q.elim
end
section
variable {X : Cx} {a b e : Expr} {fa fb f fl fh : GE} {pos p2 : Pos} {lo hi : Option Expr}
theorem de_ix (ha : DE X a fa) (hb : DE X b fb) (hs : PlainIx b := by intro _ _; rfl) : DE X (.Subscript a b pos) (gBin dIx fa fb) := ⟨fun cur W ex co tk lk =>
  pe_imp (pe_ix ix_seq (ha.run cur W ex co tk lk) (hb.run cur W ex co tk lk) hs) fun σ H Q h => bin_imp co od_ix h⟩
/-- a part of a slice -/
abbrev GO := Exx → Env → Mu → (Option Int → Mu → Prop) → Prop
structure DO (X : Cx) (e : Option Expr) (g : GO) : Prop where
  run : ∀ cur W ex, CurOk cur → Takes X W → Lk X.K cur W ex → PO X e fun σ H Q => ∃ ρ m Q', cur m H ∧ Ok X.K m H ∧ Sl X.K m H σ ρ ∧ g ex ρ m Q' ∧ ∀ d m' H', Q' d m' → Ext m H m' H' → Ok X.K m' H' → Q d H'
theorem po_imp {X : Cx} {e : Option Expr} {t t' : TO} (h : PO X e t) (i : ∀ σ H Q, t' σ H Q → t σ H Q) : PO X e t' := ⟨fun pins s σ H Q I q => h.run pins s σ H Q I (i σ H Q q)⟩
def oNo : GO := fun _ _ m Q => Q none m
def oSome (f : GE) : GO := fun ex ρ m Q => f ex ρ m fun d m' => onInt d fun i => Q (some i) m'
theorem do_none : DO X none oNo := ⟨fun cur W ex co tk lk => po_imp po_none fun σ H Q ⟨ρ, m, Q', cu, o, s, q, k⟩ => k none m H q (Ext.refl m H) o⟩
theorem do_some (h : DE X e f) : DO X (some e) (oSome f) := ⟨fun cur W ex co tk lk => po_imp (po_some (h.run cur W ex co tk lk)) fun σ H Q ⟨ρ, m, Q', cu, o, s, q, k⟩ => ⟨ρ, m, _, cu, o, s, q, fun d m' v H' q' e' o' t => by
  cases t with
  | int i => exact ⟨i, rfl, k (some i) m' H' q' e' o'⟩
  | _ => exact (q' : False).elim⟩⟩
def cutD (xs : List D) (lo hi : Option Int) : List D := (xs.drop (HT.sIx xs.length 0 lo)).take (HT.sIx xs.length xs.length hi - HT.sIx xs.length 0 lo)
def rSlU (K : PySem.W.Frag) : V → Option Int → Option Int → Hp → VK → Prop := fun x lo hi H Q => rSlL K x lo hi H Q ∨ rSlA K x lo hi H Q ∨ rSlS x lo hi H Q
theorem sl_U : SlR X (rSlU X.K) := sl_list.or (sl_tupA.or sl_str)
def dSl : D → Option Int → Option Int → Mu → (D → Mu → Prop) → Prop := fun x lo hi m Q => match vw m x with
  | .lst ds => Q (.lst (cutD ds lo hi)) m
  | .tup ds => Q (.tup (cutD ds lo hi)) m
  | .str z => z.length ≤ sizeLine ∧ Q (.str (cutS z lo hi)) m
  | _ => False
theorem dts_cut {K : PySem.W.Frag} {m : Mu} {H : Hp} {vs : List V} {ds : List D} (t : Dts K m H vs ds) (lo hi : Option Int) : Dts K m H (cutV vs lo hi) (cutD ds lo hi) := by
  unfold cutV cutD
  rw [t.length]
  exact (t.drop _).take _
theorem cut_whole {ds : List D} {lo hi : Option Int} (h : HT.sIx ds.length 0 lo = 0 ∧ HT.sIx ds.length ds.length hi = ds.length) : cutD ds lo hi = ds := by
  unfold cutD
  rw [h.1, h.2]
  simp
def gSl (f : GE) (l h : GO) : GE := fun ex ρ m Q => f ex ρ m fun x m1 => l ex ρ m1 fun lo m2 => h ex ρ m2 fun hi m3 => dSl x lo hi m3 Q
theorem de_slice {gl gh : GO} (he : DE X e f) (hl : DO X lo gl) (hh : DO X hi gh) : DE X (.Subscript e (.Slice lo hi none p2) pos) (gSl f gl gh) := ⟨fun cur W ex co tk lk =>
  pe_imp (pe_slice sl_U (he.run cur W ex co tk lk) (hl.run cur W ex co tk lk) (hh.run cur W ex co tk lk)) fun σ H Q ⟨ρ, m, Q', cu, o, s, q, k⟩ => ⟨ρ, m, _, cu, o, s, q, fun x m1 v H1 q1 e1 o1 t1 =>
    ⟨ρ, m1, _, co.ext cu o.cells e1, o1, s.ext e1, q1, fun l m2 H2 q2 e2 o2 => ⟨ρ, m2, _, co.ext cu o.cells (e1.trans e2 o1.cells), o2, s.ext (e1.trans e2 o1.cells), q2, fun h m3 H3 q3 e3 o3 => by
      have e13 := (e1.trans e2 o1.cells).trans e3 o2.cells
      have t3 := (t1.ext e2).ext e3
      have hx := t3.vw o3
      unfold dSl at q3
      generalize Nd.vw m3 x = ex' at hx q3
      cases hx with
      | lst h1 t => exact .inl ⟨_, _, rfl, SqL.of h1, fun p hp => k _ m3 _ _ q3 (e13.trans (ext_new hp) o3.cells) (ok_new o3 hp) (new_lst o3 hp (dts_cut t l h))⟩
      | tup h1 t r => exact .inr (.inl ⟨_, _, rfl, h1, fun w => k _ m3 _ H3 q3 e13 o3 (by rw [t.length] at w; rw [cut_whole w]; exact r), fun _ p hp => k _ m3 _ _ q3 (e13.trans (ext_new hp) o3.cells) (ok_new o3 hp) (new_tup o3 hp (dts_cut t l h))⟩)
      | str z => exact .inr (.inr ⟨z, rfl, q3.1, k _ m3 _ H3 q3.2 e13 o3 (.str _)⟩)
      | _ => exact q3.elim⟩⟩⟩⟩
end
end Nd

namespace Nd
open PySem L2 PyProof.Rows PySem.Spec
/-! data as the library's data -/
mutual
def py : D → PyData
  | .non => .none
  | .bl b => .bool b
  | .int i => .int i
  | .str x => .str x
  | .lst ds => .list (pys ds)
  | .tup ds => .tuple (pys ds)
  | .ro ds => .list (pys ds)
  | .dct kvs => .dict (pyk kvs)
  | .obj _ _ => .none
  | .cel _ => .none
  | .cls _ => .none
def pys : List D → List PyData
  | [] => []
  | d :: ds => py d :: pys ds
def pyk : List (Key × D) → List (PyData × PyData)
  | [] => []
  | (k, d) :: ds => ((match k with | .inl i => PyData.int i | .inr x => PyData.str x), py d) :: pyk ds
end
/-- data of at most so many levels, without objects and cells -/
def okd : Nat → D → Bool
  | _, .non => true
  | _, .bl _ => true
  | _, .int i => decide (i.natAbs.log2 < 1920)
  | _, .str x => PyData.strOk x
  | n + 1, .lst ds => ds.all (okd n)
  | n + 1, .tup ds => ds.all (okd n)
  | n + 1, .dct kvs => kvs.all fun p => (match p.1 with | .inl i => decide (i.natAbs.log2 < 1920) | .inr x => PyData.strOk x) && okd n p.2
  | _, _ => false
/-- .. and no dict in it -/
def nodct : Nat → D → Bool
  | _, .non => true
  | _, .bl _ => true
  | _, .int _ => true
  | _, .str _ => true
  | n + 1, .lst ds => ds.all (nodct n)
  | n + 1, .tup ds => ds.all (nodct n)
  | _, _ => false
theorem pys_eq : ∀ ds : List D, pys ds = ds.map py
  | [] => by simp [pys]
  | d :: ds => by simp [pys, pys_eq ds]
theorem canLay_all {xs : List PyData} (h : ∀ x ∈ xs, x.canLay0 = true) : PyData.canLayAll0 xs = true := by
  induction xs with
  | nil => simp [PyData.canLayAll0]
  | cons a r ih => simp only [PyData.canLayAll0, Bool.and_eq_true]; exact ⟨h a List.mem_cons_self, ih fun x hx => h x (List.mem_cons_of_mem _ hx)⟩
theorem showable_all {xs : List PyData} (h : ∀ x ∈ xs, x.showable = true) : PyData.showableAll xs = true := by
  induction xs with
  | nil => simp [PyData.showableAll]
  | cons a r ih => simp only [PyData.showableAll, Bool.and_eq_true]; exact ⟨h a List.mem_cons_self, ih fun x hx => h x (List.mem_cons_of_mem _ hx)⟩
theorem depth_all {n : Nat} {xs : List PyData} (h : ∀ x ∈ xs, x.depth ≤ n) : PyData.depthAll xs ≤ n := by
  induction xs with
  | nil => simp [PyData.depthAll]
  | cons a r ih =>
    have h1 := h a List.mem_cons_self
    have h2 := ih fun x hx => h x (List.mem_cons_of_mem _ hx)
    simp only [PyData.depthAll]
    omega
theorem okd_show : ∀ (n : Nat) (d : D), okd n d = true → (py d).showable = true ∧ (py d).depth ≤ n
  | n, .non, _ => by simp [py, PyData.showable, PyData.depth]
  | n, .bl _, _ => by simp [py, PyData.showable, PyData.depth]
  | n, .int i, h => by
    have h' : decide (i.natAbs.log2 < 1920) = true := by cases n <;> exact h
    simp only [py, PyData.showable, PyData.depth]
    exact ⟨h', Nat.zero_le _⟩
  | n, .str x, _ => by simp [py, PyData.showable, PyData.depth]
  | n + 1, .lst ds, h => by
    have h' : ∀ x ∈ ds, okd n x = true := List.all_eq_true.mp h
    have q : ∀ x ∈ pys ds, x.showable = true ∧ x.depth ≤ n := fun x hx => by
      rw [pys_eq] at hx
      obtain ⟨d, hd, rfl⟩ := List.mem_map.mp hx
      exact okd_show n d (h' d hd)
    simp only [py, PyData.showable, PyData.depth]
    exact ⟨showable_all fun x hx => (q x hx).1, Nat.succ_le_succ (depth_all fun x hx => (q x hx).2)⟩
  | n + 1, .tup ds, h => by
    have h' : ∀ x ∈ ds, okd n x = true := List.all_eq_true.mp h
    have q : ∀ x ∈ pys ds, x.showable = true ∧ x.depth ≤ n := fun x hx => by
      rw [pys_eq] at hx
      obtain ⟨d, hd, rfl⟩ := List.mem_map.mp hx
      exact okd_show n d (h' d hd)
    simp only [py, PyData.showable, PyData.depth]
    exact ⟨showable_all fun x hx => (q x hx).1, Nat.succ_le_succ (depth_all fun x hx => (q x hx).2)⟩
  | n + 1, .dct kvs, h => by
    have h' : ∀ p ∈ kvs, (match p.1 with | .inl i => decide (i.natAbs.log2 < 1920) | .inr x => PyData.strOk x) = true ∧ okd n p.2 = true := fun p hp => Bool.and_eq_true_iff.mp (List.all_eq_true.mp h p hp)
    simp only [py, PyData.showable, PyData.depth]
    suffices hh : PyData.showableKv (pyk kvs) = true ∧ PyData.depthKv (pyk kvs) ≤ n from ⟨hh.1, Nat.succ_le_succ hh.2⟩
    clear h
    induction kvs with
    | nil => simp [pyk, PyData.showableKv, PyData.depthKv]
    | cons p r ih =>
      obtain ⟨k, d⟩ := p
      obtain ⟨i1, i2⟩ := ih fun p hp => h' p (List.mem_cons_of_mem _ hp)
      obtain ⟨a1, a2⟩ := h' (k, d) List.mem_cons_self
      obtain ⟨b1, b2⟩ := okd_show n d a2
      simp only [pyk, PyData.showableKv, PyData.depthKv, Bool.and_eq_true]
      cases k with
      | inl i =>
        have a1 : decide (i.natAbs.log2 < 1920) = true := a1
        exact ⟨⟨⟨by simpa [PyData.showable] using a1, b1⟩, i1⟩, by simp [PyData.depth]; omega⟩
      | inr x => exact ⟨⟨⟨by simp [PyData.showable], b1⟩, i1⟩, by simp [PyData.depth]; omega⟩
  | 0, .lst _, h => by cases h
  | 0, .tup _, h => by cases h
  | 0, .dct _, h => by cases h
  | 0, .ro _, h => by cases h
  | _ + 1, .ro _, h => by cases h
  | 0, .obj _ _, h => by cases h
  | _ + 1, .obj _ _, h => by cases h
  | 0, .cel _, h => by cases h
  | _ + 1, .cel _, h => by cases h
  | 0, .cls _, h => by cases h
  | _ + 1, .cls _, h => by cases h
theorem okd_lay : ∀ (n k : Nat) (d : D), okd n d = true → nodct k d = true → (py d).canLay0 = true
  | n, _, .non, _, _ => by simp [py, PyData.canLay0]
  | n, _, .bl _, _, _ => by simp [py, PyData.canLay0]
  | n, _, .int i, h, _ => by simp [py, PyData.canLay0]
  | n, _, .str x, h, _ => by
    have h' : PyData.strOk x = true := by cases n <;> exact h
    simpa [py, PyData.canLay0] using h'
  | n + 1, k + 1, .lst ds, h, g => by
    simp only [py, PyData.canLay0]
    refine canLay_all fun x hx => ?_
    rw [pys_eq] at hx
    obtain ⟨d, hd, rfl⟩ := List.mem_map.mp hx
    exact okd_lay n k d (List.all_eq_true.mp h d hd) (List.all_eq_true.mp g d hd)
  | n + 1, k + 1, .tup ds, h, g => by
    simp only [py, PyData.canLay0]
    refine canLay_all fun x hx => ?_
    rw [pys_eq] at hx
    obtain ⟨d, hd, rfl⟩ := List.mem_map.mp hx
    exact okd_lay n k d (List.all_eq_true.mp h d hd) (List.all_eq_true.mp g d hd)
  | n, 0, .lst _, _, g => by cases g
  | n, 0, .tup _, _, g => by cases g
  | 0, _ + 1, .lst _, h, g => by cases h
  | 0, _ + 1, .tup _, h, g => by cases h
  | n, 0, .dct _, _, g => by cases g
  | n, _ + 1, .dct _, _, g => by cases g
  | n, 0, .ro _, _, g => by cases g
  | n, _ + 1, .ro _, _, g => by cases g
  | n, 0, .obj _ _, _, g => by cases g
  | n, _ + 1, .obj _ _, _, g => by cases g
  | n, 0, .cel _, _, g => by cases g
  | n, _ + 1, .cel _, _, g => by cases g
  | n, 0, .cls _, _, g => by cases g
  | n, _ + 1, .cls _, _, g => by cases g
theorem okd_shaped {n : Nat} {d : D} (hn : n ≤ 64) (h : okd n d = true) (g : nodct n d = true) : SeqAt.shaped (py d) = true := by
  unfold SeqAt.shaped
  rw [okd_lay n n d h g, Bool.true_and]
  exact decide_eq_true (Nat.le_trans (okd_show n d h).2 hn)

/-! how such data are read -/
mutual
theorem dt_dp {K : PySem.W.Frag} {m : Mu} {H : Hp} : ∀ (n : Nat) (d : D) (v : V), nodct n d = true → Dt K m H v d → Dp K H v (py d)
  | _, .non, _, _, t => by cases t; simp only [py]; exact .non
  | _, .bl b, _, _, t => by cases t; simp only [py]; exact .bl b
  | _, .int i, _, _, t => by cases t; simp only [py]; exact .int i
  | _, .str x, _, _, t => by cases t; simp only [py]; exact .str x
  | n + 1, .lst ds, _, h, t => by
    cases t with
    | lst a b c => simp only [py]; exact .lst (SqL.of a) (dts_dp n ds _ (List.all_eq_true.mp h) c)
  | n + 1, .tup ds, _, h, t => by
    cases t with
    | tup a c =>
      simp only [py]
      refine .tup ?_ (dts_dp n ds _ (List.all_eq_true.mp h) c)
      rcases a with ⟨a, _⟩ | a
      · exact SqT.of a
      · exact .inr a
  | 0, .lst _, _, h, _ => by cases h
  | 0, .tup _, _, h, _ => by cases h
  | 0, .dct _, _, h, _ => by cases h
  | _ + 1, .dct _, _, h, _ => by cases h
  | 0, .ro _, _, h, _ => by cases h
  | _ + 1, .ro _, _, h, _ => by cases h
  | 0, .obj _ _, _, h, _ => by cases h
  | _ + 1, .obj _ _, _, h, _ => by cases h
  | 0, .cel _, _, h, _ => by cases h
  | _ + 1, .cel _, _, h, _ => by cases h
  | 0, .cls _, _, h, _ => by cases h
  | _ + 1, .cls _, _, h, _ => by cases h
theorem dts_dp {K : PySem.W.Frag} {m : Mu} {H : Hp} : ∀ (n : Nat) (ds : List D) (vs : List V), (∀ x ∈ ds, nodct n x = true) → Dts K m H vs ds → DpAll K H vs (pys ds)
  | _, [], _, _, t => by cases t; simp only [pys]; exact .nil
  | n, d :: ds, _, h, t => by
    cases t with
    | cons a b => simp only [pys]; exact .cons (dt_dp n d _ (h d List.mem_cons_self) a) (dts_dp n ds _ (fun x hx => h x (List.mem_cons_of_mem _ hx)) b)
end

/-! == and != of data -/
/-- data without dicts, of at most 40 levels -/
def flt (d : D) : Bool := okd 40 d && nodct 40 d
def eqd (d e : D) : Bool := PyData.eqv (py d) (py e)
def dEq : DR2 := fun x y m Q => flt (vw m x) = true ∧ flt (vw m y) = true ∧ Q (.bl (eqd (vw m x) (vw m y))) m
def dNe : DR2 := fun x y m Q => flt (vw m x) = true ∧ flt (vw m y) = true ∧ Q (.bl (!eqd (vw m x) (vw m y))) m
theorem vw_dp {K : PySem.W.Frag} {m : Mu} {H : Hp} {v : V} {d : D} (ok : Ok K m H) (t : Dt K m H v d) (f : flt (vw m d) = true) : Dp K H v (py (vw m d)) ∧ SeqAt.shaped (py (vw m d)) = true := by
  obtain ⟨f1, f2⟩ := Bool.and_eq_true_iff.mp f
  refine ⟨?_, okd_shaped (by decide) f1 f2⟩
  have h := t.vw ok
  generalize vw m d = e at h f1 f2
  cases h with
  | non => simp only [py]; exact .non
  | bl b => simp only [py]; exact .bl b
  | int b => simp only [py]; exact .int b
  | str b => simp only [py]; exact .str b
  | lst a c => simp only [py]; exact .lst (SqL.of a) (dts_dp 39 _ _ (List.all_eq_true.mp f2) c)
  | tup a c _ => simp only [py]; exact .tup a (dts_dp 39 _ _ (List.all_eq_true.mp f2) c)
  | dct a b => cases f2
  | obj a b => cases f2
  | ro a b => cases f2
  | cel a => cases f2
  | cls => cases f2
theorem od_eq {K : PySem.W.Frag} : OpD K dEq (rEqD K) := fun m H x y dx dy Q' Q ok tx ty ⟨fx, fy, q⟩ k =>
  ⟨_, _, (vw_dp ok tx fx).1, (vw_dp ok ty fy).1, (vw_dp ok tx fx).2, (vw_dp ok ty fy).2, k _ m _ H q (Ext.refl m H) ok (.bl _)⟩
theorem od_ne {K : PySem.W.Frag} : OpD K dNe (rNeD K) := fun m H x y dx dy Q' Q ok tx ty ⟨fx, fy, q⟩ k =>
  ⟨_, _, (vw_dp ok tx fx).1, (vw_dp ok ty fy).1, (vw_dp ok tx fx).2, (vw_dp ok ty fy).2, k _ m _ H q (Ext.refl m H) ok (.bl _)⟩

/-! in, not in: a text in a text; an item of a list, a tuple -/
def rInU (K : PySem.W.Frag) (neg : Bool) : R2 := fun x y H Q => (∃ i j : Str, x = .str i ∧ y = .str j ∧ Q (.bl (neg != !(Builtin.Str.occurrences j i 0 j.length 1).isEmpty)) H) ∨ rIn K neg x y H Q
theorem op_inU {X : Cx} : OpR X (compareOp .In) (rInU X.K false) := by
  refine OpR.or (fun pins s σ H x y v u Q I rx ry ⟨i, j, e1, e2, q⟩ => op_in_str pins s σ H x y v u Q I rx ry ⟨i, j, e1, e2, ?_⟩) op_in_seq
  simpa using q
theorem op_niU {X : Cx} : OpR X (compareOp .NotIn) (rInU X.K true) := by
  refine OpR.or (fun pins s σ H x y v u Q I rx ry ⟨i, j, e1, e2, q⟩ => op_notIn_str pins s σ H x y v u Q I rx ry ⟨i, j, e1, e2, ?_⟩) op_notIn_seq
  simpa using q
/-- flat data -/
def fld : D → Bool
  | .non => true
  | .bl _ => true
  | .int _ => true
  | .str _ => true
  | _ => false
def toV : D → V
  | .bl b => .bl b
  | .int i => .int i
  | .str x => .str x
  | _ => .non
def inD (x : D) (ds : List D) : Bool := inV (toV x) (ds.map toV)
def dIn (neg : Bool) : DR2 := fun x y m Q => match vw m y with
  | .str j => onStr x fun i => Q (.bl (neg != !(Builtin.Str.occurrences j i 0 j.length 1).isEmpty)) m
  | .lst ds => (fld x = true ∧ ds.all fld = true) ∧ Q (.bl (neg != inD x ds)) m
  | .tup ds => (fld x = true ∧ ds.all fld = true) ∧ Q (.bl (neg != inD x ds)) m
  | _ => False
theorem dt_toV {K : PySem.W.Frag} {m : Mu} {H : Hp} {v : V} {d : D} (t : Dt K m H v d) (f : fld d = true) : v = toV d ∧ flatV v = true := by
  cases t <;> first | exact ⟨rfl, rfl⟩ | cases f
theorem dts_toV {K : PySem.W.Frag} {m : Mu} {H : Hp} : ∀ {vs : List V} {ds : List D}, Dts K m H vs ds → ds.all fld = true → vs = ds.map toV ∧ vs.all flatV = true
  | _, _, .nil, _ => ⟨rfl, rfl⟩
  | _, _, .cons a b, f => by
    obtain ⟨f1, f2⟩ := Bool.and_eq_true_iff.mp (show (_ && _) = true from f)
    obtain ⟨e1, g1⟩ := dt_toV a f1
    obtain ⟨e2, g2⟩ := dts_toV b f2
    subst e1 e2
    exact ⟨rfl, by simp only [List.all_cons, g1, Bool.true_and]; exact g2⟩
theorem bne_if (neg b : Bool) : (neg != b) = if neg then !b else b := by cases neg <;> cases b <;> rfl
theorem od_in {K : PySem.W.Frag} {neg : Bool} : OpD K (dIn neg) (rInU K neg) := by
  intro m H x y dx dy Q' Q ok tx ty q k
  have hy := ty.vw ok
  unfold dIn at q
  generalize Nd.vw m dy = ey at hy q
  cases hy with
  | str j =>
    cases tx with
    | str i => exact .inl ⟨i, j, rfl, rfl, k _ m _ H q (Ext.refl m H) ok (.bl _)⟩
    | _ => exact (q : False).elim
  | lst a c =>
    obtain ⟨⟨f1, f2⟩, q⟩ := q
    obtain ⟨e1, g1⟩ := dt_toV tx f1
    obtain ⟨e2, g2⟩ := dts_toV c f2
    refine .inr ⟨_, _, rfl, .inl (SqL.of a), g1, g2, k _ m _ H q (Ext.refl m H) ok ?_⟩
    rw [bne_if]
    unfold inD
    rw [← e1, ← e2]
    exact .bl _
  | tup a c _ =>
    obtain ⟨⟨f1, f2⟩, q⟩ := q
    obtain ⟨e1, g1⟩ := dt_toV tx f1
    obtain ⟨e2, g2⟩ := dts_toV c f2
    refine .inr ⟨_, _, rfl, .inr a, g1, g2, k _ m _ H q (Ext.refl m H) ok ?_⟩
    rw [bne_if]
    unfold inD
    rw [← e1, ← e2]
    exact .bl _
  | _ => exact (q : False).elim

/-! is, is not -/
def rIsU : R2 := fun x y H Q => (y = .non ∧ Q (.bl (decide (x = .non))) H) ∨ rIsB x y H Q
def rNsU : R2 := fun x y H Q => (y = .non ∧ Q (.bl (!decide (x = .non))) H) ∨ rNotB x y H Q
theorem op_isU {X : Cx} : OpR X (compareOp .Is) rIsU := op_isN.or op_isBl
theorem op_nsU {X : Cx} : OpR X (compareOp .IsNot) rNsU := op_notN.or op_notBl
def isNon : D → Bool
  | .non => true
  | _ => false
def dIs (neg : Bool) : DR2 := fun x y m Q => match y with
  | .non => (match x with | .cls _ => False | _ => Q (.bl (neg != isNon x)) m)
  | .bl b => (match x with | .bl a => Q (.bl (neg != decide (a = b))) m | _ => False)
  | _ => False
theorem od_is {K : PySem.W.Frag} : OpD K (dIs false) rIsU := by
  intro m H x y dx dy Q' Q ok tx ty q k
  cases ty with
  | non =>
    refine .inl ⟨rfl, ?_⟩
    cases tx <;> first | exact (q : False).elim | exact k _ m _ H q (Ext.refl m H) ok (.bl _)
  | bl b =>
    cases tx with
    | bl a => exact .inr ⟨a, b, rfl, rfl, k _ m _ H (by simpa [dIs] using q) (Ext.refl m H) ok (.bl _)⟩
    | _ => exact (q : False).elim
  | _ => exact (q : False).elim
theorem od_ns {K : PySem.W.Frag} : OpD K (dIs true) rNsU := by
  intro m H x y dx dy Q' Q ok tx ty q k
  cases ty with
  | non =>
    refine .inl ⟨rfl, ?_⟩
    cases tx <;> first | exact (q : False).elim | exact k _ m _ H q (Ext.refl m H) ok (.bl _)
  | bl b =>
    cases tx with
    | bl a => exact .inr ⟨a, b, rfl, rfl, k _ m _ H (by simpa [dIs] using q) (Ext.refl m H) ok (.bl _)⟩
    | _ => exact (q : False).elim
  | _ => exact (q : False).elim
end Nd

namespace Nd
open PySem L2 PyProof.Rows PySem.Spec
/-! calls of what is built in -/
abbrev DRC := List D → Mu → (D → Mu → Prop) → Prop
def CallD (K : PySem.W.Frag) (r : DRC) (rr : List V → Hp → VK → Prop) : Prop := ∀ m H vs ds Q' Q, Ok K m H → Dts K m H vs ds → r ds m Q' → Cq K m H Q' Q → rr vs H Q
def gCB (r : DRC) (g : GA) : GE := fun ex ρ m Q => g ex ρ m fun ds m' => r ds m' Q
theorem cb_imp {K : PySem.W.Frag} {cur : Cur} {ex : Exx} {r : DRC} {rr : List V → Hp → VK → Prop} {g : GA} (cd : CallD K r rr) {σ : L2.St} {H : Hp} {Q : VK} (h : lE K cur (gCB r g ex) σ H Q) : tCB rr (lA K cur (g ex)) σ H Q := by
  obtain ⟨ρ, m, Q', cu, o, s, q, k⟩ := h
  exact ⟨ρ, m, _, cu, o, s, q, fun ds m1 vs H1 q1 e1 o1 t1 => cd m1 H1 vs ds Q' Q o1 t1 q1 (Cq.ext k e1 o1.cells)⟩
section
variable {X : Cx} {x : Str} {p pos : Pos} {e : Expr} {es : List Expr} {g : GA} {id T : String} {r : DRC} {rr : List V → Hp → VK → Prop}
theorem de_callB (hc : CallR X (.builtin id) rr) (cd : CallD X.K r rr) (hg : Gl X x) (hm : X.mg x = none) (hv : bootBuiltins x = some (.builtin id)) (ha : DA X (e :: es) g) (hn : x ≠ "__name__" := by decide) (hdb : (x == ("__debug__" : Str)) = false := by decide)
    (he : starEach (e :: es) X.env = (false, eval e X.env) :: starEach es X.env := by rfl) (hpl : (backTo pos (starEach es X.env)).any (·.1) = false := by rfl) : DE X (.Call (.Name x p) (e :: es) [] pos) (gCB r g) := ⟨fun cur W ex co tk lk =>
  pe_imp (pe_callB hc hg hm hv (ha.run cur W ex co tk lk) hn hdb he hpl) fun σ H Q h => cb_imp cd h⟩
theorem de_callTy (hc : CallR X (.type T) rr) (cd : CallD X.K r rr) (hg : Gl X x) (hm : X.mg x = none) (hv : bootBuiltins x = some (.type T)) (ha : DA X (e :: es) g) (hn : x ≠ "__name__" := by decide) (hdb : (x == ("__debug__" : Str)) = false := by decide)
    (he : starEach (e :: es) X.env = (false, eval e X.env) :: starEach es X.env := by rfl) (hpl : (backTo pos (starEach es X.env)).any (·.1) = false := by rfl) : DE X (.Call (.Name x p) (e :: es) [] pos) (gCB r g) := ⟨fun cur W ex co tk lk =>
  pe_imp (pe_callTy hc hg hm hv (ha.run cur W ex co tk lk) hn hdb he hpl) fun σ H Q h => cb_imp cd h⟩
end
def on1 (ds : List D) (P : D → Prop) : Prop := match ds with
  | [d] => P d
  | _ => False
def on2 (ds : List D) (P : D → D → Prop) : Prop := match ds with
  | [d, e] => P d e
  | _ => False
theorem on1_of {K : PySem.W.Frag} {m : Mu} {H : Hp} {vs : List V} {ds : List D} {P : D → Prop} (t : Dts K m H vs ds) (h : on1 ds P) : ∃ v d, vs = [v] ∧ ds = [d] ∧ Dt K m H v d ∧ P d := by
  cases t with
  | nil => exact h.elim
  | cons a b =>
    cases b with
    | nil => exact ⟨_, _, rfl, rfl, a, h⟩
    | cons _ _ => exact h.elim
theorem on2_of {K : PySem.W.Frag} {m : Mu} {H : Hp} {vs : List V} {ds : List D} {P : D → D → Prop} (t : Dts K m H vs ds) (h : on2 ds P) : ∃ v w d e, vs = [v, w] ∧ ds = [d, e] ∧ Dt K m H v d ∧ Dt K m H w e ∧ P d e := by
  cases t with
  | nil => exact h.elim
  | cons a b =>
    cases b with
    | nil => exact h.elim
    | cons c t =>
      cases t with
      | nil => exact ⟨_, _, _, _, rfl, rfl, a, c, h⟩
      | cons _ _ => exact h.elim
/-- len -/
def rLenU (K : PySem.W.Frag) : List V → Hp → VK → Prop := fun xs H Q => (∃ p ys, xs = [.ref p] ∧ (SqL K H p ys ∨ SqT K H p ys) ∧ Q (.int ys.length) H) ∨ (∃ z : Str, xs = [.str z] ∧ z.length ≤ sizeLine ∧ Q (.int z.length) H) ∨ ∃ a kvs, xs = [V.ref a] ∧ H a = some (.dK kvs) ∧ Q (.int kvs.length) H
theorem call_lenU {X : Cx} : CallR X (.builtin "len") (rLenU X.K) := call_len_seq.or (call_len_str.or call_lenD)
def dLen : DRC := fun ds m Q => on1 ds fun d => match vw m d with
  | .lst es => Q (.int es.length) m
  | .ro es => Q (.int es.length) m
  | .tup es => Q (.int es.length) m
  | .str z => z.length ≤ sizeLine ∧ Q (.int z.length) m
  | .dct kv => Q (.int kv.length) m
  | _ => False
theorem Dks.length {K : PySem.W.Frag} {m : Mu} {H : Hp} : ∀ {v : List (Key × V)} {d : List (Key × D)}, Dks K m H v d → v.length = d.length
  | _, _, .nil => rfl
  | _, _, .cons _ t => congrArg (· + 1) (Dks.length t)
theorem cd_len {K : PySem.W.Frag} : CallD K dLen (rLenU K) := by
  intro m H vs ds Q' Q ok t q k
  obtain ⟨v, d, rfl, rfl, t, q⟩ := on1_of t q
  have hx := t.vw ok
  generalize Nd.vw m d = e at hx q
  cases hx with
  | lst a b => exact .inl ⟨_, _, rfl, .inl (SqL.of a), k _ m _ H q (Ext.refl m H) ok (by rw [b.length]; exact .int _)⟩
  | ro a b => exact .inl ⟨_, _, rfl, .inl a, k _ m _ H q (Ext.refl m H) ok (by rw [b.length]; exact .int _)⟩
  | tup a b _ => exact .inl ⟨_, _, rfl, .inr a, k _ m _ H q (Ext.refl m H) ok (by rw [b.length]; exact .int _)⟩
  | str z => exact .inr (.inl ⟨z, rfl, q.1, k _ m _ H q.2 (Ext.refl m H) ok (.int _)⟩)
  | dct a b => exact .inr (.inr ⟨_, _, rfl, a, k _ m _ H q (Ext.refl m H) ok (by rw [b.length]; exact .int _)⟩)
  | _ => exact q.elim
/-- isinstance of built-in classes -/
def kindD (m : Mu) (d : D) : Option String := match vw m d with
  | .non => some "NoneType"
  | .bl _ => some "bool"
  | .int _ => some "int"
  | .str _ => some "str"
  | .lst _ => some "list"
  | .tup _ => some "tuple"
  | .dct _ => some "dict"
  | _ => none
def isiT (t n : String) : Bool := t == n || (t == "bool" && n == "int")
def kinds : List String := ["NoneType", "bool", "int", "str", "list", "tuple", "dict"]
theorem kit_tab : ∀ t ∈ kinds, ∀ n ∈ kinds.drop 1, kitB t n = some (isiT t n) := by decide +kernel
theorem kind_ty {K : PySem.W.Frag} {m : Mu} {H : Hp} {v : V} {d : D} {t : String} (ok : Ok K m H) (h : Dt K m H v d) (e : kindD m d = some t) : TyX K H v (.type t) ∧ t ∈ kinds := by
  have hx := h.vw ok
  unfold kindD at e
  generalize Nd.vw m d = e' at hx e
  cases hx with
  | non => cases e; exact ⟨.base .non, by decide⟩
  | bl b => cases e; exact ⟨.base (.bl b), by decide⟩
  | int b => cases e; exact ⟨.base (.int b), by decide⟩
  | str b => cases e; exact ⟨.base (.str b), by decide⟩
  | lst a b => cases e; exact ⟨.base (.lst a), by decide⟩
  | tup a b c =>
    cases e
    refine ⟨?_, by decide⟩
    cases c with
    | tup a _ =>
      rcases a with ⟨a, _⟩ | ⟨o, its, n, a1, a2, _⟩
      · exact .base (.tup a)
      · exact .kTuple a1 a2
  | dct a b => cases e; exact ⟨.base (.dK a), by decide⟩
  | _ => cases e
/-- the classes named -/
def clsOf : D → Option String
  | .cls (.ty n) => some n
  | _ => none
def clsAll : List D → Option (List String)
  | [] => some []
  | d :: r => (clsOf d).bind fun a => (clsAll r).map fun b => a :: b
theorem clsOf_v {K : PySem.W.Frag} {m : Mu} {H : Hp} {v : V} {d : D} {n : String} (t : Dt K m H v d) (e : clsOf d = some n) : v = .ty n := by
  cases t with
  | cls => cases v <;> first | (cases e; rfl) | cases e
  | _ => cases e
theorem clsAll_v {K : PySem.W.Frag} {m : Mu} {H : Hp} : ∀ {vs : List V} {ds : List D} {ns : List String}, Dts K m H vs ds → clsAll ds = some ns → vs = ns.map V.ty
  | _, _, _, .nil, e => by cases e; rfl
  | _, _, _, .cons (d := d) (ds := r) a b, e => by
    cases h1 : clsOf d with
    | none => simp [clsAll, h1] at e
    | some x =>
      cases h2 : clsAll r with
      | none => simp [clsAll, h1, h2] at e
      | some y =>
        simp [clsAll, h1, h2] at e
        subst e
        rw [clsOf_v a h1, clsAll_v b h2]; rfl
def rIsiU (K : PySem.W.Frag) : List V → Hp → VK → Prop := fun xs H Q => rIsi K xs H Q ∨ rIsiT K xs H Q ∨ rIsiK K xs H Q
theorem call_isiU {X : Cx} : CallR X (.builtin "isinstance") (rIsiU X.K) := call_isi.or (call_isiT.or call_isiK)
def dIsi : DRC := fun ds m Q => on2 ds fun x c => onSome (kindD m x) fun t => match c with
  | .tup cs => onSome (clsAll cs) fun ns => ns.all (fun n => (kinds.drop 1).contains n) = true ∧ Q (.bl (ns.any (isiT t))) m
  | c => onSome (clsOf c) fun n => (kinds.drop 1).contains n = true ∧ Q (.bl (isiT t n)) m
theorem paired_ty : ∀ ns : List String, Paired ClsV (ns.map V.ty) (ns.map Value.type)
  | [] => .nil
  | n :: r => .cons (.ty n) (paired_ty r)
theorem kit_any {K : PySem.W.Frag} {t : String} (ht : t ∈ kinds) : ∀ {ns : List String}, (∀ n ∈ ns, n ∈ kinds.drop 1) → PySem.W.kitAny K (.type t) (ns.map Value.type) = some (ns.any (isiT t))
  | [], _ => kitAny_nil
  | n :: r, h => by
    refine kitAny_cons (kit_ty (kit_tab t ht n (h n List.mem_cons_self))) (fun z => ?_) fun z => by rw [List.any_cons, z]; rfl
    rw [List.any_cons, z, Bool.false_or]
    exact kit_any ht fun x hx => h x (List.mem_cons_of_mem _ hx)
theorem vals_ty : ∀ {ns : List String} {us : List Value}, Vals (ns.map V.ty) us → us = ns.map Value.type
  | [], _, .nil => rfl
  | n :: r, _, .cons a b => by
    have h : _ = Value.type n := a
    rw [h, vals_ty b]; rfl
theorem cd_isi {K : PySem.W.Frag} : CallD K dIsi (rIsiU K) := by
  intro m H vs ds Q' Q ok t q k
  obtain ⟨v, w, d, c, rfl, rfl, t1, t2, q⟩ := on2_of t q
  cases e : kindD m d with
  | none => rw [e] at q; exact q.elim
  | some n0 =>
    rw [e] at q
    obtain ⟨ty, hn0⟩ := kind_ty ok t1 e
    have one : onSome (clsOf c) (fun n => (kinds.drop 1).contains n = true ∧ Q' (.bl (isiT n0 n)) m) → rIsiU K [v, w] H Q := fun q => by
      cases e2 : clsOf c with
      | none => rw [e2] at q; exact q.elim
      | some n =>
        rw [e2] at q
        obtain ⟨hn, q⟩ := q
        rw [clsOf_v t2 e2]
        exact .inl ⟨_, _, _, _, _, rfl, .ty n, ty, kit_ty (kit_tab n0 hn0 n (List.contains_iff_mem.mp hn)), k _ m _ H q (Ext.refl m H) ok (.bl _)⟩
    cases t2 with
    | @tup p vs ds a b =>
      cases e2 : clsAll ds with
      | none =>
        have q : onSome (clsAll ds) (fun ns => ns.all (fun n => (kinds.drop 1).contains n) = true ∧ Q' (.bl (ns.any (isiT n0))) m) := q
        rw [e2] at q; exact q.elim
      | some ns =>
        have q : onSome (clsAll ds) (fun ns => ns.all (fun n => (kinds.drop 1).contains n) = true ∧ Q' (.bl (ns.any (isiT n0))) m) := q
        rw [e2] at q
        obtain ⟨hn, q⟩ := q
        have hn : ∀ n ∈ ns, n ∈ kinds.drop 1 := fun n h => List.contains_iff_mem.mp (List.all_eq_true.mp hn n h)
        have ev := clsAll_v b e2
        subst ev
        rcases a with ⟨a, _⟩ | ⟨o, its, n, a1, a2, a3, a4, a5⟩
        · exact .inr (.inl ⟨_, _, _, _, _, _, rfl, a, paired_ty ns, ty, kit_any hn0 hn, k _ m _ H q (Ext.refl m H) ok (.bl _)⟩)
        · obtain ⟨oc, od, dt, sl⟩ := o
          simp only at a2 a3
          subst a2 a3
          have e5 := vals_ty a5
          exact .inr (.inr ⟨_, _, od, its.toList, n, sl, _, _, rfl, by simpa using a1, ty, by rw [e5]; exact kit_any hn0 hn, k _ m _ H q (Ext.refl m H) ok (.bl _)⟩)
    | non => exact one q
    | bl b => exact one q
    | int b => exact one q
    | str b => exact one q
    | lst _ _ _ => exact one q
    | dct _ _ _ => exact one q
    | obj _ _ _ => exact one q
    | ro _ _ => exact one q
    | cel _ => exact one q
    | cls => exact one q

/-! lists of truths, of nums, of texts -/
def bls : List D → Option (List Bool)
  | [] => some []
  | .bl b :: r => (bls r).map (b :: ·)
  | _ :: _ => none
def nums : List D → Option (List Int)
  | [] => some []
  | .int b :: r => (nums r).map (b :: ·)
  | _ :: _ => none
def sts : List D → Option (List Str)
  | [] => some []
  | .str b :: r => (sts r).map (b :: ·)
  | _ :: _ => none
theorem bls_map : ∀ l : List Bool, bls (l.map D.bl) = some l
  | [] => rfl
  | b :: r => by simp [bls, bls_map r]
theorem nums_map : ∀ l : List Int, nums (l.map D.int) = some l
  | [] => rfl
  | b :: r => by simp [nums, nums_map r]
theorem sts_map : ∀ l : List Str, sts (l.map D.str) = some l
  | [] => rfl
  | b :: r => by simp [sts, sts_map r]
theorem bls_v {K : PySem.W.Frag} {m : Mu} {H : Hp} : ∀ {vs : List V} {ds : List D} {l : List Bool}, Dts K m H vs ds → bls ds = some l → vs = l.map V.bl
  | _, _, _, .nil, e => by cases e; rfl
  | _, _, _, .cons a b, e => by
    cases a with
    | bl x =>
      simp only [bls, Option.map_eq_some_iff] at e
      obtain ⟨y, h, rfl⟩ := e
      rw [bls_v b h]; rfl
    | _ => cases e
theorem nums_v {K : PySem.W.Frag} {m : Mu} {H : Hp} : ∀ {vs : List V} {ds : List D} {l : List Int}, Dts K m H vs ds → nums ds = some l → vs = l.map V.int
  | _, _, _, .nil, e => by cases e; rfl
  | _, _, _, .cons a b, e => by
    cases a with
    | int x =>
      simp only [nums, Option.map_eq_some_iff] at e
      obtain ⟨y, h, rfl⟩ := e
      rw [nums_v b h]; rfl
    | _ => cases e
theorem sts_v {K : PySem.W.Frag} {m : Mu} {H : Hp} : ∀ {vs : List V} {ds : List D} {l : List Str}, Dts K m H vs ds → sts ds = some l → vs = l.map V.str
  | _, _, _, .nil, e => by cases e; rfl
  | _, _, _, .cons a b, e => by
    cases a with
    | str x =>
      simp only [sts, Option.map_eq_some_iff] at e
      obtain ⟨y, h, rfl⟩ := e
      rw [sts_v b h]; rfl
    | _ => cases e
/-- the items of a list -/
def onLst (m : Mu) (d : D) (P : List D → Prop) : Prop := match vw m d with
  | .lst es => P es
  | _ => False
theorem onLst_of {K : PySem.W.Frag} {m : Mu} {H : Hp} {v : V} {d : D} {P : List D → Prop} (ok : Ok K m H) (t : Dt K m H v d) (h : onLst m d P) : ∃ p vs es, v = .ref p ∧ H p = some (.lst vs) ∧ Dts K m H vs es ∧ P es := by
  have hx := t.vw ok
  unfold onLst at h
  generalize Nd.vw m d = e at hx h
  cases hx with
  | lst a b => exact ⟨_, _, _, rfl, a, b, h⟩
  | _ => exact h.elim
theorem onSome_of {α : Type} {o : Option α} {P : α → Prop} (h : onSome o P) : ∃ a, o = some a ∧ P a := by
  cases o with
  | none => exact h.elim
  | some a => exact ⟨a, rfl, h⟩
def dAll : DRC := fun ds m Q => on1 ds fun d => onLst m d fun es => onSome (bls es) fun bs => Q (.bl (bs.all id)) m
def dAny : DRC := fun ds m Q => on1 ds fun d => onLst m d fun es => onSome (bls es) fun bs => Q (.bl (bs.any id)) m
def dSum : DRC := fun ds m Q => on1 ds fun d => onLst m d fun es => onSome (nums es) fun bs => Q (.int bs.sum) m
theorem cd_all {K : PySem.W.Frag} : CallD K dAll (rAll K) := by
  intro m H vs ds Q' Q ok t q k
  obtain ⟨v, d, rfl, rfl, t, q⟩ := on1_of t q
  obtain ⟨p, vs, es, rfl, h, t, q⟩ := onLst_of ok t q
  obtain ⟨bs, e, q⟩ := onSome_of q
  have ev := bls_v t e
  subst ev
  exact ⟨p, bs, rfl, SqL.of h, k _ m _ H q (Ext.refl m H) ok (.bl _)⟩
theorem cd_any {K : PySem.W.Frag} : CallD K dAny (rAny K) := by
  intro m H vs ds Q' Q ok t q k
  obtain ⟨v, d, rfl, rfl, t, q⟩ := on1_of t q
  obtain ⟨p, vs, es, rfl, h, t, q⟩ := onLst_of ok t q
  obtain ⟨bs, e, q⟩ := onSome_of q
  have ev := bls_v t e
  subst ev
  exact ⟨p, bs, rfl, SqL.of h, k _ m _ H q (Ext.refl m H) ok (.bl _)⟩
theorem cd_sum {K : PySem.W.Frag} : CallD K dSum (rSum K) := by
  intro m H vs ds Q' Q ok t q k
  obtain ⟨v, d, rfl, rfl, t, q⟩ := on1_of t q
  obtain ⟨p, vs, es, rfl, h, t, q⟩ := onLst_of ok t q
  obtain ⟨bs, e, q⟩ := onSome_of q
  have ev := nums_v t e
  subst ev
  exact ⟨p, bs, rfl, SqL.of h, k _ m _ H q (Ext.refl m H) ok (.int _)⟩
/-- max, min of two nums -/
def dMax2 : DRC := fun ds m Q => on2 ds fun x y => onInt x fun i => onInt y fun j => Q (.int (if j > i then j else i)) m
def dMin2 : DRC := fun ds m Q => on2 ds fun x y => onInt x fun i => onInt y fun j => Q (.int (if j < i then j else i)) m
theorem onInt_of {K : PySem.W.Frag} {m : Mu} {H : Hp} {v : V} {d : D} {P : Int → Prop} (t : Dt K m H v d) (h : onInt d P) : ∃ i, v = .int i ∧ P i := by
  cases t with
  | int i => exact ⟨i, rfl, h⟩
  | _ => exact (h : False).elim
theorem onStr_of {K : PySem.W.Frag} {m : Mu} {H : Hp} {v : V} {d : D} {P : Str → Prop} (t : Dt K m H v d) (h : onStr d P) : ∃ i, v = .str i ∧ P i := by
  cases t with
  | str i => exact ⟨i, rfl, h⟩
  | _ => exact (h : False).elim
theorem cd_max2 {K : PySem.W.Frag} : CallD K dMax2 (fun xs H Q => ∃ i j, xs = [.int i, .int j] ∧ Q (.int (if j > i then j else i)) H) := by
  intro m H vs ds Q' Q ok t q k
  obtain ⟨v, w, d, c, rfl, rfl, t1, t2, q⟩ := on2_of t q
  obtain ⟨i, rfl, q⟩ := onInt_of t1 q
  obtain ⟨j, rfl, q⟩ := onInt_of t2 q
  exact ⟨i, j, rfl, k _ m _ H q (Ext.refl m H) ok (.int _)⟩
theorem cd_min2 {K : PySem.W.Frag} : CallD K dMin2 (fun xs H Q => ∃ i j, xs = [.int i, .int j] ∧ Q (.int (if j < i then j else i)) H) := by
  intro m H vs ds Q' Q ok t q k
  obtain ⟨v, w, d, c, rfl, rfl, t1, t2, q⟩ := on2_of t q
  obtain ⟨i, rfl, q⟩ := onInt_of t1 q
  obtain ⟨j, rfl, q⟩ := onInt_of t2 q
  exact ⟨i, j, rfl, k _ m _ H q (Ext.refl m H) ok (.int _)⟩
/-- int(..) of an int, a truth, a text -/
def rIntU : List V → Hp → VK → Prop := fun xs H Q => ((∃ i, xs = [.int i] ∧ Q (.int i) H) ∨ ∃ k, xs = [.bl k] ∧ Q (.int (if k then 1 else 0)) H) ∨ ∃ a n, xs = [.str a] ∧ PySem.intText? a = some n ∧ a.length ≤ 640 ∧ Q (.int n) H
theorem call_intU {X : Cx} : CallR X (.type "int") rIntU := call_int1.or call_int_str
def dToInt : DRC := fun ds m Q => on1 ds fun d => match d with
  | .int i => Q (.int i) m
  | .bl b => Q (.int (if b then 1 else 0)) m
  | .str a => onSome (PySem.intText? a) fun n => a.length ≤ 640 ∧ Q (.int n) m
  | _ => False
theorem cd_int {K : PySem.W.Frag} : CallD K dToInt rIntU := by
  intro m H vs ds Q' Q ok t q k
  obtain ⟨v, d, rfl, rfl, t, q⟩ := on1_of t q
  cases t with
  | int i => exact .inl (.inl ⟨i, rfl, k _ m _ H q (Ext.refl m H) ok (.int _)⟩)
  | bl b => exact .inl (.inr ⟨b, rfl, k _ m _ H q (Ext.refl m H) ok (.int _)⟩)
  | str a =>
    obtain ⟨n, e, h, q⟩ := onSome_of q
    exact .inr ⟨a, n, rfl, e, h, k _ m _ H q (Ext.refl m H) ok (.int _)⟩
  | _ => exact (q : False).elim
/-- str(..) of an int -/
def dStrI : DRC := fun ds m Q => on1 ds fun d => onInt d fun i => i.natAbs.log2 < 1920 ∧ Q (.str (toString i)) m
theorem cd_strI {K : PySem.W.Frag} : CallD K dStrI (fun xs H Q => ∃ i, xs = [.int i] ∧ i.natAbs.log2 < 1920 ∧ Q (.str (toString i)) H) := by
  intro m H vs ds Q' Q ok t q k
  obtain ⟨v, d, rfl, rfl, t, q⟩ := on1_of t q
  obtain ⟨i, rfl, h, q⟩ := onInt_of t q
  exact ⟨i, rfl, h, k _ m _ H q (Ext.refl m H) ok (.str _)⟩
/-- list(..), tuple(..) of a list, a tuple -/
def onSeq (m : Mu) (d : D) (P : List D → Prop) : Prop := match vw m d with
  | .lst es => P es
  | .tup es => P es
  | _ => False
theorem onSeq_of {K : PySem.W.Frag} {m : Mu} {H : Hp} {v : V} {d : D} {P : List D → Prop} (ok : Ok K m H) (t : Dt K m H v d) (h : onSeq m d P) : ∃ p vs es, v = .ref p ∧ (SqL K H p vs ∨ SqT K H p vs) ∧ Dts K m H vs es ∧ P es := by
  have hx := t.vw ok
  unfold onSeq at h
  generalize Nd.vw m d = e at hx h
  cases hx with
  | lst a b => exact ⟨_, _, _, rfl, .inl (SqL.of a), b, h⟩
  | tup a b _ => exact ⟨_, _, _, rfl, .inr a, b, h⟩
  | _ => exact h.elim
def rListOf (K : PySem.W.Frag) : List V → Hp → VK → Prop := fun xs H Q => ∃ p ys, xs = [.ref p] ∧ (SqL K H p ys ∨ SqT K H p ys) ∧ ∀ l, H l = none → Q (.ref l) (upd H l (.lst ys))
def dList : DRC := fun ds m Q => on1 ds fun d => onSeq m d fun es => Q (.lst es) m
def dListM : DRC := fun ds m Q => on1 ds fun d => onSeq m d fun es => ∀ a, m a = none → Q (.cel a) (m.put a (some (.lst es)))
theorem cd_list {K : PySem.W.Frag} : CallD K dList (rListOf K) := by
  intro m H vs ds Q' Q ok t q k
  obtain ⟨v, d, rfl, rfl, t, q⟩ := on1_of t q
  obtain ⟨p, vs, es, rfl, h, t, q⟩ := onSeq_of ok t q
  exact ⟨p, vs, rfl, h, fun l hl => k _ m _ _ q (ext_new hl) (ok_new ok hl) (new_lst ok hl t)⟩
theorem cd_listM {K : PySem.W.Frag} : CallD K dListM (rListOf K) := by
  intro m H vs ds Q' Q ok t q k
  obtain ⟨v, d, rfl, rfl, t, q⟩ := on1_of t q
  obtain ⟨p, vs, es, rfl, h, t, q⟩ := onSeq_of ok t q
  exact ⟨p, vs, rfl, h, fun l hl => k _ _ _ _ (q l (mu_none ok hl)) (ext_cell hl) (ok_at ok (ext_cell hl) ⟨vs, upd_same, t.ext (ext_cell hl)⟩) (.cel l)⟩
def rTupOf (K : PySem.W.Frag) : List V → Hp → VK → Prop := fun xs H Q => ∃ p ys, xs = [.ref p] ∧ ((SqL K H p ys ∧ ∀ l, H l = none → Q (.ref l) (upd H l (.tup ys))) ∨ (SqT K H p ys ∧ Q (.ref p) H))
def dTuple : DRC := fun ds m Q => on1 ds fun d => onSeq m d fun es => Q (.tup es) m
theorem cd_tuple {K : PySem.W.Frag} : CallD K dTuple (rTupOf K) := by
  intro m H vs ds Q' Q ok t q k
  obtain ⟨v, d, rfl, rfl, t, q⟩ := on1_of t q
  have hx := t.vw ok
  have q : (match Nd.vw m d with | .lst es => Q' (.tup es) m | .tup es => Q' (.tup es) m | _ => False) := q
  generalize Nd.vw m d = e at hx q
  cases hx with
  | lst a b => exact ⟨_, _, rfl, .inl ⟨SqL.of a, fun l hl => k _ m _ _ q (ext_new hl) (ok_new ok hl) (new_tup ok hl b)⟩⟩
  | tup a b c => exact ⟨_, _, rfl, .inr ⟨a, k _ m _ H q (Ext.refl m H) ok c⟩⟩
  | _ => exact q.elim
end Nd

namespace Nd
open PySem L2 PyProof.Rows PySem.Spec
/-! calls of the text's own defs -/
section
variable {X : Cx} {k : Nat} {f C : Addr} {fd : FuncData} {ps : List Str} {S : Spec} {dvs : List V} {dds : List D} {dus : List Value} {x mn : Str} {p pos apos : Pos} {e o : Expr} {es : List Expr} {g : GA} {go : GE}
theorem run_g {W : WX} {pins : List (Addr × Obj)} {σ : L2.St} {H : Hp} {s : Shared} {Q : VK} {us : List Value} {vs : List V} {ds : List D} {m : Mu} {Q' : D → Mu → Prop} {E : XD → Mu → Prop}
    (F : FnG X.prog X.w X.K X.mg X.base k f fd ps S) (hG : X.A.guards = some []) (hr : Room k X.A) (hb : Binds X.K fd ps dus) (hd : Vals dvs dus) (tk : Takes X W) (I : Inv X pins σ H s) (r : Vals vs us) (ok : Ok X.K m H)
    (t : Dts X.K m H vs ds) (td : Dts X.K m H dvs dds) (hS : S (ds ++ dds) m Q' E) (kq : Cq X.K m H Q' Q) (kx : ∀ y m' c d H', E y m' → Ext m H m' H' → Ok X.K m' H' → XDt X.K m' H' y c d → W c d σ H') :
    wpAny (model X.prog X.w) X.A (PySem.call (.ref f) us) (EP X pins σ Q) X.xe s := by
  have r2 : Vals (vs ++ dvs) (us ++ dus) := r.append hd
  have t2 : Dts X.K m H (vs ++ dvs) (ds ++ dds) := t.append td
  have hl : (us ++ dus).length = ps.length := r2.length.symm.trans (t2.length.trans (F.len _ _ _ _ hS))
  refine wpAny_call (codeAny_mono (F.run X.A X.stack s H ⟨us, []⟩ (us ++ dus) (vs ++ dvs) (ds ++ dds) m Q' E hG hr I.env0 (hb s us I.kIn hl) r2 ok t2 hS) fun r s' hq => ?_)
  cases r with
  | error e => exact tk _ _ (XE.of_call I (fun c d H' h => let ⟨y, m', q, e, o, t⟩ := h; kx y m' c d H' q e o t) hq)
  | ok fl =>
    cases fl with
    | ret u =>
      obtain ⟨v, H', J, rv, d, m', q, e, o, t⟩ := I.after hq
      exact ⟨v, H', J, rv, kq d m' v H' q e o t⟩
    | next => exact hq.elim
    | brk => exact hq.elim
    | cont => exact hq.elim
def gCall (S : Spec) (dds : List D) (g : GA) : GE := fun ex ρ m Q => g ex ρ m fun ds m1 => S (ds ++ dds) m1 Q fun y m2 => ex y ρ m2
theorem de_call (F : FnG X.prog X.w X.K X.mg X.base k f fd ps S) (hG : X.A.guards = some []) (hr : Room k X.A) (hg : Gl X x) (hm : X.mg x = some (.ref f)) (hk : PySem.W.keepIn X.K (.ref f) = true) (hb : Binds X.K fd ps dus) (hd : Vals dvs dus)
    (td : ∀ m H, Dts X.K m H dvs dds) (ha : DA X (e :: es) g) (hdb : (x == ("__debug__" : Str)) = false := by decide) (he : starEach (e :: es) X.env = (false, eval e X.env) :: starEach es X.env := by rfl)
    (hpl : (backTo pos (starEach es X.env)).any (·.1) = false := by rfl) : DE X (.Call (.Name x p) (e :: es) [] pos) (gCall S dds g) := ⟨fun cur W ex co tk lk => ⟨fun pins s σ H Q I ⟨ρ, m, Q', cu, o, sl, q, kk⟩ => by
  refine wpAny_Call_Name_kw (ld_glob I hg hm ?_ hdb)
  refine PySem.W.callWith_K (h₀ := X.base) I.ok.mod.kin hk (thn ((ha.run cur W ex co tk lk).run pos pins s σ H (fun vs H1 => ∃ ds m1, S (ds ++ dds) m1 Q' (fun y m2 => ex y ρ m2) ∧ Ext m H m1 H1 ∧ Ok X.K m1 H1 ∧ Dts X.K m1 H1 vs ds) I
    ⟨ρ, m, _, cu, o, sl, q, fun ds m1 vs H1 q1 e1 o1 t1 => ⟨ds, m1, q1, e1, o1, t1⟩⟩) fun us s1 ⟨vs, H1, I1, r, ds, m1, q1, e1, o1, t1⟩ => ⟨I1.kIn, ?_⟩) he hpl
  exact run_g F hG hr hb hd tk I1 r o1 t1 (td m1 H1) q1 (Cq.ext kk e1 o1.cells) fun y m' c d H' hx e2 o2 t2 => lk y ρ m' σ H' c d hx (co.ext cu o.cells (e1.trans e2 o1.cells)) o2 (sl.ext (e1.trans e2 o1.cells)) t2⟩⟩
theorem de_call0 (F : FnG X.prog X.w X.K X.mg X.base k f fd ps S) (hG : X.A.guards = some []) (hr : Room k X.A) (hg : Gl X x) (hm : X.mg x = some (.ref f)) (hk : PySem.W.keepIn X.K (.ref f) = true) (hb : Binds X.K fd ps dus) (hd : Vals dvs dus)
    (td : ∀ m H, Dts X.K m H dvs dds) (hdb : (x == ("__debug__" : Str)) = false := by decide) : DE X (.Call (.Name x p) [] [] pos) (gCall S dds aNil) := ⟨fun cur W ex co tk lk => ⟨fun pins s σ H Q I ⟨ρ, m, Q', cu, o, sl, q, kk⟩ => by
  refine wpAny_Call_Name_kw (ld_glob I hg hm ?_ hdb)
  exact PySem.W.callWith_K0 I.kIn hk (run_g (us := []) F hG hr hb hd tk I .nil o .nil (td m H) q kk fun y m' c d H' hx e2 o2 t2 => lk y ρ m' σ H' c d hx (co.ext cu o.cells e2) o2 (sl.ext e2) t2)⟩⟩
/-- o.m(..) of an own instance -/
def isOb (m : Mu) (C : Addr) (n : Str) (d : D) : Prop := match vw m d with
  | .obj C' fs => C' = C ∧ fs.lookup n = none
  | _ => False
theorem Dfs.look {K : PySem.W.Frag} {m : Mu} {H : Hp} {n : Str} : ∀ {v : List (Str × V)} {d : List (Str × D)}, Dfs K m H v d → d.lookup n = none → v.lookup n = none
  | _, _, .nil, _ => rfl
  | _, _, .cons (k := k) a b, e => by
    simp only [List.lookup] at e ⊢
    cases h : n == k with
    | true => rw [h] at e; cases e
    | false => rw [h] at e; exact b.look e
theorem Dfs.some {K : PySem.W.Frag} {m : Mu} {H : Hp} {n : Str} {x : D} : ∀ {v : List (Str × V)} {d : List (Str × D)}, Dfs K m H v d → d.lookup n = some x → ∃ y, v.lookup n = some y ∧ Dt K m H y x
  | _, _, .nil, e => by cases e
  | _, _, .cons (k := k) a b, e => by
    simp only [List.lookup] at e ⊢
    cases h : n == k with
    | true => rw [h] at e; cases e; exact ⟨_, rfl, a⟩
    | false => rw [h] at e; exact b.some e
theorem isOb_of {K : PySem.W.Frag} {m : Mu} {H : Hp} {v : V} {d : D} {n : Str} (ok : Ok K m H) (t : Dt K m H v d) (h : isOb m C n d) : ∃ a dx fs, v = .ref a ∧ H a = some (.ins C dx fs) ∧ fs.lookup n = none := by
  have hx := t.vw ok
  unfold isOb at h
  generalize Nd.vw m d = e at hx h
  cases hx with
  | obj a b => obtain ⟨rfl, h⟩ := h; exact ⟨_, _, _, rfl, a, b.look h⟩
  | _ => exact h.elim
def gMeth (C : Addr) (n : Str) (S : Spec) (dds : List D) (go : GE) (g : GA) : GE := fun ex ρ m Q => go ex ρ m fun d m1 => isOb m1 C n d ∧ g ex ρ m1 fun ds m2 => S (d :: (ds ++ dds)) m2 Q fun y m3 => ex y ρ m3
theorem de_meth {pl : Sem Bool} (ho : DE X o go) (c : Cls X.K C) (hm : Meth X.K C mn f) (F : FnG X.prog X.w X.K X.mg X.base k f fd ps S) (hG : X.A.guards = some []) (hr : Room k X.A) (hb : Binds X.K fd ps dus) (hd : Vals dvs dus) (td : ∀ m H, Dts X.K m H dvs dds)
    (ha : DA X (e :: es) g) (hst : starEach (e :: es) X.env = (false, eval e X.env) :: starEach es X.env := by rfl) (hpl : (backTo pos (starEach es X.env)).any (·.1) = false := by rfl)
    (ht : eval (.Call (.Attribute o mn apos) (e :: es) [] pos) X.env = (do
      let ov ← eval o X.env
      standAt apos.atName
      let (f, first) ← holding [ov] (getMethod ov mn pl)
      callWith pos f first (backTo pos (starEach (e :: es) X.env)) (backToKw pos (keywordEach [] X.env))) := by rfl) :
    DE X (.Call (.Attribute o mn apos) (e :: es) [] pos) (gMeth C mn S dds go g) := ⟨fun cur W ex co tk lk => ⟨fun pins s σ H Q I ⟨ρ, m, Q', cu, ok, sl, q, kk⟩ => by
  refine PySem.W.methodCall_KW (pl := pl) (thn ((ho.run cur W ex co tk lk).run pins s σ H (fun v H1 => ∃ d m1, (isOb m1 C mn d ∧ g ex ρ m1 fun ds m2 => S (d :: (ds ++ dds)) m2 Q' fun y m3 => ex y ρ m3) ∧ Ext m H m1 H1 ∧ Ok X.K m1 H1 ∧ Dt X.K m1 H1 v d) I
    ⟨ρ, m, _, cu, ok, sl, q, fun d m1 v H1 q1 e1 o1 t1 => ⟨d, m1, q1, e1, o1, t1⟩⟩) fun u s1 ⟨v, H1, I1, rx, d, m1, ⟨hob, q1⟩, e1, o1, t1⟩ => ?_) ht
  obtain ⟨a, dx, fs, rfl, ea, l⟩ := isOb_of o1 t1 hob
  obtain rfl : u = Value.ref a := rx
  refine getmeth_ok I1 ea c hm l ?_
  refine PySem.W.callWith_K (first := [.ref a]) (h₀ := X.base) I.ok.mod.kin hm.kp (thn ((ha.run cur W ex co tk lk).run pos pins s1 σ H1 (fun vs H2 => ∃ ds m2, S (d :: (ds ++ dds)) m2 Q' (fun y m3 => ex y ρ m3) ∧ Ext m1 H1 m2 H2 ∧ Ok X.K m2 H2 ∧ Dts X.K m2 H2 vs ds) I1
    ⟨ρ, m1, _, co.ext cu ok.cells e1, o1, sl.ext e1, q1, fun ds m2 vs H2 q2 e2 o2 t2 => ⟨ds, m2, q2, e2, o2, t2⟩⟩) fun us s2 ⟨vs, H2, I2, r, ds, m2, q2, e2, o2, t2⟩ => ⟨I2.kIn, ?_⟩) hst hpl
  have e12 := e1.trans e2 o1.cells
  exact run_g (us := .ref a :: us) (vs := .ref a :: vs) (ds := d :: ds) F hG hr hb hd tk I2 (.cons rfl r) o2 (.cons (t1.ext e2) t2) (td m2 H2) q2 (Cq.ext kk e12 o2.cells)
    fun y m' c d H' hx e3 o3 t3 => lk y ρ m' σ H' c d hx (co.ext cu ok.cells (e12.trans e3 o2.cells)) o3 (sl.ext (e12.trans e3 o2.cells)) t3⟩⟩
theorem de_meth0 {pl : Sem Bool} (ho : DE X o go) (c : Cls X.K C) (hm : Meth X.K C mn f) (F : FnG X.prog X.w X.K X.mg X.base k f fd ps S) (hG : X.A.guards = some []) (hr : Room k X.A) (hb : Binds X.K fd ps dus) (hd : Vals dvs dus) (td : ∀ m H, Dts X.K m H dvs dds)
    (ht : eval (.Call (.Attribute o mn apos) [] [] pos) X.env = (do
      let ov ← eval o X.env
      standAt apos.atName
      let (f, first) ← holding [ov] (getMethod ov mn pl)
      callWith pos f first (backTo pos (starEach [] X.env)) (backToKw pos (keywordEach [] X.env))) := by rfl) :
    DE X (.Call (.Attribute o mn apos) [] [] pos) (gMeth C mn S dds go aNil) := ⟨fun cur W ex co tk lk => ⟨fun pins s σ H Q I ⟨ρ, m, Q', cu, ok, sl, q, kk⟩ => by
  refine PySem.W.methodCall_KW (pl := pl) (thn ((ho.run cur W ex co tk lk).run pins s σ H (fun v H1 => ∃ d m1, (isOb m1 C mn d ∧ aNil ex ρ m1 fun ds m2 => S (d :: (ds ++ dds)) m2 Q' fun y m3 => ex y ρ m3) ∧ Ext m H m1 H1 ∧ Ok X.K m1 H1 ∧ Dt X.K m1 H1 v d) I
    ⟨ρ, m, _, cu, ok, sl, q, fun d m1 v H1 q1 e1 o1 t1 => ⟨d, m1, q1, e1, o1, t1⟩⟩) fun u s1 ⟨v, H1, I1, rx, d, m1, ⟨hob, q1⟩, e1, o1, t1⟩ => ?_) ht
  obtain ⟨a, dx, fs, rfl, ea, l⟩ := isOb_of o1 t1 hob
  obtain rfl : u = Value.ref a := rx
  refine getmeth_ok I1 ea c hm l ?_
  exact PySem.W.callWith_K0 (first := [.ref a]) I1.kIn hm.kp (run_g (us := [.ref a]) (vs := [.ref a]) (ds := [d]) F hG hr hb hd tk I1 (.cons rfl .nil) o1 (.cons t1 .nil) (td m1 H1) q1 (Cq.ext kk e1 o1.cells)
    fun y m' c d H' hx e3 o3 t3 => lk y ρ m' σ H' c d hx (co.ext cu ok.cells (e1.trans e3 o1.cells)) o3 (sl.ext (e1.trans e3 o1.cells)) t3)⟩⟩
end

/-! methods of texts -/
section
variable {X : Cx} {o e : Expr} {pos apos : Pos} {fo fe : GE} {id : String} {nm : Str}
abbrev DRM := Str → List D → Mu → (D → Mu → Prop) → Prop
def MetD (K : PySem.W.Frag) (r : DRM) (rr : V → List V → Hp → VK → Prop) : Prop := ∀ m H a vs ds Q' Q, Ok K m H → Dts K m H vs ds → r a ds m Q' → Cq K m H Q' Q → rr (.str a) vs H Q
def gM0 (r : DRM) (fo : GE) : GE := fun ex ρ m Q => fo ex ρ m fun d m1 => onStr d fun a => r a [] m1 Q
def gM1 (r : DRM) (fo fe : GE) : GE := fun ex ρ m Q => fo ex ρ m fun d m1 => onStr d fun a => fe ex ρ m1 fun x m2 => r a [x] m2 Q
theorem de_m0 {r : DRM} {rr : V → List V → Hp → VK → Prop} (md : MetD X.K r rr) (slot : Slot "str" nm id) (ty : typeOf (.builtin id) = pure (.type "method_descriptor")) (rule : MtR X id rr) (ho : DE X o fo)
    (hbase : attributeBase o nm X.env (eval o X.env) = eval o X.env := by rfl) (hline : (apos.endLine == pos.line) = true := by rfl) : DE X (.Call (.Attribute o nm apos) [] [] pos) (gM0 r fo) := ⟨fun cur W ex co tk lk =>
  pe_imp (pe_m0 slot ty rule (ho.run cur W ex co tk lk) hbase hline) fun σ H Q ⟨ρ, m, Q', cu, ok, sl, q, k⟩ => ⟨ρ, m, _, cu, ok, sl, q, fun d m1 v H1 q1 e1 o1 t1 => by
    obtain ⟨a, rfl, q1⟩ := onStr_of t1 q1
    exact ⟨⟨a, rfl⟩, md m1 H1 a [] [] Q' Q o1 .nil q1 (Cq.ext k e1 o1.cells)⟩⟩⟩
theorem de_m1 {r : DRM} {rr : V → List V → Hp → VK → Prop} (md : MetD X.K r rr) (slot : Slot "str" nm id) (ty : typeOf (.builtin id) = pure (.type "method_descriptor")) (rule : MtR X id rr) (ho : DE X o fo) (he : DE X e fe)
    (hs : starEach [e] X.env = [(false, eval e X.env)] := by rfl) (hbase : attributeBase o nm X.env (eval o X.env) = eval o X.env := by rfl) (hline : (apos.endLine == pos.line) = true := by rfl) :
    DE X (.Call (.Attribute o nm apos) [e] [] pos) (gM1 r fo fe) := ⟨fun cur W ex co tk lk =>
  pe_imp (pe_m1 slot ty rule (ho.run cur W ex co tk lk) (he.run cur W ex co tk lk) hs hbase hline) fun σ H Q ⟨ρ, m, Q', cu, ok, sl, q, k⟩ => ⟨ρ, m, _, cu, ok, sl, q, fun d m1 v H1 q1 e1 o1 t1 => by
    obtain ⟨a, rfl, q1⟩ := onStr_of t1 q1
    exact ⟨⟨a, rfl⟩, ρ, m1, _, co.ext cu ok.cells e1, o1, sl.ext e1, q1, fun x m2 u H2 q2 e2 o2 t2 => md m2 H2 a [u] [x] Q' Q o2 (.cons t2 .nil) q2 (Cq.ext k (e1.trans e2 o1.cells) o2.cells)⟩⟩⟩
/-- sep.join -/
def dJoin : DRM := fun a ds m Q => on1 ds fun d => onSeq m d fun es => onSome (sts es) fun ys => (ys.map (·.length)).sum + ys.length * a.length ≤ 16777216 ∧ Q (.str (Txt.join a ys)) m
theorem md_join {K : PySem.W.Frag} : MetD K dJoin (fun x xs H Q => ∃ a p, ∃ ys : List Str, x = .str a ∧ xs = [.ref p] ∧ (SqL K H p (ys.map V.str) ∨ SqT K H p (ys.map V.str)) ∧ (ys.map (·.length)).sum + ys.length * a.length ≤ 16777216 ∧ Q (.str (Txt.join a ys)) H) := by
  intro m H a vs ds Q' Q ok t q k
  obtain ⟨v, d, rfl, rfl, t, q⟩ := on1_of t q
  obtain ⟨p, vs, es, rfl, h, t, q⟩ := onSeq_of ok t q
  obtain ⟨ys, e, hz, q⟩ := onSome_of q
  have ev := sts_v t e
  subst ev
  exact ⟨a, p, ys, rfl, rfl, h, hz, k _ m _ H q (Ext.refl m H) ok (.str _)⟩
theorem de_join (ho : DE X o fo) (he : DE X e fe) (hs : starEach [e] X.env = [(false, eval e X.env)] := by rfl) (hbase : attributeBase o "join" X.env (eval o X.env) = eval o X.env := by rfl) (hline : (apos.endLine == pos.line) = true := by rfl) :
    DE X (.Call (.Attribute o "join" apos) [e] [] pos) (gM1 dJoin fo fe) := de_m1 md_join PySem.F.slot_str_join PySem.F.type_str_join mt_join ho he hs hbase hline
def dSplit : DRM := fun a ds m Q => on1 ds fun d => onStr d fun b => ((b.length == 0) = false ∧ a.length + 2 ≤ sizeLine) ∧ Q (.lst ((Txt.split a b).map D.str)) m
theorem dts_strs {K : PySem.W.Frag} {m : Mu} {H : Hp} : ∀ l : List Str, Dts K m H (l.map V.str) (l.map D.str)
  | [] => .nil
  | a :: r => .cons (.str a) (dts_strs r)
theorem md_split {K : PySem.W.Frag} : MetD K dSplit (fun x xs H Q => ∃ a b, x = .str a ∧ xs = [.str b] ∧ (b.length == 0) = false ∧ a.length + 2 ≤ sizeLine ∧ rNewStrs (Txt.split a b) H Q) := by
  intro m H a vs ds Q' Q ok t q k
  obtain ⟨v, d, rfl, rfl, t, q⟩ := on1_of t q
  obtain ⟨b, rfl, ⟨h1, h2⟩, q⟩ := onStr_of t q
  exact ⟨a, b, rfl, rfl, h1, h2, fun p hp => k _ m _ _ q (ext_new hp) (ok_new ok hp) (new_lst ok hp (dts_strs _))⟩
theorem de_split (ho : DE X o fo) (he : DE X e fe) (hs : starEach [e] X.env = [(false, eval e X.env)] := by rfl) (hbase : attributeBase o "split" X.env (eval o X.env) = eval o X.env := by rfl) (hline : (apos.endLine == pos.line) = true := by rfl) :
    DE X (.Call (.Attribute o "split" apos) [e] [] pos) (gM1 dSplit fo fe) := de_m1 md_split PySem.F.slot_str_split PySem.F.type_str_split mt_split ho he hs hbase hline
def dFind : DRM := fun a ds m Q => on1 ds fun d => onStr d fun b => Q (.int (Txt.find a b)) m
theorem md_find {K : PySem.W.Frag} : MetD K dFind (fun x xs H Q => ∃ a b, x = .str a ∧ xs = [.str b] ∧ Q (.int (Txt.find a b)) H) := by
  intro m H a vs ds Q' Q ok t q k
  obtain ⟨v, d, rfl, rfl, t, q⟩ := on1_of t q
  obtain ⟨b, rfl, q⟩ := onStr_of t q
  exact ⟨a, b, rfl, rfl, k _ m _ _ q (Ext.refl m H) ok (.int _)⟩
theorem de_find (ho : DE X o fo) (he : DE X e fe) (hs : starEach [e] X.env = [(false, eval e X.env)] := by rfl) (hbase : attributeBase o "find" X.env (eval o X.env) = eval o X.env := by rfl) (hline : (apos.endLine == pos.line) = true := by rfl) :
    DE X (.Call (.Attribute o "find" apos) [e] [] pos) (gM1 dFind fo fe) := de_m1 md_find PySem.F.slot_str_find PySem.F.type_str_find mt_find ho he hs hbase hline
end

/-! methods of lists that are cells -/
section
variable {X : Cx} {o e : Expr} {es : List Expr} {pos cpos apos : Pos} {fo fe : GE} {g : GA} {id : String} {nm : Str}
/-- the cell's list -/
def onCell (m : Mu) (d : D) (P : Addr → List D → Prop) : Prop := match d with
  | .cel a => (match m a with | some (.lst ds) => P a ds | _ => False)
  | _ => False
theorem onCell_of {K : PySem.W.Frag} {m : Mu} {H : Hp} {v : V} {d : D} {P : Addr → List D → Prop} (ok : Ok K m H) (t : Dt K m H v d) (h : onCell m d P) : ∃ a vs ds, v = .ref a ∧ d = .cel a ∧ m a = some (.lst ds) ∧ H a = some (.lst vs) ∧ Dts K m H vs ds ∧ P a ds := by
  cases t with
  | cel a =>
    have h : (match m a with | some (.lst ds) => P a ds | _ => False) := h
    cases e : m a with
    | none => rw [e] at h; exact h.elim
    | some c =>
      rw [e] at h
      cases c with
      | lst ds =>
        obtain ⟨vs, h1, h2⟩ := ok a _ e
        exact ⟨a, vs, ds, rfl, rfl, e, h1, h2, h⟩
      | _ => exact h.elim
  | _ => exact (h : False).elim
abbrev DRL := Addr → List D → List D → Mu → (D → Mu → Prop) → Prop
/-- r: a list at a, its items, the arguments -/
def LmD (K : PySem.W.Frag) (r : DRL) (rr : V → List V → Hp → VK → Prop) : Prop := ∀ m H a us ws vs ds Q' Q, Ok K m H → m a = some (.lst ws) → H a = some (.lst us) → Dts K m H us ws → Dts K m H vs ds → r a ws ds m Q' → Cq K m H Q' Q → rr (.ref a) vs H Q
def gL (r : DRL) (fo : GE) (g : GA) : GE := fun ex ρ m Q => fo ex ρ m fun d m1 => onCell m1 d fun _ _ => g ex ρ m1 fun ds m2 => onCell m2 d fun a ws => r a ws ds m2 Q
def gL0 (r : DRL) (fo : GE) : GE := fun ex ρ m Q => fo ex ρ m fun d m1 => onCell m1 d fun a ws => r a ws [] m1 Q
theorem de_lm {r : DRL} {rr : V → List V → Hp → VK → Prop} (md : LmD X.K r rr) (pa : PlainAttrs "list") (slot : Slot "list" nm id) (hty : typeOf (.builtin id) = pure (.type "method_descriptor")) (hm : MtR X id rr) (ho : DE X o fo) (ha : DA X (e :: es) g)
    (hbase : attributeBase o nm X.env (eval o X.env) = eval o X.env := by rfl)
    (hfew : ((backTo cpos (starEach (e :: es) X.env)).all (fun x => !x.1) && (backToKw cpos (keywordEach [] X.env)).all (fun x => x.1.isSome)
      && decide ((e :: es).length + ([] : List Keyword).length + (if ([] : List Keyword).isEmpty then 0 else 1) < 30)) = true := by rfl)
    (hline : (apos.endLine == cpos.line) = true := by rfl) (hs : starEach (e :: es) X.env = (false, eval e X.env) :: starEach es X.env := by rfl) (hplain : (backTo cpos (starEach es X.env)).any (·.1) = false := by rfl) :
    DE X (.Call (.Attribute o nm apos) (e :: es) [] cpos) (gL r fo g) := ⟨fun cur W ex co tk lk =>
  pe_imp (pe_bm pa slot hty hm (ho.run cur W ex co tk lk) (ha.run cur W ex co tk lk) hbase hfew hline hs hplain) fun σ H Q ⟨ρ, m, Q', cu, ok, sl, q, k⟩ => ⟨ρ, m, _, cu, ok, sl, q, fun d m1 v H1 q1 e1 o1 t1 => by
    obtain ⟨a, vs, ds, rfl, rfl, h1, h2, h3, q1⟩ := onCell_of o1 t1 q1
    exact ⟨Or.inl ⟨rfl, _, SqL.of h2⟩, ρ, m1, _, co.ext cu ok.cells e1, o1, sl.ext e1, q1, fun es m2 us H2 q2 e2 o2 t2 => by
      obtain ⟨a', vs', ds', e3, e4, h1', h2', h3', q2⟩ := onCell_of o2 (Dt.cel a) q2
      cases e3
      exact md m2 H2 _ vs' ds' us es Q' Q o2 h1' h2' h3' t2 q2 (Cq.ext k (e1.trans e2 o1.cells) o2.cells)⟩⟩⟩
theorem de_lm0 {r : DRL} {rr : V → List V → Hp → VK → Prop} (md : LmD X.K r rr) (pa : PlainAttrs "list") (slot : Slot "list" nm id) (hty : typeOf (.builtin id) = pure (.type "method_descriptor")) (hm : MtR X id rr) (ho : DE X o fo)
    (hbase : attributeBase o nm X.env (eval o X.env) = eval o X.env := by rfl) (hline : (apos.endLine == cpos.line) = true := by rfl) :
    DE X (.Call (.Attribute o nm apos) [] [] cpos) (gL0 r fo) := ⟨fun cur W ex co tk lk =>
  pe_imp (pe_bm0 pa slot hty hm (ho.run cur W ex co tk lk) hbase hline) fun σ H Q ⟨ρ, m, Q', cu, ok, sl, q, k⟩ => ⟨ρ, m, _, cu, ok, sl, q, fun d m1 v H1 q1 e1 o1 t1 => by
    obtain ⟨a, vs, ds, rfl, rfl, h1, h2, h3, q1⟩ := onCell_of o1 t1 q1
    exact ⟨Or.inl ⟨rfl, _, SqL.of h2⟩, md m1 H1 _ vs ds [] [] Q' Q o1 h1 h2 h3 .nil q1 (Cq.ext k e1 o1.cells)⟩⟩⟩
theorem ne_of_some {m : Mu} {a : Addr} {c : Cl} (h : m a = some c) : m a ≠ none := by rw [h]; simp
/-- a list's cell gets other items -/
theorem put_lst {K : PySem.W.Frag} {m : Mu} {H : Hp} {a : Addr} {us : List V} {ws ds : List D} (ok : Ok K m H) (h : m a = some (.lst ws)) (t : Dts K m H us ds) :
    Ext m H (m.put a (some (.lst ds))) (upd H a (.lst us)) ∧ Ok K (m.put a (some (.lst ds))) (upd H a (.lst us)) :=
  ⟨ext_put (ne_of_some h), ok_at ok (ext_put (ne_of_some h)) ⟨us, upd_same, t.ext (ext_put (ne_of_some h))⟩⟩
def dAppend : DRL := fun a ws ds m Q => on1 ds fun d => ws.length < sizeLine ∧ Q .non (m.put a (some (.lst (ws ++ [d]))))
theorem lm_append {K : PySem.W.Frag} : LmD K dAppend rAppend := by
  intro m H a us ws vs ds Q' Q ok hm hH t1 t2 q k
  obtain ⟨v, d, rfl, rfl, t2, hl, q⟩ := on1_of t2 q
  obtain ⟨e, o⟩ := put_lst ok hm (t1.append (.cons t2 .nil))
  exact ⟨a, us, v, rfl, rfl, hH, by rw [t1.length]; exact hl, k _ _ _ _ q e o .non⟩
def dPopAt : DRL := fun a ws ds m Q => on1 ds fun d => onInt d fun i => (0 ≤ i ∧ i < 2 ^ 62) ∧ onSome ws[i.toNat]? fun y => Q y (m.put a (some (.lst (ws.eraseIdx i.toNat))))
theorem seq_nat {i : Int} {n : Nat} (h0 : 0 ≤ i) (h1 : i < n) : seqIndex? i n = some i.toNat := by
  obtain ⟨j, rfl⟩ : ∃ j : Nat, i = (j : Int) := ⟨i.toNat, by omega⟩
  have e := (ixN_seq (n := n) (i := (j : Int)) (j := j) (by unfold ixN; rw [if_pos h0, if_pos h1]; simp)).1
  simpa using e
theorem lm_popAt {K : PySem.W.Frag} : LmD K dPopAt rPopAt := by
  intro m H a us ws vs ds Q' Q ok hm hH t1 t2 q k
  obtain ⟨v, d, rfl, rfl, t2, q⟩ := on1_of t2 q
  obtain ⟨i, rfl, ⟨h0, h1⟩, q⟩ := onInt_of t2 q
  obtain ⟨y, hy, q⟩ := onSome_of q
  obtain ⟨u, hu, ty⟩ := t1.get hy
  have hl : i.toNat < us.length := (List.getElem?_eq_some_iff.mp hu).1
  obtain ⟨e, o⟩ := put_lst ok hm (t1.eraseIdx i.toNat)
  refine ⟨a, us, i, i.toNat, u, rfl, rfl, hH, by omega, by omega, seq_nat h0 (by omega), hu, k _ _ _ _ q e o (ty.ext e)⟩
def dPop : DRL := fun a ws ds m Q => ds = [] ∧ onSome ws[ws.length - 1]? fun y => Q y (m.put a (some (.lst ws.dropLast)))
theorem Dts.dropLast {K : PySem.W.Frag} {m : Mu} {H : Hp} {v : List V} {d : List D} (t : Dts K m H v d) : Dts K m H v.dropLast d.dropLast := by
  rw [List.dropLast_eq_take, List.dropLast_eq_take, t.length]
  exact t.take _
theorem lm_pop {K : PySem.W.Frag} : LmD K dPop rPop := by
  intro m H a us ws vs ds Q' Q ok hm hH t1 t2 q k
  obtain ⟨rfl, q⟩ := q
  cases t2
  obtain ⟨y, hy, q⟩ := onSome_of q
  obtain ⟨u, hu, ty⟩ := t1.get hy
  obtain ⟨e, o⟩ := put_lst ok hm t1.dropLast
  exact ⟨a, us, u, rfl, rfl, hH, by rw [t1.length]; exact hu, k _ _ _ _ q e o (ty.ext e)⟩
def dClear : DRL := fun a ws ds m Q => ds = [] ∧ Q .non (m.put a (some (.lst [])))
theorem lm_clear {K : PySem.W.Frag} : LmD K dClear rClear := by
  intro m H a us ws vs ds Q' Q ok hm hH t1 t2 q k
  obtain ⟨rfl, q⟩ := q
  cases t2
  obtain ⟨e, o⟩ := put_lst (ds := []) ok hm .nil
  exact ⟨a, us, rfl, rfl, hH, k _ _ _ _ q e o .non⟩
def dReverse : DRL := fun a ws ds m Q => ds = [] ∧ Q .non (m.put a (some (.lst ws.reverse)))
theorem lm_reverse {K : PySem.W.Frag} : LmD K dReverse rReverse := by
  intro m H a us ws vs ds Q' Q ok hm hH t1 t2 q k
  obtain ⟨rfl, q⟩ := q
  cases t2
  obtain ⟨e, o⟩ := put_lst ok hm t1.reverse
  exact ⟨a, us, rfl, rfl, hH, k _ _ _ _ q e o .non⟩
def dExtend : DRL := fun a ws ds m Q => on1 ds fun d => onLst m d fun zs => ws.length + zs.length ≤ sizeLine ∧ Q .non (m.put a (some (.lst (ws ++ zs))))
theorem lm_extend {K : PySem.W.Frag} : LmD K dExtend rExtend := by
  intro m H a us ws vs ds Q' Q ok hm hH t1 t2 q k
  obtain ⟨v, d, rfl, rfl, t2, q⟩ := on1_of t2 q
  obtain ⟨p, zs, es, rfl, hp, t3, hl, q⟩ := onLst_of ok t2 q
  obtain ⟨e, o⟩ := put_lst ok hm (t1.append t3)
  exact ⟨a, p, us, zs, rfl, rfl, hH, hp, by rw [t1.length, t3.length]; exact hl, k _ _ _ _ q e o .non⟩
end
end Nd

namespace Nd
open PySem L2 PyProof.Rows PySem.Spec
/-! how long a datum is, written -/
mutual
def szd : D → Nat
  | .int i => i.natAbs.log2 + 3
  | .str x => 10 * x.length + 2
  | .lst ds => szds ds + 2
  | .tup ds => szds ds + 4
  | _ => 5
def szds : List D → Nat
  | [] => 0
  | d :: ds => szd d + 2 + szds ds
end
theorem hex_len (c : Nat) (h : c < 0x110000) : (Nat.toDigits 16 c).length ≤ 6 := by
  exact Nat.length_toDigits_le_iff (by decide) (by decide) |>.mpr (by omega)
theorem reprChar_len (q c : Nat) (h : c < 0x110000) : (Builtin.Str.reprChar q c).length ≤ 10 := by
  have e := hex_len c h
  unfold Builtin.Str.reprChar
  simp only
  repeat' split
  all_goals first
    | (simp only [List.length_cons, List.length_nil]; omega)
    | (simp only [List.length_cons, List.length_nil, List.length_append, List.length_replicate, List.length_map]; omega)
theorem fold_len (q : Nat) : ∀ (l : List Nat) (n : Nat), (∀ c ∈ l, c < 0x110000) → l.foldl (fun n c => n + (Builtin.Str.reprChar q c).length) n ≤ n + 10 * l.length
  | [], n, _ => Nat.le_refl _
  | c :: r, n, h => by
    have a := reprChar_len q c (h c List.mem_cons_self)
    have b := fold_len q r (n + (Builtin.Str.reprChar q c).length) fun x hx => h x (List.mem_cons_of_mem _ hx)
    simp only [List.foldl_cons, List.length_cons]
    omega
theorem reprText_len {x : Str} (h : PyData.strOk x = true) : (reprText x).length ≤ 10 * x.length + 2 := by
  rw [← reprLen_eq, ← Array.foldl_toList]
  have := fold_len (reprQuote x) x.cps.toList 2 (fun c hc => by
    unfold PyData.strOk at h
    have := Array.all_eq_true_iff_forall_mem.mp h c (Array.mem_toList_iff.mp hc)
    simpa using this)
  have e : x.cps.toList.length = x.length := by simp [Str.length]
  omega
theorem int_len (i : Int) : (toString i : String).length ≤ i.natAbs.log2 + 2 := by
  have h : ∀ n : Nat, (Nat.repr n).length ≤ n.log2 + 1 := fun n => by
    unfold Nat.repr
    rw [String.length_ofList]
    refine (Nat.length_toDigits_le_iff (by decide) (by omega)).mpr ?_
    have h1 := Nat.lt_log2_self (n := n)
    exact Nat.lt_of_lt_of_le h1 (Nat.pow_le_pow_left (by decide) _)
  cases i with
  | ofNat n => exact Nat.le_succ_of_le (h n)
  | negSucc n =>
    show ("-" ++ Nat.repr (n + 1) : String).length ≤ _
    have := h (n + 1)
    rw [String.length_append]
    show 1 + _ ≤ (n + 1).log2 + 2
    omega
theorem join_le (ts : List Str) : (Str.join ", " ts).length ≤ piled ts := by
  cases ts with
  | nil => exact Nat.zero_le _
  | cons a r => have := join_length_add (a :: r) (by simp); omega
mutual
theorem shown_szd : ∀ (n : Nat) (d : D), okd n d = true → nodct n d = true → (py d).shown.length ≤ szd d
  | n, .non, _, _ => by simp only [py, szd, PyData.shown]; decide
  | n, .bl b, _, _ => by cases b <;> simp only [py, szd, PyData.shown] <;> decide
  | n, .int i, _, _ => by
    simp only [py, szd, PyData.shown]
    rw [PySem.ofString_length]
    have := int_len i
    omega
  | n, .str x, h, _ => by simp only [py, szd, PyData.shown]; exact reprText_len (by unfold okd at h; exact h)
  | n + 1, .lst ds, h, g => by
    simp only [py, szd]
    rw [PyData.shown_list]
    unfold okd at h
    unfold nodct at g
    have a := shown_szds n ds (List.all_eq_true.mp h) (List.all_eq_true.mp g)
    have b := join_le (PyData.shownAll (pys ds))
    have c1 : (("[" : String) : Str).length = 1 := rfl
    have c2 : (("]" : String) : Str).length = 1 := rfl
    rw [strLen_append, strLen_append, c1, c2]
    omega
  | n + 1, .tup ds, h, g => by
    simp only [py, szd]
    rw [PyData.shown_tuple]
    unfold okd at h
    unfold nodct at g
    have a := shown_szds n ds (List.all_eq_true.mp h) (List.all_eq_true.mp g)
    have b := join_le (PyData.shownAll (pys ds))
    have c1 : (("(" : String) : Str).length = 1 := rfl
    have c2 : (((if (pys ds).length == 1 then ",)" else ")" : String)) : Str).length ≤ 2 := by split <;> decide
    rw [strLen_append, strLen_append, c1]
    omega
  | 0, .lst ds, h, _ => by unfold okd at h; cases h
  | 0, .tup ds, h, _ => by unfold okd at h; cases h
  | 0, .dct ds, h, _ => by unfold okd at h; cases h
  | n + 1, .dct ds, _, h => by unfold nodct at h; cases h
  | n, .obj _ _, h, _ => by unfold okd at h; cases n <;> cases h
  | n, .ro _, h, _ => by unfold okd at h; cases n <;> cases h
  | n, .cel _, h, _ => by unfold okd at h; cases n <;> cases h
  | n, .cls _, h, _ => by unfold okd at h; cases n <;> cases h
theorem shown_szds : ∀ (n : Nat) (ds : List D), (∀ x ∈ ds, okd n x = true) → (∀ x ∈ ds, nodct n x = true) → piled (PyData.shownAll (pys ds)) ≤ szds ds
  | n, [], _, _ => by simp only [pys, PyData.shownAll, szds]; decide
  | n, d :: ds, h, g => by
    simp only [pys, PyData.shownAll, szds, piled_cons]
    have a := shown_szd n d (h d List.mem_cons_self) (g d List.mem_cons_self)
    have b := shown_szds n ds (fun x hx => h x (List.mem_cons_of_mem _ hx)) (fun x hx => g x (List.mem_cons_of_mem _ hx))
    omega
end
/-- repr -/
theorem flt_show {d : D} (f : flt d = true) : (py d).showable = true ∧ (py d).depth ≤ 40 ∧ (py d).shown.length ≤ szd d ∧ SeqAt.shaped (py d) = true := by
  have h : okd 40 d = true ∧ nodct 40 d = true := by unfold flt at f; simpa using f
  exact ⟨(okd_show 40 d h.1).1, (okd_show 40 d h.1).2, shown_szd 40 d h.1 h.2, okd_shaped (by decide) h.1 h.2⟩
mutual
theorem nodct_py : ∀ (n : Nat) (d : D), nodct n d = true → (py d).hasDict = false
  | n, .non, _ => by simp [py, PyData.hasDict]
  | n, .bl b, _ => by simp [py, PyData.hasDict]
  | n, .int i, _ => by simp [py, PyData.hasDict]
  | n, .str x, _ => by simp [py, PyData.hasDict]
  | n + 1, .lst ds, g => by
    simp only [py, PyData.hasDict]
    unfold nodct at g
    exact nodct_pys n ds (List.all_eq_true.mp g)
  | n + 1, .tup ds, g => by
    simp only [py, PyData.hasDict]
    unfold nodct at g
    exact nodct_pys n ds (List.all_eq_true.mp g)
  | 0, .lst ds, h => by unfold nodct at h; cases h
  | 0, .tup ds, h => by unfold nodct at h; cases h
  | 0, .dct ds, h => by unfold nodct at h; cases h
  | n + 1, .dct ds, h => by unfold nodct at h; cases h
  | n, .obj _ _, h => by simp [py, PyData.hasDict]
  | n, .ro _, h => by unfold nodct at h; cases n <;> cases h
  | n, .cel _, h => by simp [py, PyData.hasDict]
  | n, .cls _, h => by simp [py, PyData.hasDict]
theorem nodct_pys : ∀ (n : Nat) (ds : List D), (∀ x ∈ ds, nodct n x = true) → PyData.hasDictAll (pys ds) = false
  | n, [], _ => by simp [pys, PyData.hasDictAll]
  | n, d :: ds, g => by
    simp only [pys, PyData.hasDictAll, nodct_py n d (g d List.mem_cons_self), nodct_pys n ds (fun x hx => g x (List.mem_cons_of_mem _ hx)), Bool.or_self]
end
def rRepr (K : PySem.W.Frag) : List V → Hp → VK → Prop := fun xs H Q => ∃ (v : V) (d : D), xs = [v] ∧ flt d = true ∧ szd d ≤ 16000000 ∧ Dp K H v (py d) ∧ Q (.str (py d).shown) H
theorem call_reprU {X : Cx} (hg : X.A.guards = some []) (hu : X.A.units + 64 < cLine) : CallR X (.builtin "repr") (rRepr X.K) := by
  intro pins s σ H xs us Q I r h
  obtain ⟨v, d, rfl, f, hz, t, q⟩ := h
  obtain ⟨u, rfl, t2⟩ := vals1 r
  obtain ⟨f1, f2, f3, f4⟩ := flt_show f
  obtain ⟨as, rd⟩ := Dp.reads I _ _ _ t t2
  have hsz : (py d).shown.length ≤ sizeLine := by rw [sizeLine_eq]; omega
  have hnd : (py d).hasDict = false := nodct_py 40 d (by unfold flt at f; simp at f; exact f.2)
  generalize hp : py d = pd at *
  cases t with
  | non =>
    cases t2
    exact PySem.P.repr_of_none ⟨.str _, H, I.tok _, ⟨_, rfl⟩, by rw [PyData.shown_none] at q; exact q⟩
  | bl b =>
    cases t2
    exact PySem.P.repr_of_bool ⟨.str _, H, I.tok _, ⟨_, rfl⟩, by rw [PyData.shown_bool] at q; cases b <;> exact q⟩
  | int i =>
    obtain ⟨t, rfl⟩ := t2
    exact PySem.P.repr_of_int (by simpa [PyData.showable] using f1) ⟨.str _, H, I.tok _, ⟨_, rfl⟩, by rw [PyData.shown_int] at q; exact q⟩
  | str x =>
    obtain ⟨t, rfl⟩ := t2
    exact PySem.P.repr_of_str ⟨.str _, H, I.tok _, ⟨_, rfl⟩, by rw [PyData.shown_str] at q; exact q⟩ (hsz := by rw [PyData.shown_str] at hsz; exact hsz)
  | lst a b =>
    cases t2
    exact repr_of_reads' rd f1 (PyData.noDict_hsm hnd) hg (by omega) (fun _ _ e => e) (fun h' u tk hk => ⟨.str _, H, I.kept hk, ⟨u, rfl⟩, q⟩) hsz
  | tup a b =>
    cases t2
    exact repr_of_reads' rd f1 (PyData.noDict_hsm hnd) hg (by omega) (fun _ _ e => e) (fun h' u tk hk => ⟨.str _, H, I.kept hk, ⟨u, rfl⟩, q⟩) hsz
def dRepr : DRC := fun ds m Q => on1 ds fun d => flt (vw m d) = true ∧ szd (vw m d) ≤ 16000000 ∧ Q (.str (py (vw m d)).shown) m
theorem cd_repr {K : PySem.W.Frag} : CallD K dRepr (rRepr K) := by
  intro m H vs ds Q' Q ok t q k
  obtain ⟨v, d, rfl, rfl, t, f, hz, q⟩ := on1_of t q
  exact ⟨v, _, rfl, f, hz, (vw_dp ok t f).1, k _ m _ H q (Ext.refl m H) ok (.str _)⟩
end Nd

namespace Nd
open PySem L2 PyProof.Rows PySem.Spec
/-! what is walked -/
structure ItD (K : PySem.W.Frag) (J : It) (m0 : Mu) (H0 : Hp) (ds : List D) (st : Mu → Prop) : Prop where
  go : ∀ i m H, i < ds.length → Ext m0 H0 m H → Ok K m H → st m → J.go i H
  stop : ∀ m H, Ext m0 H0 m H → Ok K m H → st m → J.stop ds.length H
  yld : ∀ i m H x H', i < ds.length → Ext m0 H0 m H → Ok K m H → st m → J.yld i H x H' → ∃ d, ds[i]? = some d ∧ Ext m H m H' ∧ Ok K m H' ∧ Dt K m H' x d
abbrev IQ := List D → (Mu → Prop) → Mu → Prop
abbrev GI := Exx → Env → Mu → IQ → Prop
def lI (K : PySem.W.Frag) (cur : Cur) (g : Env → Mu → IQ → Prop) : TI := fun σ H R => ∃ ρ m Q', cur m H ∧ Ok K m H ∧ Sl K m H σ ρ ∧ g ρ m Q' ∧ ∀ ds st m' H' J, Q' ds st m' → Ext m H m' H' → Ok K m' H' → ItD K J m' H' ds st → R J H'
structure DI (X : Cx) (tg e : Expr) (g : GI) : Prop where
  run : ∀ cur W ex, CurOk cur → Takes X W → Lk X.K cur W ex → PI X tg e (lI X.K cur (g ex))
theorem pi_imp {X : Cx} {tg e : Expr} {t t' : TI} (h : PI X tg e t) (i : ∀ σ H Q, t' σ H Q → t σ H Q) : PI X tg e t' := ⟨fun pins s σ H Q I q => h.run pins s σ H Q I (i σ H Q q)⟩

/-! a list, a tuple, a text -/
def sgs (z : Str) : List D := z.cps.toList.map fun c => .str ⟨#[c]⟩
/-- the items, while m keeps them -/
def itemsD (m : Mu) (d : D) (Q : List D → (Mu → Prop) → Prop) : Prop := match d with
  | .lst ds => Q ds fun _ => True
  | .ro ds => Q ds fun _ => True
  | .tup ds => Q ds fun _ => True
  | .str z => Q (sgs z) fun _ => True
  | .cel a => (match m a with | some (.lst ds) => Q ds fun m' => m' a = some (.lst ds) | _ => False)
  | _ => False
def iAny (K : PySem.W.Frag) (te : TE) : TI := fun σ H R => te σ H fun x H1 => (∃ a, x = .ref a ∧ (∃ xs, SqL K H1 a xs) ∧ R (Itl K a) H1) ∨ (∃ a, x = .ref a ∧ (∃ xs, SqT K H1 a xs) ∧ R (Itt K a) H1) ∨ ∃ z, x = .str z ∧ R (Its z) H1
theorem pi_any {X : Cx} {tg e : Expr} {te : TE} (he : PE X e te) : PI X tg e (iAny X.K te) := by
  refine ⟨fun pins s σ H R I h => ?_⟩
  refine thn (he.run pins s σ H _ I h) fun v s1 ⟨x, H1, I1, r1, q1⟩ => ?_
  rcases q1 with ⟨a, e, ⟨xs, hq⟩, q⟩ | ⟨a, e, ⟨xs, hq⟩, q⟩ | ⟨z, e, q⟩
  · subst e
    cases r1
    obtain ⟨its, rv, p, hz⟩ := I1.list hq
    exact wpAny_pyIter_list p.isList (pi_one (tk := s1.toks) I1 _ (turn_list a _) ⟨_, Heap.get?_push_size _ rfl, rfl, rfl⟩ q)
  · subst e
    cases r1
    obtain ⟨its, rv, p, hz⟩ := I1.tuple hq
    exact wpAny_pyIter_tuple (show s1.heap.IsTuple a its.toArray from p) (pi_one (tk := s1.toks) I1 _ (turn_tuple a _) ⟨_, Heap.get?_push_size _ rfl, rfl, rfl⟩ q)
  · subst e
    obtain ⟨t, rfl⟩ := r1
    cases ha : z.cps.all (· < 128)
    · exact wpAny_pyIter_wide ha (pi_one (tk := s1.toks) I1 _ (turn_str _ z t "str_iterator" (.inr rfl)) ⟨_, Heap.get?_push_size _ rfl, rfl, rfl⟩ q)
    · exact wpAny_pyIter_ascii ha (pi_one (tk := s1.toks) I1 _ (turn_str _ z t "str_ascii_iterator" (.inl rfl)) ⟨_, Heap.get?_push_size _ rfl, rfl, rfl⟩ q)
/-- a list whose items stand at H, as a walk -/
theorem itd_list {K : PySem.W.Frag} {a : Addr} {m0 : Mu} {H0 : Hp} {ds : List D} {st : Mu → Prop} (h : ∀ m H, Ext m0 H0 m H → Ok K m H → st m → ∃ vs, SqL K H a vs ∧ Dts K m H vs ds) : ItD K (Itl K a) m0 H0 ds st where
  go := fun i m H hi e o s => by
    obtain ⟨vs, q, t⟩ := h m H e o s
    have hl : i < vs.length := by rw [t.length]; exact hi
    exact ⟨vs, vs[i], q, by simp [hl]⟩
  stop := fun m H e o s => by
    obtain ⟨vs, q, t⟩ := h m H e o s
    exact ⟨vs, q, by rw [t.length]; exact Nat.le_refl _⟩
  yld := fun i m H x H' hi e o s ⟨y1, y2⟩ => by
    subst y1
    obtain ⟨vs, q, t⟩ := h m _ e o s
    obtain ⟨d, h1, h2⟩ := t.get' (y2 vs q)
    exact ⟨d, h1, Ext.refl _ _, o, h2⟩
theorem itd_tup {K : PySem.W.Frag} {a : Addr} {m0 : Mu} {H0 : Hp} {ds : List D} {st : Mu → Prop} (h : ∀ m H, Ext m0 H0 m H → Ok K m H → st m → ∃ vs, SqT K H a vs ∧ Dts K m H vs ds) : ItD K (Itt K a) m0 H0 ds st where
  go := fun i m H hi e o s => by
    obtain ⟨vs, q, t⟩ := h m H e o s
    have hl : i < vs.length := by rw [t.length]; exact hi
    exact ⟨vs, vs[i], q, by simp [hl]⟩
  stop := fun m H e o s => by
    obtain ⟨vs, q, t⟩ := h m H e o s
    exact ⟨vs, q, by rw [t.length]; exact Nat.le_refl _⟩
  yld := fun i m H x H' hi e o s ⟨y1, y2⟩ => by
    subst y1
    obtain ⟨vs, q, t⟩ := h m _ e o s
    obtain ⟨d, h1, h2⟩ := t.get' (y2 vs q)
    exact ⟨d, h1, Ext.refl _ _, o, h2⟩
theorem itd_str {K : PySem.W.Frag} {z : Str} {m0 : Mu} {H0 : Hp} {st : Mu → Prop} : ItD K (Its z) m0 H0 (sgs z) st where
  go := fun i m H hi e o s => by show i < z.cps.size; simpa [sgs] using hi
  stop := fun m H e o s => by show z.cps.size ≤ (sgs z).length; simp [sgs]
  yld := fun i m H x H' hi e o s ⟨y1, c, y2, y3⟩ => by
    subst y1 y3
    exact ⟨.str ⟨#[c]⟩, by simp [sgs, y2], Ext.refl _ _, o, .str _⟩
def iSeq (f : GE) : GI := fun ex ρ m Q => f ex ρ m fun d m' => itemsD m' d fun ds st => Q ds st m'
theorem di_seq {X : Cx} {tg e : Expr} {f : GE} (he : DE X e f) : DI X tg e (iSeq f) := ⟨fun cur W ex co tk lk =>
  pi_imp (pi_any (he.run cur W ex co tk lk)) fun σ H R ⟨ρ, m, Q', cu, o, s, q, k⟩ => ⟨ρ, m, _, cu, o, s, q, fun d m1 v H1 q1 e1 o1 t1 => by
    have q2 : itemsD m1 d fun ds st => Q' ds st m1 := q1
    cases t1 with
    | @lst p vs ds a b c => exact .inl ⟨p, rfl, ⟨vs, SqL.of a⟩, k ds (fun _ => True) m1 H1 _ q2 e1 o1 (itd_list fun m H e o s => ⟨vs, SqL.of (e.at a b).1, c.ext e⟩)⟩
    | @ro p vs ds a c =>
      have hq : ∀ m H, Ext m1 H1 m H → Ok X.K m H → SqL X.K H p vs := fun m H e o => by
        rcases a with ⟨a | ⟨ob, a⟩, b⟩ | a
        · exact .inl (.inl (e.at a b).1)
        · exact .inl (.inr ⟨ob, (e.at a b).1⟩)
        · exact .inr a
      exact .inl ⟨p, rfl, ⟨vs, hq m1 H1 (Ext.refl _ _) o1⟩, k ds (fun _ => True) m1 H1 _ q2 e1 o1 (itd_list fun m H e o s => ⟨vs, hq m H e o, c.ext e⟩)⟩
    | @tup p vs ds a c =>
      have hq : ∀ m H, Ext m1 H1 m H → Ok X.K m H → SqT X.K H p vs := fun m H e o => by
        rcases a with ⟨a, b⟩ | a
        · exact SqT.of (e.at a b).1
        · exact .inr a
      exact .inr (.inl ⟨p, rfl, ⟨vs, hq m1 H1 (Ext.refl _ _) o1⟩, k ds (fun _ => True) m1 H1 _ q2 e1 o1 (itd_tup fun m H e o s => ⟨vs, hq m H e o, c.ext e⟩)⟩)
    | str z => exact .inr (.inr ⟨z, rfl, k (sgs z) (fun _ => True) m1 H1 _ q2 e1 o1 itd_str⟩)
    | cel a =>
      cases hm : m1 a with
      | none =>
        have q3 : (match m1 a with | some (.lst ds) => Q' ds (fun m' => m' a = some (.lst ds)) m1 | _ => False) := q2
        rw [hm] at q3; exact q3.elim
      | some c =>
        have q3 : (match m1 a with | some (.lst ds) => Q' ds (fun m' => m' a = some (.lst ds)) m1 | _ => False) := q2
        rw [hm] at q3
        cases c with
        | lst ds =>
          obtain ⟨vs, h1, h2⟩ := o1 a _ hm
          exact .inl ⟨a, rfl, ⟨vs, SqL.of h1⟩, k ds _ m1 H1 _ q3 e1 o1 (itd_list fun m H e o s => let ⟨vs, h1, h2⟩ := o a _ s; ⟨vs, SqL.of h1, h2⟩)⟩
        | _ => exact q3.elim
    | _ => exact (q2 : False).elim⟩⟩

/-! range -/
def rangeD (lo : Int) (n : Nat) : List D := (List.range n).map fun i => .int (lo + (i : Nat))
theorem itd_range {K : PySem.W.Frag} {lo : Int} {n : Nat} {m0 : Mu} {H0 : Hp} {st : Mu → Prop} : ItD K (Itr lo n) m0 H0 (rangeD lo n) st where
  go := fun i m H hi e o s => by show i < n; simpa [rangeD] using hi
  stop := fun m H e o s => by show n ≤ (rangeD lo n).length; simp [rangeD]
  yld := fun i m H x H' hi e o s ⟨y1, y2⟩ => by
    subst y1 y2
    have hi : i < n := by simpa [rangeD] using hi
    exact ⟨.int (lo + i), by simp [rangeD, hi], Ext.refl _ _, o, .int _⟩
def sml (i : Int) : Prop := -(2 ^ 62) ≤ i ∧ i < 2 ^ 62
def iRange1 (g : GA) : GI := fun ex ρ m Q => g ex ρ m fun ds m' => on1 ds fun d => onInt d fun j => sml j ∧ Q (rangeD 0 j.toNat) (fun _ => True) m'
def iRange2 (g : GA) : GI := fun ex ρ m Q => g ex ρ m fun ds m' => on2 ds fun d e => onInt d fun i => onInt e fun j => (sml i ∧ sml j) ∧ Q (rangeD i (j - i).toNat) (fun _ => True) m'
section
variable {X : Cx} {tg a b c : Expr} {p pos : Pos} {g : GA}
theorem di_range1 (hg : Gl X "range") (hm : X.mg "range" = none) (ha : DA X [a] g) (hs : starEach [a] X.env = [(false, eval a X.env)] := by rfl) : DI X tg (.Call (.Name "range" p) [a] [] pos) (iRange1 g) := ⟨fun cur W ex co tk lk =>
  pi_imp (pi_range1 hg hm (ha.run cur W ex co tk lk) hs) fun σ H R ⟨ρ, m, Q', cu, o, s, q, k⟩ => ⟨ρ, m, _, cu, o, s, q, fun ds m1 vs H1 q1 e1 o1 t1 => by
    obtain ⟨v, d, rfl, rfl, t, q⟩ := on1_of t1 q1
    obtain ⟨j, rfl, ⟨h1, h2⟩, q⟩ := onInt_of t q
    exact ⟨j, rfl, h1, h2, k _ _ m1 H1 _ q e1 o1 itd_range⟩⟩⟩
theorem di_range2 (hg : Gl X "range") (hm : X.mg "range" = none) (ha : DA X [a, b] g) (hs : starEach [a, b] X.env = [(false, eval a X.env), (false, eval b X.env)] := by rfl) (hs2 : starEach [b] X.env = [(false, eval b X.env)] := by rfl) :
    DI X tg (.Call (.Name "range" p) [a, b] [] pos) (iRange2 g) := ⟨fun cur W ex co tk lk =>
  pi_imp (pi_range2 hg hm (ha.run cur W ex co tk lk) hs hs2) fun σ H R ⟨ρ, m, Q', cu, o, s, q, k⟩ => ⟨ρ, m, _, cu, o, s, q, fun ds m1 vs H1 q1 e1 o1 t1 => by
    obtain ⟨v, w, d, e, rfl, rfl, t, t2, q⟩ := on2_of t1 q1
    obtain ⟨i, rfl, q⟩ := onInt_of t q
    obtain ⟨j, rfl, ⟨⟨h1, h2⟩, h3, h4⟩, q⟩ := onInt_of t2 q
    exact ⟨i, j, rfl, ⟨h1, h2, h3, h4⟩, k _ _ m1 H1 _ q e1 o1 itd_range⟩⟩⟩
end

/-! for -/
def forG (ex : Exx) (gt : GG) (tb : GS) (st : Mu → Prop) (G : Gn) : List D → Env → Mu → Prop
  | [], ρ, m => st m ∧ G.nx ρ m
  | d :: r, ρ, m => st m ∧ gt ex d ρ m fun ρ' m' => tb ex { nx := forG ex gt tb st G r, rt := G.rt, bk := G.nx, ct := forG ex gt tb st G r } ρ' m'
def sFor (gi : GI) (gt : GG) (tb : GS) : GS := fun ex G ρ m => gi ex ρ m fun ds st m1 => forG ex gt tb st G ds ρ m1
theorem forG_st {ex : Exx} {gt : GG} {tb : GS} {st : Mu → Prop} {G : Gn} {ds : List D} {ρ : Env} {m : Mu} (h : forG ex gt tb st G ds ρ m) : st m := by
  cases ds with
  | nil => exact h.1
  | cons _ _ => exact h.1
section
variable {X : Cx} {tg iter : Expr} {body : List Stmt} {pos : Pos} {gi : GI} {gt : GG} {tb : GS} {ws : List Nat}
theorem ds_for (hp : PassesOwn (model X.prog X.w) X.A X.env X.xe) (hc : X.calm = true) (hi : DI X tg iter gi) (hg : DG X tg ws gt) (hb : DSs X body tb) (hs : ∀ x, foldedSetIterable iter X.env x = pure x := by intro _; rfl) :
    DS X (.For tg iter body [] pos) (sFor gi gt tb) := ⟨fun cur W ex co tk lk => by
  refine ps_imp (ps_for hp hc (hi.run cur W ex co tk lk) (hg.run cur W ex co tk lk) (hb.run cur W ex co tk lk) hs) fun E σ H ⟨ρ, m, G, cu, o, s, q, k⟩ => ?_
  refine ⟨ρ, m, _, cu, o, s, q, fun ds st m1 H1 J q1 e1 o1 it => ?_⟩
  refine ⟨fun i n σ' H' => n = ds.length - i ∧ i ≤ ds.length ∧ ∃ ρ' m', Ext m1 H1 m' H' ∧ Ok X.K m' H' ∧ Sl X.K m' H' σ' ρ' ∧ forG ex gt tb st G (ds.drop i) ρ' m', ⟨ds.length, by simp, Nat.zero_le _, ρ, m1, Ext.refl _ _, o1, s.ext e1, q1⟩, ?_⟩
  rintro i n σ' H' ⟨rfl, hi, ρ', m', e', o', s', q'⟩
  have hst := forG_st q'
  have e01 := e1.trans e' o1.cells
  by_cases hlt : i < ds.length
  · refine .inr ⟨it.go i m' H' hlt e' o' hst, fun σ2 H2 => ∃ ρ2 m2, Ext m1 H1 m2 H2 ∧ Ok X.K m2 H2 ∧ Sl X.K m2 H2 σ2 ρ2 ∧ forG ex gt tb st G (ds.drop (i + 1)) ρ2 m2, fun σ2 H2 z => ⟨ds.length - (i + 1), by omega, rfl, hlt, z⟩, fun x H2 y => ?_⟩
    obtain ⟨d, hd, e2, o2, t2⟩ := it.yld i m' H' x H2 hlt e' o' hst y
    have hdr : ds.drop i = d :: ds.drop (i + 1) := by rw [List.drop_eq_getElem_cons hlt]; rw [List.getElem?_eq_getElem hlt] at hd; cases hd; rfl
    rw [hdr] at q'
    have e02 := e01.trans e2 o'.cells
    refine ⟨d, ρ', m', _, co.ext cu o.cells e02, o2, s'.ext e2, t2, q'.2, fun ρ3 m3 σ3 H3 q3 e3 o3 s3 _ => ?_⟩
    have e13 := (e'.trans e2 o'.cells).trans e3 o2.cells
    have e03 := e02.trans e3 o2.cells
    refine ⟨ρ3, m3, _, co.ext cu o.cells e03, o3, s3, q3, ?_⟩
    refine ⟨fun ρ4 m4 σ4 H4 q4 e4 o4 s4 => ⟨ρ4, m4, e13.trans e4 o3.cells, o4, s4, q4⟩, fun d4 m4 v4 H4 q4 e4 o4 t4 => k.rt d4 m4 v4 H4 q4 (e03.trans e4 o3.cells) o4 t4,
      fun ρ4 m4 σ4 H4 q4 e4 o4 s4 => k.nx ρ4 m4 σ4 H4 q4 (e03.trans e4 o3.cells) o4 s4, fun ρ4 m4 σ4 H4 q4 e4 o4 s4 => ⟨ρ4, m4, e13.trans e4 o3.cells, o4, s4, q4⟩⟩
  · have e : i = ds.length := by omega
    subst e
    rw [List.drop_length] at q'
    exact .inl ⟨it.stop m' H' e' o' hst, k.nx ρ' m' σ' H' q'.2 e01 o' s'⟩⟩
end
end Nd

namespace Nd
open PySem L2 PyProof.Rows PySem.Spec
/-! comprehensions -/
def wipeD (ρ : Env) : List Nat → Env
  | [] => ρ
  | v :: vs => (wipeD ρ vs).set v none
theorem sl_wipe {K : PySem.W.Frag} {m : Mu} {H : Hp} {σ : L2.St} {ρ : Env} (s : Sl K m H σ ρ) : ∀ vs : List Nat, Sl K m H (wipe σ vs) (wipeD ρ vs)
  | [] => s
  | v :: vs => (sl_wipe s vs).drop v
theorem wipe_at {σ : L2.St} {j : Nat} : ∀ {vs : List Nat}, j ∉ vs → (wipe σ vs)[j]? = σ[j]?
  | [], _ => rfl
  | v :: vs, h => by
    unfold wipe
    rw [List.getElem?_set_ne fun z => h (by simp [z])]
    exact wipe_at fun z => h (List.mem_cons_of_mem _ z)
theorem wipe_in {σ : L2.St} {j : Nat} : ∀ {vs : List Nat}, j ∈ vs → (wipe σ vs)[j]? = if j < σ.length then some none else none
  | [], h => by cases h
  | v :: vs, h => by
    unfold wipe
    by_cases e : v = j
    · subst e
      by_cases hl : v < σ.length
      · rw [List.getElem?_set_self (by rw [wipe_length]; exact hl), if_pos hl]
      · rw [if_neg hl, List.getElem?_eq_none (by rw [List.length_set, wipe_length]; omega)]
    · rw [List.getElem?_set_ne e]
      exact wipe_in ((List.mem_cons.mp h).resolve_left fun z => e z.symm)
theorem wipe_apart {σ σ' : L2.St} {ws vs : List Nat} (h : Apart ws σ σ') (hs : ∀ i ∈ ws, i ∈ vs) : wipe σ' vs = wipe σ vs := by
  refine List.ext_getElem? fun j => ?_
  by_cases hj : j ∈ vs
  · rw [wipe_in hj, wipe_in hj, h.1]
  · rw [wipe_at hj, wipe_at hj, h.2 j fun z => hj (hs j z)]
theorem wipe_wipe (σ : L2.St) (vs : List Nat) : wipe (wipe σ vs) vs = wipe σ vs := by
  refine List.ext_getElem? fun j => ?_
  by_cases hj : j ∈ vs
  · rw [wipe_in hj, wipe_in hj, wipe_length]
  · rw [wipe_at hj, wipe_at hj]
/-- no exception leaves a block -/
def noX : Exx := fun _ _ _ => False
structure DTs (X : Cx) (ifs : List Expr) (g : GT) : Prop where
  run : ∀ cur W ex, CurOk cur → Takes X W → Lk X.K cur W ex → PTs X ifs (lT X.K cur (g ex))
def cYes : GT := fun _ _ m Q => Q true m
section
variable {X : Cx} {c : Expr} {t : GT}
theorem dts_nil : DTs X [] cYes := ⟨fun cur W ex co tk lk => ⟨fun pins s σ H Q I ⟨ρ, m, Q', cu, o, sl, q, k⟩ => pts_nil.run pins s σ H Q I (k true m H q (Ext.refl m H) o)⟩⟩
theorem dts_one (h : DT X c t) : DTs X [c] t := ⟨fun cur W ex co tk lk => pts_one (h.run cur W ex co tk lk)⟩
end
/-- the list that grows stands at a -/
def lcG (gt : GG) (tt : GT) (te : GE) (st : Mu → Prop) (a : Addr) (ρ : Env) (Q : D → Mu → Prop) : List D → List D → Mu → Prop
  | [], acc, m => st m ∧ m a = some (.lst acc) ∧ Q (.lst acc) (m.put a none)
  | d :: r, acc, m => st m ∧ gt noX d ρ m fun ρ2 m2 => tt noX ρ2 m2 fun b m3 =>
      if b = true then te noX ρ2 m3 fun y m4 => (m4 a = some (.lst acc) ∧ acc.length < sizeLine) ∧ lcG gt tt te st a ρ Q r (acc ++ [y]) (m4.put a (some (.lst (acc ++ [y])))) else lcG gt tt te st a ρ Q r acc m3
def gLc (gi : GI) (gt : GG) (tt : GT) (te : GE) (vs : List Nat) : GE := fun ex ρ m Q => gi ex ρ m fun ds st m1 => ∀ a, m1 a = none → lcG gt tt te st a (wipeD ρ vs) Q ds [] (m1.put a (some (.lst [])))
def gLcM (gi : GI) (gt : GG) (tt : GT) (te : GE) (vs : List Nat) : GE := fun ex ρ m Q => gi ex ρ m fun ds st m1 => ∀ a, m1 a = none → lcG gt tt te st a (wipeD ρ vs) (fun d m2 => match d with | .lst acc => Q (.cel a) (m2.put a (some (.lst acc))) | _ => False) ds [] (m1.put a (some (.lst [])))
theorem takes_no {X : Cx} {xe : Value → Shared → Prop} : Takes X fun _ _ _ _ => False := fun u s' ⟨a, B, sI, pins, σ, H, cls, d, e, I, nb, up, sky, na, os, ag, w⟩ => w.elim
theorem lk_no {K : PySem.W.Frag} {cur : Cur} : Lk K cur (fun _ _ _ _ => False) noX := fun _ _ _ _ _ _ _ h => h.elim
section
variable {X : Cx} {elt tg iter : Expr} {ifs : List Expr} {scope : Scope} {own : List (Str × Nat)} {pos : Pos} {gi : GI} {gt : GG} {tt : GT} {te : GE} {ws : List Nat}
theorem lcG_st {st : Mu → Prop} {a : Addr} {ρ : Env} {Q : D → Mu → Prop} {ds acc : List D} {m : Mu} (h : lcG gt tt te st a ρ Q ds acc m) : st m := by
  cases ds with
  | nil => exact h.1
  | cons _ _ => exact h.1
theorem lc_gen {K : PySem.W.Frag} {cur : Cur} {ex : Exx} (co : CurOk cur) (hw : ∀ i ∈ ws, i ∈ own.map (·.2)) {σ : L2.St} {H : Hp} {Q : VK} {ρ : Env} {m : Mu} (Qa : Addr → D → Mu → Prop) (cu : cur m H) (o : Ok K m H) (s : Sl K m H σ ρ)
    (q : gi ex ρ m fun ds st m1 => ∀ a, m1 a = none → lcG gt tt te st a (wipeD ρ (own.map (·.2))) (Qa a) ds [] (m1.put a (some (.lst []))))
    (k : ∀ a acc m' H', m' a = some (.lst acc) → Qa a (.lst acc) (m'.put a none) → Ext m H m' H' → Ok K m' H' → Q (.ref a) H') :
    tLc (lI K cur (gi ex)) (fun v σ H Q => ∃ d ρ m Q', cur m H ∧ Ok K m H ∧ Sl K m H σ ρ ∧ Dt K m H v d ∧ gt noX d ρ m Q' ∧ ∀ ρ' m' σ' H', Q' ρ' m' → Ext m H m' H' → Ok K m' H' → Sl K m' H' σ' ρ' → Apart ws σ σ' → Q σ' H')
      (lT K cur (tt noX)) (lE K cur (te noX)) (own.map (·.2)) σ H Q := by
  refine ⟨ρ, m, _, cu, o, s, q, fun ds st m1 H1 J q1 e1 o1 it a ha => ?_⟩
  have hma : m1 a = none := mu_none o1 ha
  have q2 := q1 a hma
  have ea : Ext m1 H1 (m1.put a (some (.lst []))) (upd H1 a (.lst [])) := ext_cell ha
  have oa : Ok K (m1.put a (some (.lst []))) (upd H1 a (.lst [])) := ok_at o1 ea ⟨[], upd_same, .nil⟩
  refine ⟨fun i n H' => n = ds.length - i ∧ i ≤ ds.length ∧ ∃ acc m', Ext m1 H1 m' H' ∧ Ok K m' H' ∧ lcG gt tt te st a (wipeD ρ (own.map (·.2))) (Qa a) (ds.drop i) acc m', ⟨ds.length, by simp, Nat.zero_le _, [], _, ea, oa, q2⟩, ?_⟩
  rintro i n H' ⟨rfl, hi, acc, m', e', o', q'⟩
  have hst := lcG_st q'
  have e01 := e1.trans e' o1.cells
  by_cases hlt : i < ds.length
  · refine .inr ⟨it.go i m' H' hlt e' o' hst, fun H2 => ∃ acc m2, Ext m1 H1 m2 H2 ∧ Ok K m2 H2 ∧ lcG gt tt te st a (wipeD ρ (own.map (·.2))) (Qa a) (ds.drop (i + 1)) acc m2, fun H2 z => ⟨ds.length - (i + 1), by omega, rfl, hlt, z⟩, fun x H2 y => ?_⟩
    obtain ⟨d, hd, e2, o2, t2⟩ := it.yld i m' H' x H2 hlt e' o' hst y
    have hdr : ds.drop i = d :: ds.drop (i + 1) := by rw [List.drop_eq_getElem_cons hlt]; rw [List.getElem?_eq_getElem hlt] at hd; cases hd; rfl
    rw [hdr] at q'
    have e02 := e01.trans e2 o'.cells
    have e12 := e'.trans e2 o'.cells
    refine ⟨d, _, m', _, co.ext cu o.cells e02, o2, sl_wipe (s.ext e02) _, t2, q'.2, fun ρ3 m3 σ3 H3 q3 e3 o3 s3 a3 => ?_⟩
    have e03 := e02.trans e3 o2.cells
    have e13 := e12.trans e3 o2.cells
    refine ⟨by rw [wipe_apart a3 hw, wipe_wipe], ρ3, m3, _, co.ext cu o.cells e03, o3, s3, q3, fun b m4 H4 q4 e4 o4 => ?_⟩
    have e04 := e03.trans e4 o3.cells
    have e14 := e13.trans e4 o3.cells
    cases b with
    | false =>
      simp only [Bool.false_eq_true, if_false] at q4 ⊢
      exact ⟨acc, m4, e14, o4, q4⟩
    | true =>
      simp only [if_true] at q4 ⊢
      refine ⟨ρ3, m4, _, co.ext cu o.cells e04, o4, s3.ext e4, q4, fun y5 m5 v5 H5 ⟨⟨h5, l5⟩, q5⟩ e5 o5 t5 => ?_⟩
      obtain ⟨vs, hv, tv⟩ := o5 a _ h5
      have e15 := e14.trans e5 o4.cells
      obtain ⟨e6, o6⟩ := put_lst o5 h5 (tv.append (.cons t5 .nil))
      exact ⟨vs, hv, by rw [tv.length]; exact l5, acc ++ [y5], _, e15.trans e6 o5.cells, o6, q5⟩
  · have e : i = ds.length := by omega
    subst e
    rw [List.drop_length] at q'
    obtain ⟨_, h5, q5⟩ := q'
    obtain ⟨vs, hv, tv⟩ := o' a _ h5
    exact .inl ⟨it.stop m' H' e' o' hst, k a acc m' H' h5 q5 e01 o'⟩
theorem lc_imp {K : PySem.W.Frag} {cur : Cur} {ex : Exx} (co : CurOk cur) (hw : ∀ i ∈ ws, i ∈ own.map (·.2)) {σ : L2.St} {H : Hp} {Q : VK} (h : lE K cur (gLc gi gt tt te (own.map (·.2)) ex) σ H Q) :
    tLc (lI K cur (gi ex)) (fun v σ H Q => ∃ d ρ m Q', cur m H ∧ Ok K m H ∧ Sl K m H σ ρ ∧ Dt K m H v d ∧ gt noX d ρ m Q' ∧ ∀ ρ' m' σ' H', Q' ρ' m' → Ext m H m' H' → Ok K m' H' → Sl K m' H' σ' ρ' → Apart ws σ σ' → Q σ' H')
      (lT K cur (tt noX)) (lE K cur (te noX)) (own.map (·.2)) σ H Q := by
  obtain ⟨ρ, m, Q', cu, o, s, q, k⟩ := h
  refine lc_gen co hw (fun _ => Q') cu o s q fun a acc m' H' h5 q5 e' o' => ?_
  obtain ⟨vs, hv, tv⟩ := o' a _ h5
  exact k (.lst acc) (m'.put a none) (.ref a) H' q5 (e'.trans ext_free o'.cells) (ok_free o') (.lst hv Mu.put_same (tv.ext ext_free))
theorem lc_impM {K : PySem.W.Frag} {cur : Cur} {ex : Exx} (co : CurOk cur) (hw : ∀ i ∈ ws, i ∈ own.map (·.2)) {σ : L2.St} {H : Hp} {Q : VK} (h : lE K cur (gLcM gi gt tt te (own.map (·.2)) ex) σ H Q) :
    tLc (lI K cur (gi ex)) (fun v σ H Q => ∃ d ρ m Q', cur m H ∧ Ok K m H ∧ Sl K m H σ ρ ∧ Dt K m H v d ∧ gt noX d ρ m Q' ∧ ∀ ρ' m' σ' H', Q' ρ' m' → Ext m H m' H' → Ok K m' H' → Sl K m' H' σ' ρ' → Apart ws σ σ' → Q σ' H')
      (lT K cur (tt noX)) (lE K cur (te noX)) (own.map (·.2)) σ H Q := by
  obtain ⟨ρ, m, Q', cu, o, s, q, k⟩ := h
  refine lc_gen co hw (fun a d m2 => match d with | .lst acc => Q' (.cel a) (m2.put a (some (.lst acc))) | _ => False) cu o s q fun a acc m' H' h5 q5 e' o' => ?_
  have q6 : Q' (.cel a) ((m'.put a none).put a (some (.lst acc))) := q5
  have e6 : (m'.put a none).put a (some (.lst acc)) = m' := by
    funext b
    by_cases e : b = a
    · rw [e, Mu.put_same, h5]
    · rw [Mu.put_ne e, Mu.put_ne e]
  rw [e6] at q6
  exact k (.cel a) m' (.ref a) H' q6 e' o' (.cel a)
theorem de_lc (hc : X.calm = true) (hN : X.N.Nodup) (hi : DI X tg iter gi) (ok : BlkOk X.N X.env.scope scope own) (hw : ∀ i ∈ ws, i ∈ own.map (·.2))
    (hg : ∀ (s : Shared) (H : Hp) (C : Addr) (cl : List (Str × Addr)) (fp : List Addr), DG (X.blk s H scope (compEnvC scope cl C X.env) fp) tg ws gt) (ht : ∀ (s : Shared) (H : Hp) (C : Addr) (cl : List (Str × Addr)) (fp : List Addr), DTs (X.blk s H scope (compEnvC scope cl C X.env) fp) ifs tt)
    (he : ∀ (s : Shared) (H : Hp) (C : Addr) (cl : List (Str × Addr)) (fp : List Addr), DE (X.blk s H scope (compEnvC scope cl C X.env) fp) elt te) (hs : ∀ x, foldedSetIterable iter X.env x = pure x := by intro _; rfl) :
    DE X (.ListComp elt [⟨tg, iter, ifs, 0⟩] scope pos) (gLc gi gt tt te (own.map (·.2))) := ⟨fun cur W ex co tk lk =>
  pe_imp (pe_lc hc hN (hi.run cur W ex co tk lk) ok (fun s H C cl fp => (hg s H C cl fp).run cur _ noX co (takes_no (xe := fun _ _ => False)) lk_no) (fun s H C cl fp => (ht s H C cl fp).run cur _ noX co (takes_no (xe := fun _ _ => False)) lk_no)
    (fun s H C cl fp => (he s H C cl fp).run cur _ noX co (takes_no (xe := fun _ _ => False)) lk_no) hs) fun σ H Q h => lc_imp co hw h⟩
theorem ds_setLc {i : Nat} {y : Str} {py : Pos} {spos : Pos} (hc : X.calm = true) (hN : X.N.Nodup) (hy : X.N[i]? = some y) (hyl : X.env.scope.names.lookup y = some .local)
    (hsw : swapsWith (.ListComp elt [⟨tg, iter, ifs, 0⟩] scope pos) (some (.Name y py)) spos.line X.env = pure true) (hi : DI X tg iter gi) (ok : BlkOk X.N X.env.scope scope own) (hw : ∀ i ∈ ws, i ∈ own.map (·.2))
    (hg : ∀ (s : Shared) (H : Hp) (C : Addr) (cl : List (Str × Addr)) (fp : List Addr), DG (X.blk s H scope (compEnvC scope cl C X.env) fp) tg ws gt) (ht : ∀ (s : Shared) (H : Hp) (C : Addr) (cl : List (Str × Addr)) (fp : List Addr), DTs (X.blk s H scope (compEnvC scope cl C X.env) fp) ifs tt)
    (he : ∀ (s : Shared) (H : Hp) (C : Addr) (cl : List (Str × Addr)) (fp : List Addr), DE (X.blk s H scope (compEnvC scope cl C X.env) fp) elt te) (hs : ∀ x, foldedSetIterable iter X.env x = pure x := by intro _; rfl) :
    DS X (.Assign [.Name y py] (.ListComp elt [⟨tg, iter, ifs, 0⟩] scope pos) spos) (sSet i (gLc gi gt tt te (own.map (·.2)))) := ⟨fun cur W ex co tk lk =>
  ps_imp (ps_setLc hc hN hy hyl hsw (hi.run cur W ex co tk lk) ok (fun s H C cl fp => (hg s H C cl fp).run cur _ noX co (takes_no (xe := fun _ _ => False)) lk_no) (fun s H C cl fp => (ht s H C cl fp).run cur _ noX co (takes_no (xe := fun _ _ => False)) lk_no)
    (fun s H C cl fp => (he s H C cl fp).run cur _ noX co (takes_no (xe := fun _ _ => False)) lk_no) hs) fun E σ H ⟨ρ, m, G, cu, o, s, q, k⟩ => lc_imp (Q := fun x H1 => gName i x σ H1 E.nx) co hw ⟨ρ, m, _, cu, o, s, q, fun d m' v H' q e o' t => k.nx _ m' _ H' q e o' ((s.ext e).set t i)⟩⟩
theorem de_lcM (hc : X.calm = true) (hN : X.N.Nodup) (hi : DI X tg iter gi) (ok : BlkOk X.N X.env.scope scope own) (hw : ∀ i ∈ ws, i ∈ own.map (·.2))
    (hg : ∀ (s : Shared) (H : Hp) (C : Addr) (cl : List (Str × Addr)) (fp : List Addr), DG (X.blk s H scope (compEnvC scope cl C X.env) fp) tg ws gt) (ht : ∀ (s : Shared) (H : Hp) (C : Addr) (cl : List (Str × Addr)) (fp : List Addr), DTs (X.blk s H scope (compEnvC scope cl C X.env) fp) ifs tt)
    (he : ∀ (s : Shared) (H : Hp) (C : Addr) (cl : List (Str × Addr)) (fp : List Addr), DE (X.blk s H scope (compEnvC scope cl C X.env) fp) elt te) (hs : ∀ x, foldedSetIterable iter X.env x = pure x := by intro _; rfl) :
    DE X (.ListComp elt [⟨tg, iter, ifs, 0⟩] scope pos) (gLcM gi gt tt te (own.map (·.2))) := ⟨fun cur W ex co tk lk =>
  pe_imp (pe_lc hc hN (hi.run cur W ex co tk lk) ok (fun s H C cl fp => (hg s H C cl fp).run cur _ noX co (takes_no (xe := fun _ _ => False)) lk_no) (fun s H C cl fp => (ht s H C cl fp).run cur _ noX co (takes_no (xe := fun _ _ => False)) lk_no)
    (fun s H C cl fp => (he s H C cl fp).run cur _ noX co (takes_no (xe := fun _ _ => False)) lk_no) hs) fun σ H Q h => lc_impM co hw h⟩
theorem ds_setLcM {i : Nat} {y : Str} {py : Pos} {spos : Pos} (hc : X.calm = true) (hN : X.N.Nodup) (hy : X.N[i]? = some y) (hyl : X.env.scope.names.lookup y = some .local)
    (hsw : swapsWith (.ListComp elt [⟨tg, iter, ifs, 0⟩] scope pos) (some (.Name y py)) spos.line X.env = pure true) (hi : DI X tg iter gi) (ok : BlkOk X.N X.env.scope scope own) (hw : ∀ i ∈ ws, i ∈ own.map (·.2))
    (hg : ∀ (s : Shared) (H : Hp) (C : Addr) (cl : List (Str × Addr)) (fp : List Addr), DG (X.blk s H scope (compEnvC scope cl C X.env) fp) tg ws gt) (ht : ∀ (s : Shared) (H : Hp) (C : Addr) (cl : List (Str × Addr)) (fp : List Addr), DTs (X.blk s H scope (compEnvC scope cl C X.env) fp) ifs tt)
    (he : ∀ (s : Shared) (H : Hp) (C : Addr) (cl : List (Str × Addr)) (fp : List Addr), DE (X.blk s H scope (compEnvC scope cl C X.env) fp) elt te) (hs : ∀ x, foldedSetIterable iter X.env x = pure x := by intro _; rfl) :
    DS X (.Assign [.Name y py] (.ListComp elt [⟨tg, iter, ifs, 0⟩] scope pos) spos) (sSet i (gLcM gi gt tt te (own.map (·.2)))) := ⟨fun cur W ex co tk lk =>
  ps_imp (ps_setLc hc hN hy hyl hsw (hi.run cur W ex co tk lk) ok (fun s H C cl fp => (hg s H C cl fp).run cur _ noX co (takes_no (xe := fun _ _ => False)) lk_no) (fun s H C cl fp => (ht s H C cl fp).run cur _ noX co (takes_no (xe := fun _ _ => False)) lk_no)
    (fun s H C cl fp => (he s H C cl fp).run cur _ noX co (takes_no (xe := fun _ _ => False)) lk_no) hs) fun E σ H ⟨ρ, m, G, cu, o, s, q, k⟩ => lc_impM (Q := fun x H1 => gName i x σ H1 E.nx) co hw ⟨ρ, m, _, cu, o, s, q, fun d m' v H' q e o' t => k.nx _ m' _ H' q e o' ((s.ext e).set t i)⟩⟩
end
end Nd

namespace Nd
open PySem L2 PyProof.Rows PySem.Spec
/-! stores into a list that is a cell -/
section
variable {X : Cx} {o i e : Expr} {pos pos' : Pos} {fo fi f : GE}
def nSub (fo fi : GE) : GG := fun ex v ρ m Q => fo ex ρ m fun d m1 => onCell m1 d fun a _ => fi ex ρ m1 fun x m2 => onCell m2 d fun a ds => onInt x fun k => onSome (ixN ds.length k) fun j => Q ρ (m2.put a (some (.lst (ds.set j v))))
theorem onCell_v {m : Mu} {d : D} {P : Addr → List D → Prop} (h : onCell m d P) : ∃ a, d = .cel a := by
  cases d <;> first | exact ⟨_, rfl⟩ | exact (h : False).elim
theorem dg_sub (ho : DE X o fo) (hi : DE X i fi)
    (ha : ∀ v, assign (.Subscript o i pos) X.env v = (do
      let ov ← holding [v] (eval o X.env)
      let iv ← holding [v, ov] (eval i X.env)
      standAt pos
      holding [v, ov, iv] (setItem ov iv v)
      release [v, ov, iv] []) := by intro _; rfl) : DG X (.Subscript o i pos) [] (nSub fo fi) := ⟨fun cur W ex co tk lk =>
  pg_imp (pg_sub (ho.run cur W ex co tk lk) (hi.run cur W ex co tk lk) set_list ha) fun v σ H Q ⟨d, ρ, m, Q', cu, ok, sl, t, q, k⟩ => ⟨ρ, m, _, cu, ok, sl, q, fun d1 m1 v1 H1 q1 e1 o1 t1 => by
    obtain ⟨a, vs, ds, rfl, rfl, h1, h2, h3, q1⟩ := onCell_of o1 t1 q1
    refine ⟨ρ, m1, _, co.ext cu ok.cells e1, o1, sl.ext e1, q1, fun x m2 u H2 q2 e2 o2 t2 => ?_⟩
    obtain ⟨a', vs', ds', e3, e4, h1', h2', h3', q2⟩ := onCell_of o2 (Dt.cel a) q2
    cases e3
    obtain ⟨j, rfl, q2⟩ := onInt_of t2 q2
    obtain ⟨n, hn, q2⟩ := onSome_of q2
    have e12 := e1.trans e2 o1.cells
    obtain ⟨e5, o5⟩ := put_lst o2 h1' (h3'.set (t.ext e12) n)
    have e15 := e12.trans e5 o2.cells
    exact ⟨a, vs', j, n, rfl, rfl, h2', by rw [h3'.length]; exact hn, k ρ _ σ _ q2 e15 o5 (sl.ext e15) (Apart.refl σ)⟩⟩⟩
end

/-! dicts written out -/
def gPs (ex : Exx) (ρ : Env) : List (Key × GE) → Mu → (List (Key × D) → Mu → Prop) → Prop
  | [], m, Q => Q [] m
  | (k, g) :: r, m, Q => g ex ρ m fun d m1 => gPs ex ρ r m1 fun ds m2 => Q ((k, d) :: ds) m2
structure DPs (X : Cx) (pos : Pos) (keys : List (Option Expr)) (values : List Expr) (gs : List (Key × GE)) : Prop where
  run : ∀ cur W ex, CurOk cur → Takes X W → Lk X.K cur W ex → PPs X pos keys values (gs.map fun p => (tC (kV p.1), lE X.K cur (p.2 ex)))
section
variable {X : Cx} {pos cp : Pos} {keys : List (Option Expr)} {values : List Expr} {gs : List (Key × GE)} {v : Expr} {g : GE}
theorem dps_nil : DPs X pos [] [] [] := ⟨fun _ _ _ _ _ _ => pps_nil⟩
theorem dps_int {i : Int} {j : Nat} (hv : DE X v g) (h : DPs X pos keys values gs) : DPs X pos (some (.Constant (.int i) j cp) :: keys) (v :: values) ((.inl i, g) :: gs) := ⟨fun cur W ex co tk lk => pps_cons pe_int (hv.run cur W ex co tk lk) (h.run cur W ex co tk lk)⟩
theorem dps_str {i : String} {j : Nat} (hv : DE X v g) (h : DPs X pos keys values gs) : DPs X pos (some (.Constant (.str i) j cp) :: keys) (v :: values) ((.inr i, g) :: gs) := ⟨fun cur W ex co tk lk => pps_cons pe_str (hv.run cur W ex co tk lk) (h.run cur W ex co tk lk)⟩
theorem gps_tp {K : PySem.W.Frag} {cur : Cur} {ex : Exx} (co : CurOk cur) {σ : L2.St} {ρ : Env} : ∀ (gs : List (Key × GE)) (m : Mu) (H : Hp) (Q' : List (Key × D) → Mu → Prop) (Q : List (V × V) → Hp → Prop), cur m H → Ok K m H → Sl K m H σ ρ → gPs ex ρ gs m Q' →
    (∀ ds m' vs H', Q' ds m' → Ext m H m' H' → Ok K m' H' → Dks K m' H' vs ds → Q (vs.map fun p => (kV p.1, p.2)) H') → tPairs (gs.map fun p => (tC (kV p.1), lE K cur (p.2 ex))) σ H Q
  | [], m, H, Q', Q, cu, o, s, q, k => k [] m [] H q (Ext.refl _ _) o .nil
  | (ky, g) :: r, m, H, Q', Q, cu, o, s, q, k => ⟨ρ, m, _, cu, o, s, q, fun d m1 v H1 q1 e1 o1 t1 =>
      gps_tp co r m1 H1 _ _ (co.ext cu o.cells e1) o1 (s.ext e1) q1 fun ds m2 vs H2 q2 e2 o2 t2 => k ((ky, d) :: ds) m2 ((ky, v) :: vs) H2 q2 (e1.trans e2 o1.cells) o2 (.cons (t1.ext e2) t2)⟩
theorem dks_keys {K : PySem.W.Frag} {m : Mu} {H : Hp} : ∀ {vs : List (Key × V)} {ds : List (Key × D)}, Dks K m H vs ds → vs.map Prod.fst = ds.map Prod.fst
  | _, _, .nil => rfl
  | _, _, .cons _ t => by rw [List.map_cons, List.map_cons, dks_keys t]
theorem mergeK_app : ∀ (vs acc : List (Key × V)), ((acc ++ vs).map Prod.fst).Nodup → mergeK acc vs = acc ++ vs
  | [], acc, _ => by rw [List.append_nil]; rfl
  | p :: r, acc, h => by
    have hp : putK acc p.1 p.2 = acc ++ [p] := by
      unfold putK
      rw [if_neg]
      intro z
      obtain ⟨x, hx, e⟩ := List.any_eq_true.mp z
      have e : x.1 = p.1 := of_decide_eq_true e
      rw [List.map_append, List.nodup_append] at h
      exact h.2.2 _ (List.mem_map_of_mem hx) _ (List.mem_map_of_mem List.mem_cons_self) e
    show mergeK (putK acc p.1 p.2) r = _
    rw [hp, mergeK_app r (acc ++ [p]) (by rw [List.append_assoc]; exact h), List.append_assoc]; rfl
def gDct (gs : List (Key × GE)) : GE := fun ex ρ m Q => ∀ a, m a = none → gPs ex ρ gs (m.put a (some (.dct []))) fun kd m2 => (m2 a = some (.dct []) ∧ kd.length ≤ 15 ∧ (kd.map Prod.fst).Nodup) ∧ Q (.dct kd) (m2.put a none)
def gDctM (gs : List (Key × GE)) : GE := fun ex ρ m Q => ∀ a, m a = none → gPs ex ρ gs (m.put a (some (.dct []))) fun kd m2 => (m2 a = some (.dct []) ∧ kd.length ≤ 15 ∧ (kd.map Prod.fst).Nodup) ∧ Q (.cel a) (m2.put a (some (.dct kd)))
theorem put_dct {K : PySem.W.Frag} {m : Mu} {H : Hp} {a : Addr} {us : List (Key × V)} {ws ds : List (Key × D)} (ok : Ok K m H) (h : m a = some (.dct ws)) (t : Dks K m H us ds) :
    Ext m H (m.put a (some (.dct ds))) (upd H a (.dK us)) ∧ Ok K (m.put a (some (.dct ds))) (upd H a (.dK us)) :=
  ⟨ext_put (ne_of_some h), ok_at ok (ext_put (ne_of_some h)) ⟨us, upd_same, t.ext (ext_put (ne_of_some h))⟩⟩
theorem de_dctM (h : DPs X pos keys values gs) (hall : keys.all (·.isSome) = true) (hl : keys.length = values.length) (h0 : keys ≠ []) (h15 : keys.length ≤ 15) : DE X (.Dict keys values pos) (gDctM gs) := ⟨fun cur W ex co tk lk =>
  pe_imp (pe_disp (h.run cur W ex co tk lk) hall hl h0 h15) fun σ H Q ⟨ρ, m, Q', cu, o, s, q, k⟩ p hp => by
    have hm := mu_none o hp
    have e0 := ext_cell (m := m) (o := .dK []) (c := .dct []) hp
    have o0 : Ok X.K (m.put p (some (.dct []))) (upd H p (.dK [])) := ok_at o e0 ⟨[], upd_same, .nil⟩
    refine gps_tp co gs _ _ _ _ (co.ext cu o.cells e0) o0 (s.ext e0) (q p hm) fun ds m2 vs H2 ⟨⟨h2, hl, hnd⟩, q2⟩ e2 o2 t2 => ?_
    obtain ⟨us, hu, tu⟩ := o2 p _ h2
    cases tu
    have hnd' : (vs.map Prod.fst).Nodup := by rw [dks_keys t2]; exact hnd
    obtain ⟨e3, o3⟩ := put_dct o2 h2 t2
    have ll : vs.length = ds.length := by have := congrArg List.length (dks_keys t2); simpa using this
    exact ⟨hu, vs, rfl, by omega, by rw [mergeK_app vs [] hnd']; exact k _ _ _ _ q2 ((e0.trans e2 o0.cells).trans e3 o2.cells) o3 (.cel p)⟩⟩
/-- a cell is let be -/
theorem free_dct {K : PySem.W.Frag} {m : Mu} {H : Hp} {a : Addr} {kd : List (Key × D)} (o : Ok K m H) (h : m a = some (.dct kd)) : Ext m H (m.put a none) H ∧ Ok K (m.put a none) H ∧ Dt K (m.put a none) H (.ref a) (.dct kd) := by
  obtain ⟨us, hu, tu⟩ := o a _ h
  exact ⟨ext_free, ok_free o, .dct hu Mu.put_same (tu.ext ext_free)⟩
theorem free_lst {K : PySem.W.Frag} {m : Mu} {H : Hp} {a : Addr} {kd : List D} (o : Ok K m H) (h : m a = some (.lst kd)) : Ext m H (m.put a none) H ∧ Ok K (m.put a none) H ∧ Dt K (m.put a none) H (.ref a) (.lst kd) := by
  obtain ⟨us, hu, tu⟩ := o a _ h
  exact ⟨ext_free, ok_free o, .lst hu Mu.put_same (tu.ext ext_free)⟩
theorem free_ins {K : PySem.W.Frag} {m : Mu} {H : Hp} {a C : Addr} {kd : List (Str × D)} (o : Ok K m H) (h : m a = some (.ins C kd)) : Ext m H (m.put a none) H ∧ Ok K (m.put a none) H ∧ Dt K (m.put a none) H (.ref a) (.obj C kd) := by
  obtain ⟨dx, us, hu, tu⟩ := o a _ h
  exact ⟨ext_free, ok_free o, .obj hu Mu.put_same (tu.ext ext_free)⟩
theorem put_put {m : Mu} {a : Addr} {c d : Option Cl} : (m.put a c).put a d = m.put a d := by
  funext b
  by_cases e : b = a
  · rw [e, Mu.put_same, Mu.put_same]
  · rw [Mu.put_ne e, Mu.put_ne e, Mu.put_ne e]
theorem put_self {m : Mu} {a : Addr} {c : Option Cl} (h : m a = c) : m.put a c = m := by
  funext b
  by_cases e : b = a
  · rw [e, Mu.put_same, h]
  · rw [Mu.put_ne e]
theorem put_comm {m : Mu} {a b : Addr} {c d : Option Cl} (h : a ≠ b) : (m.put a c).put b d = (m.put b d).put a c := by
  funext x
  by_cases e : x = a
  · subst e; rw [Mu.put_ne h, Mu.put_same, Mu.put_same]
  · by_cases f : x = b
    · subst f; rw [Mu.put_same, Mu.put_ne e, Mu.put_same]
    · rw [Mu.put_ne f, Mu.put_ne e, Mu.put_ne e, Mu.put_ne f]
theorem de_dct (h : DPs X pos keys values gs) (hall : keys.all (·.isSome) = true) (hl : keys.length = values.length) (h0 : keys ≠ []) (h15 : keys.length ≤ 15) : DE X (.Dict keys values pos) (gDct gs) := ⟨fun cur W ex co tk lk =>
  pe_imp (pe_disp (h.run cur W ex co tk lk) hall hl h0 h15) fun σ H Q ⟨ρ, m, Q', cu, o, s, q, k⟩ p hp => by
    have hm := mu_none o hp
    have e0 := ext_cell (m := m) (o := .dK []) (c := .dct []) hp
    have o0 : Ok X.K (m.put p (some (.dct []))) (upd H p (.dK [])) := ok_at o e0 ⟨[], upd_same, .nil⟩
    refine gps_tp co gs _ _ _ _ (co.ext cu o.cells e0) o0 (s.ext e0) (q p hm) fun ds m2 vs H2 ⟨⟨h2, hl, hnd⟩, q2⟩ e2 o2 t2 => ?_
    obtain ⟨us, hu, tu⟩ := o2 p _ h2
    cases tu
    have hnd' : (vs.map Prod.fst).Nodup := by rw [dks_keys t2]; exact hnd
    obtain ⟨e3, o3⟩ := put_dct o2 h2 t2
    obtain ⟨e4, o4, t4⟩ := free_dct o3 Mu.put_same
    rw [put_put] at e4 o4 t4
    have ll : vs.length = ds.length := by have := congrArg List.length (dks_keys t2); simpa using this
    exact ⟨hu, vs, rfl, by omega, by rw [mergeK_app vs [] hnd']; exact k _ _ _ _ q2 (((e0.trans e2 o0.cells).trans e3 o2.cells).trans e4 o3.cells) o4 t4⟩⟩
/-- {} -/
def gDct0 : GE := fun _ _ m Q => Q (.dct []) m
def gDct0M : GE := fun _ _ m Q => ∀ a, m a = none → Q (.cel a) (m.put a (some (.dct [])))
theorem de_dct0 : DE X (.Dict [] [] pos) gDct0 := ⟨fun cur W ex co tk lk =>
  pe_imp pe_dnewK fun σ H Q ⟨ρ, m, Q', cu, o, s, q, k⟩ p hp => k _ m _ _ q (ext_new hp) (ok_new o hp) (.dct upd_same (mu_none o hp) .nil)⟩
theorem de_dct0M : DE X (.Dict [] [] pos) gDct0M := ⟨fun cur W ex co tk lk =>
  pe_imp pe_dnewK fun σ H Q ⟨ρ, m, Q', cu, o, s, q, k⟩ p hp => k _ _ _ _ (q p (mu_none o hp)) (ext_cell hp) (ok_at o (ext_cell hp) ⟨[], upd_same, .nil⟩) (.cel p)⟩
end
end Nd

namespace Nd
open PySem L2 PyProof.Rows PySem.Spec
/-! cells read otherwise -/
/-- d at m may be read as d2 at m2 -/
def Gh (K : PySem.W.Frag) (m : Mu) (d : D) (m2 : Mu) (d2 : D) : Prop := ∀ H v, Ok K m H → Dt K m H v d → Ext m H m2 H ∧ Ok K m2 H ∧ Dt K m2 H v d2
theorem Gh.refl {K : PySem.W.Frag} {m : Mu} {d : D} : Gh K m d m d := fun H v o t => ⟨Ext.refl m H, o, t⟩
theorem Gh.trans {K : PySem.W.Frag} {m m1 m2 : Mu} {d d1 d2 : D} (a : Gh K m d m1 d1) (b : Gh K m1 d1 m2 d2) : Gh K m d m2 d2 := fun H v o t => by
  obtain ⟨e1, o1, t1⟩ := a H v o t
  obtain ⟨e2, o2, t2⟩ := b H v o1 t1
  exact ⟨e1.trans e2 o1.cells, o2, t2⟩
def Ent (K : PySem.W.Frag) (m : Mu) (ms : Mu → Prop) : Prop := ∀ H, Ok K m H → ∃ m1, ms m1 ∧ Ext m H m1 H ∧ Ok K m1 H
def RtG (K : PySem.W.Frag) (Q : D → Mu → Prop) : D → Mu → Prop := fun d m => ∃ d2 m2, Gh K m d m2 d2 ∧ Q d2 m2
theorem RtG.of {K : PySem.W.Frag} {Q : D → Mu → Prop} {d : D} {m : Mu} (h : Q d m) : RtG K Q d m := ⟨d, m, .refl, h⟩
section
variable {P : Program} {w : World} {K : PySem.W.Frag} {mg : Str → Option Value} {base : Heap} {k : Nat} {f : Addr} {fd : FuncData} {ps : List Str} {S S2 : Spec}
theorem FnG.ghost (F : FnG P w K mg base k f fd ps S) (h : ∀ ds m Q E, S2 ds m Q E → ds.length = ps.length ∧ ∃ ms, Ent K m ms ∧ ∀ m1, ms m1 → S ds m1 (RtG K Q) E) : FnG P w K mg base k f fd ps S2 := by
  refine ⟨fun ds m Q E q => (h _ _ _ _ q).1, fun A outer s H args us vs ds m Q E hg hr he hb hv ho hd q => ?_⟩
  obtain ⟨_, ms, en, q⟩ := h _ _ _ _ q
  obtain ⟨m1, h1, e1, o1⟩ := en H ho
  refine codeAny_mono (F.run A outer s H args us vs ds m1 _ E hg hr he hb hv o1 (hd.ext e1) (q m1 h1)) fun r s' c => ?_
  cases r with
  | ok fl =>
    cases fl with
    | ret u =>
      obtain ⟨v, H', c1, c2, c3, c4, c5, d, m', ⟨d2, m2, g, q2⟩, e2, o2, t2⟩ := (c : CE outer P w H s _ u s')
      obtain ⟨e3, o3, t3⟩ := g H' v o2 t2
      exact ⟨v, H', c1, c2, c3, c4, c5, d2, m2, q2, (e1.trans e2 o1.cells).trans e3 o2.cells, o3, t3⟩
    | _ => exact (c : False).elim
  | error e =>
    obtain ⟨a, B, H', cls, d, c1, c2, c3, c4, c5, c6, c7, x, m', q2, e2, o2, t2⟩ := (c : L2.CX P w outer H s _ e s')
    exact ⟨a, B, H', cls, d, c1, c2, c3, c4, c5, c6, c7, x, m', q2, e1.trans e2 o1.cells, o2, t2⟩
/-- .. of the result alone -/
theorem FnG.out (F : FnG P w K mg base k f fd ps S) (h : ∀ ds m Q E, S2 ds m Q E → S ds m (RtG K Q) E) : FnG P w K mg base k f fd ps S2 :=
  F.ghost fun ds m Q E q => ⟨F.len _ _ _ _ (h _ _ _ _ q), fun m1 => m1 = m, fun H o => ⟨m, rfl, Ext.refl m H, o⟩, fun m1 e => by rw [e]; exact h _ _ _ _ q⟩
end
/-- a def's body as its promise -/
def wpS (ps N : List Str) (g : GS) : Spec := fun ds m Q E => ds.length = ps.length ∧ g (fun x _ m' => E x m') { nx := fun _ m' => Q .non m', rt := Q } (startD N ds) m
end Nd

namespace Nd
open PySem L2 PyProof.Rows PySem.Spec
/-! the law's end -/
abbrev mu0 : Mu := fun _ => none
def LawS (S : Spec) (n : Nat) : Prop := ∀ ns : List Int, ns.length ≤ n → S [.ro (ns.map D.int)] mu0 (fun d _ => d = .bl true) fun _ _ => False
theorem dts_ints {K : PySem.W.Frag} {m : Mu} {H : Hp} : ∀ ns : List Int, Dts K m H (ns.map V.int) (ns.map D.int)
  | [] => .nil
  | i :: r => .cons (.int i) (dts_ints r)
abbrev Done (h : Heap) (s₁ : Shared) : Result → Shared → Prop := fun r s' => r = .ok (.ret (.bool true)) ∧ OldK h s'.heap ∧ s'.os = s₁.os ∧ AllBare s'.gens
section
variable {P : Program} {w : World} {K : PySem.W.Frag} {mg mb : Str → Option Value} {k n : Nat} {fa a : Addr} {fd : FuncData} {x : Str} {S : Spec} {s₁ : Shared} {vs : List Value} {ns : List Int}
/-- tracked: the script at most -/
theorem end_at {H : Hp} (KX : K.In s₁.heap) (g1 : s₁.heap.Ns mainGlobals mg) (g2 : s₁.heap.Ns builtinsNs mb) (g3 : ∀ x : Str, x ≠ "__name__" → mb x = bootBuiltins x) (g4 : s₁.heap.NoLimit) (g5 : s₁.gens = #[]) (ha : s₁.heap.get? a = some { cls := .type "list", data := .seq vs.toArray })
    (room : Room k callerA) (F : ∀ base : Heap, K.In base → base.Ns mainGlobals mg → FnG P w K mg base k fa fd [x] S) (bnd : ∀ (s : Shared) (u : Value), BindsTo s fd ⟨[u], []⟩ [(x, u)])
    (frz : ∀ b u, H b = some u → b = a ∧ (∃ ob xs, u = .frz ob (.lst xs)) ∧ K.lookup a = none) (ok : HOk P w H s₁.heap) (q : S [.ro (ns.map D.int)] mu0 (fun d _ => d = .bl true) fun _ _ => False) (dt : Dt K mu0 H (.ref a) (.ro (ns.map D.int))) :
    codeAny (model P w) callerA (.call (.ref fa) ⟨[.ref a], []⟩) (Done s₁.heap s₁) s₁ := by
  have nd : ∀ {b : Addr} {o : Obj} {es : Array DictEntry} {ep : Nat}, s₁.heap.get? b = some o → o.data = .dict es ep → H b = none := by
    intro b o es ep e d
    cases z : H b with
    | none => rfl
    | some u =>
      obtain ⟨rfl, _⟩ := frz b u z
      rw [ha] at e
      cases e
      exact absurd d (by intro z; cases z)
  have ns' : ∀ {b : Addr} {m : Str → Option Value}, s₁.heap.Ns b m → (hidT s₁.heap H).Ns b m := by
    rintro b m ⟨o, es, ep, e, d, r⟩
    exact ⟨o, es, ep, hidT_get e (nd e d), d, r⟩
  have kin : K.In (hidT s₁.heap H) := by
    intro b o e
    refine hidT_get (KX b o e) ?_
    cases z : H b with
    | none => rfl
    | some u =>
      obtain ⟨rfl, _, e'⟩ := frz b u z
      rw [e'] at e
      cases e
  have md : Mod K mg (hidT s₁.heap H) := ⟨kin, ns' g1, ⟨mb, ns' g2, g3⟩, by obtain ⟨mc, h1, h2⟩ := g4; exact ⟨mc, ns' h1, h2⟩⟩
  have e0 : Env0 P w K mg (hidT s₁.heap H) callerA [] s₁ H := ⟨rfl, md, fun b o e => of_hidT e, Nat.le_of_eq (hidT_size _ _), trivial, (by intro b z; cases z), ok, .of_eq g5⟩
  have R := (F _ kin (ns' g1)).run callerA [] s₁ H ⟨[.ref a], []⟩ [.ref a] [.ref a] _ _ _ _ rfl room e0 (bnd s₁ (.ref a)) (.cons rfl .nil) (by intro b c z; cases z) (.cons dt .nil) q
  refine codeAny_mono R fun r s' c => ?_
  cases r with
  | ok fl =>
    cases fl with
    | ret u =>
      obtain ⟨v, H', os, bare, un, ok', r', d, m', rfl, _, _, t⟩ := (c : CE [] P w H s₁ _ u s')
      cases t
      refine ⟨?_, OldK.of_keep fun b o e => ?_, os, bare⟩
      · rw [show u = Value.bool true from r']
      · cases z : H b with
        | none => exact un.keep b o e z (by intro h; cases h) (by intro h; cases h)
        | some u =>
          obtain ⟨rfl, ⟨ob, xs, rfl⟩, _⟩ := frz b u z
          have k1 := (ok b _ z).1
          have k2 := (ok' b _ (un.frzs b ob _ z)).1
          rw [e] at k1
          cases k1
          exact k2
    | _ => exact (c : False).elim
  | error e =>
    obtain ⟨_, _, _, _, _, _, _, _, _, _, _, _, x, m', h, _⟩ := (c : L2.CX P w [] H s₁ _ e s')
    exact h.elim
theorem end_call (KX : K.In s₁.heap) (g1 : s₁.heap.Ns mainGlobals mg) (g2 : s₁.heap.Ns builtinsNs mb) (g3 : ∀ x : Str, x ≠ "__name__" → mb x = bootBuiltins x) (g4 : s₁.heap.NoLimit) (g5 : s₁.gens = #[]) (ha : s₁.heap.get? a = some { cls := .type "list", data := .seq vs.toArray })
    (hi : IntsAre vs ns) (hl : ns.length ≤ n) (hn : n ≤ sizeLine) (room : Room k callerA) (F : ∀ base : Heap, K.In base → base.Ns mainGlobals mg → FnG P w K mg base k fa fd [x] S) (bnd : ∀ (s : Shared) (u : Value), BindsTo s fd ⟨[u], []⟩ [(x, u)]) (q : LawS S n) :
    codeAny (model P w) callerA (.call (.ref fa) ⟨[.ref a], []⟩) (Done s₁.heap s₁) s₁ := by
  have rv := vals_ints hi
  have hz : ns.length ≤ sizeLine := Nat.le_trans hl hn
  have lv := hi.length
  cases hk : K.lookup a with
  | some o =>
    have e := KX a o hk
    rw [ha] at e
    cases e
    refine end_at (H := fun _ => none) KX g1 g2 g3 g4 g5 ha room F bnd (fun b u z => nomatch z) (fun b u z => nomatch z) (q ns hl) (.ro (.inr ⟨_, vs.toArray, _, hk, rfl, rfl, rfl, ?_, ?_⟩) (dts_ints ns))
    · rw [List.size_toArray]; omega
    · simpa using rv
  | none =>
    have same : ∀ {b : Addr} {u v : HO}, (if b = a then some v else none) = some u → b = a ∧ u = v := by
      intro b u v z
      split at z
      · rename_i e; cases z; exact ⟨e, rfl⟩
      · cases z
    let lh : HO := .frz { cls := .type "list", data := .seq vs.toArray } (.lst (ns.map V.int))
    refine end_at (H := fun b => if b = a then some lh else none) KX g1 g2 g3 g4 g5 ha room F bnd (fun b u z => ?_) (fun b u z => ?_) (q ns hl) (.ro (.inl ⟨.inr ⟨_, if_pos rfl⟩, rfl⟩) (dts_ints ns))
    · obtain ⟨rfl, rfl⟩ := same z
      exact ⟨rfl, ⟨_, _, rfl⟩, hk⟩
    · obtain ⟨rfl, rfl⟩ := same z
      exact ⟨ha, by rw [List.length_map]; exact hz, vs, _, rv, ha⟩
theorem walkG {l : PySem.W.OpenLaw} {q : Program} {loose : List Str} {XP : (Str → Option Value) → Heap → Prop} {YP : World → Heap → Prop} {d : DefRec} (h1 : l.most = some n) (h2 : n ≤ sizeLine) (h3 : d.params.defaults = []) (room : Room k callerA)
    (F : ∀ (w : World) (mg : Str → Option Value) (fa : Addr) (h : Heap), YP w h → h.Ns mainGlobals mg → mg d.name = some (.ref fa) → ∃ (K : PySem.W.Frag) (fd : FuncData) (S : Spec), K.In h ∧ (∀ (s : Shared) (u : Value), BindsTo s fd ⟨[u], []⟩ [(x, u)]) ∧ LawS S n ∧
      ∀ base : Heap, K.In base → base.Ns mainGlobals mg → FnG l.prog w K mg base k fa fd [x] S) :
    PySem.W.WalkO q loose XP YP l.row.toRowW d [] (fun f vs => PySem.call f vs) := by
  refine Att.attach_call h1 h3 ?_
  intro w s₀ s₁ mg mb fa o pm cd doc a vs ns G Y ho hd hcd hmg hobj hints hlen hg
  obtain ⟨K, fd, S, KX, bnd, q, hF⟩ := F w mg fa _ Y G.T.g hmg
  exact end_call KX G.T.g G.T.b G.T.builtins G.T.nolimit hg hobj hints hlen h2 room hF bnd q
end
/-! -i -/
section
variable {X : Cx} {a : Expr} {pos : Pos} {f : GE}
def gNeg (f : GE) : GE := fun ex ρ m Q => f ex ρ m fun d m' => onInt d fun i => Q (.int (-i)) m'
theorem de_neg (h : DE X a f) : DE X (.UnaryOp .USub a pos) (gNeg f) := ⟨fun cur W ex co tk lk => pe_imp (pe_un un_neg (h.run cur W ex co tk lk)) fun σ H Q ⟨ρ, m, Q', cu, o, s, q, k⟩ => ⟨ρ, m, _, cu, o, s, q, fun d m1 v H1 q1 e1 o1 t1 => by
  obtain ⟨i, rfl, q1⟩ := onInt_of t1 q1
  exact ⟨i, rfl, k _ m1 _ H1 q1 e1 o1 (.int _)⟩⟩⟩
end
theorem u64 {k : Nat} {A : Around} (r : Room k A) : A.units + 64 < cLine := by have := r.un; omega
end Nd

namespace Nd
open PySem L2 PyProof.Rows PySem.Spec
/-! is, is not: whatever and a truth -/
def rIsA (neg : Bool) : R2 := fun x y H Q => (∀ n, x ≠ .ty n) ∧ ∃ b : Bool, y = .bl b ∧ Q (.bl (neg != decide (x = .bl b))) H
theorem op_isA {X : Cx} : OpR X (compareOp .Is) (rIsA false) := by
  intro pins s σ H x y v u Q I rx ry h
  obtain ⟨hx, b, rfl, q⟩ := h
  cases (show u = Value.bool b from ry)
  cases x with
  | ty n => exact absurd rfl (hx n)
  | bl a =>
    cases (show v = Value.bool a from rx)
    by_cases e : a = b
    · subst e
      exact wpAny_is_self rfl ⟨.bl true, H, I, rfl, by simpa using q⟩
    · exact wpAny_is_other rfl (fun z => e (Value.bool.inj z)) ⟨.bl false, H, I, rfl, by simpa [e] using q⟩
  | non =>
    cases rx
    exact wpAny_is_other rfl (fun z => by cases z) ⟨.bl false, H, I, rfl, q⟩
  | ref a =>
    cases rx
    exact wpAny_is_other rfl (fun z => by cases z) ⟨.bl false, H, I, rfl, q⟩
  | _ =>
    obtain ⟨t, rfl⟩ := rx
    exact wpAny_is_other rfl (fun z => by cases z) ⟨.bl false, H, I, rfl, q⟩
theorem op_nsA {X : Cx} : OpR X (compareOp .IsNot) (rIsA true) := by
  intro pins s σ H x y v u Q I rx ry h
  obtain ⟨hx, b, rfl, q⟩ := h
  cases (show u = Value.bool b from ry)
  cases x with
  | ty n => exact absurd rfl (hx n)
  | bl a =>
    cases (show v = Value.bool a from rx)
    by_cases e : a = b
    · subst e
      exact wpAny_isNot_self rfl ⟨.bl false, H, I, rfl, by simpa using q⟩
    · exact wpAny_isNot_other rfl (fun z => e (Value.bool.inj z)) ⟨.bl true, H, I, rfl, by simpa [e] using q⟩
  | non =>
    cases rx
    exact wpAny_isNot_other rfl (fun z => by cases z) ⟨.bl true, H, I, rfl, q⟩
  | ref a =>
    cases rx
    exact wpAny_isNot_other rfl (fun z => by cases z) ⟨.bl true, H, I, rfl, q⟩
  | _ =>
    obtain ⟨t, rfl⟩ := rx
    exact wpAny_isNot_other rfl (fun z => by cases z) ⟨.bl true, H, I, rfl, q⟩
/-- is of None, of a truth -/
def rIsW (neg : Bool) : R2 := fun x y H Q => (y = .non ∧ Q (.bl (neg != decide (x = .non))) H) ∨ rIsA neg x y H Q
theorem op_isW {X : Cx} : OpR X (compareOp .Is) (rIsW false) := by
  refine OpR.or ?_ op_isA
  intro pins s σ H x y v u Q I rx ry ⟨e, q⟩
  exact op_isN pins s σ H x y v u Q I rx ry ⟨e, by simpa using q⟩
theorem op_nsW {X : Cx} : OpR X (compareOp .IsNot) (rIsW true) := by
  refine OpR.or ?_ op_nsA
  intro pins s σ H x y v u Q I rx ry ⟨e, q⟩
  exact op_notN pins s σ H x y v u Q I rx ry ⟨e, by simpa using q⟩
def isBlD (b : Bool) : D → Bool
  | .bl a => a == b
  | _ => false
def isNonD : D → Bool
  | .non => true
  | _ => false
def dIsW (neg : Bool) : DR2 := fun x y m Q => match x with
  | .cls _ => False
  | x => (match y with
    | .non => Q (.bl (neg != isNonD x)) m
    | .bl b => Q (.bl (neg != isBlD b x)) m
    | _ => False)
theorem od_isW {K : PySem.W.Frag} {neg : Bool} : OpD K (dIsW neg) (rIsW neg) := by
  intro m H x y dx dy Q' Q ok tx ty q k
  have fin : ∀ (b : Bool), Q' (.bl b) m → Q (.bl b) H := fun b q => k _ m _ H q (Ext.refl m H) ok (.bl _)
  cases ty with
  | non => cases tx <;> first | exact (q : False).elim | exact .inl ⟨rfl, fin _ (by simpa [dIsW, isNonD] using q)⟩
  | bl b =>
    cases tx with
    | cls => exact (q : False).elim
    | bl a =>
      refine .inr ⟨fun n z => (by cases z), b, rfl, fin _ ?_⟩
      have e : isBlD b (.bl a) = decide (V.bl a = V.bl b) := by cases a <;> cases b <;> rfl
      rw [← e]; exact q
    | _ => exact .inr ⟨fun n z => (by cases z), b, rfl, fin _ (by simpa [dIsW, isBlD] using q)⟩
  | _ => cases tx <;> exact (q : False).elim
/-! while -/
def sWhile (c : GT) (tb : GS) : GS := fun ex G ρ m => ∃ W : Nat → Env → Mu → Prop, (∃ n, W n ρ m) ∧ ∀ n ρ m, W n ρ m → c ex ρ m fun b m1 => if b = true then ∃ N : Env → Mu → Prop, (∀ ρ' m', N ρ' m' → ∃ n', n' < n ∧ W n' ρ' m') ∧ tb ex { nx := N, rt := G.rt, bk := G.nx, ct := N } ρ m1 else G.nx ρ m1
section
variable {X : Cx} {c : Expr} {body : List Stmt} {pos : Pos} {tc : GT} {tb : GS}
theorem ds_while (hp : PassesOwn (model X.prog X.w) X.A X.env X.xe) (hc : DT X c tc) (hb : DSs X body tb) : DS X (.While c body [] pos) (sWhile tc tb) := ⟨fun cur W ex co tk lk => by
  refine ps_imp (ps_while hp (hc.run cur W ex co tk lk) (hb.run cur W ex co tk lk)) fun E σ H ⟨ρ, m, G, cu, o, s, ⟨V, ⟨n0, w0⟩, turn⟩, k⟩ => ?_
  refine ⟨fun n σ' H' => ∃ ρ' m', Ext m H m' H' ∧ Ok X.K m' H' ∧ Sl X.K m' H' σ' ρ' ∧ V n ρ' m', ⟨n0, ρ, m, Ext.refl _ _, o, s, w0⟩, ?_⟩
  rintro n σ' H' ⟨ρ', m', e', o', s', v'⟩
  refine ⟨ρ', m', _, co.ext cu o.cells e', o', s', turn n ρ' m' v', fun b m1 H1 q1 e1 o1 => ?_⟩
  have e01 := e'.trans e1 o'.cells
  cases b with
  | false =>
    simp only [Bool.false_eq_true, if_false] at q1 ⊢
    exact k.nx ρ' m1 σ' H1 q1 e01 o1 (s'.ext e1)
  | true =>
    simp only [if_true] at q1 ⊢
    obtain ⟨N, hN, q1⟩ := q1
    refine ⟨fun σ2 H2 => ∃ ρ2 m2, Ext m H m2 H2 ∧ Ok X.K m2 H2 ∧ Sl X.K m2 H2 σ2 ρ2 ∧ N ρ2 m2, fun σ2 H2 ⟨ρ2, m2, e2, o2, s2, n2⟩ => ?_, ?_⟩
    · obtain ⟨n', hn, v2⟩ := hN ρ2 m2 n2
      exact ⟨n', hn, ρ2, m2, e2, o2, s2, v2⟩
    · refine ⟨ρ', m1, _, co.ext cu o.cells e01, o1, s'.ext e1, q1, fun ρ2 m2 σ2 H2 q2 e2 o2 s2 => ⟨ρ2, m2, e01.trans e2 o1.cells, o2, s2, q2⟩, fun d2 m2 v2 H2 q2 e2 o2 t2 => k.rt d2 m2 v2 H2 q2 (e01.trans e2 o1.cells) o2 t2,
        fun ρ2 m2 σ2 H2 q2 e2 o2 s2 => k.nx ρ2 m2 σ2 H2 q2 (e01.trans e2 o1.cells) o2 s2, fun ρ2 m2 σ2 H2 q2 e2 o2 s2 => ⟨ρ2, m2, e01.trans e2 o1.cells, o2, s2, q2⟩⟩⟩
end
/-! range with a step -/
def rangeC (lo c : Int) (n : Nat) : List D := (List.range n).map fun i => .int (lo + (i : Nat) * c)
theorem itd_rangeC {K : PySem.W.Frag} {lo c : Int} {n : Nat} {m0 : Mu} {H0 : Hp} {st : Mu → Prop} : ItD K (Itc lo c n) m0 H0 (rangeC lo c n) st where
  go := fun i m H hi e o s => by show i < n; simpa [rangeC] using hi
  stop := fun m H e o s => by show n ≤ (rangeC lo c n).length; simp [rangeC]
  yld := fun i m H x H' hi e o s ⟨y1, y2⟩ => by
    subst y1 y2
    have hi : i < n := by simpa [rangeC] using hi
    exact ⟨.int (lo + (i : Nat) * c), by simp [rangeC, hi], Ext.refl _ _, o, .int _⟩
def on3 (ds : List D) (P : D → D → D → Prop) : Prop := match ds with
  | [d, e, f] => P d e f
  | _ => False
theorem on3_of {K : PySem.W.Frag} {m : Mu} {H : Hp} {vs : List V} {ds : List D} {P : D → D → D → Prop} (t : Dts K m H vs ds) (h : on3 ds P) : ∃ u v w d e f, vs = [u, v, w] ∧ ds = [d, e, f] ∧ Dt K m H u d ∧ Dt K m H v e ∧ Dt K m H w f ∧ P d e f := by
  cases t with
  | nil => exact h.elim
  | cons a b =>
    cases b with
    | nil => exact h.elim
    | cons c t =>
      cases t with
      | nil => exact h.elim
      | cons g t =>
        cases t with
        | nil => exact ⟨_, _, _, _, _, _, rfl, rfl, a, c, g, h⟩
        | cons _ _ => exact h.elim
def iRange3 (g : GA) : GI := fun ex ρ m Q => g ex ρ m fun ds m' => on3 ds fun d e f => onInt d fun i => onInt e fun j => onInt f fun c => ∃ n, RgC i j c n ∧ Q (rangeC i c n) (fun _ => True) m'
section
variable {X : Cx} {tg a b c : Expr} {p pos : Pos} {g : GA}
theorem di_range3 (hg : Gl X "range") (hm : X.mg "range" = none) (ha : DA X [a, b, c] g) (hs : starEach [a, b, c] X.env = (false, eval a X.env) :: starEach [b, c] X.env := by rfl) (hpl : (backTo pos (starEach [b, c] X.env)).any (·.1) = false := by rfl) :
    DI X tg (.Call (.Name "range" p) [a, b, c] [] pos) (iRange3 g) := ⟨fun cur W ex co tk lk =>
  pi_imp (pi_range3 hg hm (ha.run cur W ex co tk lk) hs hpl) fun σ H R ⟨ρ, m, Q', cu, o, s, q, k⟩ => ⟨ρ, m, _, cu, o, s, q, fun ds m1 vs H1 q1 e1 o1 t1 => by
    obtain ⟨u, v, w, d, e, f, rfl, rfl, t, t2, t3, q⟩ := on3_of t1 q1
    obtain ⟨i, rfl, q⟩ := onInt_of t q
    obtain ⟨j, rfl, q⟩ := onInt_of t2 q
    obtain ⟨c, rfl, n, hr, q⟩ := onInt_of t3 q
    exact ⟨i, j, c, n, rfl, hr, k _ _ m1 H1 _ q e1 o1 itd_rangeC⟩⟩⟩
end
/-! defs that call themselves -/
def noS : Spec := fun _ _ _ _ => False
theorem FnG.no {P : Program} {w : World} {K : PySem.W.Frag} {mg : Str → Option Value} {base : Heap} {k : Nat} {f : Addr} {fd : FuncData} {ps : List Str} : FnG P w K mg base k f fd ps noS :=
  ⟨fun _ _ _ _ h => h.elim, fun _ _ _ _ _ _ _ _ _ _ _ _ _ _ _ _ _ _ h => h.elim⟩
def RS (S : Nat → Spec) : Nat → Spec
  | 0 => noS
  | r + 1 => S r
/-! a head with a word more -/
def obsN (ex : PySem.W.Frag → Bool) (fa : List He.Fa) (fn : List He.DefD) (K : PySem.W.Frag) : Bool × He.AlD := (ex K, He.obsD fa fn K)
def obsNG (n : Nat) (ex : PySem.W.Frag → Bool) (fa : List He.Fa) (fn : List He.DefD) (g : Addr → Option Obj) : Bool × He.AlD := obsN ex fa fn (He.frG g (He.asD g n))
def SaysN (ex : PySem.W.Frag → Bool) (fa : List He.Fa) (fn : List He.DefD) (K : PySem.W.Frag) : Prop := obsN ex fa fn K = (true, He.valD fn)
def hookN (n : Nat) (ex : PySem.W.Frag → Bool) (fa : List He.Fa) (fn : List He.DefD) : PySem.W.Hook where
  α := Bool × He.AlD
  obs := fun s => obsNG n ex fa fn s.heap.get?
  val := fun _ => (true, He.valD fn)
  says := fun _ h => ∃ K : PySem.W.Frag, K.In h ∧ SaysN ex fa fn K
  of := fun _ _ e => ⟨_, He.frG_in, e⟩
  keeps := fun _ _ _ ⟨K, hK, c⟩ k => ⟨K, PySem.W.Frag.In.keeps hK k, c⟩
theorem obsNG_eq {n : Nat} {ex : PySem.W.Frag → Bool} {fa : List He.Fa} {fn : List He.DefD} {g : Addr → Option Obj} {s : Shared} (h : ∀ a, g a = s.heap.get? a) : obsNG n ex fa fn g = (hookN n ex fa fn).obs s := by
  rw [show g = s.heap.get? from funext h]; rfl
theorem SaysN.d {ex : PySem.W.Frag → Bool} {fa : List He.Fa} {fn : List He.DefD} {K : PySem.W.Frag} (c : SaysN ex fa fn K) : He.SaysD fa fn K := congrArg (fun z : Bool × He.AlD => z.2) c
theorem SaysN.ex {ex : PySem.W.Frag → Bool} {fa : List He.Fa} {fn : List He.DefD} {K : PySem.W.Frag} (c : SaysN ex fa fn K) : ex K = true := congrArg (fun z : Bool × He.AlD => z.1) c
/-- a tuple of the module's own -/
theorem tup_dt {K : PySem.W.Frag} {x : Str} {vs : List He.Dv} {ds : List D} (h : He.tupB K x vs = true) (t : ∀ m H, Dts K m H (vs.map (He.Dv.v K)) ds) (m : Mu) (H : Hp) : Dt K m H (.ref (He.ga K x)) (.tup ds) := by
  rcases He.tupB_ok h (fun _ => none) with q | q
  · rcases q with q | ⟨o, q⟩ <;> cases q
  · exact .tup (.inr q) (t m H)
end Nd

namespace Nd
open PySem L2 PyProof.Rows PySem.Spec
/-! what hands out new tuples -/
def Itw (n : Nat) (R : Nat → List V → Prop) : It := ⟨fun i _ => i < n, fun i H v H' => ∃ T xs, v = .ref T ∧ H T = none ∧ H' = upd H T (.tup xs) ∧ R i xs, fun i _ => i = n⟩
theorem turn_w {P : Program} {w : World} {K : PySem.W.Frag} {elts : List Expr} {kk : Nat} {tpos : Pos} {it : Addr} {fp wr : List Addr} {n : Nat} {Pt : Nat → Array Value → Prop} {St : Nat → Heap → Prop} {Mid : Nat → Addr → Heap → Prop} {R : Nat → List V → Prop}
    (W : ∀ A : Around, A.handled = none → WalksT P w A it fp wr n Pt St Mid) (hm : it ∈ fp) (ob : ∀ i h, St i h → ∀ b ∈ fp, ∃ o, h.get? b = some o ∧ ∀ v, o.data ≠ .cell v) (hs : ∀ (A : Around) i (s : Shared) (Q : Value → Shared → Prop) (E : Value → Shared → Prop), St i s.heap → Q (.ref it) s → wpAny (model P w) A (pyIter (.ref it)) Q E s) (hR : ∀ i vals, Pt i vals → ∃ xs, R i xs ∧ Vals xs vals.toList ∧ xs.length ≤ sizeLine) :
    Turn P w K (.Tuple elts kk tpos) (Itw n R) fp it St where
  mem := hm
  obj := ob
  keep := fun i h h' st k => (W {} rfl).frame i h h' st k
  item := by
    intro X hP hw hK hc i pins s σ H E I hf st hg
    subst hP hw hK
    have w1 := W X.A (I.ok.hd hc)
    refine w1.item i s _ _ hg st fun T vals h' tk hp hT hv hmid hk => ⟨_, rfl, ?_⟩
    refine w1.go elts kk tpos i T { s with heap := h', toks := tk } _ _ hmid fun h'' st' hk' => ?_
    obtain ⟨xs, r, rv, hz⟩ := hR i vals hp
    obtain ⟨o, ho, hc, k, hd⟩ := hv
    have hTw := w1.apart i T h' hmid
    have ho2 : h''.get? T = some o := hk' T o hTw ho
    have new : ObjOk X.prog X.w (upd H T (.tup xs)) h'' T (.tup xs) := ⟨hz, vals.toList, rv, o, ho2, hc, k, by simpa using hd⟩
    have I1 : Inv X pins σ (upd H T (.tup xs)) { s with heap := h'', toks := tk } :=
      I.turnedNew (ch := fp) (fun b ob hb q => hk' b ob (fun z => hb (w1.sub b z)) (hk b ob (fun z => hb (w1.sub b z)) q)) hf hT new
    refine ⟨.ref T, _, I1, rfl, ⟨T, xs, rfl, I.hok.fresh hT, rfl, r⟩, st', fun b hb => ?_⟩
    obtain ⟨ob', eb, _⟩ := ob i _ st b hb
    rw [upd_ne (Nat.ne_of_lt (Nat.lt_of_lt_of_le (Heap.lt_size eb) hT))]
    exact (hf b hb).1
  done := by
    intro X hP hw hK hc i pins s σ H E I hf st hg
    subst hP hw hK
    have w1 := W X.A (I.ok.hd hc)
    have hg : i = n := hg
    subst hg
    exact w1.done s _ _ st fun h' tk hk => ⟨rfl, I.turnedL (ch := fp) (fun b o hb q => hk b o (fun z => hb (w1.sub b z)) q) hf⟩
  self := hs
def Rsg (z : Str) : Nat → List V → Prop := fun i xs => ∃ c : Nat, z.cps[i]? = some c ∧ xs = [.int (i : Nat), .str ⟨#[c]⟩]
theorem turn_enS {P : Program} {w : World} {K : PySem.W.Frag} {elts : List Expr} {kk : Nat} {tpos : Pos} (e it : Addr) (hei : e ≠ it) (z : Str) (t : Tok) :
    Turn P w K (.Tuple elts kk tpos) (Itw z.cps.size (Rsg z)) [e, it] e (fun i h => (∃ old, IsEnum h e it ((i : Nat) : Int) old) ∧ h.IsStrIter it (strIterType z) z t i) := by
  refine turn_w (fun A hh => WalksT.enumerateD (Draws.text (A := A.in1) hh it z t) e hei (by simpa using hei) (by simp)) (by simp) (fun i h st b hb => ?_) (fun A i s Q E st h => by
    obtain ⟨⟨_, he⟩, _⟩ := st
    exact wpAny_pyIter_enum he h) fun i vals hp => ?_
  · obtain ⟨⟨old, he⟩, o, ho, _, hd⟩ := st
    rcases List.mem_cons.mp hb with rfl | hb
    · exact ⟨_, he, fun v q => nomatch q⟩
    · rw [List.mem_singleton.mp hb]
      exact ⟨o, ho, fun v q => by rw [hd] at q; cases q⟩
  · obtain ⟨t, x, ⟨c, u, h1, rfl⟩, rfl⟩ := hp
    exact ⟨_, ⟨c, h1, rfl⟩, .cons ⟨_, rfl⟩ (.cons ⟨_, rfl⟩ .nil), by show 2 ≤ sizeLine; decide⟩
def Rzz (z y : Str) : Nat → List V → Prop := fun i xs => ∃ c d : Nat, z.cps[i]? = some c ∧ y.cps[i]? = some d ∧ xs = [.str ⟨#[c]⟩, .str ⟨#[d]⟩]
theorem turn_zipS {P : Program} {w : World} {K : PySem.W.Frag} {elts : List Expr} {kk : Nat} {tpos : Pos} {z TI TO i1 i2 : Addr} (S : ZipSep2 z TI TO i1 i2 [i1] [i2]) (x y : Str) (t u : Tok) :
    Turn P w K (.Tuple elts kk tpos) (Itw (min x.cps.size y.cps.size) (Rzz x y)) (z :: TI :: TO :: ([i1] ++ [i2])) z
      (fun i h => IsZip h z TI TO .none ∧ IsTupOf2 h TI (.ref i1) (.ref i2) ∧ (∃ a1 a2, IsTupOf2 h TO a1 a2) ∧ h.IsStrIter i1 (strIterType x) x t i ∧ h.IsStrIter i2 (strIterType y) y u i) := by
  refine turn_w (fun A hh => WalksT.zipD2 S (Draws.text (A := A.in1) hh i1 x t) (Draws.text (A := A.in1) hh i2 y u)) (by simp) (fun i h st b hb => ?_) (fun A i s Q E st h => wpAny_pyIter_zip st.1 h) fun i vals hp => ?_
  · obtain ⟨h1, h2, ⟨a1, a2, h3⟩, ⟨o4, e4, _, d4⟩, o5, e5, _, d5⟩ := st
    have e' : b = z ∨ b = TI ∨ b = TO ∨ b = i1 ∨ b = i2 := by simpa using hb
    rcases e' with q | q | q | q | q
    · rw [q]; exact ⟨_, h1, fun v q => nomatch q⟩
    · rw [q]; exact ⟨_, h2, fun v q => nomatch q⟩
    · rw [q]; exact ⟨_, h3, fun v q => nomatch q⟩
    · rw [q]; exact ⟨o4, e4, fun v q => by rw [d4] at q; cases q⟩
    · rw [q]; exact ⟨o5, e5, fun v q => by rw [d5] at q; cases q⟩
  · obtain ⟨x1, x2, ⟨c, u, h1, rfl⟩, ⟨d, v, h2, rfl⟩, rfl⟩ := hp
    exact ⟨_, ⟨c, d, h1, h2, rfl⟩, .cons ⟨_, rfl⟩ (.cons ⟨_, rfl⟩ .nil), by show 2 ≤ sizeLine; decide⟩
section
variable {X : Cx} {e e2 : Expr} {ta : TA} {p pos tpos : Pos} {elts : List Expr} {kk : Nat}
def iEnU (K : PySem.W.Frag) (ta : TA) : TI := fun σ H R => ta σ H fun vs H1 => (∃ a xs, vs = [.ref a] ∧ SqL K H1 a xs ∧ R (Ite K a) H1) ∨ ∃ z, vs = [.str z] ∧ R (Itw z.cps.size (Rsg z)) H1
theorem pi_enU (hg : Gl X "enumerate") (hm : X.mg "enumerate" = none) (ha : PA X [e] ta) (hs : starEach [e] X.env = [(false, eval e X.env)] := by rfl) : PI X (.Tuple elts kk tpos) (.Call (.Name "enumerate" p) [e] [] pos) (iEnU X.K ta) := by
  refine ⟨fun pins s σ H R I h => ?_⟩
  refine Call_ (ld_blt I hg hm boot_enumerate (PyProof.Rows.callWith_type1 (thn (ha.run pos pins s σ H _ I h) fun us s1 ⟨vs, H1, I1, r1, q1⟩ => ?_) hs rfl))
  have fr : ∀ b ∈ [s1.heap.objs.size + 1, s1.heap.objs.size], FpOk X pins H1 b := fun b hb => by
    have hle : s1.heap.objs.size ≤ b := by
      rcases List.mem_cons.mp hb with z | z
      · rw [z]; exact Nat.le_add_right _ _
      · rw [List.mem_singleton.mp z]; exact Nat.le_refl _
    exact I1.fpOk hle (I1.hok.fresh hle)
  rcases q1 with ⟨a, xs, rfl, hq, q⟩ | ⟨z, rfl, q⟩
  · obtain ⟨u, rfl, r⟩ := vals1 r1
    cases r
    obtain ⟨its, rv, p', hz⟩ := I1.list hq
    refine call_enumerate_list p'.isList fun h' he hit hsz hk => wpAny_pyIter_enum he ?_
    exact ⟨_, [s1.heap.objs.size + 1, s1.heap.objs.size], _, _, H1, rfl, I1.kept (t' := s1.toks) hk, turn_enum a _ _, ⟨⟨.none, he⟩, hit, Nat.succ_ne_self _⟩, fr, q⟩
  · obtain ⟨u, rfl, t, rfl⟩ := vals1 r1
    refine call_enumerate_str fun h' he hit hsz hk => wpAny_pyIter_enum he ?_
    exact ⟨_, [s1.heap.objs.size + 1, s1.heap.objs.size], _, _, H1, rfl, I1.kept (t' := s1.toks) hk, turn_enS _ _ (Nat.succ_ne_self _) z t, ⟨⟨.none, he⟩, hit⟩, fr, q⟩
def iZipU (K : PySem.W.Frag) (ta : TA) : TI := fun σ H R => ta σ H fun vs H1 => (∃ a b xs ys, vs = [.ref a, .ref b] ∧ SqL K H1 a xs ∧ SqL K H1 b ys ∧ R (Itz K a b) H1) ∨ ∃ x y, vs = [.str x, .str y] ∧ R (Itw (min x.cps.size y.cps.size) (Rzz x y)) H1
theorem pi_zipU (hg : Gl X "zip") (hm : X.mg "zip" = none) (ha : PA X [e, e2] ta) (hs : starEach [e, e2] X.env = (false, eval e X.env) :: starEach [e2] X.env := by rfl) (hpl : (backTo pos (starEach [e2] X.env)).any (·.1) = false := by rfl) :
    PI X (.Tuple elts kk tpos) (.Call (.Name "zip" p) [e, e2] [] pos) (iZipU X.K ta) := by
  refine ⟨fun pins s σ H R I h => ?_⟩
  refine Call_ (ld_blt I hg hm PyProof.Rows.boot_zip (PyProof.Rows.callWith_type1 (thn (ha.run pos pins s σ H _ I h) fun us s1 ⟨vs, H1, I1, r1, q1⟩ => ?_) hs hpl))
  have fr : ∀ b ∈ [s1.heap.objs.size + 4, s1.heap.objs.size + 2, s1.heap.objs.size + 3, s1.heap.objs.size, s1.heap.objs.size + 1], FpOk X pins H1 b := fun b hb => by
    have hle : s1.heap.objs.size ≤ b := by
      have e' : b = s1.heap.objs.size + 4 ∨ b = s1.heap.objs.size + 2 ∨ b = s1.heap.objs.size + 3 ∨ b = s1.heap.objs.size ∨ b = s1.heap.objs.size + 1 := by simpa using hb
      rcases e' with z | z | z | z | z <;> rw [z]
      · exact Nat.le_add_right _ _
      · exact Nat.le_add_right _ _
      · exact Nat.le_add_right _ _
      · exact Nat.le_refl _
      · exact Nat.le_add_right _ _
    exact I1.fpOk hle (I1.hok.fresh hle)
  rcases q1 with ⟨a, b, xs, ys, rfl, hqx, hqy, q⟩ | ⟨x, y, rfl, q⟩
  · cases r1 with
    | cons r rr =>
      cases rr with
      | cons r' rr =>
        cases rr
        cases r
        cases r'
        obtain ⟨its, rv, p1, _⟩ := I1.list hqx
        obtain ⟨its2, rv2, p2, _⟩ := I1.list hqy
        refine call_zip_2 p1.isList p2.isList fun h' hz hTI hTO h1 h2 hsz hk => wpAny_pyIter_zip hz ?_
        exact ⟨_, _, _, _, H1, rfl, I1.kept (t' := s1.toks) hk, turn_zip (PySem.W.ktu_apart s1.heap.objs.size a b p1.lt p2.lt), ⟨hz, hTI, ⟨_, _, hTO⟩, h1, h2⟩, fr, q⟩
  · cases r1 with
    | cons r rr =>
      cases rr with
      | cons r' rr =>
        cases rr
        obtain ⟨t, rfl⟩ := r
        obtain ⟨t2, rfl⟩ := r'
        refine zip_begins2 (begins_text x t) (begins_text y t2) trivial trivial fun h' hz hTI hTO h1 h2 hsz hk => wpAny_pyIter_zip hz ?_
        exact ⟨_, _, _, _, H1, rfl, I1.kept (t' := s1.toks) hk, turn_zipS (zip_sep2 (fun _ h => nomatch h) (fun _ h => nomatch h)) x y t t2, ⟨hz, hTI, ⟨_, _, hTO⟩, ⟨_, h1, rfl, rfl⟩, ⟨_, h2, rfl, rfl⟩⟩, fr, q⟩
end
/-! .. as data -/
def enD (ds : List D) : List D := ds.mapIdx fun i d => .tup [.int (i : Nat), d]
def zipD (ds es : List D) : List D := (ds.zip es).map fun p => .tup [p.1, p.2]
def sqd (m : Mu) (d : D) (P : List D → (Mu → Prop) → Prop) : Prop := match d with
  | .lst es => P es fun _ => True
  | .ro es => P es fun _ => True
  | .cel a => (match m a with | some (.lst es) => P es (fun m2 => m2 a = some (.lst es)) | _ => False)
  | _ => False
theorem sqd_of {K : PySem.W.Frag} {m : Mu} {H : Hp} {v : V} {d : D} {P : List D → (Mu → Prop) → Prop} (ok : Ok K m H) (t : Dt K m H v d) (h : sqd m d P) :
    ∃ a es st, v = .ref a ∧ P es st ∧ st m ∧ ∀ m2 H2, Ext m H m2 H2 → Ok K m2 H2 → st m2 → ∃ vs, SqL K H2 a vs ∧ Dts K m2 H2 vs es := by
  cases t with
  | @lst p vs ds a b c => exact ⟨p, _, _, rfl, h, trivial, fun m2 H2 e o _ => ⟨vs, SqL.of (e.at a b).1, c.ext e⟩⟩
  | @ro p vs ds a c =>
    refine ⟨p, _, _, rfl, h, trivial, fun m2 H2 e o _ => ⟨vs, ?_, c.ext e⟩⟩
    rcases a with ⟨a | ⟨ob, a⟩, b⟩ | a
    · exact .inl (.inl (e.at a b).1)
    · exact .inl (.inr ⟨ob, (e.at a b).1⟩)
    · exact .inr a
  | cel a =>
    have h : (match m a with | some (.lst es) => P es (fun m2 => m2 a = some (.lst es)) | _ => False) := h
    cases hm : m a with
    | none => rw [hm] at h; exact h.elim
    | some c =>
      rw [hm] at h
      cases c with
      | lst ds => exact ⟨a, _, _, rfl, h, hm, fun m2 H2 e o s => let ⟨vs, h1, h2⟩ := o a _ s; ⟨vs, SqL.of h1, h2⟩⟩
      | _ => exact h.elim
  | _ => exact (h : False).elim
def enB (m : Mu) (d : D) (Q : IQ) : Prop := match d with
  | .str z => Q (enD (sgs z)) (fun _ => True) m
  | d => sqd m d fun es st => Q (enD es) st m
def zipB (m : Mu) (d e : D) (Q : IQ) : Prop := match d, e with
  | .str z, .str y => Q (zipD (sgs z) (sgs y)) (fun _ => True) m
  | d, e => sqd m d fun es st => sqd m e fun fs st2 => Q (zipD es fs) (fun m2 => st m2 ∧ st2 m2) m
def iEnumD (g : GA) : GI := fun ex ρ m Q => g ex ρ m fun ds m' => on1 ds fun d => enB m' d Q
def iZipD (g : GA) : GI := fun ex ρ m Q => g ex ρ m fun ds m' => on2 ds fun d e => zipB m' d e Q
section
variable {K : PySem.W.Frag} {m0 : Mu} {H0 : Hp} {st : Mu → Prop}
theorem pair_new {m : Mu} {H : Hp} {T : Addr} {x y : V} {d e : D} (o : Ok K m H) (hT : H T = none) (hx : Dt K m H x d) (hy : Dt K m H y e) : Ext m H m (upd H T (.tup [x, y])) ∧ Ok K m (upd H T (.tup [x, y])) ∧ Dt K m (upd H T (.tup [x, y])) (.ref T) (.tup [d, e]) :=
  ⟨ext_new hT, ok_new o hT, new_tup o hT (.cons hx (.cons hy .nil))⟩
theorem enD_get {ds : List D} {i : Nat} {d : D} (h : ds[i]? = some d) : (enD ds)[i]? = some (.tup [.int (i : Nat), d]) := by unfold enD; rw [List.getElem?_mapIdx, h]; rfl
theorem zipD_get {ds es : List D} {i : Nat} {d e : D} (h : ds[i]? = some d) (g : es[i]? = some e) : (zipD ds es)[i]? = some (.tup [d, e]) := by
  unfold zipD
  rw [List.getElem?_map, List.getElem?_zip_eq_some.mpr (show _ from ⟨h, g⟩ : ds[i]? = some (d, e).1 ∧ es[i]? = some (d, e).2)]; rfl
theorem enD_len (ds : List D) : (enD ds).length = ds.length := by simp [enD]
theorem zipD_len (ds es : List D) : (zipD ds es).length = min ds.length es.length := by simp [zipD]
theorem sgs_get {z : Str} {i c : Nat} (h : z.cps[i]? = some c) : (sgs z)[i]? = some (.str ⟨#[c]⟩) := by simp [sgs, h]
theorem itd_enS {z : Str} : ItD K (Itw z.cps.size (Rsg z)) m0 H0 (enD (sgs z)) st where
  go := fun i m H hi e o s => by show i < z.cps.size; rw [enD_len] at hi; simpa [sgs] using hi
  stop := fun m H e o s => by show (enD (sgs z)).length = z.cps.size; rw [enD_len]; simp [sgs]
  yld := fun i m H x H' hi e o s ⟨T, xs, e1, hT, e2, c, hc, e3⟩ => by
    subst e1 e2 e3
    obtain ⟨p, q, r⟩ := pair_new o hT (.int (i : Nat)) (.str (⟨#[c]⟩ : Str))
    exact ⟨_, enD_get (sgs_get hc), p, q, r⟩
theorem itd_zipS {z y : Str} : ItD K (Itw (min z.cps.size y.cps.size) (Rzz z y)) m0 H0 (zipD (sgs z) (sgs y)) st where
  go := fun i m H hi e o s => by show i < min z.cps.size y.cps.size; rw [zipD_len] at hi; simpa [sgs] using hi
  stop := fun m H e o s => by show (zipD (sgs z) (sgs y)).length = min z.cps.size y.cps.size; rw [zipD_len]; simp [sgs]
  yld := fun i m H x H' hi e o s ⟨T, xs, e1, hT, e2, c, d, hc, hd, e3⟩ => by
    subst e1 e2 e3
    obtain ⟨p, q, r⟩ := pair_new o hT (.str (⟨#[c]⟩ : Str)) (.str (⟨#[d]⟩ : Str))
    exact ⟨_, zipD_get (sgs_get hc) (sgs_get hd), p, q, r⟩
theorem itd_en {a : Addr} {ds : List D} (h : ∀ m H, Ext m0 H0 m H → Ok K m H → st m → ∃ vs, SqL K H a vs ∧ Dts K m H vs ds) : ItD K (Ite K a) m0 H0 (enD ds) st where
  go := fun i m H hi e o s => by
    obtain ⟨vs, q, t⟩ := h m H e o s
    rw [enD_len] at hi
    have hl : i < vs.length := by rw [t.length]; exact hi
    exact ⟨vs, vs[i], q, by simp [hl]⟩
  stop := fun m H e o s => by
    obtain ⟨vs, q, t⟩ := h m H e o s
    exact ⟨vs, q, by rw [enD_len, t.length]; exact Nat.le_refl _⟩
  yld := fun i m H x H' hi e o s ⟨T, y, e1, hT, e2, hy⟩ => by
    subst e1 e2
    obtain ⟨vs, q, t⟩ := h m H e o s
    obtain ⟨d, h1, h2⟩ := t.get' (hy vs q)
    obtain ⟨p, q, r⟩ := pair_new o hT (.int (i : Nat)) h2
    exact ⟨_, enD_get h1, p, q, r⟩
theorem itd_zip {a b : Addr} {ds es : List D} (h : ∀ m H, Ext m0 H0 m H → Ok K m H → st m → (∃ vs, SqL K H a vs ∧ Dts K m H vs ds) ∧ ∃ vs, SqL K H b vs ∧ Dts K m H vs es) : ItD K (Itz K a b) m0 H0 (zipD ds es) st where
  go := fun i m H hi e o s => by
    obtain ⟨⟨vs, q, t⟩, ws, q2, t2⟩ := h m H e o s
    rw [zipD_len] at hi
    have hl : i < vs.length := by rw [t.length]; omega
    have hl2 : i < ws.length := by rw [t2.length]; omega
    exact ⟨vs, ws, vs[i], ws[i], q, q2, by simp [hl], by simp [hl2]⟩
  stop := fun m H e o s => by
    obtain ⟨⟨vs, q, t⟩, ws, q2, t2⟩ := h m H e o s
    exact ⟨vs, ws, q, q2, by rw [zipD_len, t.length, t2.length]; omega⟩
  yld := fun i m H x H' hi e o s ⟨T, x1, y1, e1, hT, e2, hx, hy⟩ => by
    subst e1 e2
    obtain ⟨⟨vs, q, t⟩, ws, q2, t2⟩ := h m H e o s
    obtain ⟨d, h1, h2⟩ := t.get' (hx vs q)
    obtain ⟨d2, h3, h4⟩ := t2.get' (hy ws q2)
    obtain ⟨p, q, r⟩ := pair_new o hT h2 h4
    exact ⟨_, zipD_get h1 h3, p, q, r⟩
end
section
variable {X : Cx} {e e2 : Expr} {g : GA} {p pos tpos : Pos} {elts : List Expr} {kk : Nat}
theorem di_enum (hg : Gl X "enumerate") (hm : X.mg "enumerate" = none) (ha : DA X [e] g) (hs : starEach [e] X.env = [(false, eval e X.env)] := by rfl) : DI X (.Tuple elts kk tpos) (.Call (.Name "enumerate" p) [e] [] pos) (iEnumD g) := ⟨fun cur W ex co tk lk =>
  pi_imp (pi_enU hg hm (ha.run cur W ex co tk lk) hs) fun σ H R ⟨ρ, m, Q', cu, o, s, q, k⟩ => ⟨ρ, m, _, cu, o, s, q, fun ds m1 vs H1 q1 e1 o1 t1 => by
    obtain ⟨v, d, rfl, rfl, t, q⟩ := on1_of t1 q1
    have seq : sqd m1 d (fun es st => Q' (enD es) st m1) → (∃ a xs, [v] = [V.ref a] ∧ SqL X.K H1 a xs ∧ R (Ite X.K a) H1) ∨ ∃ z, [v] = [V.str z] ∧ R (Itw z.cps.size (Rsg z)) H1 := fun q => by
      obtain ⟨a, es, st, rfl, q, hs, hh⟩ := sqd_of o1 t q
      obtain ⟨xs, hx, _⟩ := hh m1 H1 (Ext.refl _ _) o1 hs
      exact .inl ⟨a, xs, rfl, hx, k _ _ m1 H1 _ q e1 o1 (itd_en hh)⟩
    cases t with
    | str z => exact .inr ⟨z, rfl, k _ _ m1 H1 _ q e1 o1 itd_enS⟩
    | _ => exact seq q⟩⟩
theorem di_zip (hg : Gl X "zip") (hm : X.mg "zip" = none) (ha : DA X [e, e2] g) (hs : starEach [e, e2] X.env = (false, eval e X.env) :: starEach [e2] X.env := by rfl) (hpl : (backTo pos (starEach [e2] X.env)).any (·.1) = false := by rfl) :
    DI X (.Tuple elts kk tpos) (.Call (.Name "zip" p) [e, e2] [] pos) (iZipD g) := ⟨fun cur W ex co tk lk =>
  pi_imp (pi_zipU hg hm (ha.run cur W ex co tk lk) hs hpl) fun σ H R ⟨ρ, m, Q', cu, o, s, q, k⟩ => ⟨ρ, m, _, cu, o, s, q, fun ds m1 vs H1 q1 e1 o1 t1 => by
    obtain ⟨v, w, d, e, rfl, rfl, t, t2, q⟩ := on2_of t1 q1
    have seq : sqd m1 d (fun es st => sqd m1 e fun fs st2 => Q' (zipD es fs) (fun m2 => st m2 ∧ st2 m2) m1) → iZipU X.K (fun _ H Q => Q [v, w] H) σ H1 R := fun q => by
      obtain ⟨a, es, st, rfl, q, hs, hh⟩ := sqd_of o1 t q
      obtain ⟨b, fs, st2, rfl, q, hs2, hh2⟩ := sqd_of o1 t2 q
      obtain ⟨xs, hx, _⟩ := hh m1 H1 (Ext.refl _ _) o1 hs
      obtain ⟨ys, hy, _⟩ := hh2 m1 H1 (Ext.refl _ _) o1 hs2
      exact .inl ⟨a, b, xs, ys, rfl, hx, hy, k _ _ m1 H1 _ q e1 o1 (itd_zip fun m2 H2 e o s => ⟨hh m2 H2 e o s.1, hh2 m2 H2 e o s.2⟩)⟩
    cases t with
    | str z =>
      cases t2 with
      | str y => exact .inr ⟨z, y, rfl, k _ _ m1 H1 _ q e1 o1 itd_zipS⟩
      | _ => exact (q : False).elim
    | _ => exact seq q⟩⟩
end
end Nd

namespace Nd
open PySem L2 PyProof.Rows PySem.Spec
/-! a datum with the cells within it as they stand -/
def dvw : Nat → Mu → D → D
  | n + 1, m, .cel a => match m a with
    | some (.lst ds) => .lst (ds.map (dvw n m))
    | _ => .cel a
  | n + 1, m, .lst ds => .lst (ds.map (dvw n m))
  | n + 1, m, .tup ds => .tup (ds.map (dvw n m))
  | _, _, d => d
section
variable {K : PySem.W.Frag} {m : Mu} {H : Hp}
theorem dps_all {f : D → D} (h : ∀ d v, Dt K m H v d → nodct k (f d) = true → Dp K H v (py (f d))) : ∀ (ds : List D) (vs : List V), (∀ x ∈ ds.map f, nodct k x = true) → Dts K m H vs ds → DpAll K H vs (pys (ds.map f))
  | [], _, _, t => by cases t; simp only [List.map_nil, pys]; exact .nil
  | d :: ds, _, g, t => by
    cases t with
    | cons a b =>
      simp only [List.map_cons, pys]
      exact .cons (h _ _ a (g _ (by simp))) (dps_all h ds _ (fun x hx => g x (by simp at hx ⊢; exact .inr hx)) b)
theorem dvw_dp (ok : Ok K m H) : ∀ (n k : Nat) (d : D) (v : V), nodct k (dvw n m d) = true → Dt K m H v d → Dp K H v (py (dvw n m d))
  | 0, k, d, v, g, t => dt_dp k d v g t
  | n + 1, k, d, v, g, t => by
    have al : ∀ ds vs, nodct k (.lst (ds.map (dvw n m))) = true → Dts K m H vs ds → DpAll K H vs (pys (ds.map (dvw n m))) := fun ds vs g t => by
      cases k with
      | zero => unfold nodct at g; cases g
      | succ k =>
        unfold nodct at g
        exact dps_all (fun d v t g => dvw_dp ok n k d v g t) ds vs (List.all_eq_true.mp g) t
    cases t with
    | non => simp only [dvw, py]; exact .non
    | bl b => simp only [dvw, py]; exact (.bl b)
    | int b => simp only [dvw, py]; exact (.int b)
    | str b => simp only [dvw, py]; exact (.str b)
    | @lst p vs ds a b c =>
      have g : nodct k (.lst (ds.map (dvw n m))) = true := g
      show Dp K H (.ref p) (py (.lst (ds.map (dvw n m))))
      simp only [py]
      exact .lst (SqL.of a) (al ds vs g c)
    | @tup p vs ds a c =>
      have g : nodct k (.lst (ds.map (dvw n m))) = true := by
        have g : nodct k (.tup (ds.map (dvw n m))) = true := g
        cases k with
        | zero => unfold nodct at g; cases g
        | succ k => unfold nodct at g ⊢; exact g
      show Dp K H (.ref p) (py (.tup (ds.map (dvw n m))))
      simp only [py]
      refine .tup ?_ (al ds vs g c)
      rcases a with ⟨a, _⟩ | a
      · exact SqT.of a
      · exact .inr a
    | dct _ _ _ =>
      have g : nodct k (.dct _) = true := g
      cases k <;> (unfold nodct at g; cases g)
    | obj _ _ _ =>
      have g : nodct k (.obj _ _) = true := g
      cases k <;> (unfold nodct at g; cases g)
    | ro _ _ =>
      have g : nodct k (.ro _) = true := g
      cases k <;> (unfold nodct at g; cases g)
    | cls =>
      have g : nodct k (.cls v) = true := g
      cases k <;> (unfold nodct at g; cases g)
    | cel a =>
      have no : nodct k (.cel a) = true → False := fun g => by cases k <;> (unfold nodct at g; cases g)
      cases hm : m a with
      | none =>
        have e : dvw (n + 1) m (.cel a) = .cel a := by simp only [dvw, hm]
        rw [e] at g
        exact (no g).elim
      | some c =>
        cases c with
        | lst ds =>
          have e : dvw (n + 1) m (.cel a) = .lst (ds.map (dvw n m)) := by simp only [dvw, hm]
          rw [e] at g ⊢
          simp only [py]
          obtain ⟨vs, h1, h2⟩ := ok a _ hm
          exact .lst (SqL.of h1) (al ds vs g h2)
        | box _ =>
          have e : dvw (n + 1) m (.cel a) = .cel a := by simp only [dvw, hm]
          rw [e] at g
          exact (no g).elim
        | dct _ =>
          have e : dvw (n + 1) m (.cel a) = .cel a := by simp only [dvw, hm]
          rw [e] at g
          exact (no g).elim
        | ins _ _ =>
          have e : dvw (n + 1) m (.cel a) = .cel a := by simp only [dvw, hm]
          rw [e] at g
          exact (no g).elim
abbrev dv6 : Mu → D → D := dvw 6
def dEqV : DR2 := fun x y m Q => flt (dv6 m x) = true ∧ flt (dv6 m y) = true ∧ Q (.bl (eqd (dv6 m x) (dv6 m y))) m
def dNeV : DR2 := fun x y m Q => flt (dv6 m x) = true ∧ flt (dv6 m y) = true ∧ Q (.bl (!eqd (dv6 m x) (dv6 m y))) m
theorem dv6_dp {v : V} {d : D} (ok : Ok K m H) (t : Dt K m H v d) (f : flt (dv6 m d) = true) : Dp K H v (py (dv6 m d)) ∧ SeqAt.shaped (py (dv6 m d)) = true := by
  have h : okd 40 (dv6 m d) = true ∧ nodct 40 (dv6 m d) = true := by unfold flt at f; simpa using f
  exact ⟨dvw_dp ok 6 40 d v h.2 t, okd_shaped (by decide) h.1 h.2⟩
theorem od_eqV : OpD K dEqV (rEqD K) := fun m H x y dx dy Q' Q ok tx ty ⟨fx, fy, q⟩ k =>
  ⟨_, _, (dv6_dp ok tx fx).1, (dv6_dp ok ty fy).1, (dv6_dp ok tx fx).2, (dv6_dp ok ty fy).2, k _ m _ H q (Ext.refl m H) ok (.bl _)⟩
theorem od_neV : OpD K dNeV (rNeD K) := fun m H x y dx dy Q' Q ok tx ty ⟨fx, fy, q⟩ k =>
  ⟨_, _, (dv6_dp ok tx fx).1, (dv6_dp ok ty fy).1, (dv6_dp ok tx fx).2, (dv6_dp ok ty fy).2, k _ m _ H q (Ext.refl m H) ok (.bl _)⟩
def dReprV : DRC := fun ds m Q => on1 ds fun d => flt (dv6 m d) = true ∧ szd (dv6 m d) ≤ 16000000 ∧ Q (.str (py (dv6 m d)).shown) m
theorem cd_reprV : CallD K dReprV (rRepr K) := by
  intro m H vs ds Q' Q ok t q k
  obtain ⟨v, d, rfl, rfl, t, f, hz, q⟩ := on1_of t q
  exact ⟨v, _, rfl, f, hz, (dv6_dp ok t f).1, k _ m _ H q (Ext.refl m H) ok (.str _)⟩
end
/-! list(text) -/
theorem vals_of : ∀ {xs : List V} {us : List Value}, xs.length = us.length → (∀ (i : Nat) x u, xs[i]? = some x → us[i]? = some u → RelV x u) → Vals xs us
  | [], [], _, _ => .nil
  | [], _ :: _, h, _ => by simp at h
  | _ :: _, [], h, _ => by simp at h
  | x :: xs, u :: us, h, g => .cons (g 0 x u rfl rfl) (vals_of (by simpa using h) fun i y v a b => g (i + 1) y v (by simpa using a) (by simpa using b))
def sgV (z : Str) : List V := z.cps.toList.map fun c => .str ⟨#[c]⟩
def rListTxt : List V → Hp → VK → Prop := fun xs H Q => ∃ z : Str, xs = [.str z] ∧ z.length ≤ sizeLine ∧ ∀ l, H l = none → Q (.ref l) (upd H l (.lst (sgV z)))
theorem call_list_txt {X : Cx} (hc : X.calm = true) : CallR X (.type "list") rListTxt := by
  intro pins s σ H xs us Q I r h
  obtain ⟨z, rfl, hz, q⟩ := h
  obtain ⟨u, rfl, t, rfl⟩ := vals1 r
  refine call_list_str (hn := hz) (I.ok.hd hc) z t fun h' tk acc c hk hS hacc => ?_
  have hl : (sgV z).length = acc.toList.length := by simp [sgV, hacc.1]
  have rv : Vals (sgV z) acc.toList := vals_of hl fun i x u hx hu => by
    obtain ⟨c, t, hc, rfl⟩ := hacc.2 i u (by simpa using hu)
    unfold sgV at hx
    rw [List.getElem?_map] at hx
    simp [hc] at hx
    subst hx
    exact ⟨t, rfl⟩
  exact ⟨.ref s.heap.objs.size, _, I.laid (t' := tk) hk (Nat.le_refl _) (show ObjOk X.prog X.w _ h' _ (.lst (sgV z)) from ⟨by simpa [sgV, Str.length] using hz, acc.toList, c, rv, by simpa using hS⟩), rfl, q _ (I.hok.fresh (Nat.le_refl _))⟩
def rListU (K : PySem.W.Frag) : List V → Hp → VK → Prop := fun xs H Q => (∃ p ys, xs = [.ref p] ∧ (SqL K H p ys ∨ SqT K H p ys) ∧ ∀ l, H l = none → Q (.ref l) (upd H l (.lst ys))) ∨ rListTxt xs H Q
theorem call_listU {X : Cx} (hc : X.calm = true) : CallR X (.type "list") (rListU X.K) := call_list_of.or (call_list_txt hc)
theorem dts_sg {K : PySem.W.Frag} {m : Mu} {H : Hp} (z : Str) : Dts K m H (sgV z) (sgs z) := by
  unfold sgV sgs
  induction z.cps.toList with
  | nil => exact .nil
  | cons a r ih => exact .cons (.str _) ih
def dListU : DRC := fun ds m Q => on1 ds fun d => match d with
  | .str z => z.length ≤ sizeLine ∧ Q (.lst (sgs z)) m
  | d => onSeq m d fun es => Q (.lst es) m
def dListUM : DRC := fun ds m Q => on1 ds fun d => match d with
  | .str z => z.length ≤ sizeLine ∧ ∀ a, m a = none → Q (.cel a) (m.put a (some (.lst (sgs z))))
  | d => onSeq m d fun es => ∀ a, m a = none → Q (.cel a) (m.put a (some (.lst es)))
theorem cd_listU {K : PySem.W.Frag} : CallD K dListU (rListU K) := by
  intro m H vs ds Q' Q ok t q k
  obtain ⟨v, d, rfl, rfl, t, q⟩ := on1_of t q
  have seq : (onSeq m d fun es => Q' (.lst es) m) → rListU K [v] H Q := fun q => .inl (cd_list m H [v] [d] Q' Q ok (.cons t .nil) q k)
  cases t with
  | str z =>
    obtain ⟨hz, q⟩ := q
    exact .inr ⟨z, rfl, hz, fun p hp => k _ m _ _ q (ext_new hp) (ok_new ok hp) (new_lst ok hp (dts_sg z))⟩
  | _ => exact seq q
theorem cd_listUM {K : PySem.W.Frag} : CallD K dListUM (rListU K) := by
  intro m H vs ds Q' Q ok t q k
  obtain ⟨v, d, rfl, rfl, t, q⟩ := on1_of t q
  have seq : (onSeq m d fun es => ∀ a, m a = none → Q' (.cel a) (m.put a (some (.lst es)))) → rListU K [v] H Q := fun q => .inl (cd_listM m H [v] [d] Q' Q ok (.cons t .nil) q k)
  cases t with
  | str z =>
    obtain ⟨hz, q⟩ := q
    exact .inr ⟨z, rfl, hz, fun p hp => k _ _ _ _ (q p (mu_none ok hp)) (ext_cell hp) (ok_at ok (ext_cell hp) ⟨_, upd_same, dts_sg z⟩) (.cel p)⟩
  | _ => exact seq q
section
variable {n : Nat} {m : Mu} {a : Addr} {ds : List D}
theorem dvw_ints (is : List Int) : (is.map D.int).map (dvw n m) = is.map D.int := by
  rw [List.map_map]
  refine List.map_congr_left fun i _ => ?_
  cases n <;> rfl
theorem dvw_strs (is : List Str) : (is.map D.str).map (dvw n m) = is.map D.str := by
  rw [List.map_map]
  refine List.map_congr_left fun i _ => ?_
  cases n <;> rfl
theorem dvw_int {i : Int} : dvw n m (.int i) = .int i := by cases n <;> rfl
theorem dvw_str {i : Str} : dvw n m (.str i) = .str i := by cases n <;> rfl
theorem dvw_bl {i : Bool} : dvw n m (.bl i) = .bl i := by cases n <;> rfl
theorem dvw_non : dvw n m .non = .non := by cases n <;> rfl
theorem dvw_lst : dvw (n + 1) m (.lst ds) = .lst (ds.map (dvw n m)) := rfl
theorem dvw_tup : dvw (n + 1) m (.tup ds) = .tup (ds.map (dvw n m)) := rfl
theorem dvw_cel (h : m a = some (.lst ds)) : dvw (n + 1) m (.cel a) = .lst (ds.map (dvw n m)) := by simp only [dvw, h]
theorem dv6_lst : dv6 m (.lst ds) = .lst (ds.map (dvw 5 m)) := rfl
theorem dv6_tup : dv6 m (.tup ds) = .tup (ds.map (dvw 5 m)) := rfl
theorem dv6_cel (h : m a = some (.lst ds)) : dv6 m (.cel a) = .lst (ds.map (dvw 5 m)) := dvw_cel h
end
end Nd

namespace Nd
open PySem L2 PyProof.Rows PySem.Spec
/-! comprehensions of two clauses -/
def lcB (a : Addr) (N : List D → Mu → Prop) : D → Mu → Prop := fun d m => match d with | .lst acc => N acc (m.put a (some (.lst acc))) | _ => False
def lcG2 (gt : GG) (tt : GT) (gi1 : GI) (gt1 : GG) (tt1 : GT) (te : GE) (vs1 : List Nat) (st : Mu → Prop) (a : Addr) (ρ : Env) (Q : D → Mu → Prop) : List D → List D → Mu → Prop
  | [], acc, m => st m ∧ m a = some (.lst acc) ∧ Q (.lst acc) (m.put a none)
  | d :: r, acc, m => st m ∧ gt noX d ρ m fun ρ2 m2 => tt noX ρ2 m2 fun b m3 =>
      if b = true then gi1 noX ρ2 m3 fun ds1 st1 m4 => lcG gt1 tt1 te st1 a (wipeD ρ2 vs1) (lcB a fun acc' m5 => lcG2 gt tt gi1 gt1 tt1 te vs1 st a ρ Q r acc' m5) ds1 acc m4
      else lcG2 gt tt gi1 gt1 tt1 te vs1 st a ρ Q r acc m3
def gLc2 (gi : GI) (gt : GG) (tt : GT) (gi1 : GI) (gt1 : GG) (tt1 : GT) (te : GE) (vs vs1 : List Nat) : GE := fun ex ρ m Q => gi ex ρ m fun ds st m1 => ∀ a, m1 a = none → lcG2 gt tt gi1 gt1 tt1 te vs1 st a (wipeD ρ vs) Q ds [] (m1.put a (some (.lst [])))
def gRun (K : PySem.W.Frag) (cur : Cur) (ws : List Nat) (gt : GG) : V → L2.St → Hp → (L2.St → Hp → Prop) → Prop := fun v σ H Q => ∃ d ρ m Q', cur m H ∧ Ok K m H ∧ Sl K m H σ ρ ∧ Dt K m H v d ∧ gt noX d ρ m Q' ∧ ∀ ρ' m' σ' H', Q' ρ' m' → Ext m H m' H' → Ok K m' H' → Sl K m' H' σ' ρ' → Apart ws σ σ' → Q σ' H'
theorem put_back {m : Mu} {a : Addr} {c : Cl} (h : m a = some c) : ((m.put a none).put a (some c)) = m := by
  funext b
  by_cases e : b = a
  · rw [e, Mu.put_same, h]
  · rw [Mu.put_ne e, Mu.put_ne e]
section
variable {X : Cx} {elt tg iter tg1 iter1 : Expr} {ifs ifs1 : List Expr} {scope : Scope} {own : List (Str × Nat)} {pos : Pos} {gi gi1 : GI} {gt gt1 : GG} {tt tt1 : GT} {te : GE} {ws ws1 vs1 : List Nat}
theorem lcG2_st {st : Mu → Prop} {a : Addr} {ρ : Env} {Q : D → Mu → Prop} {ds acc : List D} {m : Mu} (h : lcG2 gt tt gi1 gt1 tt1 te vs1 st a ρ Q ds acc m) : st m := by
  cases ds with
  | nil => exact h.1
  | cons _ _ => exact h.1
theorem lc_imp2 {K : PySem.W.Frag} {cur : Cur} {ex : Exx} (co : CurOk cur) (hw : ∀ i ∈ ws, i ∈ own.map (·.2)) (hw1 : ∀ i ∈ ws1, i ∈ vs1) {σ : L2.St} {H : Hp} {Q : VK} (h : lE K cur (gLc2 gi gt tt gi1 gt1 tt1 te (own.map (·.2)) vs1 ex) σ H Q) :
    tLc2 (lI K cur (gi ex)) (gRun K cur ws gt) (lT K cur (tt noX)) (lI K cur (gi1 noX)) (gRun K cur ws1 gt1) (lT K cur (tt1 noX)) (lE K cur (te noX)) (own.map (·.2)) vs1 σ H Q := by
  obtain ⟨ρ, m, Qd, cu, o, s, q, k⟩ := h
  refine ⟨ρ, m, _, cu, o, s, q, fun ds st m1 H1 J q1 e1 o1 it a ha => ?_⟩
  have hma : m1 a = none := mu_none o1 ha
  have q2 := q1 a hma
  have ea : Ext m1 H1 (m1.put a (some (.lst []))) (upd H1 a (.lst [])) := ext_cell ha
  have oa : Ok K (m1.put a (some (.lst []))) (upd H1 a (.lst [])) := ok_at o1 ea ⟨[], upd_same, .nil⟩
  refine ⟨fun i n H' => n = ds.length - i ∧ i ≤ ds.length ∧ ∃ acc m', Ext m1 H1 m' H' ∧ Ok K m' H' ∧ lcG2 gt tt gi1 gt1 tt1 te vs1 st a (wipeD ρ (own.map (·.2))) Qd (ds.drop i) acc m', ⟨ds.length, by simp, Nat.zero_le _, [], _, ea, oa, q2⟩, ?_⟩
  rintro i n H' ⟨rfl, hi, acc, m', e', o', q'⟩
  have hst := lcG2_st q'
  have e01 := e1.trans e' o1.cells
  by_cases hlt : i < ds.length
  · refine .inr ⟨it.go i m' H' hlt e' o' hst, fun H2 => ∃ acc m2, Ext m1 H1 m2 H2 ∧ Ok K m2 H2 ∧ lcG2 gt tt gi1 gt1 tt1 te vs1 st a (wipeD ρ (own.map (·.2))) Qd (ds.drop (i + 1)) acc m2, fun H2 z => ⟨ds.length - (i + 1), by omega, rfl, hlt, z⟩, fun x H2 y => ?_⟩
    obtain ⟨d, hd, e2, o2, t2⟩ := it.yld i m' H' x H2 hlt e' o' hst y
    have hdr : ds.drop i = d :: ds.drop (i + 1) := by rw [List.drop_eq_getElem_cons hlt]; rw [List.getElem?_eq_getElem hlt] at hd; cases hd; rfl
    rw [hdr] at q'
    have e02 := e01.trans e2 o'.cells
    have e12 := e'.trans e2 o'.cells
    refine ⟨d, _, m', _, co.ext cu o.cells e02, o2, sl_wipe (s.ext e02) _, t2, q'.2, fun ρ3 m3 σ3 H3 q3 e3 o3 s3 a3 => ?_⟩
    have e03 := e02.trans e3 o2.cells
    have e13 := e12.trans e3 o2.cells
    refine ⟨by rw [wipe_apart a3 hw, wipe_wipe], ρ3, m3, _, co.ext cu o.cells e03, o3, s3, q3, fun b m4 H4 q4 e4 o4 => ?_⟩
    have e04 := e03.trans e4 o3.cells
    have e14 := e13.trans e4 o3.cells
    cases b with
    | false =>
      simp only [Bool.false_eq_true, if_false] at q4 ⊢
      exact ⟨acc, m4, e14, o4, q4⟩
    | true =>
      simp only [if_true] at q4 ⊢
      refine ⟨ρ3, m4, _, co.ext cu o.cells e04, o4, s3.ext e4, q4, fun ds1 st1 m5 H5 J1 q5 e5 o5 it1 => ?_⟩
      have e05 := e04.trans e5 o4.cells
      have e15 := e14.trans e5 o4.cells
      have s4 := s3.ext e4
      refine ⟨fun j n H' => n = ds1.length - j ∧ j ≤ ds1.length ∧ ∃ acc m', Ext m5 H5 m' H' ∧ Ok K m' H' ∧ lcG gt1 tt1 te st1 a (wipeD ρ3 vs1) (lcB a fun acc' m5 => lcG2 gt tt gi1 gt1 tt1 te vs1 st a (wipeD ρ (own.map (·.2))) Qd (ds.drop (i + 1)) acc' m5) (ds1.drop j) acc m', ⟨ds1.length, by simp, Nat.zero_le _, acc, m5, Ext.refl _ _, o5, q5⟩, ?_⟩
      rintro j n H6 ⟨rfl, hj, acc6, m6, e6, o6, q6⟩
      have hst1 := lcG_st q6
      have e06 := e05.trans e6 o5.cells
      by_cases hlt1 : j < ds1.length
      · refine .inr ⟨it1.go j m6 H6 hlt1 e6 o6 hst1, fun H2 => ∃ acc m', Ext m5 H5 m' H2 ∧ Ok K m' H2 ∧ lcG gt1 tt1 te st1 a (wipeD ρ3 vs1) (lcB a fun acc' m5 => lcG2 gt tt gi1 gt1 tt1 te vs1 st a (wipeD ρ (own.map (·.2))) Qd (ds.drop (i + 1)) acc' m5) (ds1.drop (j + 1)) acc m', fun H2 z => ⟨ds1.length - (j + 1), by omega, rfl, hlt1, z⟩, fun x1 H7 y1 => ?_⟩
        obtain ⟨d1, hd1, e7, o7, t7⟩ := it1.yld j m6 H6 x1 H7 hlt1 e6 o6 hst1 y1
        have hdr1 : ds1.drop j = d1 :: ds1.drop (j + 1) := by rw [List.drop_eq_getElem_cons hlt1]; rw [List.getElem?_eq_getElem hlt1] at hd1; cases hd1; rfl
        rw [hdr1] at q6
        have e07 := e06.trans e7 o6.cells
        have e67 := e6.trans e7 o6.cells
        refine ⟨d1, _, m6, _, co.ext cu o.cells e07, o7, sl_wipe (s4.ext (e5.trans e67 o5.cells)) _, t7, q6.2, fun ρ8 m8 σ8 H8 q8 e8 o8 s8 a8 => ?_⟩
        have e08 := e07.trans e8 o7.cells
        have e68 := e67.trans e8 o7.cells
        refine ⟨by rw [wipe_apart a8 hw1, wipe_wipe], ρ8, m8, _, co.ext cu o.cells e08, o8, s8, q8, fun b m9 H9 q9 e9 o9 => ?_⟩
        have e09 := e08.trans e9 o8.cells
        have e69 := e68.trans e9 o8.cells
        cases b with
        | false =>
          simp only [Bool.false_eq_true, if_false] at q9 ⊢
          exact ⟨acc6, m9, e69, o9, q9⟩
        | true =>
          simp only [if_true] at q9 ⊢
          refine ⟨ρ8, m9, _, co.ext cu o.cells e09, o9, s8.ext e9, q9, fun y10 m10 v10 H10 ⟨⟨h10, l10⟩, q10⟩ e10 o10 t10 => ?_⟩
          obtain ⟨vs, hv, tv⟩ := o10 a _ h10
          have e610 := e69.trans e10 o9.cells
          obtain ⟨e11, o11⟩ := put_lst o10 h10 (tv.append (.cons t10 .nil))
          exact ⟨vs, hv, by rw [tv.length]; exact l10, acc6 ++ [y10], _, e610.trans e11 o10.cells, o11, q10⟩
      · have e : j = ds1.length := by omega
        subst e
        rw [List.drop_length] at q6
        obtain ⟨_, h6, q6⟩ := q6
        unfold lcB at q6
        simp only [put_back h6] at q6
        exact .inl ⟨it1.stop m6 H6 e6 o6 hst1, acc6, m6, e15.trans e6 o5.cells, o6, q6⟩
  · have e : i = ds.length := by omega
    subst e
    rw [List.drop_length] at q'
    obtain ⟨_, h5, q5⟩ := q'
    obtain ⟨vs, hv, tv⟩ := o' a _ h5
    exact .inl ⟨it.stop m' H' e' o' hst, k (.lst acc) (m'.put a none) (.ref a) H' q5 (e01.trans ext_free o'.cells) (ok_free o') (.lst hv Mu.put_same (tv.ext ext_free))⟩
theorem de_lc2 (hc : X.calm = true) (hN : X.N.Nodup) (hi : DI X tg iter gi) (ok : BlkOk X.N X.env.scope scope own) (hw : ∀ i ∈ ws, i ∈ own.map (·.2)) (hw1 : ∀ i ∈ ws1, i ∈ vs1) (hv : ∀ i ∈ vs1, i ∈ own.map (·.2))
    (hg : ∀ (s : Shared) (H : Hp) (C : Addr) (cl : List (Str × Addr)) (fp : List Addr), DG (X.blk s H scope (compEnvC scope cl C X.env) fp) tg ws gt) (ht : ∀ (s : Shared) (H : Hp) (C : Addr) (cl : List (Str × Addr)) (fp : List Addr), DTs (X.blk s H scope (compEnvC scope cl C X.env) fp) ifs tt)
    (hi1 : ∀ (s : Shared) (H : Hp) (C : Addr) (cl : List (Str × Addr)) (fp : List Addr), DI (X.blk s H scope (compEnvC scope cl C X.env) fp) tg1 iter1 gi1)
    (hg1 : ∀ (s : Shared) (H : Hp) (C : Addr) (cl : List (Str × Addr)) (fp : List Addr), DG (X.blk s H scope (compEnvC scope cl C X.env) fp) tg1 ws1 gt1) (ht1 : ∀ (s : Shared) (H : Hp) (C : Addr) (cl : List (Str × Addr)) (fp : List Addr), DTs (X.blk s H scope (compEnvC scope cl C X.env) fp) ifs1 tt1)
    (he : ∀ (s : Shared) (H : Hp) (C : Addr) (cl : List (Str × Addr)) (fp : List Addr), DE (X.blk s H scope (compEnvC scope cl C X.env) fp) elt te) (hs : ∀ x, foldedSetIterable iter X.env x = pure x := by intro _; rfl) (hs1 : ∀ env x, foldedSetIterable iter1 env x = pure x := by intro _ _; rfl) :
    DE X (.ListComp elt [⟨tg, iter, ifs, 0⟩, ⟨tg1, iter1, ifs1, 0⟩] scope pos) (gLc2 gi gt tt gi1 gt1 tt1 te (own.map (·.2)) vs1) := ⟨fun cur W ex co tk lk =>
  pe_imp (pe_lc2 (vs1 := vs1) hc hN (hi.run cur W ex co tk lk) ok hv (fun s H C cl fp => (hg s H C cl fp).run cur _ noX co (takes_no (xe := fun _ _ => False)) lk_no) (fun s H C cl fp => (ht s H C cl fp).run cur _ noX co (takes_no (xe := fun _ _ => False)) lk_no)
    (fun s H C cl fp => (hi1 s H C cl fp).run cur _ noX co (takes_no (xe := fun _ _ => False)) lk_no) (fun s H C cl fp => (hg1 s H C cl fp).run cur _ noX co (takes_no (xe := fun _ _ => False)) lk_no) (fun s H C cl fp => (ht1 s H C cl fp).run cur _ noX co (takes_no (xe := fun _ _ => False)) lk_no)
    (fun s H C cl fp => (he s H C cl fp).run cur _ noX co (takes_no (xe := fun _ _ => False)) lk_no) hs hs1) fun σ H Q h => lc_imp2 co hw hw1 h⟩
end
end Nd

namespace Nd
open PySem L2 PyProof.Rows PySem.Spec
/-! the terms, one step each -/
section
variable {ex : Exx} {ρ r : Env} {m : Mu} {Q : D → Mu → Prop} {R : List D → Mu → Prop} {T : Bool → Mu → Prop} {G : Gn} {f g h : GE} {c c2 : GT} {ga : GA} {s t : GS} {tg : GG} {gs : GGs} {d d2 d3 : D} {ds : List D} {N : Env → Mu → Prop} {O : Option Int → Mu → Prop} {N2 N3 : Env → Mu → Prop}
theorem u_sNx : sNx ex G ρ m = G.nx ρ m := rfl
theorem u_sSeq : sSeq s t ex G ρ m = s ex { nx := t ex G, rt := G.rt, bk := G.bk, ct := G.ct } ρ m := rfl
theorem u_nx : (Gn.mk N Q N2 N3).nx = N := rfl
theorem u_rt : (Gn.mk N Q N2 N3).rt = Q := rfl
theorem u_bk : (Gn.mk N Q N2 N3).bk = N2 := rfl
theorem u_ct : (Gn.mk N Q N2 N3).ct = N3 := rfl
theorem u_sBreak : sBreak ex G ρ m = G.bk ρ m := rfl
theorem u_sCont : sCont ex G ρ m = G.ct ρ m := rfl
theorem u_sDrop : sDrop f ex G ρ m = f ex ρ m fun _ m2 => G.nx ρ m2 := rfl
theorem u_sRet : sRet f ex G ρ m = f ex ρ m G.rt := rfl
theorem u_sRetN : sRetN ex G ρ m = G.rt .non m := rfl
theorem u_sIf : sIf c s t ex G ρ m = c ex ρ m fun b m2 => if b = true then s ex G ρ m2 else t ex G ρ m2 := rfl
theorem u_sAsg : sAsg f tg ex G ρ m = f ex ρ m fun d m2 => tg ex d ρ m2 G.nx := rfl
theorem u_gC : gC d ex ρ m Q = Q d m := rfl
theorem u_aNil : aNil ex ρ m R = R [] m := rfl
theorem u_aCons : aCons f ga ex ρ m R = f ex ρ m fun d m1 => ga ex ρ m1 fun ds m2 => R (d :: ds) m2 := rfl
theorem u_gTup : gTup ga ex ρ m Q = ga ex ρ m fun ds m2 => ds.length ≤ sizeLine ∧ Q (.tup ds) m2 := rfl
theorem u_gLst : gLst ga ex ρ m Q = ga ex ρ m fun ds m2 => ds.length ≤ sizeLine ∧ Q (.lst ds) m2 := rfl
theorem u_gLstM : gLstM ga ex ρ m Q = ga ex ρ m fun ds m2 => ds.length ≤ sizeLine ∧ ∀ a, m2 a = none → Q (.cel a) (m2.put a (some (.lst ds))) := rfl
theorem u_gBin {o : DR2} : gBin o f g ex ρ m Q = f ex ρ m fun x m1 => g ex ρ m1 fun y m2 => o x y m2 Q := rfl
theorem u_cVal : cVal f ex ρ m T = f ex ρ m fun d m2 => onBl d fun b => T b m2 := rfl
theorem u_onBl {W : Bool → Prop} {b : Bool} : onBl (.bl b) W = W b := rfl
theorem u_onInt {W : Int → Prop} {b : Int} : onInt (.int b) W = W b := rfl
theorem u_onStr {W : Str → Prop} {b : Str} : onStr (.str b) W = W b := rfl
theorem u_gChain {o p : DR2} : gChain o p f g h ex ρ m Q = f ex ρ m fun x m1 => g ex ρ m1 fun y m2 => o x y m2 fun z m3 => onBl z fun b => if b = true then h ex ρ m3 fun w m4 => p y w m4 Q else Q (.bl false) m3 := rfl
theorem u_cAnd : cAnd c c2 ex ρ m T = c ex ρ m fun b m2 => if b = true then c2 ex ρ m2 T else T false m2 := rfl
theorem u_cOr : cOr c c2 ex ρ m T = c ex ρ m fun b m2 => if b = true then T true m2 else c2 ex ρ m2 T := rfl
theorem u_cNot : cNot c ex ρ m T = c ex ρ m fun b m2 => T (!b) m2 := rfl
theorem u_gAnd : gAnd f g ex ρ m Q = f ex ρ m fun d m2 => onBl d fun b => if b = true then g ex ρ m2 Q else Q (.bl false) m2 := rfl
theorem u_gOr : gOr f g ex ρ m Q = f ex ρ m fun d m2 => onBl d fun b => if b = true then Q (.bl true) m2 else g ex ρ m2 Q := rfl
theorem u_gNot : gNot f ex ρ m Q = f ex ρ m fun d m2 => onBl d fun b => Q (.bl (!b)) m2 := rfl
theorem u_gIf : gIf c f g ex ρ m Q = c ex ρ m fun b m2 => if b = true then f ex ρ m2 Q else g ex ρ m2 Q := rfl
theorem u_gNeg : gNeg f ex ρ m Q = f ex ρ m fun d m2 => onInt d fun i => Q (.int (-i)) m2 := rfl
theorem u_nNil : nNil ex [] ρ m N = ([] = ([] : List D) ∧ N ρ m) := rfl
theorem u_nCons : nCons tg gs ex (d :: ds) ρ m N = tg ex d ρ m fun ρ2 m2 => gs ex ds ρ2 m2 N := rfl
theorem u_nTup {n : Nat} : nTup n gs ex (.tup ds) ρ m N = (ds.length = n ∧ gs ex ds ρ m N) := rfl
theorem u_nSub : nSub f g ex d ρ m N = f ex ρ m fun d1 m1 => onCell m1 d1 fun a _ => g ex ρ m1 fun x m2 => onCell m2 d1 fun a ds => onInt x fun k => onSome (ixN ds.length k) fun j => N ρ (m2.put a (some (.lst (ds.set j d)))) := rfl
theorem u_gCB {o : DRC} : gCB o ga ex ρ m Q = ga ex ρ m fun ds m2 => o ds m2 Q := rfl
theorem u_gCall {S : Spec} {dd : List D} : gCall S dd ga ex ρ m Q = ga ex ρ m fun ds m1 => S (ds ++ dd) m1 Q fun y m2 => ex y ρ m2 := rfl
theorem u_gM0 {o : DRM} : gM0 o f ex ρ m Q = f ex ρ m fun d m1 => onStr d fun a => o a [] m1 Q := rfl
theorem u_gM1 {o : DRM} : gM1 o f g ex ρ m Q = f ex ρ m fun d m1 => onStr d fun a => g ex ρ m1 fun x m2 => o a [x] m2 Q := rfl
theorem u_gL {o : DRL} : gL o f ga ex ρ m Q = f ex ρ m fun d m1 => onCell m1 d fun _ _ => ga ex ρ m1 fun ds m2 => onCell m2 d fun a ws => o a ws ds m2 Q := rfl
theorem u_gL0 {o : DRL} : gL0 o f ex ρ m Q = f ex ρ m fun d m1 => onCell m1 d fun a ws => o a ws [] m1 Q := rfl
theorem u_oNo : oNo ex ρ m O = O none m := rfl
theorem u_oSome : oSome f ex ρ m O = f ex ρ m fun d m2 => onInt d fun i => O (some i) m2 := rfl
theorem u_gSl {l u : GO} : gSl f l u ex ρ m Q = f ex ρ m fun x m1 => l ex ρ m1 fun lo m2 => u ex ρ m2 fun hi m3 => dSl x lo hi m3 Q := rfl
theorem u_cYes : cYes ex ρ m T = T true m := rfl
theorem u_on1 {W : D → Prop} : on1 [d] W = W d := rfl
theorem u_on2 {W : D → D → Prop} : on2 [d, d2] W = W d d2 := rfl
theorem u_dInt {C : Int → Int → Prop} {o : Int → Int → D} {i j : Int} : dInt C o (.int i) (.int j) m Q = (C i j ∧ Q (o i j) m) := rfl
theorem u_dInt0 {o : Int → Int → D} {i j : Int} : dInt0 o (.int i) (.int j) m Q = Q (o i j) m := rfl
theorem u_gLc {gi : GI} {vs : List Nat} : gLc gi tg c f vs ex ρ m Q = gi ex ρ m fun ds st m1 => ∀ a, m1 a = none → lcG tg c f st a (wipeD ρ vs) Q ds [] (m1.put a (some (.lst []))) := rfl
theorem u_gLcM {gi : GI} {vs : List Nat} : gLcM gi tg c f vs ex ρ m Q = gi ex ρ m fun ds st m1 => ∀ a, m1 a = none → lcG tg c f st a (wipeD ρ vs) (fun d m2 => match d with | .lst acc => Q (.cel a) (m2.put a (some (.lst acc))) | _ => False) ds [] (m1.put a (some (.lst []))) := rfl
theorem u_gLc2 {gi gi2 : GI} {tg2 : GG} {vs vs2 : List Nat} : gLc2 gi tg c gi2 tg2 c2 f vs vs2 ex ρ m Q = gi ex ρ m fun ds st m1 => ∀ a, m1 a = none → lcG2 tg c gi2 tg2 c2 f vs2 st a (wipeD ρ vs) Q ds [] (m1.put a (some (.lst []))) := rfl
theorem u_sNever : sNever ex G ρ m = False := rfl
theorem u_iEnS {I : IQ} {z : Str} : enB m (.str z) I = I (enD (sgs z)) (fun _ => True) m := rfl
theorem u_iEnL {I : IQ} : enB m (.lst ds) I = I (enD ds) (fun _ => True) m := rfl
theorem u_iEnumD {I : IQ} : iEnumD ga ex ρ m I = ga ex ρ m fun ds m2 => on1 ds fun d => enB m2 d I := rfl
theorem u_iZipD {I : IQ} : iZipD ga ex ρ m I = ga ex ρ m fun ds m2 => on2 ds fun d e => zipB m2 d e I := rfl
theorem u_zipS {I : IQ} {z y : Str} : zipB m (.str z) (.str y) I = I (zipD (sgs z) (sgs y)) (fun _ => True) m := rfl
theorem u_zipL {I : IQ} {es : List D} : zipB m (.lst ds) (.lst es) I = I (zipD ds es) (fun _ => True ∧ True) m := rfl
theorem u_iSeq {I : IQ} : iSeq f ex ρ m I = f ex ρ m fun d m2 => itemsD m2 d fun ds st => I ds st m2 := rfl
theorem u_iRange1 {I : IQ} : iRange1 ga ex ρ m I = ga ex ρ m fun ds m2 => on1 ds fun d => onInt d fun j => sml j ∧ I (rangeD 0 j.toNat) (fun _ => True) m2 := rfl
theorem u_iRange2 {I : IQ} : iRange2 ga ex ρ m I = ga ex ρ m fun ds m2 => on2 ds fun d e => onInt d fun i => onInt e fun j => (sml i ∧ sml j) ∧ I (rangeD i (j - i).toNat) (fun _ => True) m2 := rfl
theorem u_sWhile : sWhile c s ex G ρ m = ∃ W : Nat → Env → Mu → Prop, (∃ n, W n ρ m) ∧ ∀ n ρ m, W n ρ m → c ex ρ m fun b m1 => if b = true then ∃ N : Env → Mu → Prop, (∀ ρ2 m2, N ρ2 m2 → ∃ n2, n2 < n ∧ W n2 ρ2 m2) ∧ s ex { nx := N, rt := G.rt, bk := G.nx, ct := N } ρ m1 else G.nx ρ m1 := rfl
theorem u_iRange3 {I : IQ} : iRange3 ga ex ρ m I = ga ex ρ m fun ds m2 => on3 ds fun d e f => onInt d fun i => onInt e fun j => onInt f fun c => ∃ n, RgC i j c n ∧ I (rangeC i c n) (fun _ => True) m2 := rfl
theorem u_on3 {W : D → D → D → Prop} : on3 [d, d2, d3] W = W d d2 d3 := rfl
theorem u_sFor {gi : GI} : sFor gi tg s ex G ρ m = gi ex ρ m fun ds st m1 => forG ex tg s st G ds ρ m1 := rfl
theorem u_dMax2 {i j : Int} : dMax2 [.int i, .int j] m Q = Q (.int (if j > i then j else i)) m := rfl
theorem u_dMin2 {i j : Int} : dMin2 [.int i, .int j] m Q = Q (.int (if j < i then j else i)) m := rfl
theorem u_gDct0 : gDct0 ex ρ m Q = Q (.dct []) m := rfl
theorem u_gVar0 : gVar 0 ex (some d :: r) m Q = Q d m := rfl
theorem u_sSet0 {y : Option D} : sSet 0 f ex G (y :: r) m = f ex (y :: r) m fun d m2 => G.nx (some d :: r) m2 := rfl
theorem u_nName0 {y : Option D} : nName 0 ex d (y :: r) m N = N (some d :: r) m := rfl
theorem u_gVar1 {x0 : Option D} : gVar 1 ex (x0 :: some d :: r) m Q = Q d m := rfl
theorem u_sSet1 {x0 : Option D} {y : Option D} : sSet 1 f ex G (x0 :: y :: r) m = f ex (x0 :: y :: r) m fun d m2 => G.nx (x0 :: some d :: r) m2 := rfl
theorem u_nName1 {x0 : Option D} {y : Option D} : nName 1 ex d (x0 :: y :: r) m N = N (x0 :: some d :: r) m := rfl
theorem u_gVar2 {x0 x1 : Option D} : gVar 2 ex (x0 :: x1 :: some d :: r) m Q = Q d m := rfl
theorem u_sSet2 {x0 x1 : Option D} {y : Option D} : sSet 2 f ex G (x0 :: x1 :: y :: r) m = f ex (x0 :: x1 :: y :: r) m fun d m2 => G.nx (x0 :: x1 :: some d :: r) m2 := rfl
theorem u_nName2 {x0 x1 : Option D} {y : Option D} : nName 2 ex d (x0 :: x1 :: y :: r) m N = N (x0 :: x1 :: some d :: r) m := rfl
theorem u_gVar3 {x0 x1 x2 : Option D} : gVar 3 ex (x0 :: x1 :: x2 :: some d :: r) m Q = Q d m := rfl
theorem u_sSet3 {x0 x1 x2 : Option D} {y : Option D} : sSet 3 f ex G (x0 :: x1 :: x2 :: y :: r) m = f ex (x0 :: x1 :: x2 :: y :: r) m fun d m2 => G.nx (x0 :: x1 :: x2 :: some d :: r) m2 := rfl
theorem u_nName3 {x0 x1 x2 : Option D} {y : Option D} : nName 3 ex d (x0 :: x1 :: x2 :: y :: r) m N = N (x0 :: x1 :: x2 :: some d :: r) m := rfl
theorem u_gVar4 {x0 x1 x2 x3 : Option D} : gVar 4 ex (x0 :: x1 :: x2 :: x3 :: some d :: r) m Q = Q d m := rfl
theorem u_sSet4 {x0 x1 x2 x3 : Option D} {y : Option D} : sSet 4 f ex G (x0 :: x1 :: x2 :: x3 :: y :: r) m = f ex (x0 :: x1 :: x2 :: x3 :: y :: r) m fun d m2 => G.nx (x0 :: x1 :: x2 :: x3 :: some d :: r) m2 := rfl
theorem u_nName4 {x0 x1 x2 x3 : Option D} {y : Option D} : nName 4 ex d (x0 :: x1 :: x2 :: x3 :: y :: r) m N = N (x0 :: x1 :: x2 :: x3 :: some d :: r) m := rfl
theorem u_gVar5 {x0 x1 x2 x3 x4 : Option D} : gVar 5 ex (x0 :: x1 :: x2 :: x3 :: x4 :: some d :: r) m Q = Q d m := rfl
theorem u_sSet5 {x0 x1 x2 x3 x4 : Option D} {y : Option D} : sSet 5 f ex G (x0 :: x1 :: x2 :: x3 :: x4 :: y :: r) m = f ex (x0 :: x1 :: x2 :: x3 :: x4 :: y :: r) m fun d m2 => G.nx (x0 :: x1 :: x2 :: x3 :: x4 :: some d :: r) m2 := rfl
theorem u_nName5 {x0 x1 x2 x3 x4 : Option D} {y : Option D} : nName 5 ex d (x0 :: x1 :: x2 :: x3 :: x4 :: y :: r) m N = N (x0 :: x1 :: x2 :: x3 :: x4 :: some d :: r) m := rfl
theorem u_gVar6 {x0 x1 x2 x3 x4 x5 : Option D} : gVar 6 ex (x0 :: x1 :: x2 :: x3 :: x4 :: x5 :: some d :: r) m Q = Q d m := rfl
theorem u_sSet6 {x0 x1 x2 x3 x4 x5 : Option D} {y : Option D} : sSet 6 f ex G (x0 :: x1 :: x2 :: x3 :: x4 :: x5 :: y :: r) m = f ex (x0 :: x1 :: x2 :: x3 :: x4 :: x5 :: y :: r) m fun d m2 => G.nx (x0 :: x1 :: x2 :: x3 :: x4 :: x5 :: some d :: r) m2 := rfl
theorem u_nName6 {x0 x1 x2 x3 x4 x5 : Option D} {y : Option D} : nName 6 ex d (x0 :: x1 :: x2 :: x3 :: x4 :: x5 :: y :: r) m N = N (x0 :: x1 :: x2 :: x3 :: x4 :: x5 :: some d :: r) m := rfl
theorem u_gVar7 {x0 x1 x2 x3 x4 x5 x6 : Option D} : gVar 7 ex (x0 :: x1 :: x2 :: x3 :: x4 :: x5 :: x6 :: some d :: r) m Q = Q d m := rfl
theorem u_sSet7 {x0 x1 x2 x3 x4 x5 x6 : Option D} {y : Option D} : sSet 7 f ex G (x0 :: x1 :: x2 :: x3 :: x4 :: x5 :: x6 :: y :: r) m = f ex (x0 :: x1 :: x2 :: x3 :: x4 :: x5 :: x6 :: y :: r) m fun d m2 => G.nx (x0 :: x1 :: x2 :: x3 :: x4 :: x5 :: x6 :: some d :: r) m2 := rfl
theorem u_nName7 {x0 x1 x2 x3 x4 x5 x6 : Option D} {y : Option D} : nName 7 ex d (x0 :: x1 :: x2 :: x3 :: x4 :: x5 :: x6 :: y :: r) m N = N (x0 :: x1 :: x2 :: x3 :: x4 :: x5 :: x6 :: some d :: r) m := rfl
theorem u_gVar8 {x0 x1 x2 x3 x4 x5 x6 x7 : Option D} : gVar 8 ex (x0 :: x1 :: x2 :: x3 :: x4 :: x5 :: x6 :: x7 :: some d :: r) m Q = Q d m := rfl
theorem u_sSet8 {x0 x1 x2 x3 x4 x5 x6 x7 : Option D} {y : Option D} : sSet 8 f ex G (x0 :: x1 :: x2 :: x3 :: x4 :: x5 :: x6 :: x7 :: y :: r) m = f ex (x0 :: x1 :: x2 :: x3 :: x4 :: x5 :: x6 :: x7 :: y :: r) m fun d m2 => G.nx (x0 :: x1 :: x2 :: x3 :: x4 :: x5 :: x6 :: x7 :: some d :: r) m2 := rfl
theorem u_nName8 {x0 x1 x2 x3 x4 x5 x6 x7 : Option D} {y : Option D} : nName 8 ex d (x0 :: x1 :: x2 :: x3 :: x4 :: x5 :: x6 :: x7 :: y :: r) m N = N (x0 :: x1 :: x2 :: x3 :: x4 :: x5 :: x6 :: x7 :: some d :: r) m := rfl
theorem u_gVar9 {x0 x1 x2 x3 x4 x5 x6 x7 x8 : Option D} : gVar 9 ex (x0 :: x1 :: x2 :: x3 :: x4 :: x5 :: x6 :: x7 :: x8 :: some d :: r) m Q = Q d m := rfl
theorem u_sSet9 {x0 x1 x2 x3 x4 x5 x6 x7 x8 : Option D} {y : Option D} : sSet 9 f ex G (x0 :: x1 :: x2 :: x3 :: x4 :: x5 :: x6 :: x7 :: x8 :: y :: r) m = f ex (x0 :: x1 :: x2 :: x3 :: x4 :: x5 :: x6 :: x7 :: x8 :: y :: r) m fun d m2 => G.nx (x0 :: x1 :: x2 :: x3 :: x4 :: x5 :: x6 :: x7 :: x8 :: some d :: r) m2 := rfl
theorem u_nName9 {x0 x1 x2 x3 x4 x5 x6 x7 x8 : Option D} {y : Option D} : nName 9 ex d (x0 :: x1 :: x2 :: x3 :: x4 :: x5 :: x6 :: x7 :: x8 :: y :: r) m N = N (x0 :: x1 :: x2 :: x3 :: x4 :: x5 :: x6 :: x7 :: x8 :: some d :: r) m := rfl
theorem u_gVar10 {x0 x1 x2 x3 x4 x5 x6 x7 x8 x9 : Option D} : gVar 10 ex (x0 :: x1 :: x2 :: x3 :: x4 :: x5 :: x6 :: x7 :: x8 :: x9 :: some d :: r) m Q = Q d m := rfl
theorem u_sSet10 {x0 x1 x2 x3 x4 x5 x6 x7 x8 x9 : Option D} {y : Option D} : sSet 10 f ex G (x0 :: x1 :: x2 :: x3 :: x4 :: x5 :: x6 :: x7 :: x8 :: x9 :: y :: r) m = f ex (x0 :: x1 :: x2 :: x3 :: x4 :: x5 :: x6 :: x7 :: x8 :: x9 :: y :: r) m fun d m2 => G.nx (x0 :: x1 :: x2 :: x3 :: x4 :: x5 :: x6 :: x7 :: x8 :: x9 :: some d :: r) m2 := rfl
theorem u_nName10 {x0 x1 x2 x3 x4 x5 x6 x7 x8 x9 : Option D} {y : Option D} : nName 10 ex d (x0 :: x1 :: x2 :: x3 :: x4 :: x5 :: x6 :: x7 :: x8 :: x9 :: y :: r) m N = N (x0 :: x1 :: x2 :: x3 :: x4 :: x5 :: x6 :: x7 :: x8 :: x9 :: some d :: r) m := rfl
theorem u_gVar11 {x0 x1 x2 x3 x4 x5 x6 x7 x8 x9 x10 : Option D} : gVar 11 ex (x0 :: x1 :: x2 :: x3 :: x4 :: x5 :: x6 :: x7 :: x8 :: x9 :: x10 :: some d :: r) m Q = Q d m := rfl
theorem u_sSet11 {x0 x1 x2 x3 x4 x5 x6 x7 x8 x9 x10 : Option D} {y : Option D} : sSet 11 f ex G (x0 :: x1 :: x2 :: x3 :: x4 :: x5 :: x6 :: x7 :: x8 :: x9 :: x10 :: y :: r) m = f ex (x0 :: x1 :: x2 :: x3 :: x4 :: x5 :: x6 :: x7 :: x8 :: x9 :: x10 :: y :: r) m fun d m2 => G.nx (x0 :: x1 :: x2 :: x3 :: x4 :: x5 :: x6 :: x7 :: x8 :: x9 :: x10 :: some d :: r) m2 := rfl
theorem u_nName11 {x0 x1 x2 x3 x4 x5 x6 x7 x8 x9 x10 : Option D} {y : Option D} : nName 11 ex d (x0 :: x1 :: x2 :: x3 :: x4 :: x5 :: x6 :: x7 :: x8 :: x9 :: x10 :: y :: r) m N = N (x0 :: x1 :: x2 :: x3 :: x4 :: x5 :: x6 :: x7 :: x8 :: x9 :: x10 :: some d :: r) m := rfl
theorem u_gVar12 {x0 x1 x2 x3 x4 x5 x6 x7 x8 x9 x10 x11 : Option D} : gVar 12 ex (x0 :: x1 :: x2 :: x3 :: x4 :: x5 :: x6 :: x7 :: x8 :: x9 :: x10 :: x11 :: some d :: r) m Q = Q d m := rfl
theorem u_sSet12 {x0 x1 x2 x3 x4 x5 x6 x7 x8 x9 x10 x11 : Option D} {y : Option D} : sSet 12 f ex G (x0 :: x1 :: x2 :: x3 :: x4 :: x5 :: x6 :: x7 :: x8 :: x9 :: x10 :: x11 :: y :: r) m = f ex (x0 :: x1 :: x2 :: x3 :: x4 :: x5 :: x6 :: x7 :: x8 :: x9 :: x10 :: x11 :: y :: r) m fun d m2 => G.nx (x0 :: x1 :: x2 :: x3 :: x4 :: x5 :: x6 :: x7 :: x8 :: x9 :: x10 :: x11 :: some d :: r) m2 := rfl
theorem u_nName12 {x0 x1 x2 x3 x4 x5 x6 x7 x8 x9 x10 x11 : Option D} {y : Option D} : nName 12 ex d (x0 :: x1 :: x2 :: x3 :: x4 :: x5 :: x6 :: x7 :: x8 :: x9 :: x10 :: x11 :: y :: r) m N = N (x0 :: x1 :: x2 :: x3 :: x4 :: x5 :: x6 :: x7 :: x8 :: x9 :: x10 :: x11 :: some d :: r) m := rfl
theorem u_gVar13 {x0 x1 x2 x3 x4 x5 x6 x7 x8 x9 x10 x11 x12 : Option D} : gVar 13 ex (x0 :: x1 :: x2 :: x3 :: x4 :: x5 :: x6 :: x7 :: x8 :: x9 :: x10 :: x11 :: x12 :: some d :: r) m Q = Q d m := rfl
theorem u_sSet13 {x0 x1 x2 x3 x4 x5 x6 x7 x8 x9 x10 x11 x12 : Option D} {y : Option D} : sSet 13 f ex G (x0 :: x1 :: x2 :: x3 :: x4 :: x5 :: x6 :: x7 :: x8 :: x9 :: x10 :: x11 :: x12 :: y :: r) m = f ex (x0 :: x1 :: x2 :: x3 :: x4 :: x5 :: x6 :: x7 :: x8 :: x9 :: x10 :: x11 :: x12 :: y :: r) m fun d m2 => G.nx (x0 :: x1 :: x2 :: x3 :: x4 :: x5 :: x6 :: x7 :: x8 :: x9 :: x10 :: x11 :: x12 :: some d :: r) m2 := rfl
theorem u_nName13 {x0 x1 x2 x3 x4 x5 x6 x7 x8 x9 x10 x11 x12 : Option D} {y : Option D} : nName 13 ex d (x0 :: x1 :: x2 :: x3 :: x4 :: x5 :: x6 :: x7 :: x8 :: x9 :: x10 :: x11 :: x12 :: y :: r) m N = N (x0 :: x1 :: x2 :: x3 :: x4 :: x5 :: x6 :: x7 :: x8 :: x9 :: x10 :: x11 :: x12 :: some d :: r) m := rfl
theorem u_gVar14 {x0 x1 x2 x3 x4 x5 x6 x7 x8 x9 x10 x11 x12 x13 : Option D} : gVar 14 ex (x0 :: x1 :: x2 :: x3 :: x4 :: x5 :: x6 :: x7 :: x8 :: x9 :: x10 :: x11 :: x12 :: x13 :: some d :: r) m Q = Q d m := rfl
theorem u_sSet14 {x0 x1 x2 x3 x4 x5 x6 x7 x8 x9 x10 x11 x12 x13 : Option D} {y : Option D} : sSet 14 f ex G (x0 :: x1 :: x2 :: x3 :: x4 :: x5 :: x6 :: x7 :: x8 :: x9 :: x10 :: x11 :: x12 :: x13 :: y :: r) m = f ex (x0 :: x1 :: x2 :: x3 :: x4 :: x5 :: x6 :: x7 :: x8 :: x9 :: x10 :: x11 :: x12 :: x13 :: y :: r) m fun d m2 => G.nx (x0 :: x1 :: x2 :: x3 :: x4 :: x5 :: x6 :: x7 :: x8 :: x9 :: x10 :: x11 :: x12 :: x13 :: some d :: r) m2 := rfl
theorem u_nName14 {x0 x1 x2 x3 x4 x5 x6 x7 x8 x9 x10 x11 x12 x13 : Option D} {y : Option D} : nName 14 ex d (x0 :: x1 :: x2 :: x3 :: x4 :: x5 :: x6 :: x7 :: x8 :: x9 :: x10 :: x11 :: x12 :: x13 :: y :: r) m N = N (x0 :: x1 :: x2 :: x3 :: x4 :: x5 :: x6 :: x7 :: x8 :: x9 :: x10 :: x11 :: x12 :: x13 :: some d :: r) m := rfl
theorem u_gVar15 {x0 x1 x2 x3 x4 x5 x6 x7 x8 x9 x10 x11 x12 x13 x14 : Option D} : gVar 15 ex (x0 :: x1 :: x2 :: x3 :: x4 :: x5 :: x6 :: x7 :: x8 :: x9 :: x10 :: x11 :: x12 :: x13 :: x14 :: some d :: r) m Q = Q d m := rfl
theorem u_sSet15 {x0 x1 x2 x3 x4 x5 x6 x7 x8 x9 x10 x11 x12 x13 x14 : Option D} {y : Option D} : sSet 15 f ex G (x0 :: x1 :: x2 :: x3 :: x4 :: x5 :: x6 :: x7 :: x8 :: x9 :: x10 :: x11 :: x12 :: x13 :: x14 :: y :: r) m = f ex (x0 :: x1 :: x2 :: x3 :: x4 :: x5 :: x6 :: x7 :: x8 :: x9 :: x10 :: x11 :: x12 :: x13 :: x14 :: y :: r) m fun d m2 => G.nx (x0 :: x1 :: x2 :: x3 :: x4 :: x5 :: x6 :: x7 :: x8 :: x9 :: x10 :: x11 :: x12 :: x13 :: x14 :: some d :: r) m2 := rfl
theorem u_nName15 {x0 x1 x2 x3 x4 x5 x6 x7 x8 x9 x10 x11 x12 x13 x14 : Option D} {y : Option D} : nName 15 ex d (x0 :: x1 :: x2 :: x3 :: x4 :: x5 :: x6 :: x7 :: x8 :: x9 :: x10 :: x11 :: x12 :: x13 :: x14 :: y :: r) m N = N (x0 :: x1 :: x2 :: x3 :: x4 :: x5 :: x6 :: x7 :: x8 :: x9 :: x10 :: x11 :: x12 :: x13 :: x14 :: some d :: r) m := rfl
theorem u_gVar16 {x0 x1 x2 x3 x4 x5 x6 x7 x8 x9 x10 x11 x12 x13 x14 x15 : Option D} : gVar 16 ex (x0 :: x1 :: x2 :: x3 :: x4 :: x5 :: x6 :: x7 :: x8 :: x9 :: x10 :: x11 :: x12 :: x13 :: x14 :: x15 :: some d :: r) m Q = Q d m := rfl
theorem u_sSet16 {x0 x1 x2 x3 x4 x5 x6 x7 x8 x9 x10 x11 x12 x13 x14 x15 : Option D} {y : Option D} : sSet 16 f ex G (x0 :: x1 :: x2 :: x3 :: x4 :: x5 :: x6 :: x7 :: x8 :: x9 :: x10 :: x11 :: x12 :: x13 :: x14 :: x15 :: y :: r) m = f ex (x0 :: x1 :: x2 :: x3 :: x4 :: x5 :: x6 :: x7 :: x8 :: x9 :: x10 :: x11 :: x12 :: x13 :: x14 :: x15 :: y :: r) m fun d m2 => G.nx (x0 :: x1 :: x2 :: x3 :: x4 :: x5 :: x6 :: x7 :: x8 :: x9 :: x10 :: x11 :: x12 :: x13 :: x14 :: x15 :: some d :: r) m2 := rfl
theorem u_nName16 {x0 x1 x2 x3 x4 x5 x6 x7 x8 x9 x10 x11 x12 x13 x14 x15 : Option D} {y : Option D} : nName 16 ex d (x0 :: x1 :: x2 :: x3 :: x4 :: x5 :: x6 :: x7 :: x8 :: x9 :: x10 :: x11 :: x12 :: x13 :: x14 :: x15 :: y :: r) m N = N (x0 :: x1 :: x2 :: x3 :: x4 :: x5 :: x6 :: x7 :: x8 :: x9 :: x10 :: x11 :: x12 :: x13 :: x14 :: x15 :: some d :: r) m := rfl
theorem u_gVar17 {x0 x1 x2 x3 x4 x5 x6 x7 x8 x9 x10 x11 x12 x13 x14 x15 x16 : Option D} : gVar 17 ex (x0 :: x1 :: x2 :: x3 :: x4 :: x5 :: x6 :: x7 :: x8 :: x9 :: x10 :: x11 :: x12 :: x13 :: x14 :: x15 :: x16 :: some d :: r) m Q = Q d m := rfl
theorem u_sSet17 {x0 x1 x2 x3 x4 x5 x6 x7 x8 x9 x10 x11 x12 x13 x14 x15 x16 : Option D} {y : Option D} : sSet 17 f ex G (x0 :: x1 :: x2 :: x3 :: x4 :: x5 :: x6 :: x7 :: x8 :: x9 :: x10 :: x11 :: x12 :: x13 :: x14 :: x15 :: x16 :: y :: r) m = f ex (x0 :: x1 :: x2 :: x3 :: x4 :: x5 :: x6 :: x7 :: x8 :: x9 :: x10 :: x11 :: x12 :: x13 :: x14 :: x15 :: x16 :: y :: r) m fun d m2 => G.nx (x0 :: x1 :: x2 :: x3 :: x4 :: x5 :: x6 :: x7 :: x8 :: x9 :: x10 :: x11 :: x12 :: x13 :: x14 :: x15 :: x16 :: some d :: r) m2 := rfl
theorem u_nName17 {x0 x1 x2 x3 x4 x5 x6 x7 x8 x9 x10 x11 x12 x13 x14 x15 x16 : Option D} {y : Option D} : nName 17 ex d (x0 :: x1 :: x2 :: x3 :: x4 :: x5 :: x6 :: x7 :: x8 :: x9 :: x10 :: x11 :: x12 :: x13 :: x14 :: x15 :: x16 :: y :: r) m N = N (x0 :: x1 :: x2 :: x3 :: x4 :: x5 :: x6 :: x7 :: x8 :: x9 :: x10 :: x11 :: x12 :: x13 :: x14 :: x15 :: x16 :: some d :: r) m := rfl
end
/-! plain facts of the operators -/
theorem eqd_refl {d : D} (f : flt d = true) : eqd d d = true := by
  have h : okd 40 d = true ∧ nodct 40 d = true := by unfold flt at f; simpa using f
  exact PySem.SeqAt.eqv_refl _ (okd_lay 40 40 d h.1 h.2)
def sg (c : Nat) : Str := ⟨#[c]⟩
theorem in_sg (x : Str) (c : Nat) : (!(Builtin.Str.occurrences x (sg c) 0 x.length 1).isEmpty) = decide (c ∈ x.cps.toList) := PySem.StrLaws.found_one x c
theorem ix_nat {α : Type} {xs : List α} {i : Int} (h0 : 0 ≤ i) : atI xs i = xs[i.toNat]? := by
  unfold atI ixN
  rw [if_pos h0]
  by_cases h : i < xs.length
  · rw [if_pos h]; rfl
  · rw [if_neg h]
    rw [List.getElem?_eq_none (by omega)]; rfl
theorem onSome_at {ds : List D} {i : Int} {P : D → Prop} (h0 : 0 ≤ i) (h1 : i < ds.length) (h : ∀ d, d ∈ ds → P d) : onSome (atI ds i) P := by
  rw [ix_nat h0]
  have hl : i.toNat < ds.length := by omega
  rw [List.getElem?_eq_getElem hl]
  exact h _ (List.getElem_mem hl)
section
variable {m : Mu} {Q : D → Mu → Prop} {a : Addr}
theorem onSome_some {α : Type} {x : α} {P : α → Prop} : onSome (some x) P = P x := rfl
theorem dAdd_int {i j : Int} : dAdd (.int i) (.int j) m Q = Q (.int (i + j)) m := rfl
theorem dAdd_str {i j : Str} : dAdd (.str i) (.str j) m Q = (i.length + j.length ≤ sizeLine ∧ Q (.str (i ++ j)) m) := rfl
theorem dAdd_lst {i j : List D} : dAdd (.lst i) (.lst j) m Q = (i.length + j.length ≤ sizeLine ∧ Q (.lst (i ++ j)) m) := rfl
theorem dAdd_tup {i j : List D} : dAdd (.tup i) (.tup j) m Q = (i.length + j.length ≤ sizeLine ∧ Q (.tup (i ++ j)) m) := rfl
theorem dMul_int {i j : Int} : dMul (.int i) (.int j) m Q = (CMul i j ∧ Q (.int (i * j)) m) := rfl
theorem dMul_str {z : Str} {i : Int} : dMul (.str z) (.int i) m Q = ((i ≤ 1000000 ∧ -(2 ^ 63) ≤ i ∧ z.length * i.toNat ≤ 16000000) ∧ Q (.str (Txt.mul z i)) m) := rfl
theorem dMul_lst {ds : List D} {i : Int} : dMul (.lst ds) (.int i) m Q = ((-(2 ^ 63) ≤ i ∧ i < 2 ^ 63 ∧ ds.length * i.toNat ≤ sizeLine) ∧ Q (.lst (List.replicate i.toNat ds).flatten) m) := rfl
theorem dIx_lst {ds : List D} {i : Int} : dIx (.lst ds) (.int i) m Q = onSome (atI ds i) (fun d => Q d m) := rfl
theorem dIx_ro {ds : List D} {i : Int} : dIx (.ro ds) (.int i) m Q = onSome (atI ds i) (fun d => Q d m) := rfl
theorem dIx_tup {ds : List D} {i : Int} : dIx (.tup ds) (.int i) m Q = onSome (atI ds i) (fun d => Q d m) := rfl
theorem dIx_str {z : Str} {i : Int} : dIx (.str z) (.int i) m Q = (z.length ≤ sizeLine ∧ onSome (atI z.cps.toList i) fun c => Q (.str ⟨#[c]⟩) m) := rfl
theorem vw_cel_lst {ds : List D} (h : m a = some (.lst ds)) : vw m (.cel a) = .lst ds := by simp [vw, h]
theorem vw_cel_box {n : Nat} (h : m a = some (.box n)) : vw m (.cel a) = .cel a := by simp [vw, h]
theorem vw_cel_dct {ds : List (Key × D)} (h : m a = some (.dct ds)) : vw m (.cel a) = .dct ds := by simp [vw, h]
theorem dIx_cel {ds : List D} {i : Int} (h : m a = some (.lst ds)) : dIx (.cel a) (.int i) m Q = onSome (atI ds i) (fun d => Q d m) := by simp [dIx, vw, h]
theorem onCell_cel {ds : List D} {P : Addr → List D → Prop} (h : m a = some (.lst ds)) : onCell m (.cel a) P = P a ds := by simp [onCell, h]
theorem vw_int {i : Int} : vw m (.int i) = .int i := rfl
theorem vw_str {i : Str} : vw m (.str i) = .str i := rfl
theorem vw_bl {i : Bool} : vw m (.bl i) = .bl i := rfl
theorem vw_non : vw m .non = .non := rfl
theorem vw_lst {ds : List D} : vw m (.lst ds) = .lst ds := rfl
theorem vw_tup {ds : List D} : vw m (.tup ds) = .tup ds := rfl
theorem vw_ro {ds : List D} : vw m (.ro ds) = .ro ds := rfl
theorem vw_dct {ds : List (Key × D)} : vw m (.dct ds) = .dct ds := rfl
theorem vw_obj {C : Addr} {ds : List (Str × D)} : vw m (.obj C ds) = .obj C ds := rfl
theorem vw_cls {c : V} : vw m (.cls c) = .cls c := rfl
theorem dLen_lst {ds : List D} : dLen [.lst ds] m Q = Q (.int ds.length) m := rfl
theorem dLen_tup {ds : List D} : dLen [.tup ds] m Q = Q (.int ds.length) m := rfl
theorem dLen_ro {ds : List D} : dLen [.ro ds] m Q = Q (.int ds.length) m := rfl
theorem dLen_dct {ds : List (Key × D)} : dLen [.dct ds] m Q = Q (.int ds.length) m := rfl
theorem dLen_str {z : Str} : dLen [.str z] m Q = (z.length ≤ sizeLine ∧ Q (.int z.length) m) := rfl
theorem dLen_cel {ds : List D} (h : m a = some (.lst ds)) : dLen [.cel a] m Q = Q (.int ds.length) m := by simp [dLen, on1, vw, h]
theorem atI_lit {α : Type} {xs : List α} {n : Nat} : atI xs (no_index (@OfNat.ofNat Int n _)) = xs[n]? := by
  show atI xs (n : Int) = _
  rw [ix_nat (Int.natCast_nonneg n)]; rfl
theorem ixN_lit {k n : Nat} : ixN k (no_index (@OfNat.ofNat Int n _)) = if n < k then some n else none := by
  show ixN k (n : Int) = _
  unfold ixN
  rw [if_pos (Int.natCast_nonneg n)]
  by_cases h : n < k
  · rw [if_pos h, if_pos (Int.ofNat_lt.mpr h)]; rfl
  · rw [if_neg h, if_neg fun z => h (Int.ofNat_lt.mp z)]
end
section
variable {m : Mu} {Q : D → Mu → Prop} {a : Addr}
theorem items_str {z : Str} {R : List D → (Mu → Prop) → Prop} : itemsD m (.str z) R = R (sgs z) fun _ => True := rfl
theorem items_lst {ds : List D} {R : List D → (Mu → Prop) → Prop} : itemsD m (.lst ds) R = R ds fun _ => True := rfl
theorem items_tup {ds : List D} {R : List D → (Mu → Prop) → Prop} : itemsD m (.tup ds) R = R ds fun _ => True := rfl
theorem items_ro {ds : List D} {R : List D → (Mu → Prop) → Prop} : itemsD m (.ro ds) R = R ds fun _ => True := rfl
theorem items_cel {ds : List D} {R : List D → (Mu → Prop) → Prop} (h : m a = some (.lst ds)) : itemsD m (.cel a) R = R ds fun m' => m' a = some (.lst ds) := by simp [itemsD, h]
theorem dAll_lst {ds : List D} : dAll [.lst ds] m Q = onSome (bls ds) fun bs => Q (.bl (bs.all id)) m := rfl
theorem dAny_lst {ds : List D} : dAny [.lst ds] m Q = onSome (bls ds) fun bs => Q (.bl (bs.any id)) m := rfl
theorem dSum_lst {ds : List D} : dSum [.lst ds] m Q = onSome (nums ds) fun bs => Q (.int bs.sum) m := rfl
theorem dIsi_ty {x : D} {n : String} : dIsi [x, .cls (.ty n)] m Q = onSome (kindD m x) fun t => (kinds.drop 1).contains n = true ∧ Q (.bl (isiT t n)) m := rfl
theorem dIsi_tup {x : D} {cs : List D} : dIsi [x, .tup cs] m Q = onSome (kindD m x) fun t => onSome (clsAll cs) fun ns => ns.all (fun n => (kinds.drop 1).contains n) = true ∧ Q (.bl (ns.any (isiT t))) m := rfl
theorem dIn_str {neg : Bool} {i j : Str} : dIn neg (.str i) (.str j) m Q = Q (.bl (neg != !(Builtin.Str.occurrences j i 0 j.length 1).isEmpty)) m := rfl
theorem dIs_bb {neg a b : Bool} : dIs neg (.bl a) (.bl b) m Q = Q (.bl (neg != decide (a = b))) m := rfl
theorem fld_str {z : Str} : fld (.str z) = true := rfl
theorem fld_int {z : Int} : fld (.int z) = true := rfl
theorem fld_bl {z : Bool} : fld (.bl z) = true := rfl
theorem fld_non : fld .non = true := rfl
theorem dIsW_bb {neg a b : Bool} : dIsW neg (.bl a) (.bl b) m Q = Q (.bl (neg != (a == b))) m := rfl
theorem dIsW_ib {neg b : Bool} {i : Int} : dIsW neg (.int i) (.bl b) m Q = Q (.bl (neg != false)) m := rfl
theorem dIsW_sb {neg b : Bool} {i : Str} : dIsW neg (.str i) (.bl b) m Q = Q (.bl (neg != false)) m := rfl
theorem dIsW_nb {neg b : Bool} : dIsW neg .non (.bl b) m Q = Q (.bl (neg != false)) m := rfl
theorem dIsW_lb {neg b : Bool} {ds : List D} : dIsW neg (.lst ds) (.bl b) m Q = Q (.bl (neg != false)) m := rfl
theorem dIsW_tb {neg b : Bool} {ds : List D} : dIsW neg (.tup ds) (.bl b) m Q = Q (.bl (neg != false)) m := rfl
theorem dIsW_db {neg b : Bool} {ds : List (Key × D)} : dIsW neg (.dct ds) (.bl b) m Q = Q (.bl (neg != false)) m := rfl
theorem dIsW_nn {neg : Bool} : dIsW neg .non .non m Q = Q (.bl (neg != true)) m := rfl
theorem dIsW_in {neg : Bool} {i : Int} : dIsW neg (.int i) .non m Q = Q (.bl (neg != false)) m := rfl
theorem dIsW_sn {neg : Bool} {i : Str} : dIsW neg (.str i) .non m Q = Q (.bl (neg != false)) m := rfl
theorem dIsW_ln {neg : Bool} {ds : List D} : dIsW neg (.lst ds) .non m Q = Q (.bl (neg != false)) m := rfl
theorem dIsW_tn {neg : Bool} {ds : List D} : dIsW neg (.tup ds) .non m Q = Q (.bl (neg != false)) m := rfl
theorem dStrI_i {i : Int} : dStrI [.int i] m Q = (i.natAbs.log2 < 1920 ∧ Q (.str (toString i)) m) := rfl
theorem dToInt_int {i : Int} : dToInt [.int i] m Q = Q (.int i) m := rfl
theorem dToInt_bl {b : Bool} : dToInt [.bl b] m Q = Q (.int (if b then 1 else 0)) m := rfl
theorem dListU_lst {ds : List D} : dListU [.lst ds] m Q = Q (.lst ds) m := rfl
theorem dListU_tup {ds : List D} : dListU [.tup ds] m Q = Q (.lst ds) m := rfl
theorem dListU_str {z : Str} : dListU [.str z] m Q = (z.length ≤ sizeLine ∧ Q (.lst (sgs z)) m) := rfl
theorem dListU_cel {ds : List D} (h : m a = some (.lst ds)) : dListU [.cel a] m Q = Q (.lst ds) m := by simp [dListU, on1, onSeq, vw, h]
theorem dListUM_lst {ds : List D} : dListUM [.lst ds] m Q = ∀ a, m a = none → Q (.cel a) (m.put a (some (.lst ds))) := rfl
theorem dListUM_tup {ds : List D} : dListUM [.tup ds] m Q = ∀ a, m a = none → Q (.cel a) (m.put a (some (.lst ds))) := rfl
theorem dListUM_str {z : Str} : dListUM [.str z] m Q = (z.length ≤ sizeLine ∧ ∀ a, m a = none → Q (.cel a) (m.put a (some (.lst (sgs z))))) := rfl
theorem dTuple_lst {ds : List D} : dTuple [.lst ds] m Q = Q (.tup ds) m := rfl
theorem dTuple_tup {ds : List D} : dTuple [.tup ds] m Q = Q (.tup ds) m := rfl
theorem dTuple_cel {ds : List D} (h : m a = some (.lst ds)) : dTuple [.cel a] m Q = Q (.tup ds) m := by simp [dTuple, on1, onSeq, vw, h]
theorem dIn_lst {neg : Bool} {x : D} {ds : List D} : dIn neg x (.lst ds) m Q = ((fld x = true ∧ ds.all fld = true) ∧ Q (.bl (neg != inD x ds)) m) := rfl
theorem dIn_tup {neg : Bool} {x : D} {ds : List D} : dIn neg x (.tup ds) m Q = ((fld x = true ∧ ds.all fld = true) ∧ Q (.bl (neg != inD x ds)) m) := rfl
theorem dIn_cel {neg : Bool} {x : D} {ds : List D} (h : m a = some (.lst ds)) : dIn neg x (.cel a) m Q = ((fld x = true ∧ ds.all fld = true) ∧ Q (.bl (neg != inD x ds)) m) := by simp [dIn, vw, h]
theorem dSl_str {z : Str} {lo hi : Option Int} : dSl (.str z) lo hi m Q = (z.length ≤ sizeLine ∧ Q (.str (cutS z lo hi)) m) := rfl
theorem dSl_lst {ds : List D} {lo hi : Option Int} : dSl (.lst ds) lo hi m Q = Q (.lst (cutD ds lo hi)) m := rfl
theorem dSl_tup {ds : List D} {lo hi : Option Int} : dSl (.tup ds) lo hi m Q = Q (.tup (cutD ds lo hi)) m := rfl
theorem kind_int {i : Int} : kindD m (.int i) = some "int" := rfl
theorem kind_bl {i : Bool} : kindD m (.bl i) = some "bool" := rfl
theorem kind_non : kindD m .non = some "NoneType" := rfl
theorem kind_str {i : Str} : kindD m (.str i) = some "str" := rfl
theorem kind_lst {i : List D} : kindD m (.lst i) = some "list" := rfl
theorem kind_tup {i : List D} : kindD m (.tup i) = some "tuple" := rfl
theorem kind_dct {i : List (Key × D)} : kindD m (.dct i) = some "dict" := rfl
theorem kc_int : (kinds.drop 1).contains "int" = true := by decide
theorem kc_bool : (kinds.drop 1).contains "bool" = true := by decide
theorem kc_str : (kinds.drop 1).contains "str" = true := by decide
theorem kc_list : (kinds.drop 1).contains "list" = true := by decide
theorem kc_tuple : (kinds.drop 1).contains "tuple" = true := by decide
theorem kc_dict : (kinds.drop 1).contains "dict" = true := by decide
theorem clsAll_lt : clsAll [.cls (.ty "list"), .cls (.ty "tuple")] = some ["list", "tuple"] := rfl
theorem all_lt : (["list", "tuple"].all fun n => (kinds.drop 1).contains n) = true := by decide
theorem any_lt_l : ["list", "tuple"].any (isiT "list") = true := by decide
theorem any_lt_t : ["list", "tuple"].any (isiT "tuple") = true := by decide
theorem any_lt_s : ["list", "tuple"].any (isiT "str") = false := by decide
theorem any_lt_i : ["list", "tuple"].any (isiT "int") = false := by decide
theorem any_lt_b : ["list", "tuple"].any (isiT "bool") = false := by decide
theorem any_lt_n : ["list", "tuple"].any (isiT "NoneType") = false := by decide
theorem any_lt_d : ["list", "tuple"].any (isiT "dict") = false := by decide
theorem onSeq_lst {ds : List D} {R : List D → Prop} : onSeq m (.lst ds) R = R ds := rfl
theorem onSeq_tup {ds : List D} {R : List D → Prop} : onSeq m (.tup ds) R = R ds := rfl
end
/-! boxes -/
def S__law_cell : Spec := fun ds m Q E => ∃ (ns : List Int) (k : Int), ds = [.ro (ns.map D.int), .int k] ∧ 0 ≤ k ∧ k < 1000 ∧ ∀ i : Int, Q (.int i) m
def S__law_box : Spec := fun ds m Q E => ∃ i : Int, ds = [.int i] ∧ ∀ a, m a = none → Q (.cel a) (m.put a (some (.box 0)))
def S__law_take : Spec := fun ds m Q E => ∃ (a : Addr) (n : Nat) (many : Int), ds = [.cel a, .int many] ∧ m a = some (.box n) ∧ 0 < many ∧ many < 1073741824 ∧ n < 4000000 ∧ ∀ r : Int, 0 ≤ r → r < many → Q (.int r) (m.put a (some (.box (n + 1))))
section
variable {P : Program} {w : World} {K : PySem.W.Frag} {mg : Str → Option Value} {base : Heap} {k : Nat} {f : Addr} {fd : FuncData}
theorem gh_box {m : Mu} {a : Addr} {x y z : Int} {n : Nat} (h : m a = some (.lst [.int x, .int y, .int z])) (h1 : 0 ≤ y) (h2 : y < 2147483647) (h3 : 0 ≤ z) (h4 : z ≤ n) (d : D) (hd : d = .cel a ∨ ∃ i, d = .int i) : Gh K m d (m.put a (some (.box n))) d := by
  intro H v o t
  obtain ⟨vs, hv, tv⟩ := o a _ h
  have e : Ext m H (m.put a (some (.box n))) H := ⟨fun _ _ h _ => h, fun b hb => by
    by_cases q : b = a
    · left; rw [q, h]; simp
    · rw [Mu.put_ne q] at hb; exact .inl hb⟩
  refine ⟨e, fun b c hb => ?_, t.ext e⟩
  by_cases q : b = a
  · subst q
    rw [Mu.put_same] at hb
    cases hb
    cases tv with
    | cons t1 r =>
      cases r with
      | cons t2 r =>
        cases r with
        | cons t3 r =>
          cases r
          cases t1
          cases t2
          cases t3
          exact ⟨x, y, z, hv, h1, h2, h3, h4⟩
  · rw [Mu.put_ne q] at hb
    exact (o b c hb).ext e rfl
theorem ent_box {m : Mu} {a : Addr} {n : Nat} (h : m a = some (.box n)) : Ent K m fun m1 => ∃ x y z : Int, m1 = m.put a (some (.lst [.int x, .int y, .int z])) ∧ 0 ≤ y ∧ y < 2147483647 ∧ 0 ≤ z ∧ z ≤ n := by
  intro H o
  obtain ⟨x, y, z, hv, h1, h2, h3, h4⟩ := o a _ h
  have e : Ext m H (m.put a (some (.lst [.int x, .int y, .int z]))) H := ⟨fun _ _ h _ => h, fun b hb => by
    by_cases q : b = a
    · left; rw [q, h]; simp
    · rw [Mu.put_ne q] at hb; exact .inl hb⟩
  refine ⟨_, ⟨x, y, z, rfl, h1, h2, h3, h4⟩, e, fun b c hb => ?_⟩
  by_cases q : b = a
  · subst q
    rw [Mu.put_same] at hb
    cases hb
    exact ⟨_, hv, .cons (.int x) (.cons (.int y) (.cons (.int z) .nil))⟩
  · rw [Mu.put_ne q] at hb
    exact (o b c hb).ext e rfl
theorem take_ok {m : Mu} {a : Addr} {n : Nat} {many : Int} {Q : D → Mu → Prop} {E : XD → Mu → Prop} (hm : m a = some (.box n)) (h0 : 0 < many) (h1 : many < 1073741824) (hn : n < 4000000) (q : ∀ r : Int, 0 ≤ r → r < many → Q (.int r) (m.put a (some (.box (n + 1))))) : S__law_take [.cel a, .int many] m Q E := ⟨a, n, many, rfl, hm, h0, h1, hn, q⟩
def g__law_cell (p q : Int) : GS :=
  (sSeq (sIf (cVal (gBin dLt (gVar 1) (gCB dLen (aCons (gVar 0) aNil)))) (sRet (gBin dIx (gVar 0) (gVar 1))) sNx)
  (sRet (gBin dAdd (gBin dMul (gC (.int p)) (gVar 1)) (gC (.int q)))))
theorem lift__law_cell {p q : Int} (F : FnG P w K mg base k f fd ["script", "k"] (wpS ["script", "k"] ["script", "k"] (g__law_cell p q))) : FnG P w K mg base k f fd ["script", "k"] S__law_cell := F.imp fun ds m Q E h => by
  obtain ⟨ns, k, rfl, h0, h1, qq⟩ := h
  refine ⟨rfl, ?_⟩
  simp only [g__law_cell, ↓reduceIte, ↓u_sNx, ↓u_sSeq, ↓u_nx, ↓u_rt, ↓u_bk, ↓u_ct, ↓u_sBreak, ↓u_sCont, ↓u_sDrop, ↓u_sRet, ↓u_sRetN, ↓u_sIf, ↓u_sAsg, ↓u_gC, ↓u_aNil, ↓u_aCons, ↓u_gTup, ↓u_gLst, ↓u_gLstM, ↓u_gBin, ↓u_cVal, ↓u_onBl, ↓u_onInt, ↓u_onStr, ↓u_gChain, ↓u_cAnd, ↓u_cOr, ↓u_cNot, ↓u_gAnd, ↓u_gOr, ↓u_gNot, ↓u_gIf, ↓u_gNeg, ↓u_nNil, ↓u_nCons, ↓u_nTup, ↓u_nSub, ↓u_gCB, ↓u_gCall, ↓u_gM0, ↓u_gM1, ↓u_gL, ↓u_gL0, ↓u_oNo, ↓u_oSome, ↓u_gSl, ↓u_cYes, ↓u_on1, ↓u_on2, ↓u_dInt, ↓u_dInt0, ↓u_gLc, ↓u_gLcM, ↓u_gLc2, ↓u_sNever, ↓u_iEnS, ↓u_iEnL, ↓u_iEnumD, ↓u_iZipD, ↓u_zipS, ↓u_zipL, ↓u_iSeq, ↓u_iRange1, ↓u_iRange2, ↓u_sWhile, ↓u_iRange3, ↓u_on3, ↓u_sFor, ↓u_dMax2, ↓u_dMin2, ↓u_gDct0, ↓u_gVar0, ↓u_sSet0, ↓u_nName0, ↓u_gVar1, ↓u_sSet1, ↓u_nName1, ↓u_gVar2, ↓u_sSet2, ↓u_nName2, ↓u_gVar3, ↓u_sSet3, ↓u_nName3, ↓u_gVar4, ↓u_sSet4, ↓u_nName4, ↓u_gVar5, ↓u_sSet5, ↓u_nName5, ↓u_gVar6, ↓u_sSet6, ↓u_nName6, ↓u_gVar7, ↓u_sSet7, ↓u_nName7, ↓u_gVar8, ↓u_sSet8, ↓u_nName8, ↓u_gVar9, ↓u_sSet9, ↓u_nName9, ↓u_gVar10, ↓u_sSet10, ↓u_nName10, ↓u_gVar11, ↓u_sSet11, ↓u_nName11, ↓u_gVar12, ↓u_sSet12, ↓u_nName12, ↓u_gVar13, ↓u_sSet13, ↓u_nName13, ↓u_gVar14, ↓u_sSet14, ↓u_nName14, ↓u_gVar15, ↓u_sSet15, ↓u_nName15, ↓u_gVar16, ↓u_sSet16, ↓u_nName16, ↓u_gVar17, ↓u_sSet17, ↓u_nName17, ↓dToInt_int, ↓dToInt_bl, ↓dListU_lst, ↓dListU_tup, ↓dListU_str, ↓dListUM_lst, ↓dListUM_tup, ↓dListUM_str, ↓dTuple_lst, ↓dTuple_tup, ↓dIn_lst, ↓dIn_tup, ↓dSl_str, ↓dSl_lst, ↓dSl_tup, ↓dAdd_int, ↓dAdd_str, ↓dAdd_lst, ↓dAdd_tup, ↓dMul_int, ↓dMul_str, ↓dMul_lst, ↓dIx_lst, ↓dIx_ro, ↓dIx_tup, ↓dIx_str, ↓onSome_some, ↓dLen_lst, ↓dLen_tup, ↓dLen_str, ↓dLen_ro, ↓dLen_dct, ↓items_str, ↓items_lst, ↓items_tup, ↓items_ro, ↓dAll_lst, ↓dAny_lst, ↓dSum_lst, ↓dIsi_ty, ↓dIsi_tup, ↓dIn_str, ↓onSeq_lst, ↓onSeq_tup, ↓dIs_bb, ↓dStrI_i, ↓dIsW_bb, ↓dIsW_ib, ↓dIsW_sb, ↓dIsW_nb, ↓dIsW_lb, ↓dIsW_tb, ↓dIsW_db, ↓dIsW_nn, ↓dIsW_in, ↓dIsW_sn, ↓dIsW_ln, ↓dIsW_tn, List.append_nil, List.nil_append, List.cons_append, startD, List.map_cons, List.map_nil, List.length_cons, List.length_nil, Nat.sub_self, List.replicate_zero, List.replicate_succ, List.set_cons_zero, List.set_cons_succ, List.getElem?_cons_zero, List.getElem?_cons_succ, atI_lit, vw_int, vw_str, vw_bl, vw_non, vw_lst, vw_tup, vw_dct, vw_ro, vw_obj, vw_cls, Nat.reduceAdd, Nat.reduceSub, Int.reduceToNat, Int.reduceNeg, Int.reducePow, Int.reduceAdd, Int.reduceSub, Int.reduceMul, ixN_lit, decide_eq_true_eq, decide_eq_false_iff_not, if_true, if_false, Bool.false_eq_true, Bool.not_true, Bool.not_false, Nat.reduceLT, Nat.reduceLeDiff, Int.reduceLT, Int.reduceLE, true_and, and_true, and_self, ite_true, ite_false, kind_int, kind_bl, kind_non, kind_str, kind_lst, kind_tup, kind_dct, clsAll_lt, all_lt, any_lt_l, any_lt_t, any_lt_s, any_lt_i, any_lt_b, any_lt_n, any_lt_d, kc_int, kc_bool, kc_str, kc_list, kc_tuple, kc_dict, isiT, String.reduceBEq, Bool.or_false, Bool.or_true, Bool.false_or, Bool.true_or, Bool.and_false, Bool.false_and, Bool.and_true, Bool.true_and, wipeD, Bool.not_eq_true, Bool.not_eq_false, Bool.not_eq_eq_eq_not, Bool.not_not, Bool.false_bne, Bool.true_bne, dJoin, onSome_some, sizeLine_eq, Mu.put_same, put_put, Nat.zero_le, decide_true, decide_false]
  split
  · rename_i hk
    refine onSome_at h0 hk fun d hd => ?_
    obtain ⟨i, _, rfl⟩ := List.mem_map.mp hd
    exact qq i
  · exact ⟨.inr (by omega), qq _⟩
def g__law_box : GS :=
  (sRet (gLstM (aCons (gCB dMax2 (aCons (gC (.int 0)) (aCons (gBin dSub (gVar 0) (gBin dPow (gC (.int 10)) (gC (.int 18)))) aNil))) (aCons (gBin dMod (gVar 0) (gC (.int 2147483629))) (aCons (gC (.int 0)) aNil)))))
theorem lift__law_box (F : FnG P w K mg base k f fd ["cell"] (wpS ["cell"] ["cell"] g__law_box)) : FnG P w K mg base k f fd ["cell"] S__law_box := F.out fun ds m Q E h => by
  obtain ⟨i, rfl, q⟩ := h
  refine ⟨rfl, ?_⟩
  simp only [g__law_box, ↓reduceIte, ↓u_sNx, ↓u_sSeq, ↓u_nx, ↓u_rt, ↓u_bk, ↓u_ct, ↓u_sBreak, ↓u_sCont, ↓u_sDrop, ↓u_sRet, ↓u_sRetN, ↓u_sIf, ↓u_sAsg, ↓u_gC, ↓u_aNil, ↓u_aCons, ↓u_gTup, ↓u_gLst, ↓u_gLstM, ↓u_gBin, ↓u_cVal, ↓u_onBl, ↓u_onInt, ↓u_onStr, ↓u_gChain, ↓u_cAnd, ↓u_cOr, ↓u_cNot, ↓u_gAnd, ↓u_gOr, ↓u_gNot, ↓u_gIf, ↓u_gNeg, ↓u_nNil, ↓u_nCons, ↓u_nTup, ↓u_nSub, ↓u_gCB, ↓u_gCall, ↓u_gM0, ↓u_gM1, ↓u_gL, ↓u_gL0, ↓u_oNo, ↓u_oSome, ↓u_gSl, ↓u_cYes, ↓u_on1, ↓u_on2, ↓u_dInt, ↓u_dInt0, ↓u_gLc, ↓u_gLcM, ↓u_gLc2, ↓u_sNever, ↓u_iEnS, ↓u_iEnL, ↓u_iEnumD, ↓u_iZipD, ↓u_zipS, ↓u_zipL, ↓u_iSeq, ↓u_iRange1, ↓u_iRange2, ↓u_sWhile, ↓u_iRange3, ↓u_on3, ↓u_sFor, ↓u_dMax2, ↓u_dMin2, ↓u_gDct0, ↓u_gVar0, ↓u_sSet0, ↓u_nName0, ↓u_gVar1, ↓u_sSet1, ↓u_nName1, ↓u_gVar2, ↓u_sSet2, ↓u_nName2, ↓u_gVar3, ↓u_sSet3, ↓u_nName3, ↓u_gVar4, ↓u_sSet4, ↓u_nName4, ↓u_gVar5, ↓u_sSet5, ↓u_nName5, ↓u_gVar6, ↓u_sSet6, ↓u_nName6, ↓u_gVar7, ↓u_sSet7, ↓u_nName7, ↓u_gVar8, ↓u_sSet8, ↓u_nName8, ↓u_gVar9, ↓u_sSet9, ↓u_nName9, ↓u_gVar10, ↓u_sSet10, ↓u_nName10, ↓u_gVar11, ↓u_sSet11, ↓u_nName11, ↓u_gVar12, ↓u_sSet12, ↓u_nName12, ↓u_gVar13, ↓u_sSet13, ↓u_nName13, ↓u_gVar14, ↓u_sSet14, ↓u_nName14, ↓u_gVar15, ↓u_sSet15, ↓u_nName15, ↓u_gVar16, ↓u_sSet16, ↓u_nName16, ↓u_gVar17, ↓u_sSet17, ↓u_nName17, ↓dToInt_int, ↓dToInt_bl, ↓dListU_lst, ↓dListU_tup, ↓dListU_str, ↓dListUM_lst, ↓dListUM_tup, ↓dListUM_str, ↓dTuple_lst, ↓dTuple_tup, ↓dIn_lst, ↓dIn_tup, ↓dSl_str, ↓dSl_lst, ↓dSl_tup, ↓dAdd_int, ↓dAdd_str, ↓dAdd_lst, ↓dAdd_tup, ↓dMul_int, ↓dMul_str, ↓dMul_lst, ↓dIx_lst, ↓dIx_ro, ↓dIx_tup, ↓dIx_str, ↓onSome_some, ↓dLen_lst, ↓dLen_tup, ↓dLen_str, ↓dLen_ro, ↓dLen_dct, ↓items_str, ↓items_lst, ↓items_tup, ↓items_ro, ↓dAll_lst, ↓dAny_lst, ↓dSum_lst, ↓dIsi_ty, ↓dIsi_tup, ↓dIn_str, ↓onSeq_lst, ↓onSeq_tup, ↓dIs_bb, ↓dStrI_i, ↓dIsW_bb, ↓dIsW_ib, ↓dIsW_sb, ↓dIsW_nb, ↓dIsW_lb, ↓dIsW_tb, ↓dIsW_db, ↓dIsW_nn, ↓dIsW_in, ↓dIsW_sn, ↓dIsW_ln, ↓dIsW_tn, List.append_nil, List.nil_append, List.cons_append, startD, List.map_cons, List.map_nil, List.length_cons, List.length_nil, Nat.sub_self, List.replicate_zero, List.replicate_succ, List.set_cons_zero, List.set_cons_succ, List.getElem?_cons_zero, List.getElem?_cons_succ, atI_lit, vw_int, vw_str, vw_bl, vw_non, vw_lst, vw_tup, vw_dct, vw_ro, vw_obj, vw_cls, Nat.reduceAdd, Nat.reduceSub, Int.reduceToNat, Int.reduceNeg, Int.reducePow, Int.reduceAdd, Int.reduceSub, Int.reduceMul, ixN_lit, decide_eq_true_eq, decide_eq_false_iff_not, if_true, if_false, Bool.false_eq_true, Bool.not_true, Bool.not_false, Nat.reduceLT, Nat.reduceLeDiff, Int.reduceLT, Int.reduceLE, true_and, and_true, and_self, ite_true, ite_false, kind_int, kind_bl, kind_non, kind_str, kind_lst, kind_tup, kind_dct, clsAll_lt, all_lt, any_lt_l, any_lt_t, any_lt_s, any_lt_i, any_lt_b, any_lt_n, any_lt_d, kc_int, kc_bool, kc_str, kc_list, kc_tuple, kc_dict, isiT, String.reduceBEq, Bool.or_false, Bool.or_true, Bool.false_or, Bool.true_or, Bool.and_false, Bool.false_and, Bool.and_true, Bool.true_and, wipeD, Bool.not_eq_true, Bool.not_eq_false, Bool.not_eq_eq_eq_not, Bool.not_not, Bool.false_bne, Bool.true_bne, dJoin, onSome_some, sizeLine_eq, Mu.put_same, put_put, Nat.zero_le, decide_true, decide_false]
  refine ⟨⟨by decide, by decide, by decide⟩, fun a ha => ⟨.cel a, _, gh_box (n := 0) Mu.put_same ?_ ?_ (Int.le_refl _) (Int.le_refl _) _ (.inl rfl), ?_⟩⟩
  · exact Int.emod_nonneg _ (by decide)
  · exact Int.lt_trans (Int.emod_lt_of_pos _ (by decide)) (by decide)
  · rw [put_put]
    exact q a ha
def g__law_take (p : Int) : GS :=
  (sSeq (sIf (cVal (gBin dGt (gBin dIx (gVar 0) (gC (.int 0))) (gC (.int 0)))) (sSeq (sSet 4 (gBin dMod (gBin dIx (gVar 0) (gC (.int 0))) (gVar 1)))
  (sSeq (sAsg (gBin dFdiv (gBin dIx (gVar 0) (gC (.int 0))) (gVar 1)) (nSub (gVar 0) (gC (.int 0))))
  (sRet (gVar 4)))) sNx)
  (sSeq (sAsg (gBin dAdd (gBin dIx (gVar 0) (gC (.int 2))) (gC (.int 1))) (nSub (gVar 0) (gC (.int 2))))
  (sSeq (sSet 2 (gBin dMod (gBin dPow (gBin dAdd (gBin dAdd (gBin dIx (gVar 0) (gC (.int 1))) (gBin dMul (gC (.int 7919)) (gBin dIx (gVar 0) (gC (.int 2))))) (gC (.int p))) (gC (.int 5))) (gC (.int 2147483647))))
  (sSeq (sSet 3 (gBin dMod (gBin dPow (gBin dAdd (gBin dAdd (gBin dFdiv (gVar 2) (gC (.int 8))) (gBin dMul (gBin dMul (gC (.int 104729)) (gBin dIx (gVar 0) (gC (.int 2)))) (gBin dIx (gVar 0) (gC (.int 2))))) (gC (.int 11))) (gC (.int 3))) (gC (.int 2147483587))))
  (sRet (gBin dMod (gBin dAdd (gBin dFdiv (gVar 2) (gC (.int 4))) (gBin dMul (gC (.int 536870909)) (gBin dFdiv (gVar 3) (gC (.int 4))))) (gVar 1)))))))
theorem lift__law_take {p : Int} (hp : 0 ≤ p ∧ p < 1000) (F : FnG P w K mg base k f fd ["box", "many"] (wpS ["box", "many"] ["box", "many", "one", "two", "digit"] (g__law_take p))) : FnG P w K mg base k f fd ["box", "many"] S__law_take := F.ghost fun ds m Q E h => by
  obtain ⟨a, n, many, rfl, hm, h0, h1, hn, q⟩ := h
  refine ⟨rfl, _, ent_box hm, ?_⟩
  rintro m1 ⟨x, y, z, rfl, y0, y1, z0, z1⟩
  refine ⟨rfl, ?_⟩
  simp only [g__law_take, ↓reduceIte, ↓u_sNx, ↓u_sSeq, ↓u_nx, ↓u_rt, ↓u_bk, ↓u_ct, ↓u_sBreak, ↓u_sCont, ↓u_sDrop, ↓u_sRet, ↓u_sRetN, ↓u_sIf, ↓u_sAsg, ↓u_gC, ↓u_aNil, ↓u_aCons, ↓u_gTup, ↓u_gLst, ↓u_gLstM, ↓u_gBin, ↓u_cVal, ↓u_onBl, ↓u_onInt, ↓u_onStr, ↓u_gChain, ↓u_cAnd, ↓u_cOr, ↓u_cNot, ↓u_gAnd, ↓u_gOr, ↓u_gNot, ↓u_gIf, ↓u_gNeg, ↓u_nNil, ↓u_nCons, ↓u_nTup, ↓u_nSub, ↓u_gCB, ↓u_gCall, ↓u_gM0, ↓u_gM1, ↓u_gL, ↓u_gL0, ↓u_oNo, ↓u_oSome, ↓u_gSl, ↓u_cYes, ↓u_on1, ↓u_on2, ↓u_dInt, ↓u_dInt0, ↓u_gLc, ↓u_gLcM, ↓u_gLc2, ↓u_sNever, ↓u_iEnS, ↓u_iEnL, ↓u_iEnumD, ↓u_iZipD, ↓u_zipS, ↓u_zipL, ↓u_iSeq, ↓u_iRange1, ↓u_iRange2, ↓u_sWhile, ↓u_iRange3, ↓u_on3, ↓u_sFor, ↓u_dMax2, ↓u_dMin2, ↓u_gDct0, ↓u_gVar0, ↓u_sSet0, ↓u_nName0, ↓u_gVar1, ↓u_sSet1, ↓u_nName1, ↓u_gVar2, ↓u_sSet2, ↓u_nName2, ↓u_gVar3, ↓u_sSet3, ↓u_nName3, ↓u_gVar4, ↓u_sSet4, ↓u_nName4, ↓u_gVar5, ↓u_sSet5, ↓u_nName5, ↓u_gVar6, ↓u_sSet6, ↓u_nName6, ↓u_gVar7, ↓u_sSet7, ↓u_nName7, ↓u_gVar8, ↓u_sSet8, ↓u_nName8, ↓u_gVar9, ↓u_sSet9, ↓u_nName9, ↓u_gVar10, ↓u_sSet10, ↓u_nName10, ↓u_gVar11, ↓u_sSet11, ↓u_nName11, ↓u_gVar12, ↓u_sSet12, ↓u_nName12, ↓u_gVar13, ↓u_sSet13, ↓u_nName13, ↓u_gVar14, ↓u_sSet14, ↓u_nName14, ↓u_gVar15, ↓u_sSet15, ↓u_nName15, ↓u_gVar16, ↓u_sSet16, ↓u_nName16, ↓u_gVar17, ↓u_sSet17, ↓u_nName17, ↓dToInt_int, ↓dToInt_bl, ↓dListU_lst, ↓dListU_tup, ↓dListU_str, ↓dListUM_lst, ↓dListUM_tup, ↓dListUM_str, ↓dTuple_lst, ↓dTuple_tup, ↓dIn_lst, ↓dIn_tup, ↓dSl_str, ↓dSl_lst, ↓dSl_tup, ↓dAdd_int, ↓dAdd_str, ↓dAdd_lst, ↓dAdd_tup, ↓dMul_int, ↓dMul_str, ↓dMul_lst, ↓dIx_lst, ↓dIx_ro, ↓dIx_tup, ↓dIx_str, ↓onSome_some, ↓dLen_lst, ↓dLen_tup, ↓dLen_str, ↓dLen_ro, ↓dLen_dct, ↓items_str, ↓items_lst, ↓items_tup, ↓items_ro, ↓dAll_lst, ↓dAny_lst, ↓dSum_lst, ↓dIsi_ty, ↓dIsi_tup, ↓dIn_str, ↓onSeq_lst, ↓onSeq_tup, ↓dIs_bb, ↓dStrI_i, ↓dIsW_bb, ↓dIsW_ib, ↓dIsW_sb, ↓dIsW_nb, ↓dIsW_lb, ↓dIsW_tb, ↓dIsW_db, ↓dIsW_nn, ↓dIsW_in, ↓dIsW_sn, ↓dIsW_ln, ↓dIsW_tn, List.append_nil, List.nil_append, List.cons_append, startD, List.map_cons, List.map_nil, List.length_cons, List.length_nil, Nat.sub_self, List.replicate_zero, List.replicate_succ, List.set_cons_zero, List.set_cons_succ, List.getElem?_cons_zero, List.getElem?_cons_succ, atI_lit, vw_int, vw_str, vw_bl, vw_non, vw_lst, vw_tup, vw_dct, vw_ro, vw_obj, vw_cls, Nat.reduceAdd, Nat.reduceSub, Int.reduceToNat, Int.reduceNeg, Int.reducePow, Int.reduceAdd, Int.reduceSub, Int.reduceMul, ixN_lit, decide_eq_true_eq, decide_eq_false_iff_not, if_true, if_false, Bool.false_eq_true, Bool.not_true, Bool.not_false, Nat.reduceLT, Nat.reduceLeDiff, Int.reduceLT, Int.reduceLE, true_and, and_true, and_self, ite_true, ite_false, kind_int, kind_bl, kind_non, kind_str, kind_lst, kind_tup, kind_dct, clsAll_lt, all_lt, any_lt_l, any_lt_t, any_lt_s, any_lt_i, any_lt_b, any_lt_n, any_lt_d, kc_int, kc_bool, kc_str, kc_list, kc_tuple, kc_dict, isiT, String.reduceBEq, Bool.or_false, Bool.or_true, Bool.false_or, Bool.true_or, Bool.and_false, Bool.false_and, Bool.and_true, Bool.true_and, wipeD, Bool.not_eq_true, Bool.not_eq_false, Bool.not_eq_eq_eq_not, Bool.not_not, Bool.false_bne, Bool.true_bne, dJoin, onSome_some, sizeLine_eq, Mu.put_same, put_put, Nat.zero_le, decide_true, decide_false, dIx_cel Mu.put_same, onCell_cel Mu.put_same, put_put]
  have hb : ∀ (u v : Int), 0 ≤ v → v ≤ (n + 1 : Nat) → ∀ r : Int, 0 ≤ r → r < many → RtG K Q (.int r) (m.put a (some (.lst [.int u, .int y, .int v]))) := fun u v v0 v1 r r0 r1 =>
    ⟨.int r, _, gh_box Mu.put_same y0 y1 v0 v1 _ (.inr ⟨r, rfl⟩), by rw [put_put]; exact q r r0 r1⟩
  split
  · exact ⟨h0, ⟨h0, h1⟩, hb _ _ z0 (by omega) _ (Int.emod_nonneg _ (by omega)) (Int.emod_lt_of_pos _ h0)⟩
  · have p0 : ∀ (i : Int) (k : Nat) (c : Int), 0 < c → 0 ≤ i ^ k % c ∧ i ^ k % c < c := fun i k c hc => ⟨Int.emod_nonneg _ (by omega), Int.emod_lt_of_pos _ hc⟩
    obtain ⟨o0, o1⟩ := p0 (y + 7919 * (z + 1) + p) 5 2147483647 (by decide)
    generalize (y + 7919 * (z + 1) + p) ^ 5 % 2147483647 = one at *
    obtain ⟨t0, t1⟩ := p0 (one / 8 + 104729 * (z + 1) * (z + 1) + 11) 3 2147483587 (by decide)
    have hz : (z + 1) * (z + 1) ≤ 4000001 * 4000001 := Int.mul_le_mul (by omega) (by omega) (by omega) (by decide)
    have hz0 : 0 ≤ (z + 1) * (z + 1) := Int.mul_nonneg (by omega) (by omega)
    have hz1 : 104729 * (z + 1) * (z + 1) = 104729 * ((z + 1) * (z + 1)) := Int.mul_assoc _ _ _
    have pw : CPow (one / 8 + 104729 * (z + 1) * (z + 1) + 11) 3 := ⟨by decide, by decide, by rw [hz1]; omega⟩
    generalize (one / 8 + 104729 * (z + 1) * (z + 1) + 11) ^ 3 % 2147483587 = two at *
    refine ⟨.inl (by decide), ⟨by decide, by decide, by omega⟩, ⟨by decide, by decide⟩, .inl (by decide), .inr (by omega), pw, ⟨by decide, by decide⟩, ⟨by decide, by decide⟩, .inl (by decide), h0, ?_⟩
    exact hb _ _ (by omega) (by omega) _ (Int.emod_nonneg _ (by omega)) (Int.emod_lt_of_pos _ h0)
end
end Nd

namespace Nd
open PySem L2 PyProof.Rows PySem.Spec
/-! comprehensions, loops -/
inductive Al2 (R : D → D → Prop) : List D → List D → Prop
  | nil : Al2 R [] []
  | cons {a b : D} {l r : List D} : R a b → Al2 R l r → Al2 R (a :: l) (b :: r)
theorem Al2.length {R : D → D → Prop} : ∀ {l r : List D}, Al2 R l r → r.length = l.length
  | _, _, .nil => rfl
  | _, _, .cons _ t => congrArg (· + 1) t.length
theorem Al2.mem {R : D → D → Prop} : ∀ {l r : List D}, Al2 R l r → ∀ y ∈ r, ∃ x ∈ l, R x y
  | _, _, .nil, _, h => by cases h
  | _, _, .cons a t, y, h => by
    rcases List.mem_cons.mp h with rfl | h
    · exact ⟨_, List.mem_cons_self, a⟩
    · obtain ⟨x, hx, q⟩ := t.mem y h
      exact ⟨x, List.mem_cons_of_mem _ hx, q⟩
section
variable {gt : GG} {tt : GT} {te : GE} {st : Mu → Prop} {ρ : Env} {Q : D → Mu → Prop} {m : Mu} {a : Addr} {all : List D}
theorem lcG_pure (p : D → Bool) (f : D → D) (ha : m a = none) (hst : ∀ c, st (m.put a c)) (hp : ∀ c (d : D) (yes : D → Mu → Prop) (no : Mu → Prop), (if p d = true then yes (f d) (m.put a c) else no (m.put a c)) → d ∈ all → gt noX d ρ (m.put a c) fun ρ2 m2 => tt noX ρ2 m2 fun b m3 => if b = true then te noX ρ2 m3 yes else no m3) :
    ∀ (ds acc : List D), (∀ d ∈ ds, d ∈ all) → acc.length + ds.length ≤ sizeLine → Q (.lst (acc ++ (ds.filter p).map f)) m → lcG gt tt te st a ρ Q ds acc (m.put a (some (.lst acc)))
  | [], acc, _, _, q => by
    refine ⟨hst _, Mu.put_same, ?_⟩
    rw [put_put, put_self ha]
    simpa using q
  | d :: r, acc, hm, hl, q => by
    refine ⟨hst _, hp _ d _ _ ?_ (hm d List.mem_cons_self)⟩
    have hr : ∀ d ∈ r, d ∈ all := fun x hx => hm x (List.mem_cons_of_mem _ hx)
    rw [List.length_cons] at hl
    cases hpd : p d with
    | true =>
      simp only [if_true]
      refine ⟨⟨Mu.put_same, by omega⟩, ?_⟩
      rw [put_put]
      refine lcG_pure p f ha hst hp r (acc ++ [f d]) hr (by rw [List.length_append, List.length_singleton]; omega) ?_
      rw [List.filter_cons_of_pos hpd, List.map_cons] at q
      simpa using q
    | false =>
      simp only [Bool.false_eq_true, if_false]
      refine lcG_pure p f ha hst hp r acc hr (by omega) ?_
      rw [List.filter_cons_of_neg (by rw [hpd]; decide)] at q
      exact q
theorem lc_pure {ds : List D} (p : D → Bool) (f : D → D) (hst : ∀ a c, m a = none → st (m.put a c)) (hl : ds.length ≤ sizeLine)
    (hp : ∀ a c, m a = none → ∀ d ∈ ds, ∀ (yes : D → Mu → Prop) (no : Mu → Prop), (if p d = true then yes (f d) (m.put a c) else no (m.put a c)) → gt noX d ρ (m.put a c) fun ρ2 m2 => tt noX ρ2 m2 fun b m3 => if b = true then te noX ρ2 m3 yes else no m3)
    (q : Q (.lst ((ds.filter p).map f)) m) : ∀ a, m a = none → lcG gt tt te st a ρ Q ds [] (m.put a (some (.lst []))) := fun a ha =>
  lcG_pure (all := ds) p f ha (hst a · ha) (fun c d yes no h hd => hp a c ha d hd yes no h) ds [] (fun _ h => h) (by rw [List.length_nil]; omega) (by simpa using q)
/-- .. without a test -/
theorem lc_map {ds : List D} (f : D → D) (hst : ∀ a c, m a = none → st (m.put a c)) (hl : ds.length ≤ sizeLine)
    (hp : ∀ a c, m a = none → ∀ d ∈ ds, ∀ yes : D → Mu → Prop, yes (f d) (m.put a c) → gt noX d ρ (m.put a c) fun ρ2 m2 => te noX ρ2 m2 yes)
    (q : Q (.lst (ds.map f)) m) : ∀ a, m a = none → lcG gt cYes te st a ρ Q ds [] (m.put a (some (.lst []))) :=
  lc_pure (fun _ => true) f hst hl (fun a c ha d hd yes no h => by
    simp only [if_true, cYes] at h ⊢
    exact hp a c ha d hd yes h) (by rw [show ds.filter (fun _ => true) = ds from List.filter_eq_self.mpr fun _ _ => rfl]; exact q)
/-- the items draw from the box at b -/
theorem lcG_box {b : Addr} (c : Nat) (R : D → D → Prop) (ha : m a = none) (hst : ∀ m', (∀ x, x ≠ a → x ≠ b → m' x = m x) → st m')
    (hp : ∀ d ∈ all, ∀ (m' : Mu) (n' : Nat), (∀ x, x ≠ a → x ≠ b → m' x = m x) → m' b = some (.box n') → n' + c ≤ 4000000 → ∀ yes : D → Mu → Prop, (∀ y j, R d y → j ≤ c → yes y (m'.put b (some (.box (n' + j))))) → gt noX d ρ m' fun ρ2 m2 => te noX ρ2 m2 yes) :
    ∀ (ds acc : List D) (n : Nat) (m' : Mu), (∀ d ∈ ds, d ∈ all) → acc.length + ds.length ≤ sizeLine → n + c * ds.length ≤ 4000000 → (∀ x, x ≠ a → x ≠ b → m' x = m x) → m' b = some (.box n) → m' a = some (.lst acc) →
    (∀ ys j, Al2 R ds ys → j ≤ c * ds.length → Q (.lst (acc ++ ys)) (m.put b (some (.box (n + j))))) → lcG gt cYes te st a ρ Q ds acc m'
  | [], acc, n, m', _, _, _, hx, hb, hA, q => by
    refine ⟨hst _ hx, hA, ?_⟩
    have e : m'.put a none = m.put b (some (.box n)) := by
      funext x
      by_cases h1 : x = a
      · subst h1
        rw [Mu.put_same]
        by_cases h2 : x = b
        · subst h2; rw [hA] at hb; cases hb
        · rw [Mu.put_ne h2, ha]
      · rw [Mu.put_ne h1]
        by_cases h2 : x = b
        · subst h2; rw [Mu.put_same, hb]
        · rw [Mu.put_ne h2, hx x h1 h2]
    rw [e]
    simpa using q [] 0 .nil (by simp)
  | d :: r, acc, n, m', hm, hl, hn, hx, hb, hA, q => by
    rw [List.length_cons] at hl hn
    have hab : b ≠ a := fun z => by rw [z, hA] at hb; cases hb
    have hcm : c * (r.length + 1) = c * r.length + c := Nat.mul_succ _ _
    refine ⟨hst _ hx, ?_⟩
    simp only [cYes, if_true]
    refine hp d (hm d List.mem_cons_self) m' n hx hb (by omega) _ fun y j hy hj => ⟨⟨?_, by omega⟩, ?_⟩
    · rw [Mu.put_ne hab.symm]; exact hA
    · refine lcG_box c R ha hst hp r (acc ++ [y]) (n + j) _ (fun x hx => hm x (List.mem_cons_of_mem _ hx)) (by rw [List.length_append, List.length_singleton]; omega) (by omega) (fun x h1 h2 => ?_) ?_ Mu.put_same fun ys i hys hi => ?_
      · rw [Mu.put_ne h1, Mu.put_ne h2, hx x h1 h2]
      · rw [Mu.put_ne hab, Mu.put_same]
      · have := q (y :: ys) (j + i) (.cons hy hys) (by rw [List.length_cons]; omega)
        simpa [Nat.add_assoc] using this
theorem lc_box {ds : List D} {b : Addr} {n : Nat} (c : Nat) (R : D → D → Prop) (hb : m b = some (.box n)) (hst : ∀ a m', m a = none → (∀ x, x ≠ a → x ≠ b → m' x = m x) → st m') (hl : ds.length ≤ sizeLine) (hn : n + c * ds.length ≤ 4000000)
    (hp : ∀ a, m a = none → ∀ d ∈ ds, ∀ (m' : Mu) (n' : Nat), (∀ x, x ≠ a → x ≠ b → m' x = m x) → m' b = some (.box n') → n' + c ≤ 4000000 → ∀ yes : D → Mu → Prop, (∀ y j, R d y → j ≤ c → yes y (m'.put b (some (.box (n' + j))))) → gt noX d ρ m' fun ρ2 m2 => te noX ρ2 m2 yes)
    (q : ∀ ys j, Al2 R ds ys → j ≤ c * ds.length → Q (.lst ys) (m.put b (some (.box (n + j))))) : ∀ a, m a = none → lcG gt cYes te st a ρ Q ds [] (m.put a (some (.lst []))) := fun a ha => by
  have hab : b ≠ a := fun z => by rw [z, ha] at hb; cases hb
  refine lcG_box (all := ds) c R ha (hst a · ha) (hp a ha) ds [] n _ (fun _ h => h) (by rw [List.length_nil]; omega) hn (fun x h1 h2 => Mu.put_ne h1) ?_ Mu.put_same (fun ys j h1 h2 => by simpa using q ys j h1 h2)
  rw [Mu.put_ne hab, hb]
theorem lc_pureM {Qa : Addr → D → Mu → Prop} {ds : List D} (p : D → Bool) (f : D → D) (hst : ∀ a c, m a = none → st (m.put a c)) (hl : ds.length ≤ sizeLine)
    (hp : ∀ a c, m a = none → ∀ d ∈ ds, ∀ (yes : D → Mu → Prop) (no : Mu → Prop), (if p d = true then yes (f d) (m.put a c) else no (m.put a c)) → gt noX d ρ (m.put a c) fun ρ2 m2 => tt noX ρ2 m2 fun b m3 => if b = true then te noX ρ2 m3 yes else no m3)
    (q : ∀ a, m a = none → Qa a (.lst ((ds.filter p).map f)) m) : ∀ a, m a = none → lcG gt tt te st a ρ (Qa a) ds [] (m.put a (some (.lst []))) := fun a ha =>
  lcG_pure (all := ds) p f ha (hst a · ha) (fun c d yes no h hd => hp a c ha d hd yes no h) ds [] (fun _ h => h) (by rw [List.length_nil]; omega) (by simpa using q a ha)
theorem lc_mapM {Qa : Addr → D → Mu → Prop} {ds : List D} (f : D → D) (hst : ∀ a c, m a = none → st (m.put a c)) (hl : ds.length ≤ sizeLine)
    (hp : ∀ a c, m a = none → ∀ d ∈ ds, ∀ yes : D → Mu → Prop, yes (f d) (m.put a c) → gt noX d ρ (m.put a c) fun ρ2 m2 => te noX ρ2 m2 yes)
    (q : ∀ a, m a = none → Qa a (.lst (ds.map f)) m) : ∀ a, m a = none → lcG gt cYes te st a ρ (Qa a) ds [] (m.put a (some (.lst []))) :=
  lc_pureM (fun _ => true) f hst hl (fun a c ha d hd yes no h => by
    simp only [if_true, cYes] at h ⊢
    exact hp a c ha d hd yes h) (by rw [show ds.filter (fun _ => true) = ds from List.filter_eq_self.mpr fun _ _ => rfl]; exact q)
theorem lc_boxM {Qa : Addr → D → Mu → Prop} {ds : List D} {b : Addr} {n : Nat} (c : Nat) (R : D → D → Prop) (hb : m b = some (.box n)) (hst : ∀ a m', m a = none → (∀ x, x ≠ a → x ≠ b → m' x = m x) → st m') (hl : ds.length ≤ sizeLine) (hn : n + c * ds.length ≤ 4000000)
    (hp : ∀ a, m a = none → ∀ d ∈ ds, ∀ (m' : Mu) (n' : Nat), (∀ x, x ≠ a → x ≠ b → m' x = m x) → m' b = some (.box n') → n' + c ≤ 4000000 → ∀ yes : D → Mu → Prop, (∀ y j, R d y → j ≤ c → yes y (m'.put b (some (.box (n' + j))))) → gt noX d ρ m' fun ρ2 m2 => te noX ρ2 m2 yes)
    (q : ∀ a, m a = none → ∀ ys j, Al2 R ds ys → j ≤ c * ds.length → Qa a (.lst ys) (m.put b (some (.box (n + j))))) : ∀ a, m a = none → lcG gt cYes te st a ρ (Qa a) ds [] (m.put a (some (.lst []))) := fun a ha => by
  have hab : b ≠ a := fun z => by rw [z, ha] at hb; cases hb
  refine lcG_box (all := ds) c R ha (hst a · ha) (hp a ha) ds [] n _ (fun _ h => h) (by rw [List.length_nil]; omega) hn (fun x h1 h2 => Mu.put_ne h1) ?_ Mu.put_same (fun ys j h1 h2 => by simpa using q a ha ys j h1 h2)
  rw [Mu.put_ne hab, hb]
end
theorem forG_inv {ex : Exx} {gt : GG} {tb : GS} {st : Mu → Prop} {G : Gn} (Inv : Nat → Env → Mu → Prop) : ∀ (ds : List D) (k : Nat) (ρ : Env) (m : Mu), Inv k ρ m → (∀ i ρ m, Inv i ρ m → st m) →
    (∀ i d ρ m (N : Env → Mu → Prop), ds[i]? = some d → Inv (k + i) ρ m → (∀ ρ' m', Inv (k + i + 1) ρ' m' → N ρ' m') → gt ex d ρ m fun ρ' m' => tb ex { nx := N, rt := G.rt, bk := G.nx, ct := N } ρ' m') → (∀ ρ m, Inv (k + ds.length) ρ m → G.nx ρ m) → forG ex gt tb st G ds ρ m
  | [], k, ρ, m, h, hs, _, hd => ⟨hs k ρ m h, hd ρ m h⟩
  | d :: r, k, ρ, m, h, hs, step, hd => by
    refine ⟨hs k ρ m h, step 0 d ρ m _ rfl h fun ρ' m' h' => forG_inv Inv r (k + 1) ρ' m' h' hs (fun i d ρ m N hi hv hN => step (i + 1) d ρ m N (by simpa using hi) (by rw [← Nat.add_assoc, Nat.add_right_comm]; exact hv) (fun ρ' m' z => hN ρ' m' ?_)) fun ρ m z => hd ρ m ?_⟩
    · have e : k + (i + 1) + 1 = k + 1 + i + 1 := by omega
      rw [e] at z; exact z
    · have e : k + (d :: r).length = k + 1 + r.length := by rw [List.length_cons]; omega
      rw [e]; exact z
theorem for_inv {ex : Exx} {gt : GG} {tb : GS} {st : Mu → Prop} {G : Gn} {ds : List D} {ρ : Env} {m : Mu} (Inv : Nat → Env → Mu → Prop) (h0 : Inv 0 ρ m) (hs : ∀ i ρ m, Inv i ρ m → st m)
    (step : ∀ i d ρ m (N : Env → Mu → Prop), ds[i]? = some d → Inv i ρ m → (∀ ρ' m', Inv (i + 1) ρ' m' → N ρ' m') → gt ex d ρ m fun ρ' m' => tb ex { nx := N, rt := G.rt, bk := G.nx, ct := N } ρ' m') (hd : ∀ ρ m, Inv ds.length ρ m → G.nx ρ m) : forG ex gt tb st G ds ρ m :=
  forG_inv Inv ds 0 ρ m h0 hs (fun i d ρ m N h1 h2 h3 => step i d ρ m N h1 (by rw [Nat.zero_add] at h2; exact h2) (by rw [Nat.zero_add] at h3; exact h3)) (by rw [Nat.zero_add]; exact hd)
/-! texts written are texts -/
def okc (l : List Nat) : Prop := ∀ c ∈ l, c < 0x110000
theorem strOk_iff {x : Str} : PyData.strOk x = true ↔ okc x.cps.toList := by
  unfold PyData.strOk okc
  rw [Array.all_eq_true_iff_forall_mem]
  exact ⟨fun h c hc => by simpa using h c (Array.mem_toList_iff.mp hc), fun h c hc => by simpa using h c (Array.mem_toList_iff.mpr hc)⟩
theorem okc_app {a b : List Nat} (h : okc a) (g : okc b) : okc (a ++ b) := fun c hc => (List.mem_append.mp hc).elim (h c) (g c)
theorem strOk_app {a b : Str} (h : PyData.strOk a = true) (g : PyData.strOk b = true) : PyData.strOk (a ++ b) = true := by
  rw [strOk_iff] at *
  have e : (a ++ b).cps.toList = a.cps.toList ++ b.cps.toList := by
    show (a.cps ++ b.cps).toList = _
    simp
  rw [e]
  exact okc_app h g
theorem char_ok (c : Char) : c.toNat < 0x110000 := by
  have h := c.valid
  have : UInt32.toNat c.val < 0x110000 := by
    rcases h with h | ⟨_, h⟩
    · exact Nat.lt_trans h (by decide)
    · exact h
  exact this
theorem strOk_of (s : String) : PyData.strOk (Str.ofString s) = true := by
  rw [strOk_iff]
  have e : (Str.ofString s).cps.toList = s.toList.map Char.toNat := PyProof.Rows.signs_ofString s
  rw [e]
  intro c hc
  obtain ⟨x, _, rfl⟩ := List.mem_map.mp hc
  exact char_ok x
theorem okc_char (q c : Nat) (h : c < 0x110000) : okc (Builtin.Str.reprChar q c) := by
  have hx : ∀ l : List Char, okc (l.map Char.toNat) := fun l x hx => by
    obtain ⟨y, _, rfl⟩ := List.mem_map.mp hx
    exact char_ok y
  have hr : ∀ n : Nat, okc (List.replicate n 48) := fun n x hx => by rw [(List.mem_replicate.mp hx).2]; decide
  have h2 : ∀ a b : Nat, a < 0x110000 → b < 0x110000 → okc [a, b] := fun a b ha hb x hx => by
    rcases List.mem_cons.mp hx with rfl | hx
    · exact ha
    · rw [List.mem_singleton.mp hx]; exact hb
  unfold Builtin.Str.reprChar
  simp only
  repeat' split
  all_goals first
    | exact h2 _ _ (by decide) h
    | exact h2 _ _ (by decide) (by decide)
    | exact okc_app (h2 _ _ (by decide) (by decide)) (okc_app (hr _) (hx _))
    | (intro x hx; rw [List.mem_singleton.mp hx]; exact h)
theorem okc_fold (q : Nat) : ∀ (l : List Nat) (acc : Array Nat), okc l → okc acc.toList → okc (l.foldl (fun out c => out ++ (Builtin.Str.reprChar q c).toArray) acc).toList
  | [], acc, _, h => h
  | c :: r, acc, hl, h => by
    rw [List.foldl_cons]
    refine okc_fold q r _ (fun x hx => hl x (List.mem_cons_of_mem _ hx)) ?_
    rw [Array.toList_append]
    exact okc_app h (okc_char q c (hl c List.mem_cons_self))
theorem strOk_repr {x : Str} (h : PyData.strOk x = true) : PyData.strOk (reprText x) = true := by
  rw [strOk_iff] at *
  have hq : reprQuote x < 0x110000 := by unfold reprQuote; split <;> decide
  have hs : okc [reprQuote x] := fun c hc => by rw [List.mem_singleton.mp hc]; exact hq
  unfold reprText
  rw [← Array.foldl_toList, Array.toList_push]
  exact okc_app (okc_fold _ _ _ h hs) hs
theorem strOk_join (sep : Str) (hs : PyData.strOk sep = true) : ∀ ts : List Str, (∀ t ∈ ts, PyData.strOk t = true) → PyData.strOk (Str.join sep ts) = true
  | [], _ => strOk_of ""
  | [x], h => h x List.mem_cons_self
  | x :: y :: r, h => strOk_app (strOk_app (h x List.mem_cons_self) hs) (strOk_join sep hs (y :: r) fun t ht => h t (List.mem_cons_of_mem _ ht))
mutual
theorem shown_strOk : ∀ (n : Nat) (d : D), okd n d = true → nodct n d = true → PyData.strOk (py d).shown = true
  | n, .non, _, _ => by simp only [py, PyData.shown]; exact strOk_of _
  | n, .bl b, _, _ => by simp only [py, PyData.shown]; cases b <;> exact strOk_of _
  | n, .int i, _, _ => by simp only [py, PyData.shown]; exact strOk_of _
  | n, .str x, h, _ => by simp only [py, PyData.shown]; exact strOk_repr (by unfold okd at h; exact h)
  | n + 1, .lst ds, h, g => by
    simp only [py]
    rw [PyData.shown_list]
    unfold okd at h
    unfold nodct at g
    exact strOk_app (strOk_app (strOk_of _) (strOk_join _ (strOk_of _) _ (shown_strOks n ds (List.all_eq_true.mp h) (List.all_eq_true.mp g)))) (strOk_of _)
  | n + 1, .tup ds, h, g => by
    simp only [py]
    rw [PyData.shown_tuple]
    unfold okd at h
    unfold nodct at g
    exact strOk_app (strOk_app (strOk_of _) (strOk_join _ (strOk_of _) _ (shown_strOks n ds (List.all_eq_true.mp h) (List.all_eq_true.mp g)))) (strOk_of _)
  | 0, .lst ds, h, _ => by unfold okd at h; cases h
  | 0, .tup ds, h, _ => by unfold okd at h; cases h
  | 0, .dct ds, h, _ => by unfold okd at h; cases h
  | n + 1, .dct ds, _, h => by unfold nodct at h; cases h
  | n, .obj _ _, h, _ => by unfold okd at h; cases n <;> cases h
  | n, .ro _, h, _ => by unfold okd at h; cases n <;> cases h
  | n, .cel _, h, _ => by unfold okd at h; cases n <;> cases h
  | n, .cls _, h, _ => by unfold okd at h; cases n <;> cases h
theorem shown_strOks : ∀ (n : Nat) (ds : List D), (∀ x ∈ ds, okd n x = true) → (∀ x ∈ ds, nodct n x = true) → ∀ t ∈ PyData.shownAll (pys ds), PyData.strOk t = true
  | n, [], _, _ => by intro t ht; simp [pys, PyData.shownAll] at ht
  | n, d :: ds, h, g => by
    intro t ht
    simp only [pys, PyData.shownAll, List.mem_cons] at ht
    rcases ht with rfl | ht
    · exact shown_strOk n d (h d List.mem_cons_self) (g d List.mem_cons_self)
    · exact shown_strOks n ds (fun x hx => h x (List.mem_cons_of_mem _ hx)) (fun x hx => g x (List.mem_cons_of_mem _ hx)) t ht
end
theorem flt_strOk {d : D} (f : flt d = true) : PyData.strOk (py d).shown = true := by
  have h : okd 40 d = true ∧ nodct 40 d = true := by unfold flt at f; simpa using f
  exact shown_strOk 40 d h.1 h.2
theorem flt_str {z : Str} (h : PyData.strOk z = true) : flt (.str z) = true := by
  unfold flt okd nodct
  rw [h]; rfl
/-! == of plain data -/
section
variable {m : Mu} {Q : D → Mu → Prop} {x y : D} {xs ys : List D}
theorem eqd_int {i j : Int} : eqd (.int i) (.int j) = decide (i = j) := by simp [eqd, py, PyData.eqv]; rfl
theorem eqd_str {i j : Str} : eqd (.str i) (.str j) = decide (i = j) := by simp [eqd, py, PyData.eqv]; rfl
theorem eqd_bl {i j : Bool} : eqd (.bl i) (.bl j) = decide (i = j) := by cases i <;> cases j <;> simp [eqd, py, PyData.eqv]
theorem eqd_lst0 : eqd (.lst []) (.lst []) = true := by simp [eqd, py, pys, PyData.eqv, PyData.eqvAll]
theorem eqd_lst1 : eqd (.lst (x :: xs)) (.lst []) = false := by simp [eqd, py, pys, PyData.eqv, PyData.eqvAll]
theorem eqd_lst2 : eqd (.lst []) (.lst (y :: ys)) = false := by simp [eqd, py, pys, PyData.eqv, PyData.eqvAll]
theorem eqd_lst3 : eqd (.lst (x :: xs)) (.lst (y :: ys)) = (eqd x y && eqd (.lst xs) (.lst ys)) := by simp [eqd, py, pys, PyData.eqv, PyData.eqvAll]
theorem eqd_tup0 : eqd (.tup []) (.tup []) = true := by simp [eqd, py, pys, PyData.eqv, PyData.eqvAll]
theorem eqd_tup1 : eqd (.tup (x :: xs)) (.tup []) = false := by simp [eqd, py, pys, PyData.eqv, PyData.eqvAll]
theorem eqd_tup2 : eqd (.tup []) (.tup (y :: ys)) = false := by simp [eqd, py, pys, PyData.eqv, PyData.eqvAll]
theorem eqd_tup3 : eqd (.tup (x :: xs)) (.tup (y :: ys)) = (eqd x y && eqd (.tup xs) (.tup ys)) := by simp [eqd, py, pys, PyData.eqv, PyData.eqvAll]
theorem eqd_tl : eqd (.tup xs) (.lst ys) = false := by simp [eqd, py, PyData.eqv]
theorem eqd_lt : eqd (.lst xs) (.tup ys) = false := by simp [eqd, py, PyData.eqv]
theorem eqd_lst_nil : eqd (.lst xs) (.lst []) = decide (xs = []) := by
  cases xs with
  | nil => rw [eqd_lst0]; rfl
  | cons a r => rw [eqd_lst1]; rfl
theorem dEq_ii {i j : Int} : dEq (.int i) (.int j) m Q = (flt (.int i) = true ∧ flt (.int j) = true ∧ Q (.bl (decide (i = j))) m) := by unfold dEq; rw [vw_int, vw_int, eqd_int]
theorem dEq_ss {i j : Str} : dEq (.str i) (.str j) m Q = (PyData.strOk i = true ∧ PyData.strOk j = true ∧ Q (.bl (decide (i = j))) m) := by
  unfold dEq
  rw [vw_str, vw_str, eqd_str]
  have e : ∀ z : Str, (flt (.str z) = true) = (PyData.strOk z = true) := fun z => by unfold flt okd nodct; rw [Bool.and_true]
  rw [e, e]
theorem dNe_ii {i j : Int} : dNe (.int i) (.int j) m Q = (flt (.int i) = true ∧ flt (.int j) = true ∧ Q (.bl (!decide (i = j))) m) := by unfold dNe; rw [vw_int, vw_int, eqd_int]
theorem dNe_ss {i j : Str} : dNe (.str i) (.str j) m Q = (PyData.strOk i = true ∧ PyData.strOk j = true ∧ Q (.bl (!decide (i = j))) m) := by
  unfold dNe
  rw [vw_str, vw_str, eqd_str]
  have e : ∀ z : Str, (flt (.str z) = true) = (PyData.strOk z = true) := fun z => by unfold flt okd nodct; rw [Bool.and_true]
  rw [e, e]
theorem dEq_nil : dEq (.lst xs) (.lst []) m Q = (flt (.lst xs) = true ∧ Q (.bl (decide (xs = []))) m) := by
  unfold dEq
  rw [vw_lst, vw_lst, eqd_lst_nil]
  have e : flt (.lst []) = true := by decide
  rw [e]; simp
theorem dEq_bb {a b : Bool} : dEq (.bl a) (.bl b) m Q = Q (.bl (a == b)) m := by
  unfold dEq
  rw [vw_bl, vw_bl]
  have e : ∀ b : Bool, flt (.bl b) = true := by decide
  rw [e, e]
  cases a <;> cases b <;> simp <;> rfl
theorem dNe_bb {a b : Bool} : dNe (.bl a) (.bl b) m Q = Q (.bl (a != b)) m := by
  unfold dNe
  rw [vw_bl, vw_bl]
  have e : ∀ b : Bool, flt (.bl b) = true := by decide
  rw [e, e]
  cases a <;> cases b <;> simp <;> rfl
theorem dNe_nil : dNe (.lst xs) (.lst []) m Q = (flt (.lst xs) = true ∧ Q (.bl (!decide (xs = []))) m) := by
  unfold dNe
  rw [vw_lst, vw_lst, eqd_lst_nil]
  have e : flt (.lst []) = true := by decide
  rw [e]; simp
theorem flt_int {i : Int} (h : -(10 ^ 100) < i) (h2 : i < 10 ^ 100) : flt (.int i) = true := by
  have e : flt (.int i) = decide (i.natAbs.log2 < 1920) := by unfold flt okd nodct; rw [Bool.and_true]
  rw [e]
  refine decide_eq_true ?_
  by_cases h0 : i.natAbs = 0
  · rw [h0]; decide
  · exact (Nat.log2_lt h0).mpr (Nat.lt_of_lt_of_le (show i.natAbs < 10 ^ 100 by omega) (by decide))
theorem flt_lit {n : Nat} : flt (.int (no_index (@OfNat.ofNat Int n _))) = decide (n.log2 < 1920) := by
  show flt (.int (n : Int)) = _
  unfold flt okd nodct
  rw [Bool.and_true]; rfl
theorem flt_litc {n : Nat} (h : n < 1000000000000000000000000000000) : flt (.int (no_index (@OfNat.ofNat Int n _))) = true := flt_int (i := (n : Int)) (by omega) (by omega)
theorem flt_bl {b : Bool} : flt (.bl b) = true := by unfold flt okd nodct; rfl
theorem flt_non : flt .non = true := by unfold flt okd nodct; rfl
/-- lists of data of n levels -/
theorem okd_all {n : Nat} {ds : List D} (h : ∀ d ∈ ds, okd n d = true) : okd (n + 1) (.lst ds) = true := by unfold okd; exact List.all_eq_true.mpr h
theorem nod_all {n : Nat} {ds : List D} (h : ∀ d ∈ ds, nodct n d = true) : nodct (n + 1) (.lst ds) = true := by unfold nodct; exact List.all_eq_true.mpr h
theorem flt_strs {zs : List Str} (h : ∀ z ∈ zs, PyData.strOk z = true) : flt (.lst (zs.map D.str)) = true := by
  unfold flt
  rw [okd_all (n := 39) fun d hd => ?_, nod_all (n := 39) fun d hd => ?_]; rfl
  · obtain ⟨z, _, rfl⟩ := List.mem_map.mp hd
    unfold nodct; rfl
  · obtain ⟨z, hz, rfl⟩ := List.mem_map.mp hd
    unfold okd; exact h z hz
end
/-! texts by their signs -/
def tx (l : List Nat) : Str := ⟨l.toArray⟩
theorem tx_tl (z : Str) : tx z.cps.toList = z := TL.mk_tl z
theorem tl_tx (l : List Nat) : (tx l).cps.toList = l := rfl
theorem len_tx (l : List Nat) : (tx l).length = l.length := by simp [tx, Str.length]
theorem len_toList (z : Str) : z.cps.toList.length = z.length := by simp [Str.length]
theorem joinL_nil : ∀ ps : List (List Nat), TL.joinL [] ps = ps.flatten
  | [] => rfl
  | [p] => by simp [TL.joinL]
  | p :: q :: r => by
    show p ++ ([] ++ TL.joinL [] (q :: r)) = _
    rw [joinL_nil (q :: r)]; simp
theorem join0 (ts : List Str) : Txt.join (Str.ofString "") ts = tx (ts.map fun t => t.cps.toList).flatten := by
  refine TL.ext_tl ?_
  rw [TL.join_eq, TL.tl_join]
  exact joinL_nil _
theorem join0_sg (cs : List Nat) : Txt.join (Str.ofString "") (cs.map fun c => (⟨#[c]⟩ : Str)) = tx cs := by
  rw [join0, List.map_map]
  congr 1
  induction cs with
  | nil => rfl
  | cons a r ih => rw [List.map_cons, List.flatten_cons, ih]; rfl
/-- signs drawn, put together -/
theorem sg_all {R : Nat → Prop} : ∀ {ys : List D}, (∀ y ∈ ys, ∃ c : Nat, y = .str ⟨#[c]⟩ ∧ R c) → ∃ cs : List Nat, ys = (cs.map fun c => (⟨#[c]⟩ : Str)).map D.str ∧ ∀ c ∈ cs, R c
  | [], _ => ⟨[], rfl, by simp⟩
  | y :: r, h => by
    obtain ⟨c, rfl, hc⟩ := h y List.mem_cons_self
    obtain ⟨cs, e, hr⟩ := sg_all fun z hz => h z (List.mem_cons_of_mem _ hz)
    exact ⟨c :: cs, by rw [e]; rfl, fun x hx => by
      rcases List.mem_cons.mp hx with rfl | hx
      · exact hc
      · exact hr x hx⟩
theorem sum_sg : ∀ cs : List Nat, ((cs.map fun c => (⟨#[c]⟩ : Str)).map fun x => x.length).sum = cs.length
  | [] => rfl
  | c :: r => by simp only [List.map_cons, List.sum_cons, sum_sg r, List.length_cons]; show 1 + _ = _; omega
theorem strOk_tx {l : List Nat} (h : ∀ c ∈ l, c < 0x110000) : PyData.strOk (tx l) = true := strOk_iff.mpr h
theorem flt_bls (bs : List Bool) : flt (.lst (bs.map D.bl)) = true := by
  unfold flt
  rw [okd_all (n := 39) fun d hd => ?_, nod_all (n := 39) fun d hd => ?_]; rfl
  · obtain ⟨z, _, rfl⟩ := List.mem_map.mp hd
    unfold nodct; rfl
  · obtain ⟨z, _, rfl⟩ := List.mem_map.mp hd
    unfold okd; rfl
section
variable {n : Nat} {d : D} {ds : List D}
theorem okd_ln : okd (n + 1) (.lst []) = true := by unfold okd; rfl
theorem okd_lc : okd (n + 1) (.lst (d :: ds)) = (okd n d && okd (n + 1) (.lst ds)) := by
  have e : ∀ l, okd (n + 1) (.lst l) = l.all (okd n) := fun l => by unfold okd; rfl
  rw [e, e, List.all_cons]
theorem okd_tn : okd (n + 1) (.tup []) = true := by unfold okd; rfl
theorem okd_tc : okd (n + 1) (.tup (d :: ds)) = (okd n d && okd (n + 1) (.tup ds)) := by
  have e : ∀ l, okd (n + 1) (.tup l) = l.all (okd n) := fun l => by unfold okd; rfl
  rw [e, e, List.all_cons]
theorem nod_ln : nodct (n + 1) (.lst []) = true := by unfold nodct; rfl
theorem nod_lc : nodct (n + 1) (.lst (d :: ds)) = (nodct n d && nodct (n + 1) (.lst ds)) := by
  have e : ∀ l, nodct (n + 1) (.lst l) = l.all (nodct n) := fun l => by unfold nodct; rfl
  rw [e, e, List.all_cons]
theorem nod_tn : nodct (n + 1) (.tup []) = true := by unfold nodct; rfl
theorem nod_tc : nodct (n + 1) (.tup (d :: ds)) = (nodct n d && nodct (n + 1) (.tup ds)) := by
  have e : ∀ l, nodct (n + 1) (.tup l) = l.all (nodct n) := fun l => by unfold nodct; rfl
  rw [e, e, List.all_cons]
theorem okd_bl {b : Bool} : okd n (.bl b) = true := by unfold okd; rfl
theorem okd_non : okd n .non = true := by unfold okd; rfl
theorem okd_str {z : Str} : okd n (.str z) = PyData.strOk z := by unfold okd; rfl
theorem okd_int {i : Int} (h : -(10 ^ 100) < i) (h2 : i < 10 ^ 100) : okd n (.int i) = true := by
  have := flt_int h h2
  unfold flt at this
  have := (Bool.and_eq_true_iff.mp this).1
  unfold okd at this ⊢
  exact this
theorem nod_bl {b : Bool} : nodct n (.bl b) = true := by unfold nodct; rfl
theorem nod_non : nodct n .non = true := by unfold nodct; rfl
theorem nod_str {z : Str} : nodct n (.str z) = true := by unfold nodct; rfl
theorem nod_int {i : Int} : nodct n (.int i) = true := by unfold nodct; rfl
theorem okd_ints {is : List Int} (h : ∀ i ∈ is, -(10 ^ 100) < i ∧ i < 10 ^ 100) : okd (n + 1) (.lst (is.map D.int)) = true := okd_all fun d hd => by
  obtain ⟨i, hi, rfl⟩ := List.mem_map.mp hd
  exact okd_int (h i hi).1 (h i hi).2
theorem nod_ints (is : List Int) : nodct (n + 1) (.lst (is.map D.int)) = true := nod_all fun d hd => by
  obtain ⟨i, hi, rfl⟩ := List.mem_map.mp hd
  exact nod_int
theorem flt_ints {is : List Int} (h : ∀ i ∈ is, -(10 ^ 100) < i ∧ i < 10 ^ 100) : flt (.lst (is.map D.int)) = true := by
  unfold flt
  rw [okd_ints h, nod_ints]; rfl
theorem szds_ints : ∀ is : List Int, (∀ i ∈ is, 0 ≤ i ∧ i < 2 ^ 62) → szds (is.map D.int) ≤ 70 * is.length
  | [], _ => by simp [szds]
  | i :: r, h => by
    have ih := szds_ints r fun x hx => h x (List.mem_cons_of_mem _ hx)
    obtain ⟨h0, h1⟩ := h i List.mem_cons_self
    have hl : i.natAbs.log2 < 62 + 1 := by
      by_cases z : i.natAbs = 0
      · rw [z]; decide
      · exact Nat.lt_succ_of_lt ((Nat.log2_lt z).mpr (by omega))
    simp only [List.map_cons, szds, szd, List.length_cons]
    omega
theorem log2_62 {i : Int} (h0 : -(2 ^ 62) < i) (h1 : i < 2 ^ 62) : i.natAbs.log2 < 63 := by
  by_cases z : i.natAbs = 0
  · rw [z]; decide
  · exact Nat.lt_succ_of_lt ((Nat.log2_lt z).mpr (by omega))
end
def ngB (x : Str) : D → Bool
  | .str s => (Builtin.Str.occurrences x s 0 x.length 1).isEmpty
  | _ => false
theorem ngB_sg (x : Str) (c : Nat) : ngB x (.str ⟨#[c]⟩) = !decide (c ∈ x.cps.toList) := by
  rw [← in_sg x c, Bool.not_not]; rfl
theorem ng_nil (x z : Str) : decide (((sgs z).filter (ngB x)).map id = []) = z.cps.toList.all fun c => decide (c ∈ x.cps.toList) := by
  unfold sgs
  induction z.cps.toList with
  | nil => rfl
  | cons a r ih =>
    rw [List.map_cons, List.all_cons]
    cases h : decide (a ∈ x.cps.toList) with
    | true =>
      rw [List.filter_cons_of_neg (by rw [ngB_sg, h]; decide), ih, Bool.true_and]
    | false =>
      rw [List.filter_cons_of_pos (by rw [ngB_sg, h]; rfl), Bool.false_and]
      rfl
theorem dRepr_bl {b : Bool} {m : Mu} {Q : D → Mu → Prop} : dRepr [.bl b] m Q = Q (.str (py (.bl b)).shown) m := by
  show (flt (.bl b) = true ∧ szd (.bl b) ≤ 16000000 ∧ Q (.str (py (.bl b)).shown) m) = _
  have e : szd (.bl b) ≤ 16000000 := by unfold szd; omega
  simp only [flt_bl, e, true_and]
theorem bl_strOk {b : Bool} : PyData.strOk (py (.bl b)).shown = true := flt_strOk flt_bl
theorem iteI {c : Prop} [Decidable c] {A B : Prop} (h1 : c → A) (h2 : ¬ c → B) : if c then A else B := by
  by_cases h : c
  · rw [if_pos h]; exact h1 h
  · rw [if_neg h]; exact h2 h
end Nd

namespace Nd
open PySem L2 PyProof.Rows PySem.Spec
/-- a value of a kind that isinstance tells, no cell -/
def hdk : D → Bool
  | .non => true
  | .bl _ => true
  | .int _ => true
  | .str _ => true
  | .lst _ => true
  | .tup _ => true
  | .dct _ => true
  | _ => false
def abc : Str := "abcdefghijklmnopqrstuvwxyz"
def isIntB (d : D) (lo hi : Int) : Bool := match d with
  | .int i => decide (lo ≤ i) && decide (i ≤ hi)
  | _ => false
def isNameB (d : D) : Bool := match d with
  | .str z => decide (1 ≤ z.length) && decide (z.length ≤ 8) && z.cps.toList.all fun c => decide (c ∈ abc.cps.toList)
  | _ => false
def txs (d : D) : Prop := ∀ z, d = .str z → z.length ≤ sizeLine ∧ PyData.strOk z = true
def S_is_integer : Spec := fun ds m Q E => ∃ (d : D) (lo hi : Int), ds = [d, .int lo, .int hi] ∧ hdk d = true ∧ Q (.bl (isIntB d lo hi)) m
def S_is_name : Spec := fun ds m Q E => ∃ d, ds = [d] ∧ hdk d = true ∧ txs d ∧ Q (.bl (isNameB d)) m
section
variable {P : Program} {w : World} {K : PySem.W.Frag} {mg : Str → Option Value} {base : Heap} {k : Nat} {f : Addr} {fd : FuncData}
def g_is_integer : GS :=
  (sRet (gAnd (gCB dIsi (aCons (gVar 0) (aCons (gC (.cls (.ty "int"))) aNil))) (gAnd (gNot (gCB dIsi (aCons (gVar 0) (aCons (gC (.cls (.ty "bool"))) aNil)))) (gChain dLe dLe (gVar 1) (gVar 0) (gVar 2)))))
theorem lift_is_integer (F : FnG P w K mg base k f fd ["value", "low", "high"] (wpS ["value", "low", "high"] ["value", "low", "high"] g_is_integer)) : FnG P w K mg base k f fd ["value", "low", "high"] S_is_integer := F.imp fun ds m Q E h => by
  obtain ⟨d, lo, hi, rfl, hk, q⟩ := h
  refine ⟨rfl, ?_⟩
  cases d <;> first | cases hk | skip
  all_goals simp only [g_is_integer, ↓reduceIte, ↓u_sNx, ↓u_sSeq, ↓u_nx, ↓u_rt, ↓u_bk, ↓u_ct, ↓u_sBreak, ↓u_sCont, ↓u_sDrop, ↓u_sRet, ↓u_sRetN, ↓u_sIf, ↓u_sAsg, ↓u_gC, ↓u_aNil, ↓u_aCons, ↓u_gTup, ↓u_gLst, ↓u_gLstM, ↓u_gBin, ↓u_cVal, ↓u_onBl, ↓u_onInt, ↓u_onStr, ↓u_gChain, ↓u_cAnd, ↓u_cOr, ↓u_cNot, ↓u_gAnd, ↓u_gOr, ↓u_gNot, ↓u_gIf, ↓u_gNeg, ↓u_nNil, ↓u_nCons, ↓u_nTup, ↓u_nSub, ↓u_gCB, ↓u_gCall, ↓u_gM0, ↓u_gM1, ↓u_gL, ↓u_gL0, ↓u_oNo, ↓u_oSome, ↓u_gSl, ↓u_cYes, ↓u_on1, ↓u_on2, ↓u_dInt, ↓u_dInt0, ↓u_gLc, ↓u_gLcM, ↓u_gLc2, ↓u_sNever, ↓u_iEnS, ↓u_iEnL, ↓u_iEnumD, ↓u_iZipD, ↓u_zipS, ↓u_zipL, ↓u_iSeq, ↓u_iRange1, ↓u_iRange2, ↓u_sWhile, ↓u_iRange3, ↓u_on3, ↓u_sFor, ↓u_dMax2, ↓u_dMin2, ↓u_gDct0, ↓u_gVar0, ↓u_sSet0, ↓u_nName0, ↓u_gVar1, ↓u_sSet1, ↓u_nName1, ↓u_gVar2, ↓u_sSet2, ↓u_nName2, ↓u_gVar3, ↓u_sSet3, ↓u_nName3, ↓u_gVar4, ↓u_sSet4, ↓u_nName4, ↓u_gVar5, ↓u_sSet5, ↓u_nName5, ↓u_gVar6, ↓u_sSet6, ↓u_nName6, ↓u_gVar7, ↓u_sSet7, ↓u_nName7, ↓u_gVar8, ↓u_sSet8, ↓u_nName8, ↓u_gVar9, ↓u_sSet9, ↓u_nName9, ↓u_gVar10, ↓u_sSet10, ↓u_nName10, ↓u_gVar11, ↓u_sSet11, ↓u_nName11, ↓u_gVar12, ↓u_sSet12, ↓u_nName12, ↓u_gVar13, ↓u_sSet13, ↓u_nName13, ↓u_gVar14, ↓u_sSet14, ↓u_nName14, ↓u_gVar15, ↓u_sSet15, ↓u_nName15, ↓u_gVar16, ↓u_sSet16, ↓u_nName16, ↓u_gVar17, ↓u_sSet17, ↓u_nName17, ↓dToInt_int, ↓dToInt_bl, ↓dListU_lst, ↓dListU_tup, ↓dListU_str, ↓dListUM_lst, ↓dListUM_tup, ↓dListUM_str, ↓dTuple_lst, ↓dTuple_tup, ↓dIn_lst, ↓dIn_tup, ↓dSl_str, ↓dSl_lst, ↓dSl_tup, ↓dAdd_int, ↓dAdd_str, ↓dAdd_lst, ↓dAdd_tup, ↓dMul_int, ↓dMul_str, ↓dMul_lst, ↓dIx_lst, ↓dIx_ro, ↓dIx_tup, ↓dIx_str, ↓onSome_some, ↓dLen_lst, ↓dLen_tup, ↓dLen_str, ↓dLen_ro, ↓dLen_dct, ↓items_str, ↓items_lst, ↓items_tup, ↓items_ro, ↓dAll_lst, ↓dAny_lst, ↓dSum_lst, ↓dIsi_ty, ↓dIsi_tup, ↓dIn_str, ↓onSeq_lst, ↓onSeq_tup, ↓dIs_bb, ↓dStrI_i, ↓dIsW_bb, ↓dIsW_ib, ↓dIsW_sb, ↓dIsW_nb, ↓dIsW_lb, ↓dIsW_tb, ↓dIsW_db, ↓dIsW_nn, ↓dIsW_in, ↓dIsW_sn, ↓dIsW_ln, ↓dIsW_tn, ↓dEq_ii, ↓dEq_ss, ↓dNe_ii, ↓dNe_ss, ↓dEq_nil, ↓dNe_nil, ↓dEq_bb, ↓dNe_bb, List.append_nil, List.nil_append, List.cons_append, startD, List.map_cons, List.map_nil, List.length_cons, List.length_nil, Nat.sub_self, List.replicate_zero, List.replicate_succ, List.set_cons_zero, List.set_cons_succ, List.getElem?_cons_zero, List.getElem?_cons_succ, atI_lit, vw_int, vw_str, vw_bl, vw_non, vw_lst, vw_tup, vw_dct, vw_ro, vw_obj, vw_cls, Nat.reduceAdd, Nat.reduceSub, Int.reduceToNat, Int.reduceNeg, Int.reducePow, Int.reduceAdd, Int.reduceSub, Int.reduceMul, ixN_lit, decide_eq_true_eq, decide_eq_false_iff_not, if_true, if_false, Bool.false_eq_true, Bool.not_true, Bool.not_false, Nat.reduceLT, Nat.reduceLeDiff, Int.reduceLT, Int.reduceLE, true_and, and_true, and_self, ite_true, ite_false, kind_int, kind_bl, kind_non, kind_str, kind_lst, kind_tup, kind_dct, clsAll_lt, all_lt, any_lt_l, any_lt_t, any_lt_s, any_lt_i, any_lt_b, any_lt_n, any_lt_d, kc_int, kc_bool, kc_str, kc_list, kc_tuple, kc_dict, isiT, String.reduceBEq, Bool.or_false, Bool.or_true, Bool.false_or, Bool.true_or, Bool.and_false, Bool.false_and, Bool.and_true, Bool.true_and, wipeD, Bool.not_eq_true, Bool.not_eq_false, Bool.not_eq_eq_eq_not, Bool.not_not, Bool.false_bne, Bool.true_bne, dJoin, onSome_some, sizeLine_eq, Mu.put_same, put_put, Nat.zero_le, decide_true, decide_false, flt_litc, fld_str, fld_int, fld_bl, fld_non, List.all_cons, List.all_nil, reduceCtorEq, strOk_of, eqd_int, eqd_str, eqd_bl, eqd_lst0, eqd_lst1, eqd_lst2, eqd_lst3, eqd_tup0, eqd_tup1, eqd_tup2, eqd_tup3, flt_bl, flt_non]
  all_goals first | exact q | skip
  split
  · rename_i i h
    simpa [isIntB, h] using q
  · rename_i i h
    simpa [isIntB, h] using q
def sgB (x : Str) : D → D
  | .str s => .bl (!(Builtin.Str.occurrences x s 0 x.length 1).isEmpty)
  | _ => .bl false
theorem sgs_len (z : Str) : (sgs z).length = z.length := by simp [sgs, Str.length]
theorem sgB_map (x z : Str) : (sgs z).map (sgB x) = (z.cps.toList.map fun c => decide (c ∈ x.cps.toList)).map D.bl := by
  unfold sgs
  rw [List.map_map, List.map_map]
  refine List.map_congr_left fun c _ => ?_
  show D.bl _ = D.bl _
  rw [show (⟨#[c]⟩ : Str) = sg c from rfl, in_sg]
def g_is_name : GS :=
  (sSeq (sIf (cOr (cNot (cVal (gCB dIsi (aCons (gVar 0) (aCons (gC (.cls (.ty "str"))) aNil))))) (cNot (cVal (gChain dLe dLe (gC (.int 1)) (gCB dLen (aCons (gVar 0) aNil)) (gC (.int 8)))))) (sRet (gC (.bl false))) sNx)
  (sRet (gCB dAll (aCons (gLc (iSeq (gVar 0)) (nName 1) cYes (gBin (dIn false) (gVar 1) (gC (.str "abcdefghijklmnopqrstuvwxyz"))) [1]) aNil))))
theorem lift_is_name (F : FnG P w K mg base k f fd ["value"] (wpS ["value"] ["value", "sign"] g_is_name)) : FnG P w K mg base k f fd ["value"] S_is_name := F.imp fun ds m Q E h => by
  obtain ⟨d, rfl, hk, ht, q⟩ := h
  refine ⟨rfl, ?_⟩
  cases d <;> first | cases hk | skip
  all_goals simp only [g_is_name, ↓reduceIte, ↓u_sNx, ↓u_sSeq, ↓u_nx, ↓u_rt, ↓u_bk, ↓u_ct, ↓u_sBreak, ↓u_sCont, ↓u_sDrop, ↓u_sRet, ↓u_sRetN, ↓u_sIf, ↓u_sAsg, ↓u_gC, ↓u_aNil, ↓u_aCons, ↓u_gTup, ↓u_gLst, ↓u_gLstM, ↓u_gBin, ↓u_cVal, ↓u_onBl, ↓u_onInt, ↓u_onStr, ↓u_gChain, ↓u_cAnd, ↓u_cOr, ↓u_cNot, ↓u_gAnd, ↓u_gOr, ↓u_gNot, ↓u_gIf, ↓u_gNeg, ↓u_nNil, ↓u_nCons, ↓u_nTup, ↓u_nSub, ↓u_gCB, ↓u_gCall, ↓u_gM0, ↓u_gM1, ↓u_gL, ↓u_gL0, ↓u_oNo, ↓u_oSome, ↓u_gSl, ↓u_cYes, ↓u_on1, ↓u_on2, ↓u_dInt, ↓u_dInt0, ↓u_gLc, ↓u_gLcM, ↓u_gLc2, ↓u_sNever, ↓u_iEnS, ↓u_iEnL, ↓u_iEnumD, ↓u_iZipD, ↓u_zipS, ↓u_zipL, ↓u_iSeq, ↓u_iRange1, ↓u_iRange2, ↓u_sWhile, ↓u_iRange3, ↓u_on3, ↓u_sFor, ↓u_dMax2, ↓u_dMin2, ↓u_gDct0, ↓u_gVar0, ↓u_sSet0, ↓u_nName0, ↓u_gVar1, ↓u_sSet1, ↓u_nName1, ↓u_gVar2, ↓u_sSet2, ↓u_nName2, ↓u_gVar3, ↓u_sSet3, ↓u_nName3, ↓u_gVar4, ↓u_sSet4, ↓u_nName4, ↓u_gVar5, ↓u_sSet5, ↓u_nName5, ↓u_gVar6, ↓u_sSet6, ↓u_nName6, ↓u_gVar7, ↓u_sSet7, ↓u_nName7, ↓u_gVar8, ↓u_sSet8, ↓u_nName8, ↓u_gVar9, ↓u_sSet9, ↓u_nName9, ↓u_gVar10, ↓u_sSet10, ↓u_nName10, ↓u_gVar11, ↓u_sSet11, ↓u_nName11, ↓u_gVar12, ↓u_sSet12, ↓u_nName12, ↓u_gVar13, ↓u_sSet13, ↓u_nName13, ↓u_gVar14, ↓u_sSet14, ↓u_nName14, ↓u_gVar15, ↓u_sSet15, ↓u_nName15, ↓u_gVar16, ↓u_sSet16, ↓u_nName16, ↓u_gVar17, ↓u_sSet17, ↓u_nName17, ↓dToInt_int, ↓dToInt_bl, ↓dListU_lst, ↓dListU_tup, ↓dListU_str, ↓dListUM_lst, ↓dListUM_tup, ↓dListUM_str, ↓dTuple_lst, ↓dTuple_tup, ↓dIn_lst, ↓dIn_tup, ↓dSl_str, ↓dSl_lst, ↓dSl_tup, ↓dAdd_int, ↓dAdd_str, ↓dAdd_lst, ↓dAdd_tup, ↓dMul_int, ↓dMul_str, ↓dMul_lst, ↓dIx_lst, ↓dIx_ro, ↓dIx_tup, ↓dIx_str, ↓onSome_some, ↓dLen_lst, ↓dLen_tup, ↓dLen_str, ↓dLen_ro, ↓dLen_dct, ↓items_str, ↓items_lst, ↓items_tup, ↓items_ro, ↓dAll_lst, ↓dAny_lst, ↓dSum_lst, ↓dIsi_ty, ↓dIsi_tup, ↓dIn_str, ↓onSeq_lst, ↓onSeq_tup, ↓dIs_bb, ↓dStrI_i, ↓dIsW_bb, ↓dIsW_ib, ↓dIsW_sb, ↓dIsW_nb, ↓dIsW_lb, ↓dIsW_tb, ↓dIsW_db, ↓dIsW_nn, ↓dIsW_in, ↓dIsW_sn, ↓dIsW_ln, ↓dIsW_tn, ↓dEq_ii, ↓dEq_ss, ↓dNe_ii, ↓dNe_ss, ↓dEq_nil, ↓dNe_nil, ↓dEq_bb, ↓dNe_bb, List.append_nil, List.nil_append, List.cons_append, startD, List.map_cons, List.map_nil, List.length_cons, List.length_nil, Nat.sub_self, List.replicate_zero, List.replicate_succ, List.set_cons_zero, List.set_cons_succ, List.getElem?_cons_zero, List.getElem?_cons_succ, atI_lit, vw_int, vw_str, vw_bl, vw_non, vw_lst, vw_tup, vw_dct, vw_ro, vw_obj, vw_cls, Nat.reduceAdd, Nat.reduceSub, Int.reduceToNat, Int.reduceNeg, Int.reducePow, Int.reduceAdd, Int.reduceSub, Int.reduceMul, ixN_lit, decide_eq_true_eq, decide_eq_false_iff_not, if_true, if_false, Bool.false_eq_true, Bool.not_true, Bool.not_false, Nat.reduceLT, Nat.reduceLeDiff, Int.reduceLT, Int.reduceLE, true_and, and_true, and_self, ite_true, ite_false, kind_int, kind_bl, kind_non, kind_str, kind_lst, kind_tup, kind_dct, clsAll_lt, all_lt, any_lt_l, any_lt_t, any_lt_s, any_lt_i, any_lt_b, any_lt_n, any_lt_d, kc_int, kc_bool, kc_str, kc_list, kc_tuple, kc_dict, isiT, String.reduceBEq, Bool.or_false, Bool.or_true, Bool.false_or, Bool.true_or, Bool.and_false, Bool.false_and, Bool.and_true, Bool.true_and, wipeD, Bool.not_eq_true, Bool.not_eq_false, Bool.not_eq_eq_eq_not, Bool.not_not, Bool.false_bne, Bool.true_bne, dJoin, onSome_some, sizeLine_eq, Mu.put_same, put_put, Nat.zero_le, decide_true, decide_false, flt_litc, fld_str, fld_int, fld_bl, fld_non, List.all_cons, List.all_nil, reduceCtorEq, strOk_of, eqd_int, eqd_str, eqd_bl, eqd_lst0, eqd_lst1, eqd_lst2, eqd_lst3, eqd_tup0, eqd_tup1, eqd_tup2, eqd_tup3, flt_bl, flt_non]
  all_goals first | exact q | skip
  rename_i z
  obtain ⟨hz, hs⟩ := ht z rfl
  refine ⟨hz, ?_⟩
  have no : ¬ (1 ≤ z.length ∧ z.length ≤ 8) → Q (.bl false) m := fun h => by
    have e : isNameB (.str z) = false := by
      show (decide (1 ≤ z.length) && decide (z.length ≤ 8) && _) = false
      by_cases h1 : 1 ≤ z.length
      · rw [decide_eq_false (p := z.length ≤ 8) (fun h2 => h ⟨h1, h2⟩), Bool.and_false, Bool.false_and]
      · rw [decide_eq_false h1, Bool.false_and, Bool.false_and]
    rw [e] at q; exact q
  split
  · split
    · exact no (by omega)
    · refine lc_map (sgB abc) (fun _ _ _ => trivial) (by rw [sgs_len]; exact hz) (fun a c ha d hd yes hy => ?_) ?_
      · obtain ⟨c, _, rfl⟩ := List.mem_map.mp hd
        simp only [↓reduceIte, ↓u_sNx, ↓u_sSeq, ↓u_nx, ↓u_rt, ↓u_bk, ↓u_ct, ↓u_sBreak, ↓u_sCont, ↓u_sDrop, ↓u_sRet, ↓u_sRetN, ↓u_sIf, ↓u_sAsg, ↓u_gC, ↓u_aNil, ↓u_aCons, ↓u_gTup, ↓u_gLst, ↓u_gLstM, ↓u_gBin, ↓u_cVal, ↓u_onBl, ↓u_onInt, ↓u_onStr, ↓u_gChain, ↓u_cAnd, ↓u_cOr, ↓u_cNot, ↓u_gAnd, ↓u_gOr, ↓u_gNot, ↓u_gIf, ↓u_gNeg, ↓u_nNil, ↓u_nCons, ↓u_nTup, ↓u_nSub, ↓u_gCB, ↓u_gCall, ↓u_gM0, ↓u_gM1, ↓u_gL, ↓u_gL0, ↓u_oNo, ↓u_oSome, ↓u_gSl, ↓u_cYes, ↓u_on1, ↓u_on2, ↓u_dInt, ↓u_dInt0, ↓u_gLc, ↓u_gLcM, ↓u_gLc2, ↓u_sNever, ↓u_iEnS, ↓u_iEnL, ↓u_iEnumD, ↓u_iZipD, ↓u_zipS, ↓u_zipL, ↓u_iSeq, ↓u_iRange1, ↓u_iRange2, ↓u_sWhile, ↓u_iRange3, ↓u_on3, ↓u_sFor, ↓u_dMax2, ↓u_dMin2, ↓u_gDct0, ↓u_gVar0, ↓u_sSet0, ↓u_nName0, ↓u_gVar1, ↓u_sSet1, ↓u_nName1, ↓u_gVar2, ↓u_sSet2, ↓u_nName2, ↓u_gVar3, ↓u_sSet3, ↓u_nName3, ↓u_gVar4, ↓u_sSet4, ↓u_nName4, ↓u_gVar5, ↓u_sSet5, ↓u_nName5, ↓u_gVar6, ↓u_sSet6, ↓u_nName6, ↓u_gVar7, ↓u_sSet7, ↓u_nName7, ↓u_gVar8, ↓u_sSet8, ↓u_nName8, ↓u_gVar9, ↓u_sSet9, ↓u_nName9, ↓u_gVar10, ↓u_sSet10, ↓u_nName10, ↓u_gVar11, ↓u_sSet11, ↓u_nName11, ↓u_gVar12, ↓u_sSet12, ↓u_nName12, ↓u_gVar13, ↓u_sSet13, ↓u_nName13, ↓u_gVar14, ↓u_sSet14, ↓u_nName14, ↓u_gVar15, ↓u_sSet15, ↓u_nName15, ↓u_gVar16, ↓u_sSet16, ↓u_nName16, ↓u_gVar17, ↓u_sSet17, ↓u_nName17, ↓dToInt_int, ↓dToInt_bl, ↓dListU_lst, ↓dListU_tup, ↓dListU_str, ↓dListUM_lst, ↓dListUM_tup, ↓dListUM_str, ↓dTuple_lst, ↓dTuple_tup, ↓dIn_lst, ↓dIn_tup, ↓dSl_str, ↓dSl_lst, ↓dSl_tup, ↓dAdd_int, ↓dAdd_str, ↓dAdd_lst, ↓dAdd_tup, ↓dMul_int, ↓dMul_str, ↓dMul_lst, ↓dIx_lst, ↓dIx_ro, ↓dIx_tup, ↓dIx_str, ↓onSome_some, ↓dLen_lst, ↓dLen_tup, ↓dLen_str, ↓dLen_ro, ↓dLen_dct, ↓items_str, ↓items_lst, ↓items_tup, ↓items_ro, ↓dAll_lst, ↓dAny_lst, ↓dSum_lst, ↓dIsi_ty, ↓dIsi_tup, ↓dIn_str, ↓onSeq_lst, ↓onSeq_tup, ↓dIs_bb, ↓dStrI_i, ↓dIsW_bb, ↓dIsW_ib, ↓dIsW_sb, ↓dIsW_nb, ↓dIsW_lb, ↓dIsW_tb, ↓dIsW_db, ↓dIsW_nn, ↓dIsW_in, ↓dIsW_sn, ↓dIsW_ln, ↓dIsW_tn, ↓dEq_ii, ↓dEq_ss, ↓dNe_ii, ↓dNe_ss, ↓dEq_nil, ↓dNe_nil, ↓dEq_bb, ↓dNe_bb, List.append_nil, List.nil_append, List.cons_append, startD, List.map_cons, List.map_nil, List.length_cons, List.length_nil, Nat.sub_self, List.replicate_zero, List.replicate_succ, List.set_cons_zero, List.set_cons_succ, List.getElem?_cons_zero, List.getElem?_cons_succ, atI_lit, vw_int, vw_str, vw_bl, vw_non, vw_lst, vw_tup, vw_dct, vw_ro, vw_obj, vw_cls, Nat.reduceAdd, Nat.reduceSub, Int.reduceToNat, Int.reduceNeg, Int.reducePow, Int.reduceAdd, Int.reduceSub, Int.reduceMul, ixN_lit, decide_eq_true_eq, decide_eq_false_iff_not, if_true, if_false, Bool.false_eq_true, Bool.not_true, Bool.not_false, Nat.reduceLT, Nat.reduceLeDiff, Int.reduceLT, Int.reduceLE, true_and, and_true, and_self, ite_true, ite_false, kind_int, kind_bl, kind_non, kind_str, kind_lst, kind_tup, kind_dct, clsAll_lt, all_lt, any_lt_l, any_lt_t, any_lt_s, any_lt_i, any_lt_b, any_lt_n, any_lt_d, kc_int, kc_bool, kc_str, kc_list, kc_tuple, kc_dict, isiT, String.reduceBEq, Bool.or_false, Bool.or_true, Bool.false_or, Bool.true_or, Bool.and_false, Bool.false_and, Bool.and_true, Bool.true_and, wipeD, Bool.not_eq_true, Bool.not_eq_false, Bool.not_eq_eq_eq_not, Bool.not_not, Bool.false_bne, Bool.true_bne, dJoin, onSome_some, sizeLine_eq, Mu.put_same, put_put, Nat.zero_le, decide_true, decide_false, flt_litc, fld_str, fld_int, fld_bl, fld_non, List.all_cons, List.all_nil, reduceCtorEq, strOk_of, eqd_int, eqd_str, eqd_bl, eqd_lst0, eqd_lst1, eqd_lst2, eqd_lst3, eqd_tup0, eqd_tup1, eqd_tup2, eqd_tup3, flt_bl, flt_non]
        exact hy
      · simp only [↓reduceIte, ↓u_sNx, ↓u_sSeq, ↓u_nx, ↓u_rt, ↓u_bk, ↓u_ct, ↓u_sBreak, ↓u_sCont, ↓u_sDrop, ↓u_sRet, ↓u_sRetN, ↓u_sIf, ↓u_sAsg, ↓u_gC, ↓u_aNil, ↓u_aCons, ↓u_gTup, ↓u_gLst, ↓u_gLstM, ↓u_gBin, ↓u_cVal, ↓u_onBl, ↓u_onInt, ↓u_onStr, ↓u_gChain, ↓u_cAnd, ↓u_cOr, ↓u_cNot, ↓u_gAnd, ↓u_gOr, ↓u_gNot, ↓u_gIf, ↓u_gNeg, ↓u_nNil, ↓u_nCons, ↓u_nTup, ↓u_nSub, ↓u_gCB, ↓u_gCall, ↓u_gM0, ↓u_gM1, ↓u_gL, ↓u_gL0, ↓u_oNo, ↓u_oSome, ↓u_gSl, ↓u_cYes, ↓u_on1, ↓u_on2, ↓u_dInt, ↓u_dInt0, ↓u_gLc, ↓u_gLcM, ↓u_gLc2, ↓u_sNever, ↓u_iEnS, ↓u_iEnL, ↓u_iEnumD, ↓u_iZipD, ↓u_zipS, ↓u_zipL, ↓u_iSeq, ↓u_iRange1, ↓u_iRange2, ↓u_sWhile, ↓u_iRange3, ↓u_on3, ↓u_sFor, ↓u_dMax2, ↓u_dMin2, ↓u_gDct0, ↓u_gVar0, ↓u_sSet0, ↓u_nName0, ↓u_gVar1, ↓u_sSet1, ↓u_nName1, ↓u_gVar2, ↓u_sSet2, ↓u_nName2, ↓u_gVar3, ↓u_sSet3, ↓u_nName3, ↓u_gVar4, ↓u_sSet4, ↓u_nName4, ↓u_gVar5, ↓u_sSet5, ↓u_nName5, ↓u_gVar6, ↓u_sSet6, ↓u_nName6, ↓u_gVar7, ↓u_sSet7, ↓u_nName7, ↓u_gVar8, ↓u_sSet8, ↓u_nName8, ↓u_gVar9, ↓u_sSet9, ↓u_nName9, ↓u_gVar10, ↓u_sSet10, ↓u_nName10, ↓u_gVar11, ↓u_sSet11, ↓u_nName11, ↓u_gVar12, ↓u_sSet12, ↓u_nName12, ↓u_gVar13, ↓u_sSet13, ↓u_nName13, ↓u_gVar14, ↓u_sSet14, ↓u_nName14, ↓u_gVar15, ↓u_sSet15, ↓u_nName15, ↓u_gVar16, ↓u_sSet16, ↓u_nName16, ↓u_gVar17, ↓u_sSet17, ↓u_nName17, ↓dToInt_int, ↓dToInt_bl, ↓dListU_lst, ↓dListU_tup, ↓dListU_str, ↓dListUM_lst, ↓dListUM_tup, ↓dListUM_str, ↓dTuple_lst, ↓dTuple_tup, ↓dIn_lst, ↓dIn_tup, ↓dSl_str, ↓dSl_lst, ↓dSl_tup, ↓dAdd_int, ↓dAdd_str, ↓dAdd_lst, ↓dAdd_tup, ↓dMul_int, ↓dMul_str, ↓dMul_lst, ↓dIx_lst, ↓dIx_ro, ↓dIx_tup, ↓dIx_str, ↓onSome_some, ↓dLen_lst, ↓dLen_tup, ↓dLen_str, ↓dLen_ro, ↓dLen_dct, ↓items_str, ↓items_lst, ↓items_tup, ↓items_ro, ↓dAll_lst, ↓dAny_lst, ↓dSum_lst, ↓dIsi_ty, ↓dIsi_tup, ↓dIn_str, ↓onSeq_lst, ↓onSeq_tup, ↓dIs_bb, ↓dStrI_i, ↓dIsW_bb, ↓dIsW_ib, ↓dIsW_sb, ↓dIsW_nb, ↓dIsW_lb, ↓dIsW_tb, ↓dIsW_db, ↓dIsW_nn, ↓dIsW_in, ↓dIsW_sn, ↓dIsW_ln, ↓dIsW_tn, ↓dEq_ii, ↓dEq_ss, ↓dNe_ii, ↓dNe_ss, ↓dEq_nil, ↓dNe_nil, ↓dEq_bb, ↓dNe_bb, List.append_nil, List.nil_append, List.cons_append, startD, List.map_cons, List.map_nil, List.length_cons, List.length_nil, Nat.sub_self, List.replicate_zero, List.replicate_succ, List.set_cons_zero, List.set_cons_succ, List.getElem?_cons_zero, List.getElem?_cons_succ, atI_lit, vw_int, vw_str, vw_bl, vw_non, vw_lst, vw_tup, vw_dct, vw_ro, vw_obj, vw_cls, Nat.reduceAdd, Nat.reduceSub, Int.reduceToNat, Int.reduceNeg, Int.reducePow, Int.reduceAdd, Int.reduceSub, Int.reduceMul, ixN_lit, decide_eq_true_eq, decide_eq_false_iff_not, if_true, if_false, Bool.false_eq_true, Bool.not_true, Bool.not_false, Nat.reduceLT, Nat.reduceLeDiff, Int.reduceLT, Int.reduceLE, true_and, and_true, and_self, ite_true, ite_false, kind_int, kind_bl, kind_non, kind_str, kind_lst, kind_tup, kind_dct, clsAll_lt, all_lt, any_lt_l, any_lt_t, any_lt_s, any_lt_i, any_lt_b, any_lt_n, any_lt_d, kc_int, kc_bool, kc_str, kc_list, kc_tuple, kc_dict, isiT, String.reduceBEq, Bool.or_false, Bool.or_true, Bool.false_or, Bool.true_or, Bool.and_false, Bool.false_and, Bool.and_true, Bool.true_and, wipeD, Bool.not_eq_true, Bool.not_eq_false, Bool.not_eq_eq_eq_not, Bool.not_not, Bool.false_bne, Bool.true_bne, dJoin, onSome_some, sizeLine_eq, Mu.put_same, put_put, Nat.zero_le, decide_true, decide_false, flt_litc, fld_str, fld_int, fld_bl, fld_non, List.all_cons, List.all_nil, reduceCtorEq, strOk_of, eqd_int, eqd_str, eqd_bl, eqd_lst0, eqd_lst1, eqd_lst2, eqd_lst3, eqd_tup0, eqd_tup1, eqd_tup2, eqd_tup3, flt_bl, flt_non]
        rw [sgB_map, bls_map, onSome_some]
        have e : isNameB (.str z) = ((z.cps.toList.map fun c => decide (c ∈ abc.cps.toList)).all id) := by
          show (decide (1 ≤ z.length) && decide (z.length ≤ 8) && _) = _
          rw [decide_eq_true (p := 1 ≤ z.length) (by omega), decide_eq_true (p := z.length ≤ 8) (by omega), List.all_map]; rfl
        rw [e] at q; exact q
  · exact no (by omega)
def S__law_even : Spec := fun ds m Q E => ∃ t d, ds = [t, d] ∧ dv6 m t = dv6 m d ∧ flt (dv6 m d) = true ∧ szd (dv6 m d) ≤ 16000000 ∧ Q (.bl true) m
def g__law_even : GS :=
  (sRet (gAnd (gBin dEqV (gVar 0) (gVar 1)) (gBin dEq (gCB dReprV (aCons (gVar 0) aNil)) (gCB dReprV (aCons (gVar 1) aNil)))))
theorem lift__law_even (F : FnG P w K mg base k f fd ["told", "due"] (wpS ["told", "due"] ["told", "due"] g__law_even)) : FnG P w K mg base k f fd ["told", "due"] S__law_even := F.imp fun ds m Q E h => by
  obtain ⟨t, d, rfl, e, f, hz, q⟩ := h
  refine ⟨rfl, ?_⟩
  have fs := flt_str (flt_strOk f)
  simp only [g__law_even, ↓reduceIte, ↓u_sNx, ↓u_sSeq, ↓u_nx, ↓u_rt, ↓u_bk, ↓u_ct, ↓u_sBreak, ↓u_sCont, ↓u_sDrop, ↓u_sRet, ↓u_sRetN, ↓u_sIf, ↓u_sAsg, ↓u_gC, ↓u_aNil, ↓u_aCons, ↓u_gTup, ↓u_gLst, ↓u_gLstM, ↓u_gBin, ↓u_cVal, ↓u_onBl, ↓u_onInt, ↓u_onStr, ↓u_gChain, ↓u_cAnd, ↓u_cOr, ↓u_cNot, ↓u_gAnd, ↓u_gOr, ↓u_gNot, ↓u_gIf, ↓u_gNeg, ↓u_nNil, ↓u_nCons, ↓u_nTup, ↓u_nSub, ↓u_gCB, ↓u_gCall, ↓u_gM0, ↓u_gM1, ↓u_gL, ↓u_gL0, ↓u_oNo, ↓u_oSome, ↓u_gSl, ↓u_cYes, ↓u_on1, ↓u_on2, ↓u_dInt, ↓u_dInt0, ↓u_gLc, ↓u_gLcM, ↓u_gLc2, ↓u_sNever, ↓u_iEnS, ↓u_iEnL, ↓u_iEnumD, ↓u_iZipD, ↓u_zipS, ↓u_zipL, ↓u_iSeq, ↓u_iRange1, ↓u_iRange2, ↓u_sWhile, ↓u_iRange3, ↓u_on3, ↓u_sFor, ↓u_dMax2, ↓u_dMin2, ↓u_gDct0, ↓u_gVar0, ↓u_sSet0, ↓u_nName0, ↓u_gVar1, ↓u_sSet1, ↓u_nName1, ↓u_gVar2, ↓u_sSet2, ↓u_nName2, ↓u_gVar3, ↓u_sSet3, ↓u_nName3, ↓u_gVar4, ↓u_sSet4, ↓u_nName4, ↓u_gVar5, ↓u_sSet5, ↓u_nName5, ↓u_gVar6, ↓u_sSet6, ↓u_nName6, ↓u_gVar7, ↓u_sSet7, ↓u_nName7, ↓u_gVar8, ↓u_sSet8, ↓u_nName8, ↓u_gVar9, ↓u_sSet9, ↓u_nName9, ↓u_gVar10, ↓u_sSet10, ↓u_nName10, ↓u_gVar11, ↓u_sSet11, ↓u_nName11, ↓u_gVar12, ↓u_sSet12, ↓u_nName12, ↓u_gVar13, ↓u_sSet13, ↓u_nName13, ↓u_gVar14, ↓u_sSet14, ↓u_nName14, ↓u_gVar15, ↓u_sSet15, ↓u_nName15, ↓u_gVar16, ↓u_sSet16, ↓u_nName16, ↓u_gVar17, ↓u_sSet17, ↓u_nName17, ↓dToInt_int, ↓dToInt_bl, ↓dListU_lst, ↓dListU_tup, ↓dListU_str, ↓dListUM_lst, ↓dListUM_tup, ↓dListUM_str, ↓dTuple_lst, ↓dTuple_tup, ↓dIn_lst, ↓dIn_tup, ↓dSl_str, ↓dSl_lst, ↓dSl_tup, ↓dAdd_int, ↓dAdd_str, ↓dAdd_lst, ↓dAdd_tup, ↓dMul_int, ↓dMul_str, ↓dMul_lst, ↓dIx_lst, ↓dIx_ro, ↓dIx_tup, ↓dIx_str, ↓onSome_some, ↓dLen_lst, ↓dLen_tup, ↓dLen_str, ↓dLen_ro, ↓dLen_dct, ↓items_str, ↓items_lst, ↓items_tup, ↓items_ro, ↓dAll_lst, ↓dAny_lst, ↓dSum_lst, ↓dIsi_ty, ↓dIsi_tup, ↓dIn_str, ↓onSeq_lst, ↓onSeq_tup, ↓dIs_bb, ↓dStrI_i, ↓dIsW_bb, ↓dIsW_ib, ↓dIsW_sb, ↓dIsW_nb, ↓dIsW_lb, ↓dIsW_tb, ↓dIsW_db, ↓dIsW_nn, ↓dIsW_in, ↓dIsW_sn, ↓dIsW_ln, ↓dIsW_tn, ↓dEq_ii, ↓dEq_ss, ↓dNe_ii, ↓dNe_ss, ↓dEq_nil, ↓dNe_nil, ↓dEq_bb, ↓dNe_bb, List.append_nil, List.nil_append, List.cons_append, startD, List.map_cons, List.map_nil, List.length_cons, List.length_nil, Nat.sub_self, List.replicate_zero, List.replicate_succ, List.set_cons_zero, List.set_cons_succ, List.getElem?_cons_zero, List.getElem?_cons_succ, atI_lit, vw_int, vw_str, vw_bl, vw_non, vw_lst, vw_tup, vw_dct, vw_ro, vw_obj, vw_cls, Nat.reduceAdd, Nat.reduceSub, Int.reduceToNat, Int.reduceNeg, Int.reducePow, Int.reduceAdd, Int.reduceSub, Int.reduceMul, ixN_lit, decide_eq_true_eq, decide_eq_false_iff_not, if_true, if_false, Bool.false_eq_true, Bool.not_true, Bool.not_false, Nat.reduceLT, Nat.reduceLeDiff, Int.reduceLT, Int.reduceLE, true_and, and_true, and_self, ite_true, ite_false, kind_int, kind_bl, kind_non, kind_str, kind_lst, kind_tup, kind_dct, clsAll_lt, all_lt, any_lt_l, any_lt_t, any_lt_s, any_lt_i, any_lt_b, any_lt_n, any_lt_d, kc_int, kc_bool, kc_str, kc_list, kc_tuple, kc_dict, isiT, String.reduceBEq, Bool.or_false, Bool.or_true, Bool.false_or, Bool.true_or, Bool.and_false, Bool.false_and, Bool.and_true, Bool.true_and, wipeD, Bool.not_eq_true, Bool.not_eq_false, Bool.not_eq_eq_eq_not, Bool.not_not, Bool.false_bne, Bool.true_bne, dJoin, onSome_some, sizeLine_eq, Mu.put_same, put_put, Nat.zero_le, decide_true, decide_false, flt_litc, fld_str, fld_int, fld_bl, fld_non, List.all_cons, List.all_nil, reduceCtorEq, strOk_of, eqd_int, eqd_str, eqd_bl, eqd_lst0, eqd_lst1, eqd_lst2, eqd_lst3, eqd_tup0, eqd_tup1, eqd_tup2, eqd_tup3, flt_bl, flt_non, dEqV, dReprV, e, f, eqd_refl f, fs, eqd_refl fs, flt_strOk f]
  exact ⟨hz, hz, q⟩
end
end Nd

namespace Nd
open PySem L2 PyProof.Rows PySem.Spec
section
variable {P : Program} {w : World} {K : PySem.W.Frag} {mg : Str → Option Value} {base : Heap} {k : Nat} {f : Addr} {fd : FuncData}
def oddL : List D := [.non, .bl true, .bl false, .int 0, .int (-1), .int 24, .int 60, .int 100000000000000000000000000000, .int (-100000000000000000000000000000), .str "", .str "o", .str "v", .str "ov", .str "ox", .str "O", .str "anna", .str "Anna",
  .str "anna:ov", .str "anna ov", .lst [], .lst [.str "ov"], .lst [.int 0], .tup [], .tup [.str "anna", .str "ov"], .tup [.str "anna", .str "ox"], .tup [.str "anna"], .tup [.int 0],
  .dct [], .dct [(.inr "anna", .str "ov")], .dct [(.inl 7, .int 1)], .lst [.lst [.lst [.str "a"]]], .tup [.str "open", .int 0], .lst [.tup [.str "anna", .str "ov"]], .str (Txt.mul "v" 25), .str (Txt.mul "a" 9)]
def S__law_odd : Spec := fun ds m Q E => ∃ (a : Addr) (n : Nat), ds = [.cel a] ∧ m a = some (.box n) ∧ n < 4000000 ∧ ∀ d, d ∈ oddL → Q d (m.put a (some (.box (n + 1))))
def g__law_odd : GS :=
  (sSeq (sSet 1 (gLst (aCons (gC .non) (aCons (gC (.bl true)) (aCons (gC (.bl false)) (aCons (gC (.int 0)) (aCons (gNeg (gC (.int 1))) (aCons (gC (.int 24)) (aCons (gC (.int 60)) (aCons (gBin dPow (gC (.int 10)) (gC (.int 29))) (aCons (gBin dSub (gC (.int 0)) (gBin dPow (gC (.int 10)) (gC (.int 29)))) (aCons (gC (.str "")) (aCons (gC (.str "o")) (aCons (gC (.str "v")) (aCons (gC (.str "ov")) (aCons (gC (.str "ox")) (aCons (gC (.str "O")) (aCons (gC (.str "anna")) (aCons (gC (.str "Anna")) aNil)))))))))))))))))))
  (sSeq (sSet 1 (gBin dAdd (gVar 1) (gLst (aCons (gC (.str "anna:ov")) (aCons (gC (.str "anna ov")) (aCons (gLst aNil) (aCons (gLst (aCons (gC (.str "ov")) aNil)) (aCons (gLst (aCons (gC (.int 0)) aNil)) (aCons (gTup aNil) (aCons (gTup (aCons (gC (.str "anna")) (aCons (gC (.str "ov")) aNil))) (aCons (gTup (aCons (gC (.str "anna")) (aCons (gC (.str "ox")) aNil))) (aCons (gTup (aCons (gC (.str "anna")) aNil)) (aCons (gTup (aCons (gC (.int 0)) aNil)) aNil)))))))))))))
  (sSeq (sSet 1 (gBin dAdd (gVar 1) (gLst (aCons gDct0 (aCons (gDct [(.inr "anna", (gC (.str "ov")))]) (aCons (gDct [(.inl 7, (gC (.int 1)))]) (aCons (gLst (aCons (gLst (aCons (gLst (aCons (gC (.str "a")) aNil)) aNil)) aNil)) (aCons (gTup (aCons (gC (.str "open")) (aCons (gC (.int 0)) aNil))) (aCons (gLst (aCons (gTup (aCons (gC (.str "anna")) (aCons (gC (.str "ov")) aNil))) aNil)) (aCons (gBin dMul (gC (.str "v")) (gC (.int 25))) (aCons (gBin dMul (gC (.str "a")) (gC (.int 9))) aNil)))))))))))
  (sRet (gBin dIx (gVar 1) (gCall S__law_take [] (aCons (gVar 0) (aCons (gCB dLen (aCons (gVar 1) aNil)) aNil))))))))
theorem lift__law_odd (F : FnG P w K mg base k f fd ["box"] (wpS ["box"] ["box", "some"] g__law_odd)) : FnG P w K mg base k f fd ["box"] S__law_odd := F.imp fun ds m Q E h => by
  obtain ⟨a, n, rfl, hm, hn, q⟩ := h
  refine ⟨rfl, ?_⟩
  simp only [g__law_odd, ↓reduceIte, ↓u_sNx, ↓u_sSeq, ↓u_nx, ↓u_rt, ↓u_bk, ↓u_ct, ↓u_sBreak, ↓u_sCont, ↓u_sDrop, ↓u_sRet, ↓u_sRetN, ↓u_sIf, ↓u_sAsg, ↓u_gC, ↓u_aNil, ↓u_aCons, ↓u_gTup, ↓u_gLst, ↓u_gLstM, ↓u_gBin, ↓u_cVal, ↓u_onBl, ↓u_onInt, ↓u_onStr, ↓u_gChain, ↓u_cAnd, ↓u_cOr, ↓u_cNot, ↓u_gAnd, ↓u_gOr, ↓u_gNot, ↓u_gIf, ↓u_gNeg, ↓u_nNil, ↓u_nCons, ↓u_nTup, ↓u_nSub, ↓u_gCB, ↓u_gCall, ↓u_gM0, ↓u_gM1, ↓u_gL, ↓u_gL0, ↓u_oNo, ↓u_oSome, ↓u_gSl, ↓u_cYes, ↓u_on1, ↓u_on2, ↓u_dInt, ↓u_dInt0, ↓u_gLc, ↓u_gLcM, ↓u_gLc2, ↓u_sNever, ↓u_iEnS, ↓u_iEnL, ↓u_iEnumD, ↓u_iZipD, ↓u_zipS, ↓u_zipL, ↓u_iSeq, ↓u_iRange1, ↓u_iRange2, ↓u_sWhile, ↓u_iRange3, ↓u_on3, ↓u_sFor, ↓u_dMax2, ↓u_dMin2, ↓u_gDct0, ↓u_gVar0, ↓u_sSet0, ↓u_nName0, ↓u_gVar1, ↓u_sSet1, ↓u_nName1, ↓u_gVar2, ↓u_sSet2, ↓u_nName2, ↓u_gVar3, ↓u_sSet3, ↓u_nName3, ↓u_gVar4, ↓u_sSet4, ↓u_nName4, ↓u_gVar5, ↓u_sSet5, ↓u_nName5, ↓u_gVar6, ↓u_sSet6, ↓u_nName6, ↓u_gVar7, ↓u_sSet7, ↓u_nName7, ↓u_gVar8, ↓u_sSet8, ↓u_nName8, ↓u_gVar9, ↓u_sSet9, ↓u_nName9, ↓u_gVar10, ↓u_sSet10, ↓u_nName10, ↓u_gVar11, ↓u_sSet11, ↓u_nName11, ↓u_gVar12, ↓u_sSet12, ↓u_nName12, ↓u_gVar13, ↓u_sSet13, ↓u_nName13, ↓u_gVar14, ↓u_sSet14, ↓u_nName14, ↓u_gVar15, ↓u_sSet15, ↓u_nName15, ↓u_gVar16, ↓u_sSet16, ↓u_nName16, ↓u_gVar17, ↓u_sSet17, ↓u_nName17, ↓dToInt_int, ↓dToInt_bl, ↓dListU_lst, ↓dListU_tup, ↓dListU_str, ↓dListUM_lst, ↓dListUM_tup, ↓dListUM_str, ↓dTuple_lst, ↓dTuple_tup, ↓dIn_lst, ↓dIn_tup, ↓dSl_str, ↓dSl_lst, ↓dSl_tup, ↓dAdd_int, ↓dAdd_str, ↓dAdd_lst, ↓dAdd_tup, ↓dMul_int, ↓dMul_str, ↓dMul_lst, ↓dIx_lst, ↓dIx_ro, ↓dIx_tup, ↓dIx_str, ↓onSome_some, ↓dLen_lst, ↓dLen_tup, ↓dLen_str, ↓dLen_ro, ↓dLen_dct, ↓items_str, ↓items_lst, ↓items_tup, ↓items_ro, ↓dAll_lst, ↓dAny_lst, ↓dSum_lst, ↓dIsi_ty, ↓dIsi_tup, ↓dIn_str, ↓onSeq_lst, ↓onSeq_tup, ↓dIs_bb, ↓dStrI_i, ↓dIsW_bb, ↓dIsW_ib, ↓dIsW_sb, ↓dIsW_nb, ↓dIsW_lb, ↓dIsW_tb, ↓dIsW_db, ↓dIsW_nn, ↓dIsW_in, ↓dIsW_sn, ↓dIsW_ln, ↓dIsW_tn, ↓dEq_ii, ↓dEq_ss, ↓dNe_ii, ↓dNe_ss, ↓dEq_nil, ↓dNe_nil, ↓dEq_bb, ↓dNe_bb, List.append_nil, List.nil_append, List.cons_append, startD, List.map_cons, List.map_nil, List.length_cons, List.length_nil, Nat.sub_self, List.replicate_zero, List.replicate_succ, List.set_cons_zero, List.set_cons_succ, List.getElem?_cons_zero, List.getElem?_cons_succ, atI_lit, vw_int, vw_str, vw_bl, vw_non, vw_lst, vw_tup, vw_dct, vw_ro, vw_obj, vw_cls, Nat.reduceAdd, Nat.reduceSub, Int.reduceToNat, Int.reduceNeg, Int.reducePow, Int.reduceAdd, Int.reduceSub, Int.reduceMul, ixN_lit, decide_eq_true_eq, decide_eq_false_iff_not, if_true, if_false, Bool.false_eq_true, Bool.not_true, Bool.not_false, Nat.reduceLT, Nat.reduceLeDiff, Int.reduceLT, Int.reduceLE, true_and, and_true, and_self, ite_true, ite_false, kind_int, kind_bl, kind_non, kind_str, kind_lst, kind_tup, kind_dct, clsAll_lt, all_lt, any_lt_l, any_lt_t, any_lt_s, any_lt_i, any_lt_b, any_lt_n, any_lt_d, kc_int, kc_bool, kc_str, kc_list, kc_tuple, kc_dict, isiT, String.reduceBEq, Bool.or_false, Bool.or_true, Bool.false_or, Bool.true_or, Bool.and_false, Bool.false_and, Bool.and_true, Bool.true_and, wipeD, Bool.not_eq_true, Bool.not_eq_false, Bool.not_eq_eq_eq_not, Bool.not_not, Bool.false_bne, Bool.true_bne, dJoin, onSome_some, sizeLine_eq, Mu.put_same, put_put, Nat.zero_le, decide_true, decide_false, flt_litc, fld_str, fld_int, fld_bl, fld_non, List.all_cons, List.all_nil, reduceCtorEq, strOk_of, eqd_int, eqd_str, eqd_bl, eqd_lst0, eqd_lst1, eqd_lst2, eqd_lst3, eqd_tup0, eqd_tup1, eqd_tup2, eqd_tup3, flt_bl, flt_non, gDct0, gDct, gPs]
  have h10 : CPow 10 29 := ⟨by decide, by decide, by decide⟩
  refine ⟨h10, h10, fun b hb => ⟨by decide, fun c hc => ⟨by decide, by decide, by decide, ?_⟩⟩⟩
  rw [put_self hb] at hc ⊢
  rw [put_self hc]
  refine ⟨a, n, 35, rfl, hm, by decide, by decide, hn, fun r r0 r1 => ?_⟩
  show dIx (.lst oddL) (.int r) _ Q
  rw [dIx_lst]
  exact onSome_at r0 r1 fun d hd => q d hd
theorem odd_ok : ∀ d ∈ oddL, hdk d = true ∧ txs d := by
  have h : (oddL.all fun d => hdk d && match d with | .str z => decide (z.length ≤ 1000) && PyData.strOk z | _ => true) = true := by decide +kernel
  intro d hd
  obtain ⟨h1, h2⟩ := Bool.and_eq_true_iff.mp (List.all_eq_true.mp h d hd)
  refine ⟨h1, fun z e => ?_⟩
  subst e
  obtain ⟨h3, h4⟩ := Bool.and_eq_true_iff.mp h2
  exact ⟨by rw [sizeLine_eq]; have := of_decide_eq_true h3; omega, h4⟩
theorem top_k (c n : Nat) (h2 : 2 ≤ c) : 2 ≤ (if (if (n : Int) < c then (n : Int) else c) > 2 then (if (n : Int) < c then (n : Int) else c) else 2) ∧ (if (if (n : Int) < c then (n : Int) else c) > 2 then (if (n : Int) < c then (n : Int) else c) else 2) ≤ c := by
  split <;> split <;> omega
end
end Nd

namespace Nd
open PySem L2 PyProof.Rows PySem.Spec
/-! rows -/
def cd (b : Bool) : Nat := if b then 118 else 111
def rw_ (bs : List Bool) : Str := tx (bs.map cd)
theorem rw_len (bs : List Bool) : (rw_ bs).length = bs.length := by rw [rw_, len_tx, List.length_map]
theorem rw_ok (bs : List Bool) : PyData.strOk (rw_ bs) = true := strOk_tx fun c hc => by
  obtain ⟨b, _, rfl⟩ := List.mem_map.mp hc
  cases b <;> decide
theorem rw_app (a b : List Bool) : rw_ a ++ rw_ b = rw_ (a ++ b) := TL.ext_tl (by rw [TL.tl_append]; simp [rw_, tx])
theorem cd_inj {a b : Bool} (h : cd a = cd b) : a = b := by cases a <;> cases b <;> first | rfl | (exact absurd h (by decide))
theorem rw_inj {a b : List Bool} (h : rw_ a = rw_ b) : a = b := by
  have h2 : a.map cd = b.map cd := by
    have := congrArg (fun z : Str => z.cps.toList) h
    simpa [rw_, tx] using this
  induction a generalizing b with
  | nil => cases b <;> simp at h2 ⊢
  | cons x r ih =>
    cases b with
    | nil => simp at h2
    | cons y s =>
      simp only [List.map_cons, List.cons.injEq] at h2
      rw [cd_inj h2.1, ih (by rw [rw_, rw_, h2.2]) h2.2]
theorem sgs_rw (bs : List Bool) : sgs (rw_ bs) = bs.map fun b => D.str (rw_ [b]) := by
  unfold sgs rw_ tx
  rw [List.map_map]; rfl
theorem ix_rw {bs : List Bool} {i : Nat} {P : Nat → Prop} {b : Bool} (h : bs[i]? = some b) (q : P (cd b)) : onSome (atI (rw_ bs).cps.toList (i : Int)) P := by
  rw [ix_nat (Int.natCast_nonneg i)]
  have e : (rw_ bs).cps.toList[(i : Int).toNat]? = some (cd b) := by
    show (bs.map cd)[i]? = _
    rw [List.getElem?_map, h]; rfl
  rw [e]; exact q
theorem rw1 (b : Bool) : (⟨#[cd b]⟩ : Str) = rw_ [b] := rfl
theorem rw_v : Str.ofString "v" = rw_ [true] := by decide +kernel
theorem rw_o : Str.ofString "o" = rw_ [false] := by decide +kernel
theorem rw_ov : Str.ofString "ov" = rw_ [false, true] := by decide +kernel
theorem rw_eq {a b : List Bool} : decide (rw_ a = rw_ b) = decide (a = b) := decide_eq_decide.mpr ⟨rw_inj, fun h => by rw [h]⟩
theorem rw_eq1 {a b : Bool} : decide (rw_ [a] = rw_ [b]) = (a == b) := by rw [rw_eq]; cases a <;> cases b <;> rfl
theorem inD_strs (x : Str) : ∀ zs : List Str, inD (.str x) (zs.map D.str) = decide (x ∈ zs)
  | [] => rfl
  | z :: r => by
    have e : inD (.str x) ((z :: r).map D.str) = ((z == x) || inD (.str x) (r.map D.str)) := rfl
    rw [e, inD_strs x r, show (z == x) = decide (x = z) by
      rw [show (z == x) = decide (z = x) from rfl]; exact decide_eq_decide.mpr ⟨Eq.symm, Eq.symm⟩]
    simp
theorem inD_ints (x : Int) : ∀ zs : List Int, inD (.int x) (zs.map D.int) = decide (x ∈ zs)
  | [] => rfl
  | z :: r => by
    have e : inD (.int x) ((z :: r).map D.int) = ((z == x) || inD (.int x) (r.map D.int)) := rfl
    rw [e, inD_ints x r, show (z == x) = decide (x = z) by
      rw [show (z == x) = decide (z = x) from rfl]; exact decide_eq_decide.mpr ⟨Eq.symm, Eq.symm⟩]
    simp
theorem fld_strs (zs : List Str) : (zs.map D.str).all fld = true := by rw [List.all_map]; exact List.all_eq_true.mpr fun _ _ => rfl
theorem fld_ints (zs : List Int) : (zs.map D.int).all fld = true := by rw [List.all_map]; exact List.all_eq_true.mpr fun _ _ => rfl
/-- whether the text's signs are those of a row -/
def isR (z : Str) : Bool := z.cps.toList.all fun c => c == 111 || c == 118
def isRowB (d : D) : Bool := match d with
  | .str z => decide (1 ≤ z.length) && decide (z.length ≤ 24) && isR z
  | _ => false
theorem isR_of {z : Str} (h : isR z = true) : ∃ bs, z = rw_ bs := by
  refine ⟨z.cps.toList.map fun c => c == 118, TL.ext_tl ?_⟩
  show z.cps.toList = (z.cps.toList.map fun c => c == 118).map cd
  rw [List.map_map]
  have h : ∀ c ∈ z.cps.toList, (c == 111 || c == 118) = true := List.all_eq_true.mp h
  conv => lhs; rw [← List.map_id z.cps.toList]
  refine List.map_congr_left fun c hc => ?_
  have := h c hc
  simp only [Bool.or_eq_true, beq_iff_eq] at this
  rcases this with rfl | rfl <;> rfl
theorem isR_rw (bs : List Bool) : isR (rw_ bs) = true := by
  refine List.all_eq_true.mpr fun c hc => ?_
  obtain ⟨b, _, rfl⟩ := List.mem_map.mp hc
  cases b <;> rfl
/-! texts cut, repeated -/
theorem fold_app (c : Array Nat) : ∀ (n : Nat) (acc : Array Nat), ((List.replicate n c).foldl (· ++ ·) acc).toList = acc.toList ++ (List.replicate n c.toList).flatten
  | 0, acc => by simp
  | n + 1, acc => by
    rw [List.replicate_succ, List.foldl_cons, fold_app c n]
    simp [List.replicate_succ, List.append_assoc]
theorem tl_mul (z : Str) (n : Nat) : (Txt.mul z (n : Int)).cps.toList = (List.replicate n z.cps.toList).flatten := by
  unfold Txt.mul
  split
  · have : n = 0 := by omega
    subst this; rfl
  · split
    · rename_i h
      simp only [Bool.or_eq_true, beq_iff_eq] at h
      rcases h with h | h
      · have : n = 1 := by omega
        subst this; simp
      · have e : z.cps.toList = [] := List.eq_nil_of_length_eq_zero (by rw [len_toList, h])
        rw [e]
        induction n with
        | zero => rfl
        | succ n ih => simp [List.replicate_succ]
    · show ((List.replicate (n : Int).toNat z.cps).foldl (· ++ ·) #[]).toList = _
      rw [fold_app, Int.toNat_natCast]; simp
theorem mul_rw (b : Bool) (n : Nat) : Txt.mul (rw_ [b]) (n : Int) = rw_ (List.replicate n b) := by
  refine TL.ext_tl ?_
  show (Txt.mul (rw_ [b]) (n : Int)).cps.toList = _
  rw [tl_mul]
  show (List.replicate n [cd b]).flatten = (List.replicate n b).map cd
  rw [List.map_replicate]
  induction n with
  | zero => rfl
  | succ n ih => rw [List.replicate_succ, List.replicate_succ, List.flatten_cons, ih]; rfl
theorem len_mul (z : Str) (n : Nat) : (Txt.mul z (n : Int)).length = n * z.length := by
  rw [← len_toList, tl_mul, List.length_flatten, List.map_replicate, List.sum_replicate_nat, len_toList]
theorem tl_cut (z : Str) (lo hi : Option Int) : (cutS z lo hi).cps.toList = (z.cps.toList.drop (HT.sIx z.length 0 lo)).take (HT.sIx z.length z.length hi - HT.sIx z.length 0 lo) := rfl
theorem len_cut (z : Str) (lo hi : Option Int) : (cutS z lo hi).length ≤ z.length := by
  rw [← len_toList, tl_cut, List.length_take, List.length_drop, len_toList]; omega
theorem strOk_cut {z : Str} (h : PyData.strOk z = true) (lo hi : Option Int) : PyData.strOk (cutS z lo hi) = true := by
  rw [strOk_iff] at *
  intro c hc
  rw [tl_cut] at hc
  exact h c (List.mem_of_mem_drop (List.mem_of_mem_take hc))
theorem strOk_mul {z : Str} (h : PyData.strOk z = true) (n : Nat) : PyData.strOk (Txt.mul z (n : Int)) = true := by
  rw [strOk_iff] at *
  intro c hc
  rw [tl_mul, List.mem_flatten] at hc
  obtain ⟨l, hl, hc⟩ := hc
  rw [(List.mem_replicate.mp hl).2] at hc
  exact h c hc
/-- row[:k], row[k:] -/
theorem cut_to (bs : List Bool) (k : Nat) : cutS (rw_ bs) none (some (k : Int)) = rw_ (bs.take k) := by
  refine TL.ext_tl ?_
  show (cutS (rw_ bs) none (some (k : Int))).cps.toList = (bs.take k).map cd
  rw [tl_cut, HT.sIx_none, HT.sIx_nat, rw_len, Nat.sub_zero, List.drop_zero]
  show (bs.map cd).take (min k bs.length) = _
  rw [← List.map_take, ← List.take_eq_take_min]
theorem cut_from (bs : List Bool) (k : Nat) : cutS (rw_ bs) (some (k : Int)) none = rw_ (bs.drop k) := by
  refine TL.ext_tl ?_
  show (cutS (rw_ bs) (some (k : Int)) none).cps.toList = (bs.drop k).map cd
  rw [tl_cut, HT.sIx_none, HT.sIx_nat, rw_len]
  show ((bs.map cd).drop (min k bs.length)).take (bs.length - min k bs.length) = _
  rw [← List.map_drop, ← List.map_take, List.take_of_length_le (by rw [List.length_drop]; omega)]
  congr 1
  by_cases h : k ≤ bs.length
  · rw [Nat.min_eq_left h]
  · rw [Nat.min_eq_right (by omega), List.drop_length, List.drop_eq_nil_of_le (by omega)]
end Nd

namespace Nd
open PySem L2 PyProof.Rows PySem.Spec
section
variable {P : Program} {w : World} {K : PySem.W.Frag} {mg : Str → Option Value} {base : Heap} {k : Nat} {f : Addr} {fd : FuncData}
theorem RtG.free {K : PySem.W.Frag} {Q : D → Mu → Prop} {d : D} {m : Mu} (a : Addr) (h : Q d (m.put a none)) : RtG K Q d m := ⟨d, _, fun H v o t => ⟨ext_free, ok_free o, t.ext ext_free⟩, h⟩
theorem RtG.free2 {K : PySem.W.Frag} {Q : D → Mu → Prop} {d : D} {m : Mu} (a : Addr) (h : RtG K Q d (m.put a none)) : RtG K Q d m := by
  obtain ⟨d2, m2, g, q⟩ := h
  exact ⟨d2, m2, Gh.trans (fun H v o t => ⟨ext_free, ok_free o, t.ext ext_free⟩) g, q⟩
theorem RtG.frz {K : PySem.W.Frag} {Q : D → Mu → Prop} {a : Addr} {ds : List D} {m : Mu} (hm : m a = some (.lst ds)) (h : Q (.lst ds) (m.put a none)) : RtG K Q (.cel a) m := ⟨_, _, fun H v o t => by cases t; exact free_lst o hm, h⟩
def S_is_row : Spec := fun ds m Q E => ∃ d, ds = [d] ∧ hdk d = true ∧ txs d ∧ Q (.bl (isRowB d)) m
def ovB : D → D
  | .str s => .bl (inD (.str s) [.str "o", .str "v"])
  | _ => .bl false
theorem ovB_map (z : Str) : (sgs z).map ovB = (z.cps.toList.map fun c => (c == 111 || c == 118)).map D.bl := by
  unfold sgs
  rw [List.map_map, List.map_map]
  refine List.map_congr_left fun c _ => ?_
  show D.bl (inD (.str ⟨#[c]⟩) ([Str.ofString "o", Str.ofString "v"].map D.str)) = D.bl _
  rw [inD_strs]
  congr 1
  rw [rw_o, rw_v, show (⟨#[c]⟩ : Str) = tx [c] from rfl]
  have e : ∀ b : Bool, (tx [c] = rw_ [b]) = (c = cd b) := fun b => propext ⟨fun h => by
    have := congrArg (fun z : Str => z.cps.toList) h
    simpa [rw_, tx] using this, fun h => by rw [h]; rfl⟩
  simp only [List.mem_cons, List.not_mem_nil, or_false, e]
  by_cases h1 : c = 111
  · subst h1; rfl
  · by_cases h2 : c = 118
    · subst h2; rfl
    · rw [decide_eq_false (fun z => z.elim h1 h2)]
      simp [h1, h2]
def g_is_row : GS :=
  (sSeq (sIf (cOr (cNot (cVal (gCB dIsi (aCons (gVar 0) (aCons (gC (.cls (.ty "str"))) aNil))))) (cNot (cVal (gChain dLe dLe (gC (.int 1)) (gCB dLen (aCons (gVar 0) aNil)) (gC (.int 24)))))) (sRet (gC (.bl false))) sNx)
  (sRet (gCB dAll (aCons (gLc (iSeq (gVar 0)) (nName 1) cYes (gBin (dIn false) (gVar 1) (gTup (aCons (gC (.str "o")) (aCons (gC (.str "v")) aNil)))) [1]) aNil))))
theorem lift_is_row (F : FnG P w K mg base k f fd ["value"] (wpS ["value"] ["value", "sign"] g_is_row)) : FnG P w K mg base k f fd ["value"] S_is_row := F.imp fun ds m Q E h => by
  obtain ⟨d, rfl, hk, ht, q⟩ := h
  refine ⟨rfl, ?_⟩
  cases d <;> first | cases hk | skip
  all_goals simp only [g_is_row, ↓reduceIte, ↓u_sNx, ↓u_sSeq, ↓u_nx, ↓u_rt, ↓u_bk, ↓u_ct, ↓u_sBreak, ↓u_sCont, ↓u_sDrop, ↓u_sRet, ↓u_sRetN, ↓u_sIf, ↓u_sAsg, ↓u_gC, ↓u_aNil, ↓u_aCons, ↓u_gTup, ↓u_gLst, ↓u_gLstM, ↓u_gBin, ↓u_cVal, ↓u_onBl, ↓u_onInt, ↓u_onStr, ↓u_gChain, ↓u_cAnd, ↓u_cOr, ↓u_cNot, ↓u_gAnd, ↓u_gOr, ↓u_gNot, ↓u_gIf, ↓u_gNeg, ↓u_nNil, ↓u_nCons, ↓u_nTup, ↓u_nSub, ↓u_gCB, ↓u_gCall, ↓u_gM0, ↓u_gM1, ↓u_gL, ↓u_gL0, ↓u_oNo, ↓u_oSome, ↓u_gSl, ↓u_cYes, ↓u_on1, ↓u_on2, ↓u_dInt, ↓u_dInt0, ↓u_gLc, ↓u_gLcM, ↓u_gLc2, ↓u_sNever, ↓u_iEnS, ↓u_iEnL, ↓u_iEnumD, ↓u_iZipD, ↓u_zipS, ↓u_zipL, ↓u_iSeq, ↓u_iRange1, ↓u_iRange2, ↓u_sWhile, ↓u_iRange3, ↓u_on3, ↓u_sFor, ↓u_dMax2, ↓u_dMin2, ↓u_gDct0, ↓u_gVar0, ↓u_sSet0, ↓u_nName0, ↓u_gVar1, ↓u_sSet1, ↓u_nName1, ↓u_gVar2, ↓u_sSet2, ↓u_nName2, ↓u_gVar3, ↓u_sSet3, ↓u_nName3, ↓u_gVar4, ↓u_sSet4, ↓u_nName4, ↓u_gVar5, ↓u_sSet5, ↓u_nName5, ↓u_gVar6, ↓u_sSet6, ↓u_nName6, ↓u_gVar7, ↓u_sSet7, ↓u_nName7, ↓u_gVar8, ↓u_sSet8, ↓u_nName8, ↓u_gVar9, ↓u_sSet9, ↓u_nName9, ↓u_gVar10, ↓u_sSet10, ↓u_nName10, ↓u_gVar11, ↓u_sSet11, ↓u_nName11, ↓u_gVar12, ↓u_sSet12, ↓u_nName12, ↓u_gVar13, ↓u_sSet13, ↓u_nName13, ↓u_gVar14, ↓u_sSet14, ↓u_nName14, ↓u_gVar15, ↓u_sSet15, ↓u_nName15, ↓u_gVar16, ↓u_sSet16, ↓u_nName16, ↓u_gVar17, ↓u_sSet17, ↓u_nName17, ↓dToInt_int, ↓dToInt_bl, ↓dListU_lst, ↓dListU_tup, ↓dListU_str, ↓dListUM_lst, ↓dListUM_tup, ↓dListUM_str, ↓dTuple_lst, ↓dTuple_tup, ↓dIn_lst, ↓dIn_tup, ↓dSl_str, ↓dSl_lst, ↓dSl_tup, ↓dAdd_int, ↓dAdd_str, ↓dAdd_lst, ↓dAdd_tup, ↓dMul_int, ↓dMul_str, ↓dMul_lst, ↓dIx_lst, ↓dIx_ro, ↓dIx_tup, ↓dIx_str, ↓onSome_some, ↓dLen_lst, ↓dLen_tup, ↓dLen_str, ↓dLen_ro, ↓dLen_dct, ↓items_str, ↓items_lst, ↓items_tup, ↓items_ro, ↓dAll_lst, ↓dAny_lst, ↓dSum_lst, ↓dIsi_ty, ↓dIsi_tup, ↓dIn_str, ↓onSeq_lst, ↓onSeq_tup, ↓dIs_bb, ↓dStrI_i, ↓dIsW_bb, ↓dIsW_ib, ↓dIsW_sb, ↓dIsW_nb, ↓dIsW_lb, ↓dIsW_tb, ↓dIsW_db, ↓dIsW_nn, ↓dIsW_in, ↓dIsW_sn, ↓dIsW_ln, ↓dIsW_tn, ↓dEq_ii, ↓dEq_ss, ↓dNe_ii, ↓dNe_ss, ↓dEq_nil, ↓dNe_nil, ↓dEq_bb, ↓dNe_bb, List.append_nil, List.nil_append, List.cons_append, startD, List.map_cons, List.map_nil, List.length_cons, List.length_nil, Nat.sub_self, List.replicate_zero, List.replicate_succ, List.set_cons_zero, List.set_cons_succ, List.getElem?_cons_zero, List.getElem?_cons_succ, atI_lit, vw_int, vw_str, vw_bl, vw_non, vw_lst, vw_tup, vw_dct, vw_ro, vw_obj, vw_cls, Nat.reduceAdd, Nat.reduceSub, Int.reduceToNat, Int.reduceNeg, Int.reducePow, Int.reduceAdd, Int.reduceSub, Int.reduceMul, ixN_lit, decide_eq_true_eq, decide_eq_false_iff_not, if_true, if_false, Bool.false_eq_true, Bool.not_true, Bool.not_false, Nat.reduceLT, Nat.reduceLeDiff, Int.reduceLT, Int.reduceLE, true_and, and_true, and_self, ite_true, ite_false, kind_int, kind_bl, kind_non, kind_str, kind_lst, kind_tup, kind_dct, clsAll_lt, all_lt, any_lt_l, any_lt_t, any_lt_s, any_lt_i, any_lt_b, any_lt_n, any_lt_d, kc_int, kc_bool, kc_str, kc_list, kc_tuple, kc_dict, isiT, String.reduceBEq, Bool.or_false, Bool.or_true, Bool.false_or, Bool.true_or, Bool.and_false, Bool.false_and, Bool.and_true, Bool.true_and, wipeD, Bool.not_eq_true, Bool.not_eq_false, Bool.not_eq_eq_eq_not, Bool.not_not, Bool.false_bne, Bool.true_bne, dJoin, onSome_some, sizeLine_eq, Mu.put_same, put_put, Nat.zero_le, decide_true, decide_false, flt_litc, fld_str, fld_int, fld_bl, fld_non, List.all_cons, List.all_nil, reduceCtorEq, strOk_of, eqd_int, eqd_str, eqd_bl, eqd_lst0, eqd_lst1, eqd_lst2, eqd_lst3, eqd_tup0, eqd_tup1, eqd_tup2, eqd_tup3, flt_bl, flt_non]
  all_goals first | exact q | skip
  rename_i z
  obtain ⟨hz, hs⟩ := ht z rfl
  have e : isRowB (.str z) = (decide (1 ≤ z.length) && decide (z.length ≤ 24) && isR z) := rfl
  rw [e] at q
  refine ⟨by rw [← sizeLine_eq]; exact hz, ?_⟩
  split
  · split
    · rename_i h1 h2
      rw [decide_eq_false (p := z.length ≤ 24) (by omega), Bool.and_false, Bool.false_and] at q
      exact q
    · rename_i h1 h2
      rw [decide_eq_true (p := 1 ≤ z.length) (by omega), decide_eq_true (p := z.length ≤ 24) (by omega), Bool.true_and, Bool.true_and] at q
      refine lc_map ovB (fun _ _ _ => trivial) (by rw [sgs_len]; exact hz) (fun a c ha d hd yes hy => ?_) ?_
      · obtain ⟨c, _, rfl⟩ := List.mem_map.mp hd
        simp only [↓reduceIte, ↓u_sNx, ↓u_sSeq, ↓u_nx, ↓u_rt, ↓u_bk, ↓u_ct, ↓u_sBreak, ↓u_sCont, ↓u_sDrop, ↓u_sRet, ↓u_sRetN, ↓u_sIf, ↓u_sAsg, ↓u_gC, ↓u_aNil, ↓u_aCons, ↓u_gTup, ↓u_gLst, ↓u_gLstM, ↓u_gBin, ↓u_cVal, ↓u_onBl, ↓u_onInt, ↓u_onStr, ↓u_gChain, ↓u_cAnd, ↓u_cOr, ↓u_cNot, ↓u_gAnd, ↓u_gOr, ↓u_gNot, ↓u_gIf, ↓u_gNeg, ↓u_nNil, ↓u_nCons, ↓u_nTup, ↓u_nSub, ↓u_gCB, ↓u_gCall, ↓u_gM0, ↓u_gM1, ↓u_gL, ↓u_gL0, ↓u_oNo, ↓u_oSome, ↓u_gSl, ↓u_cYes, ↓u_on1, ↓u_on2, ↓u_dInt, ↓u_dInt0, ↓u_gLc, ↓u_gLcM, ↓u_gLc2, ↓u_sNever, ↓u_iEnS, ↓u_iEnL, ↓u_iEnumD, ↓u_iZipD, ↓u_zipS, ↓u_zipL, ↓u_iSeq, ↓u_iRange1, ↓u_iRange2, ↓u_sWhile, ↓u_iRange3, ↓u_on3, ↓u_sFor, ↓u_dMax2, ↓u_dMin2, ↓u_gDct0, ↓u_gVar0, ↓u_sSet0, ↓u_nName0, ↓u_gVar1, ↓u_sSet1, ↓u_nName1, ↓u_gVar2, ↓u_sSet2, ↓u_nName2, ↓u_gVar3, ↓u_sSet3, ↓u_nName3, ↓u_gVar4, ↓u_sSet4, ↓u_nName4, ↓u_gVar5, ↓u_sSet5, ↓u_nName5, ↓u_gVar6, ↓u_sSet6, ↓u_nName6, ↓u_gVar7, ↓u_sSet7, ↓u_nName7, ↓u_gVar8, ↓u_sSet8, ↓u_nName8, ↓u_gVar9, ↓u_sSet9, ↓u_nName9, ↓u_gVar10, ↓u_sSet10, ↓u_nName10, ↓u_gVar11, ↓u_sSet11, ↓u_nName11, ↓u_gVar12, ↓u_sSet12, ↓u_nName12, ↓u_gVar13, ↓u_sSet13, ↓u_nName13, ↓u_gVar14, ↓u_sSet14, ↓u_nName14, ↓u_gVar15, ↓u_sSet15, ↓u_nName15, ↓u_gVar16, ↓u_sSet16, ↓u_nName16, ↓u_gVar17, ↓u_sSet17, ↓u_nName17, ↓dToInt_int, ↓dToInt_bl, ↓dListU_lst, ↓dListU_tup, ↓dListU_str, ↓dListUM_lst, ↓dListUM_tup, ↓dListUM_str, ↓dTuple_lst, ↓dTuple_tup, ↓dIn_lst, ↓dIn_tup, ↓dSl_str, ↓dSl_lst, ↓dSl_tup, ↓dAdd_int, ↓dAdd_str, ↓dAdd_lst, ↓dAdd_tup, ↓dMul_int, ↓dMul_str, ↓dMul_lst, ↓dIx_lst, ↓dIx_ro, ↓dIx_tup, ↓dIx_str, ↓onSome_some, ↓dLen_lst, ↓dLen_tup, ↓dLen_str, ↓dLen_ro, ↓dLen_dct, ↓items_str, ↓items_lst, ↓items_tup, ↓items_ro, ↓dAll_lst, ↓dAny_lst, ↓dSum_lst, ↓dIsi_ty, ↓dIsi_tup, ↓dIn_str, ↓onSeq_lst, ↓onSeq_tup, ↓dIs_bb, ↓dStrI_i, ↓dIsW_bb, ↓dIsW_ib, ↓dIsW_sb, ↓dIsW_nb, ↓dIsW_lb, ↓dIsW_tb, ↓dIsW_db, ↓dIsW_nn, ↓dIsW_in, ↓dIsW_sn, ↓dIsW_ln, ↓dIsW_tn, ↓dEq_ii, ↓dEq_ss, ↓dNe_ii, ↓dNe_ss, ↓dEq_nil, ↓dNe_nil, ↓dEq_bb, ↓dNe_bb, List.append_nil, List.nil_append, List.cons_append, startD, List.map_cons, List.map_nil, List.length_cons, List.length_nil, Nat.sub_self, List.replicate_zero, List.replicate_succ, List.set_cons_zero, List.set_cons_succ, List.getElem?_cons_zero, List.getElem?_cons_succ, atI_lit, vw_int, vw_str, vw_bl, vw_non, vw_lst, vw_tup, vw_dct, vw_ro, vw_obj, vw_cls, Nat.reduceAdd, Nat.reduceSub, Int.reduceToNat, Int.reduceNeg, Int.reducePow, Int.reduceAdd, Int.reduceSub, Int.reduceMul, ixN_lit, decide_eq_true_eq, decide_eq_false_iff_not, if_true, if_false, Bool.false_eq_true, Bool.not_true, Bool.not_false, Nat.reduceLT, Nat.reduceLeDiff, Int.reduceLT, Int.reduceLE, true_and, and_true, and_self, ite_true, ite_false, kind_int, kind_bl, kind_non, kind_str, kind_lst, kind_tup, kind_dct, clsAll_lt, all_lt, any_lt_l, any_lt_t, any_lt_s, any_lt_i, any_lt_b, any_lt_n, any_lt_d, kc_int, kc_bool, kc_str, kc_list, kc_tuple, kc_dict, isiT, String.reduceBEq, Bool.or_false, Bool.or_true, Bool.false_or, Bool.true_or, Bool.and_false, Bool.false_and, Bool.and_true, Bool.true_and, wipeD, Bool.not_eq_true, Bool.not_eq_false, Bool.not_eq_eq_eq_not, Bool.not_not, Bool.false_bne, Bool.true_bne, dJoin, onSome_some, sizeLine_eq, Mu.put_same, put_put, Nat.zero_le, decide_true, decide_false, flt_litc, fld_str, fld_int, fld_bl, fld_non, List.all_cons, List.all_nil, reduceCtorEq, strOk_of, eqd_int, eqd_str, eqd_bl, eqd_lst0, eqd_lst1, eqd_lst2, eqd_lst3, eqd_tup0, eqd_tup1, eqd_tup2, eqd_tup3, flt_bl, flt_non]
        first | exact hy | exact ⟨⟨rfl, rfl⟩, hy⟩
      · simp only [↓reduceIte, ↓u_sNx, ↓u_sSeq, ↓u_nx, ↓u_rt, ↓u_bk, ↓u_ct, ↓u_sBreak, ↓u_sCont, ↓u_sDrop, ↓u_sRet, ↓u_sRetN, ↓u_sIf, ↓u_sAsg, ↓u_gC, ↓u_aNil, ↓u_aCons, ↓u_gTup, ↓u_gLst, ↓u_gLstM, ↓u_gBin, ↓u_cVal, ↓u_onBl, ↓u_onInt, ↓u_onStr, ↓u_gChain, ↓u_cAnd, ↓u_cOr, ↓u_cNot, ↓u_gAnd, ↓u_gOr, ↓u_gNot, ↓u_gIf, ↓u_gNeg, ↓u_nNil, ↓u_nCons, ↓u_nTup, ↓u_nSub, ↓u_gCB, ↓u_gCall, ↓u_gM0, ↓u_gM1, ↓u_gL, ↓u_gL0, ↓u_oNo, ↓u_oSome, ↓u_gSl, ↓u_cYes, ↓u_on1, ↓u_on2, ↓u_dInt, ↓u_dInt0, ↓u_gLc, ↓u_gLcM, ↓u_gLc2, ↓u_sNever, ↓u_iEnS, ↓u_iEnL, ↓u_iEnumD, ↓u_iZipD, ↓u_zipS, ↓u_zipL, ↓u_iSeq, ↓u_iRange1, ↓u_iRange2, ↓u_sWhile, ↓u_iRange3, ↓u_on3, ↓u_sFor, ↓u_dMax2, ↓u_dMin2, ↓u_gDct0, ↓u_gVar0, ↓u_sSet0, ↓u_nName0, ↓u_gVar1, ↓u_sSet1, ↓u_nName1, ↓u_gVar2, ↓u_sSet2, ↓u_nName2, ↓u_gVar3, ↓u_sSet3, ↓u_nName3, ↓u_gVar4, ↓u_sSet4, ↓u_nName4, ↓u_gVar5, ↓u_sSet5, ↓u_nName5, ↓u_gVar6, ↓u_sSet6, ↓u_nName6, ↓u_gVar7, ↓u_sSet7, ↓u_nName7, ↓u_gVar8, ↓u_sSet8, ↓u_nName8, ↓u_gVar9, ↓u_sSet9, ↓u_nName9, ↓u_gVar10, ↓u_sSet10, ↓u_nName10, ↓u_gVar11, ↓u_sSet11, ↓u_nName11, ↓u_gVar12, ↓u_sSet12, ↓u_nName12, ↓u_gVar13, ↓u_sSet13, ↓u_nName13, ↓u_gVar14, ↓u_sSet14, ↓u_nName14, ↓u_gVar15, ↓u_sSet15, ↓u_nName15, ↓u_gVar16, ↓u_sSet16, ↓u_nName16, ↓u_gVar17, ↓u_sSet17, ↓u_nName17, ↓dToInt_int, ↓dToInt_bl, ↓dListU_lst, ↓dListU_tup, ↓dListU_str, ↓dListUM_lst, ↓dListUM_tup, ↓dListUM_str, ↓dTuple_lst, ↓dTuple_tup, ↓dIn_lst, ↓dIn_tup, ↓dSl_str, ↓dSl_lst, ↓dSl_tup, ↓dAdd_int, ↓dAdd_str, ↓dAdd_lst, ↓dAdd_tup, ↓dMul_int, ↓dMul_str, ↓dMul_lst, ↓dIx_lst, ↓dIx_ro, ↓dIx_tup, ↓dIx_str, ↓onSome_some, ↓dLen_lst, ↓dLen_tup, ↓dLen_str, ↓dLen_ro, ↓dLen_dct, ↓items_str, ↓items_lst, ↓items_tup, ↓items_ro, ↓dAll_lst, ↓dAny_lst, ↓dSum_lst, ↓dIsi_ty, ↓dIsi_tup, ↓dIn_str, ↓onSeq_lst, ↓onSeq_tup, ↓dIs_bb, ↓dStrI_i, ↓dIsW_bb, ↓dIsW_ib, ↓dIsW_sb, ↓dIsW_nb, ↓dIsW_lb, ↓dIsW_tb, ↓dIsW_db, ↓dIsW_nn, ↓dIsW_in, ↓dIsW_sn, ↓dIsW_ln, ↓dIsW_tn, ↓dEq_ii, ↓dEq_ss, ↓dNe_ii, ↓dNe_ss, ↓dEq_nil, ↓dNe_nil, ↓dEq_bb, ↓dNe_bb, List.append_nil, List.nil_append, List.cons_append, startD, List.map_cons, List.map_nil, List.length_cons, List.length_nil, Nat.sub_self, List.replicate_zero, List.replicate_succ, List.set_cons_zero, List.set_cons_succ, List.getElem?_cons_zero, List.getElem?_cons_succ, atI_lit, vw_int, vw_str, vw_bl, vw_non, vw_lst, vw_tup, vw_dct, vw_ro, vw_obj, vw_cls, Nat.reduceAdd, Nat.reduceSub, Int.reduceToNat, Int.reduceNeg, Int.reducePow, Int.reduceAdd, Int.reduceSub, Int.reduceMul, ixN_lit, decide_eq_true_eq, decide_eq_false_iff_not, if_true, if_false, Bool.false_eq_true, Bool.not_true, Bool.not_false, Nat.reduceLT, Nat.reduceLeDiff, Int.reduceLT, Int.reduceLE, true_and, and_true, and_self, ite_true, ite_false, kind_int, kind_bl, kind_non, kind_str, kind_lst, kind_tup, kind_dct, clsAll_lt, all_lt, any_lt_l, any_lt_t, any_lt_s, any_lt_i, any_lt_b, any_lt_n, any_lt_d, kc_int, kc_bool, kc_str, kc_list, kc_tuple, kc_dict, isiT, String.reduceBEq, Bool.or_false, Bool.or_true, Bool.false_or, Bool.true_or, Bool.and_false, Bool.false_and, Bool.and_true, Bool.true_and, wipeD, Bool.not_eq_true, Bool.not_eq_false, Bool.not_eq_eq_eq_not, Bool.not_not, Bool.false_bne, Bool.true_bne, dJoin, onSome_some, sizeLine_eq, Mu.put_same, put_put, Nat.zero_le, decide_true, decide_false, flt_litc, fld_str, fld_int, fld_bl, fld_non, List.all_cons, List.all_nil, reduceCtorEq, strOk_of, eqd_int, eqd_str, eqd_bl, eqd_lst0, eqd_lst1, eqd_lst2, eqd_lst3, eqd_tup0, eqd_tup1, eqd_tup2, eqd_tup3, flt_bl, flt_non]
        rw [ovB_map, bls_map, onSome_some, List.all_map]
        exact q
  · rename_i h1
    rw [decide_eq_false (p := 1 ≤ z.length) (by omega), Bool.false_and, Bool.false_and] at q
    exact q
def S_need_row : Spec := fun ds m Q E => ∃ bs : List Bool, ds = [.str (rw_ bs)] ∧ 1 ≤ bs.length ∧ bs.length ≤ 24 ∧ Q .non m
theorem isRowB_rw {bs : List Bool} (h1 : 1 ≤ bs.length) (h2 : bs.length ≤ 24) : isRowB (.str (rw_ bs)) = true := by
  show (decide (1 ≤ (rw_ bs).length) && decide ((rw_ bs).length ≤ 24) && isR (rw_ bs)) = true
  rw [rw_len, decide_eq_true h1, decide_eq_true h2, isR_rw]; rfl
theorem txs_rw {bs : List Bool} (h2 : bs.length ≤ 1000) : txs (.str (rw_ bs)) := fun z e => by cases e; exact ⟨by rw [rw_len, sizeLine_eq]; omega, rw_ok bs⟩
def g_need_row : GS :=
  (sIf (cNot (cVal (gCall S_is_row [] (aCons (gVar 0) aNil)))) sNever sNx)
theorem lift_need_row (F : FnG P w K mg base k f fd ["row"] (wpS ["row"] ["row"] g_need_row)) : FnG P w K mg base k f fd ["row"] S_need_row := F.imp fun ds m Q E h => by
  obtain ⟨bs, rfl, h1, h2, q⟩ := h
  refine ⟨rfl, ?_⟩
  simp only [g_need_row, ↓reduceIte, ↓u_sNx, ↓u_sSeq, ↓u_nx, ↓u_rt, ↓u_bk, ↓u_ct, ↓u_sBreak, ↓u_sCont, ↓u_sDrop, ↓u_sRet, ↓u_sRetN, ↓u_sIf, ↓u_sAsg, ↓u_gC, ↓u_aNil, ↓u_aCons, ↓u_gTup, ↓u_gLst, ↓u_gLstM, ↓u_gBin, ↓u_cVal, ↓u_onBl, ↓u_onInt, ↓u_onStr, ↓u_gChain, ↓u_cAnd, ↓u_cOr, ↓u_cNot, ↓u_gAnd, ↓u_gOr, ↓u_gNot, ↓u_gIf, ↓u_gNeg, ↓u_nNil, ↓u_nCons, ↓u_nTup, ↓u_nSub, ↓u_gCB, ↓u_gCall, ↓u_gM0, ↓u_gM1, ↓u_gL, ↓u_gL0, ↓u_oNo, ↓u_oSome, ↓u_gSl, ↓u_cYes, ↓u_on1, ↓u_on2, ↓u_dInt, ↓u_dInt0, ↓u_gLc, ↓u_gLcM, ↓u_gLc2, ↓u_sNever, ↓u_iEnS, ↓u_iEnL, ↓u_iEnumD, ↓u_iZipD, ↓u_zipS, ↓u_zipL, ↓u_iSeq, ↓u_iRange1, ↓u_iRange2, ↓u_sWhile, ↓u_iRange3, ↓u_on3, ↓u_sFor, ↓u_dMax2, ↓u_dMin2, ↓u_gDct0, ↓u_gVar0, ↓u_sSet0, ↓u_nName0, ↓u_gVar1, ↓u_sSet1, ↓u_nName1, ↓u_gVar2, ↓u_sSet2, ↓u_nName2, ↓u_gVar3, ↓u_sSet3, ↓u_nName3, ↓u_gVar4, ↓u_sSet4, ↓u_nName4, ↓u_gVar5, ↓u_sSet5, ↓u_nName5, ↓u_gVar6, ↓u_sSet6, ↓u_nName6, ↓u_gVar7, ↓u_sSet7, ↓u_nName7, ↓u_gVar8, ↓u_sSet8, ↓u_nName8, ↓u_gVar9, ↓u_sSet9, ↓u_nName9, ↓u_gVar10, ↓u_sSet10, ↓u_nName10, ↓u_gVar11, ↓u_sSet11, ↓u_nName11, ↓u_gVar12, ↓u_sSet12, ↓u_nName12, ↓u_gVar13, ↓u_sSet13, ↓u_nName13, ↓u_gVar14, ↓u_sSet14, ↓u_nName14, ↓u_gVar15, ↓u_sSet15, ↓u_nName15, ↓u_gVar16, ↓u_sSet16, ↓u_nName16, ↓u_gVar17, ↓u_sSet17, ↓u_nName17, ↓dToInt_int, ↓dToInt_bl, ↓dListU_lst, ↓dListU_tup, ↓dListU_str, ↓dListUM_lst, ↓dListUM_tup, ↓dListUM_str, ↓dTuple_lst, ↓dTuple_tup, ↓dIn_lst, ↓dIn_tup, ↓dSl_str, ↓dSl_lst, ↓dSl_tup, ↓dAdd_int, ↓dAdd_str, ↓dAdd_lst, ↓dAdd_tup, ↓dMul_int, ↓dMul_str, ↓dMul_lst, ↓dIx_lst, ↓dIx_ro, ↓dIx_tup, ↓dIx_str, ↓onSome_some, ↓dLen_lst, ↓dLen_tup, ↓dLen_str, ↓dLen_ro, ↓dLen_dct, ↓items_str, ↓items_lst, ↓items_tup, ↓items_ro, ↓dAll_lst, ↓dAny_lst, ↓dSum_lst, ↓dIsi_ty, ↓dIsi_tup, ↓dIn_str, ↓onSeq_lst, ↓onSeq_tup, ↓dIs_bb, ↓dStrI_i, ↓dIsW_bb, ↓dIsW_ib, ↓dIsW_sb, ↓dIsW_nb, ↓dIsW_lb, ↓dIsW_tb, ↓dIsW_db, ↓dIsW_nn, ↓dIsW_in, ↓dIsW_sn, ↓dIsW_ln, ↓dIsW_tn, ↓dEq_ii, ↓dEq_ss, ↓dNe_ii, ↓dNe_ss, ↓dEq_nil, ↓dNe_nil, ↓dEq_bb, ↓dNe_bb, List.append_nil, List.nil_append, List.cons_append, startD, List.map_cons, List.map_nil, List.length_cons, List.length_nil, Nat.sub_self, List.replicate_zero, List.replicate_succ, List.set_cons_zero, List.set_cons_succ, List.getElem?_cons_zero, List.getElem?_cons_succ, atI_lit, vw_int, vw_str, vw_bl, vw_non, vw_lst, vw_tup, vw_dct, vw_ro, vw_obj, vw_cls, Nat.reduceAdd, Nat.reduceSub, Int.reduceToNat, Int.reduceNeg, Int.reducePow, Int.reduceAdd, Int.reduceSub, Int.reduceMul, ixN_lit, decide_eq_true_eq, decide_eq_false_iff_not, if_true, if_false, Bool.false_eq_true, Bool.not_true, Bool.not_false, Nat.reduceLT, Nat.reduceLeDiff, Int.reduceLT, Int.reduceLE, true_and, and_true, and_self, ite_true, ite_false, kind_int, kind_bl, kind_non, kind_str, kind_lst, kind_tup, kind_dct, clsAll_lt, all_lt, any_lt_l, any_lt_t, any_lt_s, any_lt_i, any_lt_b, any_lt_n, any_lt_d, kc_int, kc_bool, kc_str, kc_list, kc_tuple, kc_dict, isiT, String.reduceBEq, Bool.or_false, Bool.or_true, Bool.false_or, Bool.true_or, Bool.and_false, Bool.false_and, Bool.and_true, Bool.true_and, wipeD, Bool.not_eq_true, Bool.not_eq_false, Bool.not_eq_eq_eq_not, Bool.not_not, Bool.false_bne, Bool.true_bne, dJoin, onSome_some, sizeLine_eq, Mu.put_same, put_put, Nat.zero_le, decide_true, decide_false, flt_litc, fld_str, fld_int, fld_bl, fld_non, List.all_cons, List.all_nil, reduceCtorEq, strOk_of, eqd_int, eqd_str, eqd_bl, eqd_lst0, eqd_lst1, eqd_lst2, eqd_lst3, eqd_tup0, eqd_tup1, eqd_tup2, eqd_tup3, flt_bl, flt_non]
  refine ⟨_, rfl, rfl, txs_rw (by omega), ?_⟩
  simp only [isRowB_rw h1 h2, ↓reduceIte, ↓u_sNx, ↓u_sSeq, ↓u_nx, ↓u_rt, ↓u_bk, ↓u_ct, ↓u_sBreak, ↓u_sCont, ↓u_sDrop, ↓u_sRet, ↓u_sRetN, ↓u_sIf, ↓u_sAsg, ↓u_gC, ↓u_aNil, ↓u_aCons, ↓u_gTup, ↓u_gLst, ↓u_gLstM, ↓u_gBin, ↓u_cVal, ↓u_onBl, ↓u_onInt, ↓u_onStr, ↓u_gChain, ↓u_cAnd, ↓u_cOr, ↓u_cNot, ↓u_gAnd, ↓u_gOr, ↓u_gNot, ↓u_gIf, ↓u_gNeg, ↓u_nNil, ↓u_nCons, ↓u_nTup, ↓u_nSub, ↓u_gCB, ↓u_gCall, ↓u_gM0, ↓u_gM1, ↓u_gL, ↓u_gL0, ↓u_oNo, ↓u_oSome, ↓u_gSl, ↓u_cYes, ↓u_on1, ↓u_on2, ↓u_dInt, ↓u_dInt0, ↓u_gLc, ↓u_gLcM, ↓u_gLc2, ↓u_sNever, ↓u_iEnS, ↓u_iEnL, ↓u_iEnumD, ↓u_iZipD, ↓u_zipS, ↓u_zipL, ↓u_iSeq, ↓u_iRange1, ↓u_iRange2, ↓u_sWhile, ↓u_iRange3, ↓u_on3, ↓u_sFor, ↓u_dMax2, ↓u_dMin2, ↓u_gDct0, ↓u_gVar0, ↓u_sSet0, ↓u_nName0, ↓u_gVar1, ↓u_sSet1, ↓u_nName1, ↓u_gVar2, ↓u_sSet2, ↓u_nName2, ↓u_gVar3, ↓u_sSet3, ↓u_nName3, ↓u_gVar4, ↓u_sSet4, ↓u_nName4, ↓u_gVar5, ↓u_sSet5, ↓u_nName5, ↓u_gVar6, ↓u_sSet6, ↓u_nName6, ↓u_gVar7, ↓u_sSet7, ↓u_nName7, ↓u_gVar8, ↓u_sSet8, ↓u_nName8, ↓u_gVar9, ↓u_sSet9, ↓u_nName9, ↓u_gVar10, ↓u_sSet10, ↓u_nName10, ↓u_gVar11, ↓u_sSet11, ↓u_nName11, ↓u_gVar12, ↓u_sSet12, ↓u_nName12, ↓u_gVar13, ↓u_sSet13, ↓u_nName13, ↓u_gVar14, ↓u_sSet14, ↓u_nName14, ↓u_gVar15, ↓u_sSet15, ↓u_nName15, ↓u_gVar16, ↓u_sSet16, ↓u_nName16, ↓u_gVar17, ↓u_sSet17, ↓u_nName17, ↓dToInt_int, ↓dToInt_bl, ↓dListU_lst, ↓dListU_tup, ↓dListU_str, ↓dListUM_lst, ↓dListUM_tup, ↓dListUM_str, ↓dTuple_lst, ↓dTuple_tup, ↓dIn_lst, ↓dIn_tup, ↓dSl_str, ↓dSl_lst, ↓dSl_tup, ↓dAdd_int, ↓dAdd_str, ↓dAdd_lst, ↓dAdd_tup, ↓dMul_int, ↓dMul_str, ↓dMul_lst, ↓dIx_lst, ↓dIx_ro, ↓dIx_tup, ↓dIx_str, ↓onSome_some, ↓dLen_lst, ↓dLen_tup, ↓dLen_str, ↓dLen_ro, ↓dLen_dct, ↓items_str, ↓items_lst, ↓items_tup, ↓items_ro, ↓dAll_lst, ↓dAny_lst, ↓dSum_lst, ↓dIsi_ty, ↓dIsi_tup, ↓dIn_str, ↓onSeq_lst, ↓onSeq_tup, ↓dIs_bb, ↓dStrI_i, ↓dIsW_bb, ↓dIsW_ib, ↓dIsW_sb, ↓dIsW_nb, ↓dIsW_lb, ↓dIsW_tb, ↓dIsW_db, ↓dIsW_nn, ↓dIsW_in, ↓dIsW_sn, ↓dIsW_ln, ↓dIsW_tn, ↓dEq_ii, ↓dEq_ss, ↓dNe_ii, ↓dNe_ss, ↓dEq_nil, ↓dNe_nil, ↓dEq_bb, ↓dNe_bb, List.append_nil, List.nil_append, List.cons_append, startD, List.map_cons, List.map_nil, List.length_cons, List.length_nil, Nat.sub_self, List.replicate_zero, List.replicate_succ, List.set_cons_zero, List.set_cons_succ, List.getElem?_cons_zero, List.getElem?_cons_succ, atI_lit, vw_int, vw_str, vw_bl, vw_non, vw_lst, vw_tup, vw_dct, vw_ro, vw_obj, vw_cls, Nat.reduceAdd, Nat.reduceSub, Int.reduceToNat, Int.reduceNeg, Int.reducePow, Int.reduceAdd, Int.reduceSub, Int.reduceMul, ixN_lit, decide_eq_true_eq, decide_eq_false_iff_not, if_true, if_false, Bool.false_eq_true, Bool.not_true, Bool.not_false, Nat.reduceLT, Nat.reduceLeDiff, Int.reduceLT, Int.reduceLE, true_and, and_true, and_self, ite_true, ite_false, kind_int, kind_bl, kind_non, kind_str, kind_lst, kind_tup, kind_dct, clsAll_lt, all_lt, any_lt_l, any_lt_t, any_lt_s, any_lt_i, any_lt_b, any_lt_n, any_lt_d, kc_int, kc_bool, kc_str, kc_list, kc_tuple, kc_dict, isiT, String.reduceBEq, Bool.or_false, Bool.or_true, Bool.false_or, Bool.true_or, Bool.and_false, Bool.false_and, Bool.and_true, Bool.true_and, wipeD, Bool.not_eq_true, Bool.not_eq_false, Bool.not_eq_eq_eq_not, Bool.not_not, Bool.false_bne, Bool.true_bne, dJoin, onSome_some, sizeLine_eq, Mu.put_same, put_put, Nat.zero_le, decide_true, decide_false, flt_litc, fld_str, fld_int, fld_bl, fld_non, List.all_cons, List.all_nil, reduceCtorEq, strOk_of, eqd_int, eqd_str, eqd_bl, eqd_lst0, eqd_lst1, eqd_lst2, eqd_lst3, eqd_tup0, eqd_tup1, eqd_tup2, eqd_tup3, flt_bl, flt_non]
  exact q
def S_need_width : Spec := fun ds m Q E => ∃ n most : Int, ds = [.int n, .int most] ∧ 1 ≤ n ∧ n ≤ most ∧ Q .non m
def g_need_width : GS :=
  (sIf (cNot (cVal (gCall S_is_integer [] (aCons (gVar 0) (aCons (gC (.int 1)) (aCons (gVar 1) aNil)))))) sNever sNx)
theorem lift_need_width (F : FnG P w K mg base k f fd ["width", "most"] (wpS ["width", "most"] ["width", "most"] g_need_width)) : FnG P w K mg base k f fd ["width", "most"] S_need_width := F.imp fun ds m Q E h => by
  obtain ⟨n, most, rfl, h1, h2, q⟩ := h
  refine ⟨rfl, ?_⟩
  simp only [g_need_width, ↓reduceIte, ↓u_sNx, ↓u_sSeq, ↓u_nx, ↓u_rt, ↓u_bk, ↓u_ct, ↓u_sBreak, ↓u_sCont, ↓u_sDrop, ↓u_sRet, ↓u_sRetN, ↓u_sIf, ↓u_sAsg, ↓u_gC, ↓u_aNil, ↓u_aCons, ↓u_gTup, ↓u_gLst, ↓u_gLstM, ↓u_gBin, ↓u_cVal, ↓u_onBl, ↓u_onInt, ↓u_onStr, ↓u_gChain, ↓u_cAnd, ↓u_cOr, ↓u_cNot, ↓u_gAnd, ↓u_gOr, ↓u_gNot, ↓u_gIf, ↓u_gNeg, ↓u_nNil, ↓u_nCons, ↓u_nTup, ↓u_nSub, ↓u_gCB, ↓u_gCall, ↓u_gM0, ↓u_gM1, ↓u_gL, ↓u_gL0, ↓u_oNo, ↓u_oSome, ↓u_gSl, ↓u_cYes, ↓u_on1, ↓u_on2, ↓u_dInt, ↓u_dInt0, ↓u_gLc, ↓u_gLcM, ↓u_gLc2, ↓u_sNever, ↓u_iEnS, ↓u_iEnL, ↓u_iEnumD, ↓u_iZipD, ↓u_zipS, ↓u_zipL, ↓u_iSeq, ↓u_iRange1, ↓u_iRange2, ↓u_sWhile, ↓u_iRange3, ↓u_on3, ↓u_sFor, ↓u_dMax2, ↓u_dMin2, ↓u_gDct0, ↓u_gVar0, ↓u_sSet0, ↓u_nName0, ↓u_gVar1, ↓u_sSet1, ↓u_nName1, ↓u_gVar2, ↓u_sSet2, ↓u_nName2, ↓u_gVar3, ↓u_sSet3, ↓u_nName3, ↓u_gVar4, ↓u_sSet4, ↓u_nName4, ↓u_gVar5, ↓u_sSet5, ↓u_nName5, ↓u_gVar6, ↓u_sSet6, ↓u_nName6, ↓u_gVar7, ↓u_sSet7, ↓u_nName7, ↓u_gVar8, ↓u_sSet8, ↓u_nName8, ↓u_gVar9, ↓u_sSet9, ↓u_nName9, ↓u_gVar10, ↓u_sSet10, ↓u_nName10, ↓u_gVar11, ↓u_sSet11, ↓u_nName11, ↓u_gVar12, ↓u_sSet12, ↓u_nName12, ↓u_gVar13, ↓u_sSet13, ↓u_nName13, ↓u_gVar14, ↓u_sSet14, ↓u_nName14, ↓u_gVar15, ↓u_sSet15, ↓u_nName15, ↓u_gVar16, ↓u_sSet16, ↓u_nName16, ↓u_gVar17, ↓u_sSet17, ↓u_nName17, ↓dToInt_int, ↓dToInt_bl, ↓dListU_lst, ↓dListU_tup, ↓dListU_str, ↓dListUM_lst, ↓dListUM_tup, ↓dListUM_str, ↓dTuple_lst, ↓dTuple_tup, ↓dIn_lst, ↓dIn_tup, ↓dSl_str, ↓dSl_lst, ↓dSl_tup, ↓dAdd_int, ↓dAdd_str, ↓dAdd_lst, ↓dAdd_tup, ↓dMul_int, ↓dMul_str, ↓dMul_lst, ↓dIx_lst, ↓dIx_ro, ↓dIx_tup, ↓dIx_str, ↓onSome_some, ↓dLen_lst, ↓dLen_tup, ↓dLen_str, ↓dLen_ro, ↓dLen_dct, ↓items_str, ↓items_lst, ↓items_tup, ↓items_ro, ↓dAll_lst, ↓dAny_lst, ↓dSum_lst, ↓dIsi_ty, ↓dIsi_tup, ↓dIn_str, ↓onSeq_lst, ↓onSeq_tup, ↓dIs_bb, ↓dStrI_i, ↓dIsW_bb, ↓dIsW_ib, ↓dIsW_sb, ↓dIsW_nb, ↓dIsW_lb, ↓dIsW_tb, ↓dIsW_db, ↓dIsW_nn, ↓dIsW_in, ↓dIsW_sn, ↓dIsW_ln, ↓dIsW_tn, ↓dEq_ii, ↓dEq_ss, ↓dNe_ii, ↓dNe_ss, ↓dEq_nil, ↓dNe_nil, ↓dEq_bb, ↓dNe_bb, List.append_nil, List.nil_append, List.cons_append, startD, List.map_cons, List.map_nil, List.length_cons, List.length_nil, Nat.sub_self, List.replicate_zero, List.replicate_succ, List.set_cons_zero, List.set_cons_succ, List.getElem?_cons_zero, List.getElem?_cons_succ, atI_lit, vw_int, vw_str, vw_bl, vw_non, vw_lst, vw_tup, vw_dct, vw_ro, vw_obj, vw_cls, Nat.reduceAdd, Nat.reduceSub, Int.reduceToNat, Int.reduceNeg, Int.reducePow, Int.reduceAdd, Int.reduceSub, Int.reduceMul, ixN_lit, decide_eq_true_eq, decide_eq_false_iff_not, if_true, if_false, Bool.false_eq_true, Bool.not_true, Bool.not_false, Nat.reduceLT, Nat.reduceLeDiff, Int.reduceLT, Int.reduceLE, true_and, and_true, and_self, ite_true, ite_false, kind_int, kind_bl, kind_non, kind_str, kind_lst, kind_tup, kind_dct, clsAll_lt, all_lt, any_lt_l, any_lt_t, any_lt_s, any_lt_i, any_lt_b, any_lt_n, any_lt_d, kc_int, kc_bool, kc_str, kc_list, kc_tuple, kc_dict, isiT, String.reduceBEq, Bool.or_false, Bool.or_true, Bool.false_or, Bool.true_or, Bool.and_false, Bool.false_and, Bool.and_true, Bool.true_and, wipeD, Bool.not_eq_true, Bool.not_eq_false, Bool.not_eq_eq_eq_not, Bool.not_not, Bool.false_bne, Bool.true_bne, dJoin, onSome_some, sizeLine_eq, Mu.put_same, put_put, Nat.zero_le, decide_true, decide_false, flt_litc, fld_str, fld_int, fld_bl, fld_non, List.all_cons, List.all_nil, reduceCtorEq, strOk_of, eqd_int, eqd_str, eqd_bl, eqd_lst0, eqd_lst1, eqd_lst2, eqd_lst3, eqd_tup0, eqd_tup1, eqd_tup2, eqd_tup3, flt_bl, flt_non]
  refine ⟨_, _, _, rfl, rfl, ?_⟩
  have e : isIntB (.int n) 1 most = true := by
    show (decide (1 ≤ n) && decide (n ≤ most)) = true
    rw [decide_eq_true h1, decide_eq_true h2]; rfl
  simp only [e, ↓reduceIte, ↓u_sNx, ↓u_sSeq, ↓u_nx, ↓u_rt, ↓u_bk, ↓u_ct, ↓u_sBreak, ↓u_sCont, ↓u_sDrop, ↓u_sRet, ↓u_sRetN, ↓u_sIf, ↓u_sAsg, ↓u_gC, ↓u_aNil, ↓u_aCons, ↓u_gTup, ↓u_gLst, ↓u_gLstM, ↓u_gBin, ↓u_cVal, ↓u_onBl, ↓u_onInt, ↓u_onStr, ↓u_gChain, ↓u_cAnd, ↓u_cOr, ↓u_cNot, ↓u_gAnd, ↓u_gOr, ↓u_gNot, ↓u_gIf, ↓u_gNeg, ↓u_nNil, ↓u_nCons, ↓u_nTup, ↓u_nSub, ↓u_gCB, ↓u_gCall, ↓u_gM0, ↓u_gM1, ↓u_gL, ↓u_gL0, ↓u_oNo, ↓u_oSome, ↓u_gSl, ↓u_cYes, ↓u_on1, ↓u_on2, ↓u_dInt, ↓u_dInt0, ↓u_gLc, ↓u_gLcM, ↓u_gLc2, ↓u_sNever, ↓u_iEnS, ↓u_iEnL, ↓u_iEnumD, ↓u_iZipD, ↓u_zipS, ↓u_zipL, ↓u_iSeq, ↓u_iRange1, ↓u_iRange2, ↓u_sWhile, ↓u_iRange3, ↓u_on3, ↓u_sFor, ↓u_dMax2, ↓u_dMin2, ↓u_gDct0, ↓u_gVar0, ↓u_sSet0, ↓u_nName0, ↓u_gVar1, ↓u_sSet1, ↓u_nName1, ↓u_gVar2, ↓u_sSet2, ↓u_nName2, ↓u_gVar3, ↓u_sSet3, ↓u_nName3, ↓u_gVar4, ↓u_sSet4, ↓u_nName4, ↓u_gVar5, ↓u_sSet5, ↓u_nName5, ↓u_gVar6, ↓u_sSet6, ↓u_nName6, ↓u_gVar7, ↓u_sSet7, ↓u_nName7, ↓u_gVar8, ↓u_sSet8, ↓u_nName8, ↓u_gVar9, ↓u_sSet9, ↓u_nName9, ↓u_gVar10, ↓u_sSet10, ↓u_nName10, ↓u_gVar11, ↓u_sSet11, ↓u_nName11, ↓u_gVar12, ↓u_sSet12, ↓u_nName12, ↓u_gVar13, ↓u_sSet13, ↓u_nName13, ↓u_gVar14, ↓u_sSet14, ↓u_nName14, ↓u_gVar15, ↓u_sSet15, ↓u_nName15, ↓u_gVar16, ↓u_sSet16, ↓u_nName16, ↓u_gVar17, ↓u_sSet17, ↓u_nName17, ↓dToInt_int, ↓dToInt_bl, ↓dListU_lst, ↓dListU_tup, ↓dListU_str, ↓dListUM_lst, ↓dListUM_tup, ↓dListUM_str, ↓dTuple_lst, ↓dTuple_tup, ↓dIn_lst, ↓dIn_tup, ↓dSl_str, ↓dSl_lst, ↓dSl_tup, ↓dAdd_int, ↓dAdd_str, ↓dAdd_lst, ↓dAdd_tup, ↓dMul_int, ↓dMul_str, ↓dMul_lst, ↓dIx_lst, ↓dIx_ro, ↓dIx_tup, ↓dIx_str, ↓onSome_some, ↓dLen_lst, ↓dLen_tup, ↓dLen_str, ↓dLen_ro, ↓dLen_dct, ↓items_str, ↓items_lst, ↓items_tup, ↓items_ro, ↓dAll_lst, ↓dAny_lst, ↓dSum_lst, ↓dIsi_ty, ↓dIsi_tup, ↓dIn_str, ↓onSeq_lst, ↓onSeq_tup, ↓dIs_bb, ↓dStrI_i, ↓dIsW_bb, ↓dIsW_ib, ↓dIsW_sb, ↓dIsW_nb, ↓dIsW_lb, ↓dIsW_tb, ↓dIsW_db, ↓dIsW_nn, ↓dIsW_in, ↓dIsW_sn, ↓dIsW_ln, ↓dIsW_tn, ↓dEq_ii, ↓dEq_ss, ↓dNe_ii, ↓dNe_ss, ↓dEq_nil, ↓dNe_nil, ↓dEq_bb, ↓dNe_bb, List.append_nil, List.nil_append, List.cons_append, startD, List.map_cons, List.map_nil, List.length_cons, List.length_nil, Nat.sub_self, List.replicate_zero, List.replicate_succ, List.set_cons_zero, List.set_cons_succ, List.getElem?_cons_zero, List.getElem?_cons_succ, atI_lit, vw_int, vw_str, vw_bl, vw_non, vw_lst, vw_tup, vw_dct, vw_ro, vw_obj, vw_cls, Nat.reduceAdd, Nat.reduceSub, Int.reduceToNat, Int.reduceNeg, Int.reducePow, Int.reduceAdd, Int.reduceSub, Int.reduceMul, ixN_lit, decide_eq_true_eq, decide_eq_false_iff_not, if_true, if_false, Bool.false_eq_true, Bool.not_true, Bool.not_false, Nat.reduceLT, Nat.reduceLeDiff, Int.reduceLT, Int.reduceLE, true_and, and_true, and_self, ite_true, ite_false, kind_int, kind_bl, kind_non, kind_str, kind_lst, kind_tup, kind_dct, clsAll_lt, all_lt, any_lt_l, any_lt_t, any_lt_s, any_lt_i, any_lt_b, any_lt_n, any_lt_d, kc_int, kc_bool, kc_str, kc_list, kc_tuple, kc_dict, isiT, String.reduceBEq, Bool.or_false, Bool.or_true, Bool.false_or, Bool.true_or, Bool.and_false, Bool.false_and, Bool.and_true, Bool.true_and, wipeD, Bool.not_eq_true, Bool.not_eq_false, Bool.not_eq_eq_eq_not, Bool.not_not, Bool.false_bne, Bool.true_bne, dJoin, onSome_some, sizeLine_eq, Mu.put_same, put_put, Nat.zero_le, decide_true, decide_false, flt_litc, fld_str, fld_int, fld_bl, fld_non, List.all_cons, List.all_nil, reduceCtorEq, strOk_of, eqd_int, eqd_str, eqd_bl, eqd_lst0, eqd_lst1, eqd_lst2, eqd_lst3, eqd_tup0, eqd_tup1, eqd_tup2, eqd_tup3, flt_bl, flt_non]
  exact q
def S_is_open : Spec := fun ds m Q E => ∃ (bs : List Bool) (i : Nat) (b : Bool), ds = [.str (rw_ bs), .int (i : Nat)] ∧ bs.length ≤ 1000 ∧ bs[i]? = some b ∧ Q (.bl b) m
def g_is_open : GS :=
  (sRet (gBin dEq (gBin dIx (gVar 0) (gVar 1)) (gC (.str "v"))))
theorem lift_is_open (F : FnG P w K mg base k f fd ["row", "hole"] (wpS ["row", "hole"] ["row", "hole"] g_is_open)) : FnG P w K mg base k f fd ["row", "hole"] S_is_open := F.imp fun ds m Q E h => by
  obtain ⟨bs, i, b, rfl, h1, h2, q⟩ := h
  refine ⟨rfl, ?_⟩
  simp only [g_is_open, ↓reduceIte, ↓u_sNx, ↓u_sSeq, ↓u_nx, ↓u_rt, ↓u_bk, ↓u_ct, ↓u_sBreak, ↓u_sCont, ↓u_sDrop, ↓u_sRet, ↓u_sRetN, ↓u_sIf, ↓u_sAsg, ↓u_gC, ↓u_aNil, ↓u_aCons, ↓u_gTup, ↓u_gLst, ↓u_gLstM, ↓u_gBin, ↓u_cVal, ↓u_onBl, ↓u_onInt, ↓u_onStr, ↓u_gChain, ↓u_cAnd, ↓u_cOr, ↓u_cNot, ↓u_gAnd, ↓u_gOr, ↓u_gNot, ↓u_gIf, ↓u_gNeg, ↓u_nNil, ↓u_nCons, ↓u_nTup, ↓u_nSub, ↓u_gCB, ↓u_gCall, ↓u_gM0, ↓u_gM1, ↓u_gL, ↓u_gL0, ↓u_oNo, ↓u_oSome, ↓u_gSl, ↓u_cYes, ↓u_on1, ↓u_on2, ↓u_dInt, ↓u_dInt0, ↓u_gLc, ↓u_gLcM, ↓u_gLc2, ↓u_sNever, ↓u_iEnS, ↓u_iEnL, ↓u_iEnumD, ↓u_iZipD, ↓u_zipS, ↓u_zipL, ↓u_iSeq, ↓u_iRange1, ↓u_iRange2, ↓u_sWhile, ↓u_iRange3, ↓u_on3, ↓u_sFor, ↓u_dMax2, ↓u_dMin2, ↓u_gDct0, ↓u_gVar0, ↓u_sSet0, ↓u_nName0, ↓u_gVar1, ↓u_sSet1, ↓u_nName1, ↓u_gVar2, ↓u_sSet2, ↓u_nName2, ↓u_gVar3, ↓u_sSet3, ↓u_nName3, ↓u_gVar4, ↓u_sSet4, ↓u_nName4, ↓u_gVar5, ↓u_sSet5, ↓u_nName5, ↓u_gVar6, ↓u_sSet6, ↓u_nName6, ↓u_gVar7, ↓u_sSet7, ↓u_nName7, ↓u_gVar8, ↓u_sSet8, ↓u_nName8, ↓u_gVar9, ↓u_sSet9, ↓u_nName9, ↓u_gVar10, ↓u_sSet10, ↓u_nName10, ↓u_gVar11, ↓u_sSet11, ↓u_nName11, ↓u_gVar12, ↓u_sSet12, ↓u_nName12, ↓u_gVar13, ↓u_sSet13, ↓u_nName13, ↓u_gVar14, ↓u_sSet14, ↓u_nName14, ↓u_gVar15, ↓u_sSet15, ↓u_nName15, ↓u_gVar16, ↓u_sSet16, ↓u_nName16, ↓u_gVar17, ↓u_sSet17, ↓u_nName17, ↓dToInt_int, ↓dToInt_bl, ↓dListU_lst, ↓dListU_tup, ↓dListU_str, ↓dListUM_lst, ↓dListUM_tup, ↓dListUM_str, ↓dTuple_lst, ↓dTuple_tup, ↓dIn_lst, ↓dIn_tup, ↓dSl_str, ↓dSl_lst, ↓dSl_tup, ↓dAdd_int, ↓dAdd_str, ↓dAdd_lst, ↓dAdd_tup, ↓dMul_int, ↓dMul_str, ↓dMul_lst, ↓dIx_lst, ↓dIx_ro, ↓dIx_tup, ↓dIx_str, ↓onSome_some, ↓dLen_lst, ↓dLen_tup, ↓dLen_str, ↓dLen_ro, ↓dLen_dct, ↓items_str, ↓items_lst, ↓items_tup, ↓items_ro, ↓dAll_lst, ↓dAny_lst, ↓dSum_lst, ↓dIsi_ty, ↓dIsi_tup, ↓dIn_str, ↓onSeq_lst, ↓onSeq_tup, ↓dIs_bb, ↓dStrI_i, ↓dIsW_bb, ↓dIsW_ib, ↓dIsW_sb, ↓dIsW_nb, ↓dIsW_lb, ↓dIsW_tb, ↓dIsW_db, ↓dIsW_nn, ↓dIsW_in, ↓dIsW_sn, ↓dIsW_ln, ↓dIsW_tn, ↓dEq_ii, ↓dEq_ss, ↓dNe_ii, ↓dNe_ss, ↓dEq_nil, ↓dNe_nil, ↓dEq_bb, ↓dNe_bb, List.append_nil, List.nil_append, List.cons_append, startD, List.map_cons, List.map_nil, List.length_cons, List.length_nil, Nat.sub_self, List.replicate_zero, List.replicate_succ, List.set_cons_zero, List.set_cons_succ, List.getElem?_cons_zero, List.getElem?_cons_succ, atI_lit, vw_int, vw_str, vw_bl, vw_non, vw_lst, vw_tup, vw_dct, vw_ro, vw_obj, vw_cls, Nat.reduceAdd, Nat.reduceSub, Int.reduceToNat, Int.reduceNeg, Int.reducePow, Int.reduceAdd, Int.reduceSub, Int.reduceMul, ixN_lit, decide_eq_true_eq, decide_eq_false_iff_not, if_true, if_false, Bool.false_eq_true, Bool.not_true, Bool.not_false, Nat.reduceLT, Nat.reduceLeDiff, Int.reduceLT, Int.reduceLE, true_and, and_true, and_self, ite_true, ite_false, kind_int, kind_bl, kind_non, kind_str, kind_lst, kind_tup, kind_dct, clsAll_lt, all_lt, any_lt_l, any_lt_t, any_lt_s, any_lt_i, any_lt_b, any_lt_n, any_lt_d, kc_int, kc_bool, kc_str, kc_list, kc_tuple, kc_dict, isiT, String.reduceBEq, Bool.or_false, Bool.or_true, Bool.false_or, Bool.true_or, Bool.and_false, Bool.false_and, Bool.and_true, Bool.true_and, wipeD, Bool.not_eq_true, Bool.not_eq_false, Bool.not_eq_eq_eq_not, Bool.not_not, Bool.false_bne, Bool.true_bne, dJoin, onSome_some, sizeLine_eq, Mu.put_same, put_put, Nat.zero_le, decide_true, decide_false, flt_litc, fld_str, fld_int, fld_bl, fld_non, List.all_cons, List.all_nil, reduceCtorEq, strOk_of, eqd_int, eqd_str, eqd_bl, eqd_lst0, eqd_lst1, eqd_lst2, eqd_lst3, eqd_tup0, eqd_tup1, eqd_tup2, eqd_tup3, flt_bl, flt_non]
  refine ⟨by rw [rw_len]; omega, ix_rw h2 ?_⟩
  simp only [rw1, rw_v, ↓reduceIte, ↓u_sNx, ↓u_sSeq, ↓u_nx, ↓u_rt, ↓u_bk, ↓u_ct, ↓u_sBreak, ↓u_sCont, ↓u_sDrop, ↓u_sRet, ↓u_sRetN, ↓u_sIf, ↓u_sAsg, ↓u_gC, ↓u_aNil, ↓u_aCons, ↓u_gTup, ↓u_gLst, ↓u_gLstM, ↓u_gBin, ↓u_cVal, ↓u_onBl, ↓u_onInt, ↓u_onStr, ↓u_gChain, ↓u_cAnd, ↓u_cOr, ↓u_cNot, ↓u_gAnd, ↓u_gOr, ↓u_gNot, ↓u_gIf, ↓u_gNeg, ↓u_nNil, ↓u_nCons, ↓u_nTup, ↓u_nSub, ↓u_gCB, ↓u_gCall, ↓u_gM0, ↓u_gM1, ↓u_gL, ↓u_gL0, ↓u_oNo, ↓u_oSome, ↓u_gSl, ↓u_cYes, ↓u_on1, ↓u_on2, ↓u_dInt, ↓u_dInt0, ↓u_gLc, ↓u_gLcM, ↓u_gLc2, ↓u_sNever, ↓u_iEnS, ↓u_iEnL, ↓u_iEnumD, ↓u_iZipD, ↓u_zipS, ↓u_zipL, ↓u_iSeq, ↓u_iRange1, ↓u_iRange2, ↓u_sWhile, ↓u_iRange3, ↓u_on3, ↓u_sFor, ↓u_dMax2, ↓u_dMin2, ↓u_gDct0, ↓u_gVar0, ↓u_sSet0, ↓u_nName0, ↓u_gVar1, ↓u_sSet1, ↓u_nName1, ↓u_gVar2, ↓u_sSet2, ↓u_nName2, ↓u_gVar3, ↓u_sSet3, ↓u_nName3, ↓u_gVar4, ↓u_sSet4, ↓u_nName4, ↓u_gVar5, ↓u_sSet5, ↓u_nName5, ↓u_gVar6, ↓u_sSet6, ↓u_nName6, ↓u_gVar7, ↓u_sSet7, ↓u_nName7, ↓u_gVar8, ↓u_sSet8, ↓u_nName8, ↓u_gVar9, ↓u_sSet9, ↓u_nName9, ↓u_gVar10, ↓u_sSet10, ↓u_nName10, ↓u_gVar11, ↓u_sSet11, ↓u_nName11, ↓u_gVar12, ↓u_sSet12, ↓u_nName12, ↓u_gVar13, ↓u_sSet13, ↓u_nName13, ↓u_gVar14, ↓u_sSet14, ↓u_nName14, ↓u_gVar15, ↓u_sSet15, ↓u_nName15, ↓u_gVar16, ↓u_sSet16, ↓u_nName16, ↓u_gVar17, ↓u_sSet17, ↓u_nName17, ↓dToInt_int, ↓dToInt_bl, ↓dListU_lst, ↓dListU_tup, ↓dListU_str, ↓dListUM_lst, ↓dListUM_tup, ↓dListUM_str, ↓dTuple_lst, ↓dTuple_tup, ↓dIn_lst, ↓dIn_tup, ↓dSl_str, ↓dSl_lst, ↓dSl_tup, ↓dAdd_int, ↓dAdd_str, ↓dAdd_lst, ↓dAdd_tup, ↓dMul_int, ↓dMul_str, ↓dMul_lst, ↓dIx_lst, ↓dIx_ro, ↓dIx_tup, ↓dIx_str, ↓onSome_some, ↓dLen_lst, ↓dLen_tup, ↓dLen_str, ↓dLen_ro, ↓dLen_dct, ↓items_str, ↓items_lst, ↓items_tup, ↓items_ro, ↓dAll_lst, ↓dAny_lst, ↓dSum_lst, ↓dIsi_ty, ↓dIsi_tup, ↓dIn_str, ↓onSeq_lst, ↓onSeq_tup, ↓dIs_bb, ↓dStrI_i, ↓dIsW_bb, ↓dIsW_ib, ↓dIsW_sb, ↓dIsW_nb, ↓dIsW_lb, ↓dIsW_tb, ↓dIsW_db, ↓dIsW_nn, ↓dIsW_in, ↓dIsW_sn, ↓dIsW_ln, ↓dIsW_tn, ↓dEq_ii, ↓dEq_ss, ↓dNe_ii, ↓dNe_ss, ↓dEq_nil, ↓dNe_nil, ↓dEq_bb, ↓dNe_bb, List.append_nil, List.nil_append, List.cons_append, startD, List.map_cons, List.map_nil, List.length_cons, List.length_nil, Nat.sub_self, List.replicate_zero, List.replicate_succ, List.set_cons_zero, List.set_cons_succ, List.getElem?_cons_zero, List.getElem?_cons_succ, atI_lit, vw_int, vw_str, vw_bl, vw_non, vw_lst, vw_tup, vw_dct, vw_ro, vw_obj, vw_cls, Nat.reduceAdd, Nat.reduceSub, Int.reduceToNat, Int.reduceNeg, Int.reducePow, Int.reduceAdd, Int.reduceSub, Int.reduceMul, ixN_lit, decide_eq_true_eq, decide_eq_false_iff_not, if_true, if_false, Bool.false_eq_true, Bool.not_true, Bool.not_false, Nat.reduceLT, Nat.reduceLeDiff, Int.reduceLT, Int.reduceLE, true_and, and_true, and_self, ite_true, ite_false, kind_int, kind_bl, kind_non, kind_str, kind_lst, kind_tup, kind_dct, clsAll_lt, all_lt, any_lt_l, any_lt_t, any_lt_s, any_lt_i, any_lt_b, any_lt_n, any_lt_d, kc_int, kc_bool, kc_str, kc_list, kc_tuple, kc_dict, isiT, String.reduceBEq, Bool.or_false, Bool.or_true, Bool.false_or, Bool.true_or, Bool.and_false, Bool.false_and, Bool.and_true, Bool.true_and, wipeD, Bool.not_eq_true, Bool.not_eq_false, Bool.not_eq_eq_eq_not, Bool.not_not, Bool.false_bne, Bool.true_bne, dJoin, onSome_some, sizeLine_eq, Mu.put_same, put_put, Nat.zero_le, decide_true, decide_false, flt_litc, fld_str, fld_int, fld_bl, fld_non, List.all_cons, List.all_nil, reduceCtorEq, strOk_of, eqd_int, eqd_str, eqd_bl, eqd_lst0, eqd_lst1, eqd_lst2, eqd_lst3, eqd_tup0, eqd_tup1, eqd_tup2, eqd_tup3, flt_bl, flt_non, rw_ok, rw_eq1]
  cases b <;> exact q
def opens (bs : List Bool) : List Int := ((List.range bs.length).filter fun i => bs[i]? == some true).map fun (i : Nat) => (i : Int)
theorem opens_D (bs : List Bool) : ((rangeD 0 bs.length).filter fun d => match d with | .int i => bs[i.toNat]? == some true | _ => false) = (opens bs).map D.int := by
  unfold rangeD opens
  rw [List.filter_map, List.map_map]
  have e : ((fun d : D => match d with | .int i => bs[i.toNat]? == some true | _ => false) ∘ fun i : Nat => D.int (0 + (i : Nat))) = fun i : Nat => bs[i]? == some true := by
    funext i
    simp
  rw [e]
  refine List.map_congr_left fun i _ => ?_
  show D.int (0 + (i : Nat)) = D.int (i : Nat)
  rw [Int.zero_add]
/-- a row's list of open holes, new -/
def S_opened : Spec := fun ds m Q E => ∃ bs : List Bool, ds = [.str (rw_ bs)] ∧ 1 ≤ bs.length ∧ bs.length ≤ 24 ∧ ∀ a, m a = none → Q (.cel a) (m.put a (some (.lst ((opens bs).map D.int))))
theorem range_at {lo : Int} {n i : Nat} {d : D} (h : (rangeD lo n)[i]? = some d) : i < n ∧ d = .int (lo + (i : Nat)) := by
  unfold rangeD at h
  rw [List.getElem?_map] at h
  obtain ⟨j, h1, h2⟩ := Option.map_eq_some_iff.mp h
  obtain ⟨h3, h4⟩ := List.getElem?_eq_some_iff.mp h1
  rw [List.getElem_range] at h4
  rw [List.length_range] at h3
  subst h4
  exact ⟨h3, h2.symm⟩
theorem range_mem {lo : Int} {n : Nat} {d : D} (h : d ∈ rangeD lo n) : ∃ i : Nat, i < n ∧ d = .int (lo + (i : Nat)) := by
  obtain ⟨i, hi, e⟩ := List.mem_map.mp h
  exact ⟨i, List.mem_range.mp hi, e.symm⟩
theorem range_len (lo : Int) (n : Nat) : (rangeD lo n).length = n := by simp [rangeD]
def g_opened : GS :=
  (sSeq (sDrop (gCall S_need_row [] (aCons (gVar 0) aNil)))
  (sRet (gLcM (iRange1 (aCons (gCB dLen (aCons (gVar 0) aNil)) aNil)) (nName 1) (cVal (gCall S_is_open [] (aCons (gVar 0) (aCons (gVar 1) aNil)))) (gVar 1) [1])))
theorem lift_opened (F : FnG P w K mg base k f fd ["row"] (wpS ["row"] ["row", "hole"] g_opened)) : FnG P w K mg base k f fd ["row"] S_opened := F.imp fun ds m Q E h => by
  obtain ⟨bs, rfl, h1, h2, q⟩ := h
  refine ⟨rfl, ?_⟩
  simp only [g_opened, ↓reduceIte, ↓u_sNx, ↓u_sSeq, ↓u_nx, ↓u_rt, ↓u_bk, ↓u_ct, ↓u_sBreak, ↓u_sCont, ↓u_sDrop, ↓u_sRet, ↓u_sRetN, ↓u_sIf, ↓u_sAsg, ↓u_gC, ↓u_aNil, ↓u_aCons, ↓u_gTup, ↓u_gLst, ↓u_gLstM, ↓u_gBin, ↓u_cVal, ↓u_onBl, ↓u_onInt, ↓u_onStr, ↓u_gChain, ↓u_cAnd, ↓u_cOr, ↓u_cNot, ↓u_gAnd, ↓u_gOr, ↓u_gNot, ↓u_gIf, ↓u_gNeg, ↓u_nNil, ↓u_nCons, ↓u_nTup, ↓u_nSub, ↓u_gCB, ↓u_gCall, ↓u_gM0, ↓u_gM1, ↓u_gL, ↓u_gL0, ↓u_oNo, ↓u_oSome, ↓u_gSl, ↓u_cYes, ↓u_on1, ↓u_on2, ↓u_dInt, ↓u_dInt0, ↓u_gLc, ↓u_gLcM, ↓u_gLc2, ↓u_sNever, ↓u_iEnS, ↓u_iEnL, ↓u_iEnumD, ↓u_iZipD, ↓u_zipS, ↓u_zipL, ↓u_iSeq, ↓u_iRange1, ↓u_iRange2, ↓u_sWhile, ↓u_iRange3, ↓u_on3, ↓u_sFor, ↓u_dMax2, ↓u_dMin2, ↓u_gDct0, ↓u_gVar0, ↓u_sSet0, ↓u_nName0, ↓u_gVar1, ↓u_sSet1, ↓u_nName1, ↓u_gVar2, ↓u_sSet2, ↓u_nName2, ↓u_gVar3, ↓u_sSet3, ↓u_nName3, ↓u_gVar4, ↓u_sSet4, ↓u_nName4, ↓u_gVar5, ↓u_sSet5, ↓u_nName5, ↓u_gVar6, ↓u_sSet6, ↓u_nName6, ↓u_gVar7, ↓u_sSet7, ↓u_nName7, ↓u_gVar8, ↓u_sSet8, ↓u_nName8, ↓u_gVar9, ↓u_sSet9, ↓u_nName9, ↓u_gVar10, ↓u_sSet10, ↓u_nName10, ↓u_gVar11, ↓u_sSet11, ↓u_nName11, ↓u_gVar12, ↓u_sSet12, ↓u_nName12, ↓u_gVar13, ↓u_sSet13, ↓u_nName13, ↓u_gVar14, ↓u_sSet14, ↓u_nName14, ↓u_gVar15, ↓u_sSet15, ↓u_nName15, ↓u_gVar16, ↓u_sSet16, ↓u_nName16, ↓u_gVar17, ↓u_sSet17, ↓u_nName17, ↓dToInt_int, ↓dToInt_bl, ↓dListU_lst, ↓dListU_tup, ↓dListU_str, ↓dListUM_lst, ↓dListUM_tup, ↓dListUM_str, ↓dTuple_lst, ↓dTuple_tup, ↓dIn_lst, ↓dIn_tup, ↓dSl_str, ↓dSl_lst, ↓dSl_tup, ↓dAdd_int, ↓dAdd_str, ↓dAdd_lst, ↓dAdd_tup, ↓dMul_int, ↓dMul_str, ↓dMul_lst, ↓dIx_lst, ↓dIx_ro, ↓dIx_tup, ↓dIx_str, ↓onSome_some, ↓dLen_lst, ↓dLen_tup, ↓dLen_str, ↓dLen_ro, ↓dLen_dct, ↓items_str, ↓items_lst, ↓items_tup, ↓items_ro, ↓dAll_lst, ↓dAny_lst, ↓dSum_lst, ↓dIsi_ty, ↓dIsi_tup, ↓dIn_str, ↓onSeq_lst, ↓onSeq_tup, ↓dIs_bb, ↓dStrI_i, ↓dIsW_bb, ↓dIsW_ib, ↓dIsW_sb, ↓dIsW_nb, ↓dIsW_lb, ↓dIsW_tb, ↓dIsW_db, ↓dIsW_nn, ↓dIsW_in, ↓dIsW_sn, ↓dIsW_ln, ↓dIsW_tn, ↓dEq_ii, ↓dEq_ss, ↓dNe_ii, ↓dNe_ss, ↓dEq_nil, ↓dNe_nil, ↓dEq_bb, ↓dNe_bb, List.append_nil, List.nil_append, List.cons_append, startD, List.map_cons, List.map_nil, List.length_cons, List.length_nil, Nat.sub_self, List.replicate_zero, List.replicate_succ, List.set_cons_zero, List.set_cons_succ, List.getElem?_cons_zero, List.getElem?_cons_succ, atI_lit, vw_int, vw_str, vw_bl, vw_non, vw_lst, vw_tup, vw_dct, vw_ro, vw_obj, vw_cls, Nat.reduceAdd, Nat.reduceSub, Int.reduceToNat, Int.reduceNeg, Int.reducePow, Int.reduceAdd, Int.reduceSub, Int.reduceMul, ixN_lit, decide_eq_true_eq, decide_eq_false_iff_not, if_true, if_false, Bool.false_eq_true, Bool.not_true, Bool.not_false, Nat.reduceLT, Nat.reduceLeDiff, Int.reduceLT, Int.reduceLE, true_and, and_true, and_self, ite_true, ite_false, kind_int, kind_bl, kind_non, kind_str, kind_lst, kind_tup, kind_dct, clsAll_lt, all_lt, any_lt_l, any_lt_t, any_lt_s, any_lt_i, any_lt_b, any_lt_n, any_lt_d, kc_int, kc_bool, kc_str, kc_list, kc_tuple, kc_dict, isiT, String.reduceBEq, Bool.or_false, Bool.or_true, Bool.false_or, Bool.true_or, Bool.and_false, Bool.false_and, Bool.and_true, Bool.true_and, wipeD, Bool.not_eq_true, Bool.not_eq_false, Bool.not_eq_eq_eq_not, Bool.not_not, Bool.false_bne, Bool.true_bne, dJoin, onSome_some, sizeLine_eq, Mu.put_same, put_put, Nat.zero_le, decide_true, decide_false, flt_litc, fld_str, fld_int, fld_bl, fld_non, List.all_cons, List.all_nil, reduceCtorEq, strOk_of, eqd_int, eqd_str, eqd_bl, eqd_lst0, eqd_lst1, eqd_lst2, eqd_lst3, eqd_tup0, eqd_tup1, eqd_tup2, eqd_tup3, flt_bl, flt_non]
  refine ⟨bs, rfl, h1, h2, ?_⟩
  simp only [↓reduceIte, ↓u_sNx, ↓u_sSeq, ↓u_nx, ↓u_rt, ↓u_bk, ↓u_ct, ↓u_sBreak, ↓u_sCont, ↓u_sDrop, ↓u_sRet, ↓u_sRetN, ↓u_sIf, ↓u_sAsg, ↓u_gC, ↓u_aNil, ↓u_aCons, ↓u_gTup, ↓u_gLst, ↓u_gLstM, ↓u_gBin, ↓u_cVal, ↓u_onBl, ↓u_onInt, ↓u_onStr, ↓u_gChain, ↓u_cAnd, ↓u_cOr, ↓u_cNot, ↓u_gAnd, ↓u_gOr, ↓u_gNot, ↓u_gIf, ↓u_gNeg, ↓u_nNil, ↓u_nCons, ↓u_nTup, ↓u_nSub, ↓u_gCB, ↓u_gCall, ↓u_gM0, ↓u_gM1, ↓u_gL, ↓u_gL0, ↓u_oNo, ↓u_oSome, ↓u_gSl, ↓u_cYes, ↓u_on1, ↓u_on2, ↓u_dInt, ↓u_dInt0, ↓u_gLc, ↓u_gLcM, ↓u_gLc2, ↓u_sNever, ↓u_iEnS, ↓u_iEnL, ↓u_iEnumD, ↓u_iZipD, ↓u_zipS, ↓u_zipL, ↓u_iSeq, ↓u_iRange1, ↓u_iRange2, ↓u_sWhile, ↓u_iRange3, ↓u_on3, ↓u_sFor, ↓u_dMax2, ↓u_dMin2, ↓u_gDct0, ↓u_gVar0, ↓u_sSet0, ↓u_nName0, ↓u_gVar1, ↓u_sSet1, ↓u_nName1, ↓u_gVar2, ↓u_sSet2, ↓u_nName2, ↓u_gVar3, ↓u_sSet3, ↓u_nName3, ↓u_gVar4, ↓u_sSet4, ↓u_nName4, ↓u_gVar5, ↓u_sSet5, ↓u_nName5, ↓u_gVar6, ↓u_sSet6, ↓u_nName6, ↓u_gVar7, ↓u_sSet7, ↓u_nName7, ↓u_gVar8, ↓u_sSet8, ↓u_nName8, ↓u_gVar9, ↓u_sSet9, ↓u_nName9, ↓u_gVar10, ↓u_sSet10, ↓u_nName10, ↓u_gVar11, ↓u_sSet11, ↓u_nName11, ↓u_gVar12, ↓u_sSet12, ↓u_nName12, ↓u_gVar13, ↓u_sSet13, ↓u_nName13, ↓u_gVar14, ↓u_sSet14, ↓u_nName14, ↓u_gVar15, ↓u_sSet15, ↓u_nName15, ↓u_gVar16, ↓u_sSet16, ↓u_nName16, ↓u_gVar17, ↓u_sSet17, ↓u_nName17, ↓dToInt_int, ↓dToInt_bl, ↓dListU_lst, ↓dListU_tup, ↓dListU_str, ↓dListUM_lst, ↓dListUM_tup, ↓dListUM_str, ↓dTuple_lst, ↓dTuple_tup, ↓dIn_lst, ↓dIn_tup, ↓dSl_str, ↓dSl_lst, ↓dSl_tup, ↓dAdd_int, ↓dAdd_str, ↓dAdd_lst, ↓dAdd_tup, ↓dMul_int, ↓dMul_str, ↓dMul_lst, ↓dIx_lst, ↓dIx_ro, ↓dIx_tup, ↓dIx_str, ↓onSome_some, ↓dLen_lst, ↓dLen_tup, ↓dLen_str, ↓dLen_ro, ↓dLen_dct, ↓items_str, ↓items_lst, ↓items_tup, ↓items_ro, ↓dAll_lst, ↓dAny_lst, ↓dSum_lst, ↓dIsi_ty, ↓dIsi_tup, ↓dIn_str, ↓onSeq_lst, ↓onSeq_tup, ↓dIs_bb, ↓dStrI_i, ↓dIsW_bb, ↓dIsW_ib, ↓dIsW_sb, ↓dIsW_nb, ↓dIsW_lb, ↓dIsW_tb, ↓dIsW_db, ↓dIsW_nn, ↓dIsW_in, ↓dIsW_sn, ↓dIsW_ln, ↓dIsW_tn, ↓dEq_ii, ↓dEq_ss, ↓dNe_ii, ↓dNe_ss, ↓dEq_nil, ↓dNe_nil, ↓dEq_bb, ↓dNe_bb, List.append_nil, List.nil_append, List.cons_append, startD, List.map_cons, List.map_nil, List.length_cons, List.length_nil, Nat.sub_self, List.replicate_zero, List.replicate_succ, List.set_cons_zero, List.set_cons_succ, List.getElem?_cons_zero, List.getElem?_cons_succ, atI_lit, vw_int, vw_str, vw_bl, vw_non, vw_lst, vw_tup, vw_dct, vw_ro, vw_obj, vw_cls, Nat.reduceAdd, Nat.reduceSub, Int.reduceToNat, Int.reduceNeg, Int.reducePow, Int.reduceAdd, Int.reduceSub, Int.reduceMul, ixN_lit, decide_eq_true_eq, decide_eq_false_iff_not, if_true, if_false, Bool.false_eq_true, Bool.not_true, Bool.not_false, Nat.reduceLT, Nat.reduceLeDiff, Int.reduceLT, Int.reduceLE, true_and, and_true, and_self, ite_true, ite_false, kind_int, kind_bl, kind_non, kind_str, kind_lst, kind_tup, kind_dct, clsAll_lt, all_lt, any_lt_l, any_lt_t, any_lt_s, any_lt_i, any_lt_b, any_lt_n, any_lt_d, kc_int, kc_bool, kc_str, kc_list, kc_tuple, kc_dict, isiT, String.reduceBEq, Bool.or_false, Bool.or_true, Bool.false_or, Bool.true_or, Bool.and_false, Bool.false_and, Bool.and_true, Bool.true_and, wipeD, Bool.not_eq_true, Bool.not_eq_false, Bool.not_eq_eq_eq_not, Bool.not_not, Bool.false_bne, Bool.true_bne, dJoin, onSome_some, sizeLine_eq, Mu.put_same, put_put, Nat.zero_le, decide_true, decide_false, flt_litc, fld_str, fld_int, fld_bl, fld_non, List.all_cons, List.all_nil, reduceCtorEq, strOk_of, eqd_int, eqd_str, eqd_bl, eqd_lst0, eqd_lst1, eqd_lst2, eqd_lst3, eqd_tup0, eqd_tup1, eqd_tup2, eqd_tup3, flt_bl, flt_non, rw_len, Int.toNat_natCast]
  refine ⟨by omega, ⟨by omega, by omega⟩, lc_pureM (fun d => match d with | .int i => bs[i.toNat]? == some true | _ => false) id (fun _ _ _ => trivial) (by rw [range_len, sizeLine_eq]; omega) (fun a c ha d hd yes no hy => ?_) ?_⟩
  · obtain ⟨i, hi, rfl⟩ := range_mem hd
    simp only [↓reduceIte, ↓u_sNx, ↓u_sSeq, ↓u_nx, ↓u_rt, ↓u_bk, ↓u_ct, ↓u_sBreak, ↓u_sCont, ↓u_sDrop, ↓u_sRet, ↓u_sRetN, ↓u_sIf, ↓u_sAsg, ↓u_gC, ↓u_aNil, ↓u_aCons, ↓u_gTup, ↓u_gLst, ↓u_gLstM, ↓u_gBin, ↓u_cVal, ↓u_onBl, ↓u_onInt, ↓u_onStr, ↓u_gChain, ↓u_cAnd, ↓u_cOr, ↓u_cNot, ↓u_gAnd, ↓u_gOr, ↓u_gNot, ↓u_gIf, ↓u_gNeg, ↓u_nNil, ↓u_nCons, ↓u_nTup, ↓u_nSub, ↓u_gCB, ↓u_gCall, ↓u_gM0, ↓u_gM1, ↓u_gL, ↓u_gL0, ↓u_oNo, ↓u_oSome, ↓u_gSl, ↓u_cYes, ↓u_on1, ↓u_on2, ↓u_dInt, ↓u_dInt0, ↓u_gLc, ↓u_gLcM, ↓u_gLc2, ↓u_sNever, ↓u_iEnS, ↓u_iEnL, ↓u_iEnumD, ↓u_iZipD, ↓u_zipS, ↓u_zipL, ↓u_iSeq, ↓u_iRange1, ↓u_iRange2, ↓u_sWhile, ↓u_iRange3, ↓u_on3, ↓u_sFor, ↓u_dMax2, ↓u_dMin2, ↓u_gDct0, ↓u_gVar0, ↓u_sSet0, ↓u_nName0, ↓u_gVar1, ↓u_sSet1, ↓u_nName1, ↓u_gVar2, ↓u_sSet2, ↓u_nName2, ↓u_gVar3, ↓u_sSet3, ↓u_nName3, ↓u_gVar4, ↓u_sSet4, ↓u_nName4, ↓u_gVar5, ↓u_sSet5, ↓u_nName5, ↓u_gVar6, ↓u_sSet6, ↓u_nName6, ↓u_gVar7, ↓u_sSet7, ↓u_nName7, ↓u_gVar8, ↓u_sSet8, ↓u_nName8, ↓u_gVar9, ↓u_sSet9, ↓u_nName9, ↓u_gVar10, ↓u_sSet10, ↓u_nName10, ↓u_gVar11, ↓u_sSet11, ↓u_nName11, ↓u_gVar12, ↓u_sSet12, ↓u_nName12, ↓u_gVar13, ↓u_sSet13, ↓u_nName13, ↓u_gVar14, ↓u_sSet14, ↓u_nName14, ↓u_gVar15, ↓u_sSet15, ↓u_nName15, ↓u_gVar16, ↓u_sSet16, ↓u_nName16, ↓u_gVar17, ↓u_sSet17, ↓u_nName17, ↓dToInt_int, ↓dToInt_bl, ↓dListU_lst, ↓dListU_tup, ↓dListU_str, ↓dListUM_lst, ↓dListUM_tup, ↓dListUM_str, ↓dTuple_lst, ↓dTuple_tup, ↓dIn_lst, ↓dIn_tup, ↓dSl_str, ↓dSl_lst, ↓dSl_tup, ↓dAdd_int, ↓dAdd_str, ↓dAdd_lst, ↓dAdd_tup, ↓dMul_int, ↓dMul_str, ↓dMul_lst, ↓dIx_lst, ↓dIx_ro, ↓dIx_tup, ↓dIx_str, ↓onSome_some, ↓dLen_lst, ↓dLen_tup, ↓dLen_str, ↓dLen_ro, ↓dLen_dct, ↓items_str, ↓items_lst, ↓items_tup, ↓items_ro, ↓dAll_lst, ↓dAny_lst, ↓dSum_lst, ↓dIsi_ty, ↓dIsi_tup, ↓dIn_str, ↓onSeq_lst, ↓onSeq_tup, ↓dIs_bb, ↓dStrI_i, ↓dIsW_bb, ↓dIsW_ib, ↓dIsW_sb, ↓dIsW_nb, ↓dIsW_lb, ↓dIsW_tb, ↓dIsW_db, ↓dIsW_nn, ↓dIsW_in, ↓dIsW_sn, ↓dIsW_ln, ↓dIsW_tn, ↓dEq_ii, ↓dEq_ss, ↓dNe_ii, ↓dNe_ss, ↓dEq_nil, ↓dNe_nil, ↓dEq_bb, ↓dNe_bb, List.append_nil, List.nil_append, List.cons_append, startD, List.map_cons, List.map_nil, List.length_cons, List.length_nil, Nat.sub_self, List.replicate_zero, List.replicate_succ, List.set_cons_zero, List.set_cons_succ, List.getElem?_cons_zero, List.getElem?_cons_succ, atI_lit, vw_int, vw_str, vw_bl, vw_non, vw_lst, vw_tup, vw_dct, vw_ro, vw_obj, vw_cls, Nat.reduceAdd, Nat.reduceSub, Int.reduceToNat, Int.reduceNeg, Int.reducePow, Int.reduceAdd, Int.reduceSub, Int.reduceMul, ixN_lit, decide_eq_true_eq, decide_eq_false_iff_not, if_true, if_false, Bool.false_eq_true, Bool.not_true, Bool.not_false, Nat.reduceLT, Nat.reduceLeDiff, Int.reduceLT, Int.reduceLE, true_and, and_true, and_self, ite_true, ite_false, kind_int, kind_bl, kind_non, kind_str, kind_lst, kind_tup, kind_dct, clsAll_lt, all_lt, any_lt_l, any_lt_t, any_lt_s, any_lt_i, any_lt_b, any_lt_n, any_lt_d, kc_int, kc_bool, kc_str, kc_list, kc_tuple, kc_dict, isiT, String.reduceBEq, Bool.or_false, Bool.or_true, Bool.false_or, Bool.true_or, Bool.and_false, Bool.false_and, Bool.and_true, Bool.true_and, wipeD, Bool.not_eq_true, Bool.not_eq_false, Bool.not_eq_eq_eq_not, Bool.not_not, Bool.false_bne, Bool.true_bne, dJoin, onSome_some, sizeLine_eq, Mu.put_same, put_put, Nat.zero_le, decide_true, decide_false, flt_litc, fld_str, fld_int, fld_bl, fld_non, List.all_cons, List.all_nil, reduceCtorEq, strOk_of, eqd_int, eqd_str, eqd_bl, eqd_lst0, eqd_lst1, eqd_lst2, eqd_lst3, eqd_tup0, eqd_tup1, eqd_tup2, eqd_tup3, flt_bl, flt_non, Int.zero_add] at hy ⊢
    refine ⟨bs, i, bs[i], rfl, by omega, List.getElem?_eq_getElem hi, ?_⟩
    simp only [↓reduceIte, ↓u_sNx, ↓u_sSeq, ↓u_nx, ↓u_rt, ↓u_bk, ↓u_ct, ↓u_sBreak, ↓u_sCont, ↓u_sDrop, ↓u_sRet, ↓u_sRetN, ↓u_sIf, ↓u_sAsg, ↓u_gC, ↓u_aNil, ↓u_aCons, ↓u_gTup, ↓u_gLst, ↓u_gLstM, ↓u_gBin, ↓u_cVal, ↓u_onBl, ↓u_onInt, ↓u_onStr, ↓u_gChain, ↓u_cAnd, ↓u_cOr, ↓u_cNot, ↓u_gAnd, ↓u_gOr, ↓u_gNot, ↓u_gIf, ↓u_gNeg, ↓u_nNil, ↓u_nCons, ↓u_nTup, ↓u_nSub, ↓u_gCB, ↓u_gCall, ↓u_gM0, ↓u_gM1, ↓u_gL, ↓u_gL0, ↓u_oNo, ↓u_oSome, ↓u_gSl, ↓u_cYes, ↓u_on1, ↓u_on2, ↓u_dInt, ↓u_dInt0, ↓u_gLc, ↓u_gLcM, ↓u_gLc2, ↓u_sNever, ↓u_iEnS, ↓u_iEnL, ↓u_iEnumD, ↓u_iZipD, ↓u_zipS, ↓u_zipL, ↓u_iSeq, ↓u_iRange1, ↓u_iRange2, ↓u_sWhile, ↓u_iRange3, ↓u_on3, ↓u_sFor, ↓u_dMax2, ↓u_dMin2, ↓u_gDct0, ↓u_gVar0, ↓u_sSet0, ↓u_nName0, ↓u_gVar1, ↓u_sSet1, ↓u_nName1, ↓u_gVar2, ↓u_sSet2, ↓u_nName2, ↓u_gVar3, ↓u_sSet3, ↓u_nName3, ↓u_gVar4, ↓u_sSet4, ↓u_nName4, ↓u_gVar5, ↓u_sSet5, ↓u_nName5, ↓u_gVar6, ↓u_sSet6, ↓u_nName6, ↓u_gVar7, ↓u_sSet7, ↓u_nName7, ↓u_gVar8, ↓u_sSet8, ↓u_nName8, ↓u_gVar9, ↓u_sSet9, ↓u_nName9, ↓u_gVar10, ↓u_sSet10, ↓u_nName10, ↓u_gVar11, ↓u_sSet11, ↓u_nName11, ↓u_gVar12, ↓u_sSet12, ↓u_nName12, ↓u_gVar13, ↓u_sSet13, ↓u_nName13, ↓u_gVar14, ↓u_sSet14, ↓u_nName14, ↓u_gVar15, ↓u_sSet15, ↓u_nName15, ↓u_gVar16, ↓u_sSet16, ↓u_nName16, ↓u_gVar17, ↓u_sSet17, ↓u_nName17, ↓dToInt_int, ↓dToInt_bl, ↓dListU_lst, ↓dListU_tup, ↓dListU_str, ↓dListUM_lst, ↓dListUM_tup, ↓dListUM_str, ↓dTuple_lst, ↓dTuple_tup, ↓dIn_lst, ↓dIn_tup, ↓dSl_str, ↓dSl_lst, ↓dSl_tup, ↓dAdd_int, ↓dAdd_str, ↓dAdd_lst, ↓dAdd_tup, ↓dMul_int, ↓dMul_str, ↓dMul_lst, ↓dIx_lst, ↓dIx_ro, ↓dIx_tup, ↓dIx_str, ↓onSome_some, ↓dLen_lst, ↓dLen_tup, ↓dLen_str, ↓dLen_ro, ↓dLen_dct, ↓items_str, ↓items_lst, ↓items_tup, ↓items_ro, ↓dAll_lst, ↓dAny_lst, ↓dSum_lst, ↓dIsi_ty, ↓dIsi_tup, ↓dIn_str, ↓onSeq_lst, ↓onSeq_tup, ↓dIs_bb, ↓dStrI_i, ↓dIsW_bb, ↓dIsW_ib, ↓dIsW_sb, ↓dIsW_nb, ↓dIsW_lb, ↓dIsW_tb, ↓dIsW_db, ↓dIsW_nn, ↓dIsW_in, ↓dIsW_sn, ↓dIsW_ln, ↓dIsW_tn, ↓dEq_ii, ↓dEq_ss, ↓dNe_ii, ↓dNe_ss, ↓dEq_nil, ↓dNe_nil, ↓dEq_bb, ↓dNe_bb, List.append_nil, List.nil_append, List.cons_append, startD, List.map_cons, List.map_nil, List.length_cons, List.length_nil, Nat.sub_self, List.replicate_zero, List.replicate_succ, List.set_cons_zero, List.set_cons_succ, List.getElem?_cons_zero, List.getElem?_cons_succ, atI_lit, vw_int, vw_str, vw_bl, vw_non, vw_lst, vw_tup, vw_dct, vw_ro, vw_obj, vw_cls, Nat.reduceAdd, Nat.reduceSub, Int.reduceToNat, Int.reduceNeg, Int.reducePow, Int.reduceAdd, Int.reduceSub, Int.reduceMul, ixN_lit, decide_eq_true_eq, decide_eq_false_iff_not, if_true, if_false, Bool.false_eq_true, Bool.not_true, Bool.not_false, Nat.reduceLT, Nat.reduceLeDiff, Int.reduceLT, Int.reduceLE, true_and, and_true, and_self, ite_true, ite_false, kind_int, kind_bl, kind_non, kind_str, kind_lst, kind_tup, kind_dct, clsAll_lt, all_lt, any_lt_l, any_lt_t, any_lt_s, any_lt_i, any_lt_b, any_lt_n, any_lt_d, kc_int, kc_bool, kc_str, kc_list, kc_tuple, kc_dict, isiT, String.reduceBEq, Bool.or_false, Bool.or_true, Bool.false_or, Bool.true_or, Bool.and_false, Bool.false_and, Bool.and_true, Bool.true_and, wipeD, Bool.not_eq_true, Bool.not_eq_false, Bool.not_eq_eq_eq_not, Bool.not_not, Bool.false_bne, Bool.true_bne, dJoin, onSome_some, sizeLine_eq, Mu.put_same, put_put, Nat.zero_le, decide_true, decide_false, flt_litc, fld_str, fld_int, fld_bl, fld_non, List.all_cons, List.all_nil, reduceCtorEq, strOk_of, eqd_int, eqd_str, eqd_bl, eqd_lst0, eqd_lst1, eqd_lst2, eqd_lst3, eqd_tup0, eqd_tup1, eqd_tup2, eqd_tup3, flt_bl, flt_non]
    simp only [Int.toNat_natCast, List.getElem?_eq_getElem hi] at hy
    cases h : bs[i] <;> simp only [h] at hy <;> exact hy
  · intro a ha
    rw [List.map_id, opens_D]
    exact q a ha
end
end Nd

namespace Nd
open PySem L2 PyProof.Rows PySem.Spec
/-! the number of a row -/
def numB : List Bool → Int
  | [] => 0
  | b :: r => (if b then 2 ^ r.length else 0) + numB r
theorem numB_cons (b : Bool) (r : List Bool) : numB (b :: r) = (if b then 2 ^ r.length else 0) + numB r := rfl
theorem p2pos (n : Nat) : (0 : Int) < 2 ^ n := Int.pow_pos (by decide)
theorem numB_le : ∀ bs : List Bool, 0 ≤ numB bs ∧ numB bs < 2 ^ bs.length
  | [] => ⟨by decide, by decide⟩
  | b :: r => by
    obtain ⟨h1, h2⟩ := numB_le r
    have e : (2 : Int) ^ (b :: r).length = 2 * 2 ^ r.length := by rw [List.length_cons, Int.pow_succ, Int.mul_comm]
    have p := p2pos r.length
    unfold numB
    rw [e]
    cases b
    · simp only [Bool.false_eq_true, if_false]; omega
    · simp only [if_true]; omega
theorem numB_snoc (b : Bool) : ∀ bs : List Bool, numB (bs ++ [b]) = 2 * numB bs + (if b then 1 else 0)
  | [] => by cases b <;> rfl
  | c :: r => by
    have ih := numB_snoc b r
    have e : (2 : Int) ^ (r ++ [b]).length = 2 * 2 ^ r.length := by rw [List.length_append, List.length_singleton, Int.pow_succ, Int.mul_comm]
    show (if c then 2 ^ (r ++ [b]).length else 0) + numB (r ++ [b]) = 2 * ((if c then 2 ^ r.length else 0) + numB r) + _
    rw [ih, e]
    cases c
    · simp only [Bool.false_eq_true, if_false]; omega
    · simp only [if_true]; omega
def rowOf (n : Nat) (k : Int) : List Bool := (List.range n).map fun i => decide (k / 2 ^ (n - 1 - i) % 2 = 1)
theorem rowOf_len (n : Nat) (k : Int) : (rowOf n k).length = n := by simp [rowOf]
theorem rowOf_num : ∀ bs : List Bool, rowOf bs.length (numB bs) = bs
  | [] => rfl
  | b :: r => by
    obtain ⟨h1, h2⟩ := numB_le r
    have p := p2pos r.length
    have ih := rowOf_num r
    unfold rowOf at ih ⊢
    rw [List.length_cons, List.range_succ_eq_map, List.map_cons, List.map_map]
    have e0 : r.length + 1 - 1 - 0 = r.length := by omega
    congr 1
    · rw [e0, numB_cons]
      cases b
      · simp only [Bool.false_eq_true, if_false, Int.zero_add]
        rw [Int.ediv_eq_zero_of_lt h1 h2]; rfl
      · simp only [if_true]
        have : (2 ^ r.length + numB r) / (2 : Int) ^ r.length = 1 := by
          rw [Int.add_ediv_of_dvd_left (Int.dvd_refl _), Int.ediv_self (by omega), Int.ediv_eq_zero_of_lt h1 h2]; rfl
        rw [this]; rfl
    · refine Eq.trans (List.map_congr_left fun i hi => ?_) ih
      have hi : i < r.length := List.mem_range.mp hi
      show decide (numB (b :: r) / 2 ^ (r.length + 1 - 1 - (i + 1)) % 2 = 1) = decide (numB r / 2 ^ (r.length - 1 - i) % 2 = 1)
      have e1 : r.length + 1 - 1 - (i + 1) = r.length - 1 - i := by omega
      rw [e1, numB_cons]
      cases b
      · simp only [Bool.false_eq_true, if_false, Int.zero_add]
      · simp only [if_true]
        have e2 : (2 : Int) ^ r.length = 2 ^ (r.length - 1 - i) * (2 * 2 ^ i) := by
          rw [← Int.mul_assoc, Int.mul_comm (2 ^ (r.length - 1 - i)) 2, Int.mul_assoc, ← Int.pow_add, Int.mul_comm, ← Int.pow_succ]
          congr 1; omega
        rw [e2, Int.mul_comm (2 ^ (r.length - 1 - i)), Int.add_comm, Int.add_mul_ediv_right _ _ (by have := p2pos (r.length - 1 - i); omega), Int.add_mul_emod_self_left]
theorem opens_cons (b : Bool) (r : List Bool) : opens (b :: r) = (if b then [0] else []) ++ (opens r).map fun i => i + 1 := by
  unfold opens
  rw [List.length_cons, List.range_succ_eq_map, List.filter_cons, List.filter_map]
  have e : ((fun i => (b :: r)[i]? == some true) ∘ Nat.succ) = fun i => r[i]? == some true := by funext i; simp
  rw [e, List.map_map]
  cases b
  · simp [Function.comp_def]
  · simp [Function.comp_def]
theorem opens_lt : ∀ (bs : List Bool), ∀ i ∈ opens bs, 0 ≤ i ∧ i < bs.length := fun bs i hi => by
  obtain ⟨j, hj, rfl⟩ := List.mem_map.mp hi
  have := List.mem_range.mp (List.mem_filter.mp hj).1
  omega
theorem opens_sum : ∀ bs : List Bool, ((opens bs).map fun k => (2 : Int) ^ ((bs.length : Int) - 1 - k).toNat).sum = numB bs
  | [] => rfl
  | b :: r => by
    rw [opens_cons, List.map_append, List.sum_append, List.map_map]
    have e : ((opens r).map ((fun k => (2 : Int) ^ (((b :: r).length : Int) - 1 - k).toNat) ∘ fun i => i + 1)) = (opens r).map fun k => (2 : Int) ^ ((r.length : Int) - 1 - k).toNat := by
      refine List.map_congr_left fun k _ => ?_
      show (2 : Int) ^ (((b :: r).length : Int) - 1 - (k + 1)).toNat = _
      rw [List.length_cons]
      congr 2
      omega
    rw [e, opens_sum r, numB_cons]
    cases b
    · simp
    · simp
theorem opens_nodup (bs : List Bool) : (opens bs).Nodup := by
  unfold opens
  refine List.Pairwise.map _ (fun a b h => ?_) ((List.nodup_range).filter _)
  omega
theorem mem_opens {bs : List Bool} {i : Nat} : ((i : Int) ∈ opens bs) ↔ bs[i]? = some true := by
  unfold opens
  rw [List.mem_map]
  constructor
  · rintro ⟨j, hj, e⟩
    have : j = i := by omega
    subst this
    simpa using (List.mem_filter.mp hj).2
  · intro h
    refine ⟨i, List.mem_filter.mpr ⟨List.mem_range.mpr ?_, by simp [h]⟩, rfl⟩
    exact (List.getElem?_eq_some_iff.mp h).1
theorem row_opens (bs : List Bool) {hs : List Int} (h : ∀ i, i ∈ hs ↔ i ∈ opens bs) : ((List.range bs.length).map fun i => decide (((i : Nat) : Int) ∈ hs)) = bs := by
  refine List.ext_getElem? fun i => ?_
  rw [List.getElem?_map]
  by_cases hi : i < bs.length
  · rw [List.getElem?_range hi, List.getElem?_eq_getElem hi]
    show some (decide (((i : Nat) : Int) ∈ hs)) = some bs[i]
    congr 1
    have e : (((i : Nat) : Int) ∈ hs) ↔ bs[i] = true := by
      rw [h, mem_opens, List.getElem?_eq_getElem hi]; simp
    cases hb : bs[i]
    · rw [decide_eq_false fun z => by rw [e, hb] at z; cases z]
    · rw [decide_eq_true (e.mpr hb)]
  · rw [List.getElem?_eq_none (by simpa using hi), List.getElem?_eq_none (by omega)]; rfl
/-- a comprehension whose turns change what they like -/
theorem lcG_inv {gt : GG} {tt : GT} {te : GE} {st : Mu → Prop} {ρ : Env} {Q : D → Mu → Prop} {a : Addr} (Inv : Nat → List D → Mu → Prop) (hst : ∀ i acc m, Inv i acc m → st m ∧ m a = some (.lst acc)) : ∀ (ds : List D) (k : Nat) (acc : List D) (m : Mu), Inv k acc m →
    (∀ i d acc m, ds[i]? = some d → Inv (k + i) acc m → ∀ (yes : D → Mu → Prop) (no : Mu → Prop), (∀ y m', m' a = some (.lst acc) → acc.length < sizeLine → Inv (k + i + 1) (acc ++ [y]) (m'.put a (some (.lst (acc ++ [y])))) → yes y m') → (∀ m', Inv (k + i + 1) acc m' → no m') →
      gt noX d ρ m fun ρ2 m2 => tt noX ρ2 m2 fun b m3 => if b = true then te noX ρ2 m3 yes else no m3) → (∀ acc m, Inv (k + ds.length) acc m → Q (.lst acc) (m.put a none)) → lcG gt tt te st a ρ Q ds acc m
  | [], k, acc, m, h, _, hd => ⟨(hst k acc m h).1, (hst k acc m h).2, hd acc m h⟩
  | d :: r, k, acc, m, h, step, hd => by
    have next : ∀ acc' m', Inv (k + 0 + 1) acc' m' → lcG gt tt te st a ρ Q r acc' m' := fun acc' m' h' => lcG_inv Inv hst r (k + 1) acc' m' h' (fun i d acc m hi hv yes no hy hn => step (i + 1) d acc m (by simpa using hi) (by rw [← Nat.add_assoc, Nat.add_right_comm]; exact hv) yes no
      (fun y m' h1 h2 h3 => hy y m' h1 h2 (by rw [show k + 1 + i + 1 = k + (i + 1) + 1 by omega]; exact h3)) (fun m' h3 => hn m' (by rw [show k + 1 + i + 1 = k + (i + 1) + 1 by omega]; exact h3))) fun acc m z => hd acc m (by rw [show k + (d :: r).length = k + 1 + r.length by rw [List.length_cons]; omega]; exact z)
    exact ⟨(hst k acc m h).1, step 0 d acc m rfl h _ _ (fun y m' h1 h2 h3 => ⟨⟨h1, h2⟩, next _ _ h3⟩) fun m' h3 => next _ _ h3⟩
section
variable {P : Program} {w : World} {K : PySem.W.Frag} {mg : Str → Option Value} {base : Heap} {k : Nat} {f : Addr} {fd : FuncData}
def S_row_of : Spec := fun ds m Q E => ∃ bs : List Bool, ds = [.lst (bs.map D.bl)] ∧ bs.length ≤ 1000 ∧ Q (.str (rw_ bs)) m
theorem sts_rows (bs : List Bool) : sts (bs.map fun b => D.str (rw_ [b])) = some (bs.map fun b => rw_ [b]) := by
  rw [show (bs.map fun b => D.str (rw_ [b])) = (bs.map fun b => rw_ [b]).map D.str by rw [List.map_map]; rfl, sts_map]
theorem join_rows (bs : List Bool) : Txt.join (Str.ofString "") (bs.map fun b => rw_ [b]) = rw_ bs := by
  have := join0_sg (bs.map cd)
  rw [List.map_map] at this
  exact this
theorem sum_rows : ∀ bs : List Bool, ((bs.map fun b => rw_ [b]).map fun x => x.length).sum = bs.length
  | [] => rfl
  | b :: r => by simp only [List.map_cons, List.sum_cons, sum_rows r, List.length_cons, rw_len, List.length_nil]; omega
def g_row_of : GS :=
  (sRet (gM1 dJoin (gC (.str "")) (gLc (iSeq (gVar 0)) (nName 1) cYes (gIf (cVal (gVar 1)) (gC (.str "v")) (gC (.str "o"))) [1])))
theorem lift_row_of (F : FnG P w K mg base k f fd ["signs"] (wpS ["signs"] ["signs", "sign"] g_row_of)) : FnG P w K mg base k f fd ["signs"] S_row_of := F.imp fun ds m Q E h => by
  obtain ⟨bs, rfl, h1, q⟩ := h
  refine ⟨rfl, ?_⟩
  simp only [g_row_of, ↓reduceIte, ↓u_sNx, ↓u_sSeq, ↓u_nx, ↓u_rt, ↓u_bk, ↓u_ct, ↓u_sBreak, ↓u_sCont, ↓u_sDrop, ↓u_sRet, ↓u_sRetN, ↓u_sIf, ↓u_sAsg, ↓u_gC, ↓u_aNil, ↓u_aCons, ↓u_gTup, ↓u_gLst, ↓u_gLstM, ↓u_gBin, ↓u_cVal, ↓u_onBl, ↓u_onInt, ↓u_onStr, ↓u_gChain, ↓u_cAnd, ↓u_cOr, ↓u_cNot, ↓u_gAnd, ↓u_gOr, ↓u_gNot, ↓u_gIf, ↓u_gNeg, ↓u_nNil, ↓u_nCons, ↓u_nTup, ↓u_nSub, ↓u_gCB, ↓u_gCall, ↓u_gM0, ↓u_gM1, ↓u_gL, ↓u_gL0, ↓u_oNo, ↓u_oSome, ↓u_gSl, ↓u_cYes, ↓u_on1, ↓u_on2, ↓u_dInt, ↓u_dInt0, ↓u_gLc, ↓u_gLcM, ↓u_gLc2, ↓u_sNever, ↓u_iEnS, ↓u_iEnL, ↓u_iEnumD, ↓u_iZipD, ↓u_zipS, ↓u_zipL, ↓u_iSeq, ↓u_iRange1, ↓u_iRange2, ↓u_sWhile, ↓u_iRange3, ↓u_on3, ↓u_sFor, ↓u_dMax2, ↓u_dMin2, ↓u_gDct0, ↓u_gVar0, ↓u_sSet0, ↓u_nName0, ↓u_gVar1, ↓u_sSet1, ↓u_nName1, ↓u_gVar2, ↓u_sSet2, ↓u_nName2, ↓u_gVar3, ↓u_sSet3, ↓u_nName3, ↓u_gVar4, ↓u_sSet4, ↓u_nName4, ↓u_gVar5, ↓u_sSet5, ↓u_nName5, ↓u_gVar6, ↓u_sSet6, ↓u_nName6, ↓u_gVar7, ↓u_sSet7, ↓u_nName7, ↓u_gVar8, ↓u_sSet8, ↓u_nName8, ↓u_gVar9, ↓u_sSet9, ↓u_nName9, ↓u_gVar10, ↓u_sSet10, ↓u_nName10, ↓u_gVar11, ↓u_sSet11, ↓u_nName11, ↓u_gVar12, ↓u_sSet12, ↓u_nName12, ↓u_gVar13, ↓u_sSet13, ↓u_nName13, ↓u_gVar14, ↓u_sSet14, ↓u_nName14, ↓u_gVar15, ↓u_sSet15, ↓u_nName15, ↓u_gVar16, ↓u_sSet16, ↓u_nName16, ↓u_gVar17, ↓u_sSet17, ↓u_nName17, ↓dToInt_int, ↓dToInt_bl, ↓dListU_lst, ↓dListU_tup, ↓dListU_str, ↓dListUM_lst, ↓dListUM_tup, ↓dListUM_str, ↓dTuple_lst, ↓dTuple_tup, ↓dIn_lst, ↓dIn_tup, ↓dSl_str, ↓dSl_lst, ↓dSl_tup, ↓dAdd_int, ↓dAdd_str, ↓dAdd_lst, ↓dAdd_tup, ↓dMul_int, ↓dMul_str, ↓dMul_lst, ↓dIx_lst, ↓dIx_ro, ↓dIx_tup, ↓dIx_str, ↓onSome_some, ↓dLen_lst, ↓dLen_tup, ↓dLen_str, ↓dLen_ro, ↓dLen_dct, ↓items_str, ↓items_lst, ↓items_tup, ↓items_ro, ↓dAll_lst, ↓dAny_lst, ↓dSum_lst, ↓dIsi_ty, ↓dIsi_tup, ↓dIn_str, ↓onSeq_lst, ↓onSeq_tup, ↓dIs_bb, ↓dStrI_i, ↓dIsW_bb, ↓dIsW_ib, ↓dIsW_sb, ↓dIsW_nb, ↓dIsW_lb, ↓dIsW_tb, ↓dIsW_db, ↓dIsW_nn, ↓dIsW_in, ↓dIsW_sn, ↓dIsW_ln, ↓dIsW_tn, ↓dEq_ii, ↓dEq_ss, ↓dNe_ii, ↓dNe_ss, ↓dEq_nil, ↓dNe_nil, ↓dEq_bb, ↓dNe_bb, List.append_nil, List.nil_append, List.cons_append, startD, List.map_cons, List.map_nil, List.length_cons, List.length_nil, Nat.sub_self, List.replicate_zero, List.replicate_succ, List.set_cons_zero, List.set_cons_succ, List.getElem?_cons_zero, List.getElem?_cons_succ, atI_lit, vw_int, vw_str, vw_bl, vw_non, vw_lst, vw_tup, vw_dct, vw_ro, vw_obj, vw_cls, Nat.reduceAdd, Nat.reduceSub, Int.reduceToNat, Int.reduceNeg, Int.reducePow, Int.reduceAdd, Int.reduceSub, Int.reduceMul, ixN_lit, decide_eq_true_eq, decide_eq_false_iff_not, if_true, if_false, Bool.false_eq_true, Bool.not_true, Bool.not_false, Nat.reduceLT, Nat.reduceLeDiff, Int.reduceLT, Int.reduceLE, true_and, and_true, and_self, ite_true, ite_false, kind_int, kind_bl, kind_non, kind_str, kind_lst, kind_tup, kind_dct, clsAll_lt, all_lt, any_lt_l, any_lt_t, any_lt_s, any_lt_i, any_lt_b, any_lt_n, any_lt_d, kc_int, kc_bool, kc_str, kc_list, kc_tuple, kc_dict, isiT, String.reduceBEq, Bool.or_false, Bool.or_true, Bool.false_or, Bool.true_or, Bool.and_false, Bool.false_and, Bool.and_true, Bool.true_and, wipeD, Bool.not_eq_true, Bool.not_eq_false, Bool.not_eq_eq_eq_not, Bool.not_not, Bool.false_bne, Bool.true_bne, dJoin, onSome_some, sizeLine_eq, Mu.put_same, put_put, Nat.zero_le, decide_true, decide_false, flt_litc, fld_str, fld_int, fld_bl, fld_non, List.all_cons, List.all_nil, reduceCtorEq, strOk_of, eqd_int, eqd_str, eqd_bl, eqd_lst0, eqd_lst1, eqd_lst2, eqd_lst3, eqd_tup0, eqd_tup1, eqd_tup2, eqd_tup3, flt_bl, flt_non]
  refine lc_map (fun d => match d with | .bl b => .str (rw_ [b]) | d => d) (fun _ _ _ => trivial) (by rw [List.length_map, sizeLine_eq]; omega) (fun a c ha d hd yes hy => ?_) ?_
  · obtain ⟨b, _, rfl⟩ := List.mem_map.mp hd
    simp only [↓reduceIte, ↓u_sNx, ↓u_sSeq, ↓u_nx, ↓u_rt, ↓u_bk, ↓u_ct, ↓u_sBreak, ↓u_sCont, ↓u_sDrop, ↓u_sRet, ↓u_sRetN, ↓u_sIf, ↓u_sAsg, ↓u_gC, ↓u_aNil, ↓u_aCons, ↓u_gTup, ↓u_gLst, ↓u_gLstM, ↓u_gBin, ↓u_cVal, ↓u_onBl, ↓u_onInt, ↓u_onStr, ↓u_gChain, ↓u_cAnd, ↓u_cOr, ↓u_cNot, ↓u_gAnd, ↓u_gOr, ↓u_gNot, ↓u_gIf, ↓u_gNeg, ↓u_nNil, ↓u_nCons, ↓u_nTup, ↓u_nSub, ↓u_gCB, ↓u_gCall, ↓u_gM0, ↓u_gM1, ↓u_gL, ↓u_gL0, ↓u_oNo, ↓u_oSome, ↓u_gSl, ↓u_cYes, ↓u_on1, ↓u_on2, ↓u_dInt, ↓u_dInt0, ↓u_gLc, ↓u_gLcM, ↓u_gLc2, ↓u_sNever, ↓u_iEnS, ↓u_iEnL, ↓u_iEnumD, ↓u_iZipD, ↓u_zipS, ↓u_zipL, ↓u_iSeq, ↓u_iRange1, ↓u_iRange2, ↓u_sWhile, ↓u_iRange3, ↓u_on3, ↓u_sFor, ↓u_dMax2, ↓u_dMin2, ↓u_gDct0, ↓u_gVar0, ↓u_sSet0, ↓u_nName0, ↓u_gVar1, ↓u_sSet1, ↓u_nName1, ↓u_gVar2, ↓u_sSet2, ↓u_nName2, ↓u_gVar3, ↓u_sSet3, ↓u_nName3, ↓u_gVar4, ↓u_sSet4, ↓u_nName4, ↓u_gVar5, ↓u_sSet5, ↓u_nName5, ↓u_gVar6, ↓u_sSet6, ↓u_nName6, ↓u_gVar7, ↓u_sSet7, ↓u_nName7, ↓u_gVar8, ↓u_sSet8, ↓u_nName8, ↓u_gVar9, ↓u_sSet9, ↓u_nName9, ↓u_gVar10, ↓u_sSet10, ↓u_nName10, ↓u_gVar11, ↓u_sSet11, ↓u_nName11, ↓u_gVar12, ↓u_sSet12, ↓u_nName12, ↓u_gVar13, ↓u_sSet13, ↓u_nName13, ↓u_gVar14, ↓u_sSet14, ↓u_nName14, ↓u_gVar15, ↓u_sSet15, ↓u_nName15, ↓u_gVar16, ↓u_sSet16, ↓u_nName16, ↓u_gVar17, ↓u_sSet17, ↓u_nName17, ↓dToInt_int, ↓dToInt_bl, ↓dListU_lst, ↓dListU_tup, ↓dListU_str, ↓dListUM_lst, ↓dListUM_tup, ↓dListUM_str, ↓dTuple_lst, ↓dTuple_tup, ↓dIn_lst, ↓dIn_tup, ↓dSl_str, ↓dSl_lst, ↓dSl_tup, ↓dAdd_int, ↓dAdd_str, ↓dAdd_lst, ↓dAdd_tup, ↓dMul_int, ↓dMul_str, ↓dMul_lst, ↓dIx_lst, ↓dIx_ro, ↓dIx_tup, ↓dIx_str, ↓onSome_some, ↓dLen_lst, ↓dLen_tup, ↓dLen_str, ↓dLen_ro, ↓dLen_dct, ↓items_str, ↓items_lst, ↓items_tup, ↓items_ro, ↓dAll_lst, ↓dAny_lst, ↓dSum_lst, ↓dIsi_ty, ↓dIsi_tup, ↓dIn_str, ↓onSeq_lst, ↓onSeq_tup, ↓dIs_bb, ↓dStrI_i, ↓dIsW_bb, ↓dIsW_ib, ↓dIsW_sb, ↓dIsW_nb, ↓dIsW_lb, ↓dIsW_tb, ↓dIsW_db, ↓dIsW_nn, ↓dIsW_in, ↓dIsW_sn, ↓dIsW_ln, ↓dIsW_tn, ↓dEq_ii, ↓dEq_ss, ↓dNe_ii, ↓dNe_ss, ↓dEq_nil, ↓dNe_nil, ↓dEq_bb, ↓dNe_bb, List.append_nil, List.nil_append, List.cons_append, startD, List.map_cons, List.map_nil, List.length_cons, List.length_nil, Nat.sub_self, List.replicate_zero, List.replicate_succ, List.set_cons_zero, List.set_cons_succ, List.getElem?_cons_zero, List.getElem?_cons_succ, atI_lit, vw_int, vw_str, vw_bl, vw_non, vw_lst, vw_tup, vw_dct, vw_ro, vw_obj, vw_cls, Nat.reduceAdd, Nat.reduceSub, Int.reduceToNat, Int.reduceNeg, Int.reducePow, Int.reduceAdd, Int.reduceSub, Int.reduceMul, ixN_lit, decide_eq_true_eq, decide_eq_false_iff_not, if_true, if_false, Bool.false_eq_true, Bool.not_true, Bool.not_false, Nat.reduceLT, Nat.reduceLeDiff, Int.reduceLT, Int.reduceLE, true_and, and_true, and_self, ite_true, ite_false, kind_int, kind_bl, kind_non, kind_str, kind_lst, kind_tup, kind_dct, clsAll_lt, all_lt, any_lt_l, any_lt_t, any_lt_s, any_lt_i, any_lt_b, any_lt_n, any_lt_d, kc_int, kc_bool, kc_str, kc_list, kc_tuple, kc_dict, isiT, String.reduceBEq, Bool.or_false, Bool.or_true, Bool.false_or, Bool.true_or, Bool.and_false, Bool.false_and, Bool.and_true, Bool.true_and, wipeD, Bool.not_eq_true, Bool.not_eq_false, Bool.not_eq_eq_eq_not, Bool.not_not, Bool.false_bne, Bool.true_bne, dJoin, onSome_some, sizeLine_eq, Mu.put_same, put_put, Nat.zero_le, decide_true, decide_false, flt_litc, fld_str, fld_int, fld_bl, fld_non, List.all_cons, List.all_nil, reduceCtorEq, strOk_of, eqd_int, eqd_str, eqd_bl, eqd_lst0, eqd_lst1, eqd_lst2, eqd_lst3, eqd_tup0, eqd_tup1, eqd_tup2, eqd_tup3, flt_bl, flt_non, rw_v, rw_o]
    cases b
    · exact hy
    · exact hy
  · simp only [↓reduceIte, ↓u_sNx, ↓u_sSeq, ↓u_nx, ↓u_rt, ↓u_bk, ↓u_ct, ↓u_sBreak, ↓u_sCont, ↓u_sDrop, ↓u_sRet, ↓u_sRetN, ↓u_sIf, ↓u_sAsg, ↓u_gC, ↓u_aNil, ↓u_aCons, ↓u_gTup, ↓u_gLst, ↓u_gLstM, ↓u_gBin, ↓u_cVal, ↓u_onBl, ↓u_onInt, ↓u_onStr, ↓u_gChain, ↓u_cAnd, ↓u_cOr, ↓u_cNot, ↓u_gAnd, ↓u_gOr, ↓u_gNot, ↓u_gIf, ↓u_gNeg, ↓u_nNil, ↓u_nCons, ↓u_nTup, ↓u_nSub, ↓u_gCB, ↓u_gCall, ↓u_gM0, ↓u_gM1, ↓u_gL, ↓u_gL0, ↓u_oNo, ↓u_oSome, ↓u_gSl, ↓u_cYes, ↓u_on1, ↓u_on2, ↓u_dInt, ↓u_dInt0, ↓u_gLc, ↓u_gLcM, ↓u_gLc2, ↓u_sNever, ↓u_iEnS, ↓u_iEnL, ↓u_iEnumD, ↓u_iZipD, ↓u_zipS, ↓u_zipL, ↓u_iSeq, ↓u_iRange1, ↓u_iRange2, ↓u_sWhile, ↓u_iRange3, ↓u_on3, ↓u_sFor, ↓u_dMax2, ↓u_dMin2, ↓u_gDct0, ↓u_gVar0, ↓u_sSet0, ↓u_nName0, ↓u_gVar1, ↓u_sSet1, ↓u_nName1, ↓u_gVar2, ↓u_sSet2, ↓u_nName2, ↓u_gVar3, ↓u_sSet3, ↓u_nName3, ↓u_gVar4, ↓u_sSet4, ↓u_nName4, ↓u_gVar5, ↓u_sSet5, ↓u_nName5, ↓u_gVar6, ↓u_sSet6, ↓u_nName6, ↓u_gVar7, ↓u_sSet7, ↓u_nName7, ↓u_gVar8, ↓u_sSet8, ↓u_nName8, ↓u_gVar9, ↓u_sSet9, ↓u_nName9, ↓u_gVar10, ↓u_sSet10, ↓u_nName10, ↓u_gVar11, ↓u_sSet11, ↓u_nName11, ↓u_gVar12, ↓u_sSet12, ↓u_nName12, ↓u_gVar13, ↓u_sSet13, ↓u_nName13, ↓u_gVar14, ↓u_sSet14, ↓u_nName14, ↓u_gVar15, ↓u_sSet15, ↓u_nName15, ↓u_gVar16, ↓u_sSet16, ↓u_nName16, ↓u_gVar17, ↓u_sSet17, ↓u_nName17, ↓dToInt_int, ↓dToInt_bl, ↓dListU_lst, ↓dListU_tup, ↓dListU_str, ↓dListUM_lst, ↓dListUM_tup, ↓dListUM_str, ↓dTuple_lst, ↓dTuple_tup, ↓dIn_lst, ↓dIn_tup, ↓dSl_str, ↓dSl_lst, ↓dSl_tup, ↓dAdd_int, ↓dAdd_str, ↓dAdd_lst, ↓dAdd_tup, ↓dMul_int, ↓dMul_str, ↓dMul_lst, ↓dIx_lst, ↓dIx_ro, ↓dIx_tup, ↓dIx_str, ↓onSome_some, ↓dLen_lst, ↓dLen_tup, ↓dLen_str, ↓dLen_ro, ↓dLen_dct, ↓items_str, ↓items_lst, ↓items_tup, ↓items_ro, ↓dAll_lst, ↓dAny_lst, ↓dSum_lst, ↓dIsi_ty, ↓dIsi_tup, ↓dIn_str, ↓onSeq_lst, ↓onSeq_tup, ↓dIs_bb, ↓dStrI_i, ↓dIsW_bb, ↓dIsW_ib, ↓dIsW_sb, ↓dIsW_nb, ↓dIsW_lb, ↓dIsW_tb, ↓dIsW_db, ↓dIsW_nn, ↓dIsW_in, ↓dIsW_sn, ↓dIsW_ln, ↓dIsW_tn, ↓dEq_ii, ↓dEq_ss, ↓dNe_ii, ↓dNe_ss, ↓dEq_nil, ↓dNe_nil, ↓dEq_bb, ↓dNe_bb, List.append_nil, List.nil_append, List.cons_append, startD, List.map_cons, List.map_nil, List.length_cons, List.length_nil, Nat.sub_self, List.replicate_zero, List.replicate_succ, List.set_cons_zero, List.set_cons_succ, List.getElem?_cons_zero, List.getElem?_cons_succ, atI_lit, vw_int, vw_str, vw_bl, vw_non, vw_lst, vw_tup, vw_dct, vw_ro, vw_obj, vw_cls, Nat.reduceAdd, Nat.reduceSub, Int.reduceToNat, Int.reduceNeg, Int.reducePow, Int.reduceAdd, Int.reduceSub, Int.reduceMul, ixN_lit, decide_eq_true_eq, decide_eq_false_iff_not, if_true, if_false, Bool.false_eq_true, Bool.not_true, Bool.not_false, Nat.reduceLT, Nat.reduceLeDiff, Int.reduceLT, Int.reduceLE, true_and, and_true, and_self, ite_true, ite_false, kind_int, kind_bl, kind_non, kind_str, kind_lst, kind_tup, kind_dct, clsAll_lt, all_lt, any_lt_l, any_lt_t, any_lt_s, any_lt_i, any_lt_b, any_lt_n, any_lt_d, kc_int, kc_bool, kc_str, kc_list, kc_tuple, kc_dict, isiT, String.reduceBEq, Bool.or_false, Bool.or_true, Bool.false_or, Bool.true_or, Bool.and_false, Bool.false_and, Bool.and_true, Bool.true_and, wipeD, Bool.not_eq_true, Bool.not_eq_false, Bool.not_eq_eq_eq_not, Bool.not_not, Bool.false_bne, Bool.true_bne, dJoin, onSome_some, sizeLine_eq, Mu.put_same, put_put, Nat.zero_le, decide_true, decide_false, flt_litc, fld_str, fld_int, fld_bl, fld_non, List.all_cons, List.all_nil, reduceCtorEq, strOk_of, eqd_int, eqd_str, eqd_bl, eqd_lst0, eqd_lst1, eqd_lst2, eqd_lst3, eqd_tup0, eqd_tup1, eqd_tup2, eqd_tup3, flt_bl, flt_non, List.map_map]
    rw [show ((fun d => match d with | D.bl b => D.str (rw_ [b]) | d => d) ∘ D.bl) = fun b => D.str (rw_ [b]) from rfl, sts_rows, onSome_some, sum_rows, join_rows]
    refine ⟨?_, q⟩
    rw [List.length_map]
    show bs.length + bs.length * 0 ≤ _
    omega
def S_number_in : Spec := fun ds m Q E => ∃ bs : List Bool, ds = [.str (rw_ bs)] ∧ bs.length ≤ 60 ∧ Q (.int (numB bs)) m
def g_number_in : GS :=
  (sSeq (sSet 1 (gC (.int 0)))
  (sSeq (sFor (iSeq (gVar 0)) (nName 2) (sSet 1 (gBin dAdd (gBin dMul (gC (.int 2)) (gVar 1)) (gCB dToInt (aCons (gBin dEq (gVar 2) (gC (.str "v"))) aNil)))))
  (sRet (gVar 1))))
theorem lift_number_in (F : FnG P w K mg base k f fd ["row"] (wpS ["row"] ["row", "found", "sign"] g_number_in)) : FnG P w K mg base k f fd ["row"] S_number_in := F.imp fun ds m Q E h => by
  obtain ⟨bs, rfl, h1, q⟩ := h
  refine ⟨rfl, ?_⟩
  simp only [g_number_in, ↓reduceIte, ↓u_sNx, ↓u_sSeq, ↓u_nx, ↓u_rt, ↓u_bk, ↓u_ct, ↓u_sBreak, ↓u_sCont, ↓u_sDrop, ↓u_sRet, ↓u_sRetN, ↓u_sIf, ↓u_sAsg, ↓u_gC, ↓u_aNil, ↓u_aCons, ↓u_gTup, ↓u_gLst, ↓u_gLstM, ↓u_gBin, ↓u_cVal, ↓u_onBl, ↓u_onInt, ↓u_onStr, ↓u_gChain, ↓u_cAnd, ↓u_cOr, ↓u_cNot, ↓u_gAnd, ↓u_gOr, ↓u_gNot, ↓u_gIf, ↓u_gNeg, ↓u_nNil, ↓u_nCons, ↓u_nTup, ↓u_nSub, ↓u_gCB, ↓u_gCall, ↓u_gM0, ↓u_gM1, ↓u_gL, ↓u_gL0, ↓u_oNo, ↓u_oSome, ↓u_gSl, ↓u_cYes, ↓u_on1, ↓u_on2, ↓u_dInt, ↓u_dInt0, ↓u_gLc, ↓u_gLcM, ↓u_gLc2, ↓u_sNever, ↓u_iEnS, ↓u_iEnL, ↓u_iEnumD, ↓u_iZipD, ↓u_zipS, ↓u_zipL, ↓u_iSeq, ↓u_iRange1, ↓u_iRange2, ↓u_sWhile, ↓u_iRange3, ↓u_on3, ↓u_sFor, ↓u_dMax2, ↓u_dMin2, ↓u_gDct0, ↓u_gVar0, ↓u_sSet0, ↓u_nName0, ↓u_gVar1, ↓u_sSet1, ↓u_nName1, ↓u_gVar2, ↓u_sSet2, ↓u_nName2, ↓u_gVar3, ↓u_sSet3, ↓u_nName3, ↓u_gVar4, ↓u_sSet4, ↓u_nName4, ↓u_gVar5, ↓u_sSet5, ↓u_nName5, ↓u_gVar6, ↓u_sSet6, ↓u_nName6, ↓u_gVar7, ↓u_sSet7, ↓u_nName7, ↓u_gVar8, ↓u_sSet8, ↓u_nName8, ↓u_gVar9, ↓u_sSet9, ↓u_nName9, ↓u_gVar10, ↓u_sSet10, ↓u_nName10, ↓u_gVar11, ↓u_sSet11, ↓u_nName11, ↓u_gVar12, ↓u_sSet12, ↓u_nName12, ↓u_gVar13, ↓u_sSet13, ↓u_nName13, ↓u_gVar14, ↓u_sSet14, ↓u_nName14, ↓u_gVar15, ↓u_sSet15, ↓u_nName15, ↓u_gVar16, ↓u_sSet16, ↓u_nName16, ↓u_gVar17, ↓u_sSet17, ↓u_nName17, ↓dToInt_int, ↓dToInt_bl, ↓dListU_lst, ↓dListU_tup, ↓dListU_str, ↓dListUM_lst, ↓dListUM_tup, ↓dListUM_str, ↓dTuple_lst, ↓dTuple_tup, ↓dIn_lst, ↓dIn_tup, ↓dSl_str, ↓dSl_lst, ↓dSl_tup, ↓dAdd_int, ↓dAdd_str, ↓dAdd_lst, ↓dAdd_tup, ↓dMul_int, ↓dMul_str, ↓dMul_lst, ↓dIx_lst, ↓dIx_ro, ↓dIx_tup, ↓dIx_str, ↓onSome_some, ↓dLen_lst, ↓dLen_tup, ↓dLen_str, ↓dLen_ro, ↓dLen_dct, ↓items_str, ↓items_lst, ↓items_tup, ↓items_ro, ↓dAll_lst, ↓dAny_lst, ↓dSum_lst, ↓dIsi_ty, ↓dIsi_tup, ↓dIn_str, ↓onSeq_lst, ↓onSeq_tup, ↓dIs_bb, ↓dStrI_i, ↓dIsW_bb, ↓dIsW_ib, ↓dIsW_sb, ↓dIsW_nb, ↓dIsW_lb, ↓dIsW_tb, ↓dIsW_db, ↓dIsW_nn, ↓dIsW_in, ↓dIsW_sn, ↓dIsW_ln, ↓dIsW_tn, ↓dEq_ii, ↓dEq_ss, ↓dNe_ii, ↓dNe_ss, ↓dEq_nil, ↓dNe_nil, ↓dEq_bb, ↓dNe_bb, List.append_nil, List.nil_append, List.cons_append, startD, List.map_cons, List.map_nil, List.length_cons, List.length_nil, Nat.sub_self, List.replicate_zero, List.replicate_succ, List.set_cons_zero, List.set_cons_succ, List.getElem?_cons_zero, List.getElem?_cons_succ, atI_lit, vw_int, vw_str, vw_bl, vw_non, vw_lst, vw_tup, vw_dct, vw_ro, vw_obj, vw_cls, Nat.reduceAdd, Nat.reduceSub, Int.reduceToNat, Int.reduceNeg, Int.reducePow, Int.reduceAdd, Int.reduceSub, Int.reduceMul, ixN_lit, decide_eq_true_eq, decide_eq_false_iff_not, if_true, if_false, Bool.false_eq_true, Bool.not_true, Bool.not_false, Nat.reduceLT, Nat.reduceLeDiff, Int.reduceLT, Int.reduceLE, true_and, and_true, and_self, ite_true, ite_false, kind_int, kind_bl, kind_non, kind_str, kind_lst, kind_tup, kind_dct, clsAll_lt, all_lt, any_lt_l, any_lt_t, any_lt_s, any_lt_i, any_lt_b, any_lt_n, any_lt_d, kc_int, kc_bool, kc_str, kc_list, kc_tuple, kc_dict, isiT, String.reduceBEq, Bool.or_false, Bool.or_true, Bool.false_or, Bool.true_or, Bool.and_false, Bool.false_and, Bool.and_true, Bool.true_and, wipeD, Bool.not_eq_true, Bool.not_eq_false, Bool.not_eq_eq_eq_not, Bool.not_not, Bool.false_bne, Bool.true_bne, dJoin, onSome_some, sizeLine_eq, Mu.put_same, put_put, Nat.zero_le, decide_true, decide_false, flt_litc, fld_str, fld_int, fld_bl, fld_non, List.all_cons, List.all_nil, reduceCtorEq, strOk_of, eqd_int, eqd_str, eqd_bl, eqd_lst0, eqd_lst1, eqd_lst2, eqd_lst3, eqd_tup0, eqd_tup1, eqd_tup2, eqd_tup3, flt_bl, flt_non, sgs_rw]
  refine for_inv (fun i ρ m' => m' = m ∧ ∃ x, ρ = [some (.str (rw_ bs)), some (.int (numB (bs.take i))), x]) ⟨rfl, _, rfl⟩ (fun _ _ _ _ => trivial) ?_ ?_
  · rintro i d ρ m' N hd ⟨rfl, x, rfl⟩ hN
    rw [List.getElem?_map] at hd
    obtain ⟨b, hb, rfl⟩ := Option.map_eq_some_iff.mp hd
    simp only [↓reduceIte, ↓u_sNx, ↓u_sSeq, ↓u_nx, ↓u_rt, ↓u_bk, ↓u_ct, ↓u_sBreak, ↓u_sCont, ↓u_sDrop, ↓u_sRet, ↓u_sRetN, ↓u_sIf, ↓u_sAsg, ↓u_gC, ↓u_aNil, ↓u_aCons, ↓u_gTup, ↓u_gLst, ↓u_gLstM, ↓u_gBin, ↓u_cVal, ↓u_onBl, ↓u_onInt, ↓u_onStr, ↓u_gChain, ↓u_cAnd, ↓u_cOr, ↓u_cNot, ↓u_gAnd, ↓u_gOr, ↓u_gNot, ↓u_gIf, ↓u_gNeg, ↓u_nNil, ↓u_nCons, ↓u_nTup, ↓u_nSub, ↓u_gCB, ↓u_gCall, ↓u_gM0, ↓u_gM1, ↓u_gL, ↓u_gL0, ↓u_oNo, ↓u_oSome, ↓u_gSl, ↓u_cYes, ↓u_on1, ↓u_on2, ↓u_dInt, ↓u_dInt0, ↓u_gLc, ↓u_gLcM, ↓u_gLc2, ↓u_sNever, ↓u_iEnS, ↓u_iEnL, ↓u_iEnumD, ↓u_iZipD, ↓u_zipS, ↓u_zipL, ↓u_iSeq, ↓u_iRange1, ↓u_iRange2, ↓u_sWhile, ↓u_iRange3, ↓u_on3, ↓u_sFor, ↓u_dMax2, ↓u_dMin2, ↓u_gDct0, ↓u_gVar0, ↓u_sSet0, ↓u_nName0, ↓u_gVar1, ↓u_sSet1, ↓u_nName1, ↓u_gVar2, ↓u_sSet2, ↓u_nName2, ↓u_gVar3, ↓u_sSet3, ↓u_nName3, ↓u_gVar4, ↓u_sSet4, ↓u_nName4, ↓u_gVar5, ↓u_sSet5, ↓u_nName5, ↓u_gVar6, ↓u_sSet6, ↓u_nName6, ↓u_gVar7, ↓u_sSet7, ↓u_nName7, ↓u_gVar8, ↓u_sSet8, ↓u_nName8, ↓u_gVar9, ↓u_sSet9, ↓u_nName9, ↓u_gVar10, ↓u_sSet10, ↓u_nName10, ↓u_gVar11, ↓u_sSet11, ↓u_nName11, ↓u_gVar12, ↓u_sSet12, ↓u_nName12, ↓u_gVar13, ↓u_sSet13, ↓u_nName13, ↓u_gVar14, ↓u_sSet14, ↓u_nName14, ↓u_gVar15, ↓u_sSet15, ↓u_nName15, ↓u_gVar16, ↓u_sSet16, ↓u_nName16, ↓u_gVar17, ↓u_sSet17, ↓u_nName17, ↓dToInt_int, ↓dToInt_bl, ↓dListU_lst, ↓dListU_tup, ↓dListU_str, ↓dListUM_lst, ↓dListUM_tup, ↓dListUM_str, ↓dTuple_lst, ↓dTuple_tup, ↓dIn_lst, ↓dIn_tup, ↓dSl_str, ↓dSl_lst, ↓dSl_tup, ↓dAdd_int, ↓dAdd_str, ↓dAdd_lst, ↓dAdd_tup, ↓dMul_int, ↓dMul_str, ↓dMul_lst, ↓dIx_lst, ↓dIx_ro, ↓dIx_tup, ↓dIx_str, ↓onSome_some, ↓dLen_lst, ↓dLen_tup, ↓dLen_str, ↓dLen_ro, ↓dLen_dct, ↓items_str, ↓items_lst, ↓items_tup, ↓items_ro, ↓dAll_lst, ↓dAny_lst, ↓dSum_lst, ↓dIsi_ty, ↓dIsi_tup, ↓dIn_str, ↓onSeq_lst, ↓onSeq_tup, ↓dIs_bb, ↓dStrI_i, ↓dIsW_bb, ↓dIsW_ib, ↓dIsW_sb, ↓dIsW_nb, ↓dIsW_lb, ↓dIsW_tb, ↓dIsW_db, ↓dIsW_nn, ↓dIsW_in, ↓dIsW_sn, ↓dIsW_ln, ↓dIsW_tn, ↓dEq_ii, ↓dEq_ss, ↓dNe_ii, ↓dNe_ss, ↓dEq_nil, ↓dNe_nil, ↓dEq_bb, ↓dNe_bb, List.append_nil, List.nil_append, List.cons_append, startD, List.map_cons, List.map_nil, List.length_cons, List.length_nil, Nat.sub_self, List.replicate_zero, List.replicate_succ, List.set_cons_zero, List.set_cons_succ, List.getElem?_cons_zero, List.getElem?_cons_succ, atI_lit, vw_int, vw_str, vw_bl, vw_non, vw_lst, vw_tup, vw_dct, vw_ro, vw_obj, vw_cls, Nat.reduceAdd, Nat.reduceSub, Int.reduceToNat, Int.reduceNeg, Int.reducePow, Int.reduceAdd, Int.reduceSub, Int.reduceMul, ixN_lit, decide_eq_true_eq, decide_eq_false_iff_not, if_true, if_false, Bool.false_eq_true, Bool.not_true, Bool.not_false, Nat.reduceLT, Nat.reduceLeDiff, Int.reduceLT, Int.reduceLE, true_and, and_true, and_self, ite_true, ite_false, kind_int, kind_bl, kind_non, kind_str, kind_lst, kind_tup, kind_dct, clsAll_lt, all_lt, any_lt_l, any_lt_t, any_lt_s, any_lt_i, any_lt_b, any_lt_n, any_lt_d, kc_int, kc_bool, kc_str, kc_list, kc_tuple, kc_dict, isiT, String.reduceBEq, Bool.or_false, Bool.or_true, Bool.false_or, Bool.true_or, Bool.and_false, Bool.false_and, Bool.and_true, Bool.true_and, wipeD, Bool.not_eq_true, Bool.not_eq_false, Bool.not_eq_eq_eq_not, Bool.not_not, Bool.false_bne, Bool.true_bne, dJoin, onSome_some, sizeLine_eq, Mu.put_same, put_put, Nat.zero_le, decide_true, decide_false, flt_litc, fld_str, fld_int, fld_bl, fld_non, List.all_cons, List.all_nil, reduceCtorEq, strOk_of, eqd_int, eqd_str, eqd_bl, eqd_lst0, eqd_lst1, eqd_lst2, eqd_lst3, eqd_tup0, eqd_tup1, eqd_tup2, eqd_tup3, flt_bl, flt_non, rw_v, rw_ok, rw_eq1]
    refine ⟨.inl (by decide), hN _ _ ⟨rfl, some (.str (rw_ [b])), ?_⟩⟩
    rw [List.take_succ, hb, Option.toList, numB_snoc]
    cases b <;> rfl
  · rintro ρ m' ⟨rfl, x, rfl⟩
    simp only [↓reduceIte, ↓u_sNx, ↓u_sSeq, ↓u_nx, ↓u_rt, ↓u_bk, ↓u_ct, ↓u_sBreak, ↓u_sCont, ↓u_sDrop, ↓u_sRet, ↓u_sRetN, ↓u_sIf, ↓u_sAsg, ↓u_gC, ↓u_aNil, ↓u_aCons, ↓u_gTup, ↓u_gLst, ↓u_gLstM, ↓u_gBin, ↓u_cVal, ↓u_onBl, ↓u_onInt, ↓u_onStr, ↓u_gChain, ↓u_cAnd, ↓u_cOr, ↓u_cNot, ↓u_gAnd, ↓u_gOr, ↓u_gNot, ↓u_gIf, ↓u_gNeg, ↓u_nNil, ↓u_nCons, ↓u_nTup, ↓u_nSub, ↓u_gCB, ↓u_gCall, ↓u_gM0, ↓u_gM1, ↓u_gL, ↓u_gL0, ↓u_oNo, ↓u_oSome, ↓u_gSl, ↓u_cYes, ↓u_on1, ↓u_on2, ↓u_dInt, ↓u_dInt0, ↓u_gLc, ↓u_gLcM, ↓u_gLc2, ↓u_sNever, ↓u_iEnS, ↓u_iEnL, ↓u_iEnumD, ↓u_iZipD, ↓u_zipS, ↓u_zipL, ↓u_iSeq, ↓u_iRange1, ↓u_iRange2, ↓u_sWhile, ↓u_iRange3, ↓u_on3, ↓u_sFor, ↓u_dMax2, ↓u_dMin2, ↓u_gDct0, ↓u_gVar0, ↓u_sSet0, ↓u_nName0, ↓u_gVar1, ↓u_sSet1, ↓u_nName1, ↓u_gVar2, ↓u_sSet2, ↓u_nName2, ↓u_gVar3, ↓u_sSet3, ↓u_nName3, ↓u_gVar4, ↓u_sSet4, ↓u_nName4, ↓u_gVar5, ↓u_sSet5, ↓u_nName5, ↓u_gVar6, ↓u_sSet6, ↓u_nName6, ↓u_gVar7, ↓u_sSet7, ↓u_nName7, ↓u_gVar8, ↓u_sSet8, ↓u_nName8, ↓u_gVar9, ↓u_sSet9, ↓u_nName9, ↓u_gVar10, ↓u_sSet10, ↓u_nName10, ↓u_gVar11, ↓u_sSet11, ↓u_nName11, ↓u_gVar12, ↓u_sSet12, ↓u_nName12, ↓u_gVar13, ↓u_sSet13, ↓u_nName13, ↓u_gVar14, ↓u_sSet14, ↓u_nName14, ↓u_gVar15, ↓u_sSet15, ↓u_nName15, ↓u_gVar16, ↓u_sSet16, ↓u_nName16, ↓u_gVar17, ↓u_sSet17, ↓u_nName17, ↓dToInt_int, ↓dToInt_bl, ↓dListU_lst, ↓dListU_tup, ↓dListU_str, ↓dListUM_lst, ↓dListUM_tup, ↓dListUM_str, ↓dTuple_lst, ↓dTuple_tup, ↓dIn_lst, ↓dIn_tup, ↓dSl_str, ↓dSl_lst, ↓dSl_tup, ↓dAdd_int, ↓dAdd_str, ↓dAdd_lst, ↓dAdd_tup, ↓dMul_int, ↓dMul_str, ↓dMul_lst, ↓dIx_lst, ↓dIx_ro, ↓dIx_tup, ↓dIx_str, ↓onSome_some, ↓dLen_lst, ↓dLen_tup, ↓dLen_str, ↓dLen_ro, ↓dLen_dct, ↓items_str, ↓items_lst, ↓items_tup, ↓items_ro, ↓dAll_lst, ↓dAny_lst, ↓dSum_lst, ↓dIsi_ty, ↓dIsi_tup, ↓dIn_str, ↓onSeq_lst, ↓onSeq_tup, ↓dIs_bb, ↓dStrI_i, ↓dIsW_bb, ↓dIsW_ib, ↓dIsW_sb, ↓dIsW_nb, ↓dIsW_lb, ↓dIsW_tb, ↓dIsW_db, ↓dIsW_nn, ↓dIsW_in, ↓dIsW_sn, ↓dIsW_ln, ↓dIsW_tn, ↓dEq_ii, ↓dEq_ss, ↓dNe_ii, ↓dNe_ss, ↓dEq_nil, ↓dNe_nil, ↓dEq_bb, ↓dNe_bb, List.append_nil, List.nil_append, List.cons_append, startD, List.map_cons, List.map_nil, List.length_cons, List.length_nil, Nat.sub_self, List.replicate_zero, List.replicate_succ, List.set_cons_zero, List.set_cons_succ, List.getElem?_cons_zero, List.getElem?_cons_succ, atI_lit, vw_int, vw_str, vw_bl, vw_non, vw_lst, vw_tup, vw_dct, vw_ro, vw_obj, vw_cls, Nat.reduceAdd, Nat.reduceSub, Int.reduceToNat, Int.reduceNeg, Int.reducePow, Int.reduceAdd, Int.reduceSub, Int.reduceMul, ixN_lit, decide_eq_true_eq, decide_eq_false_iff_not, if_true, if_false, Bool.false_eq_true, Bool.not_true, Bool.not_false, Nat.reduceLT, Nat.reduceLeDiff, Int.reduceLT, Int.reduceLE, true_and, and_true, and_self, ite_true, ite_false, kind_int, kind_bl, kind_non, kind_str, kind_lst, kind_tup, kind_dct, clsAll_lt, all_lt, any_lt_l, any_lt_t, any_lt_s, any_lt_i, any_lt_b, any_lt_n, any_lt_d, kc_int, kc_bool, kc_str, kc_list, kc_tuple, kc_dict, isiT, String.reduceBEq, Bool.or_false, Bool.or_true, Bool.false_or, Bool.true_or, Bool.and_false, Bool.false_and, Bool.and_true, Bool.true_and, wipeD, Bool.not_eq_true, Bool.not_eq_false, Bool.not_eq_eq_eq_not, Bool.not_not, Bool.false_bne, Bool.true_bne, dJoin, onSome_some, sizeLine_eq, Mu.put_same, put_put, Nat.zero_le, decide_true, decide_false, flt_litc, fld_str, fld_int, fld_bl, fld_non, List.all_cons, List.all_nil, reduceCtorEq, strOk_of, eqd_int, eqd_str, eqd_bl, eqd_lst0, eqd_lst1, eqd_lst2, eqd_lst3, eqd_tup0, eqd_tup1, eqd_tup2, eqd_tup3, flt_bl, flt_non, List.length_map, List.take_length]
    exact q
def S_row_number : Spec := fun ds m Q E => ∃ bs : List Bool, ds = [.str (rw_ bs)] ∧ 1 ≤ bs.length ∧ bs.length ≤ 24 ∧ Q (.int (numB bs)) m
def g_row_number : GS :=
  (sSeq (sDrop (gCall S_need_row [] (aCons (gVar 0) aNil)))
  (sRet (gCall S_number_in [] (aCons (gVar 0) aNil))))
theorem lift_row_number (F : FnG P w K mg base k f fd ["row"] (wpS ["row"] ["row"] g_row_number)) : FnG P w K mg base k f fd ["row"] S_row_number := F.imp fun ds m Q E h => by
  obtain ⟨bs, rfl, h1, h2, q⟩ := h
  refine ⟨rfl, ?_⟩
  simp only [g_row_number, ↓reduceIte, ↓u_sNx, ↓u_sSeq, ↓u_nx, ↓u_rt, ↓u_bk, ↓u_ct, ↓u_sBreak, ↓u_sCont, ↓u_sDrop, ↓u_sRet, ↓u_sRetN, ↓u_sIf, ↓u_sAsg, ↓u_gC, ↓u_aNil, ↓u_aCons, ↓u_gTup, ↓u_gLst, ↓u_gLstM, ↓u_gBin, ↓u_cVal, ↓u_onBl, ↓u_onInt, ↓u_onStr, ↓u_gChain, ↓u_cAnd, ↓u_cOr, ↓u_cNot, ↓u_gAnd, ↓u_gOr, ↓u_gNot, ↓u_gIf, ↓u_gNeg, ↓u_nNil, ↓u_nCons, ↓u_nTup, ↓u_nSub, ↓u_gCB, ↓u_gCall, ↓u_gM0, ↓u_gM1, ↓u_gL, ↓u_gL0, ↓u_oNo, ↓u_oSome, ↓u_gSl, ↓u_cYes, ↓u_on1, ↓u_on2, ↓u_dInt, ↓u_dInt0, ↓u_gLc, ↓u_gLcM, ↓u_gLc2, ↓u_sNever, ↓u_iEnS, ↓u_iEnL, ↓u_iEnumD, ↓u_iZipD, ↓u_zipS, ↓u_zipL, ↓u_iSeq, ↓u_iRange1, ↓u_iRange2, ↓u_sWhile, ↓u_iRange3, ↓u_on3, ↓u_sFor, ↓u_dMax2, ↓u_dMin2, ↓u_gDct0, ↓u_gVar0, ↓u_sSet0, ↓u_nName0, ↓u_gVar1, ↓u_sSet1, ↓u_nName1, ↓u_gVar2, ↓u_sSet2, ↓u_nName2, ↓u_gVar3, ↓u_sSet3, ↓u_nName3, ↓u_gVar4, ↓u_sSet4, ↓u_nName4, ↓u_gVar5, ↓u_sSet5, ↓u_nName5, ↓u_gVar6, ↓u_sSet6, ↓u_nName6, ↓u_gVar7, ↓u_sSet7, ↓u_nName7, ↓u_gVar8, ↓u_sSet8, ↓u_nName8, ↓u_gVar9, ↓u_sSet9, ↓u_nName9, ↓u_gVar10, ↓u_sSet10, ↓u_nName10, ↓u_gVar11, ↓u_sSet11, ↓u_nName11, ↓u_gVar12, ↓u_sSet12, ↓u_nName12, ↓u_gVar13, ↓u_sSet13, ↓u_nName13, ↓u_gVar14, ↓u_sSet14, ↓u_nName14, ↓u_gVar15, ↓u_sSet15, ↓u_nName15, ↓u_gVar16, ↓u_sSet16, ↓u_nName16, ↓u_gVar17, ↓u_sSet17, ↓u_nName17, ↓dToInt_int, ↓dToInt_bl, ↓dListU_lst, ↓dListU_tup, ↓dListU_str, ↓dListUM_lst, ↓dListUM_tup, ↓dListUM_str, ↓dTuple_lst, ↓dTuple_tup, ↓dIn_lst, ↓dIn_tup, ↓dSl_str, ↓dSl_lst, ↓dSl_tup, ↓dAdd_int, ↓dAdd_str, ↓dAdd_lst, ↓dAdd_tup, ↓dMul_int, ↓dMul_str, ↓dMul_lst, ↓dIx_lst, ↓dIx_ro, ↓dIx_tup, ↓dIx_str, ↓onSome_some, ↓dLen_lst, ↓dLen_tup, ↓dLen_str, ↓dLen_ro, ↓dLen_dct, ↓items_str, ↓items_lst, ↓items_tup, ↓items_ro, ↓dAll_lst, ↓dAny_lst, ↓dSum_lst, ↓dIsi_ty, ↓dIsi_tup, ↓dIn_str, ↓onSeq_lst, ↓onSeq_tup, ↓dIs_bb, ↓dStrI_i, ↓dIsW_bb, ↓dIsW_ib, ↓dIsW_sb, ↓dIsW_nb, ↓dIsW_lb, ↓dIsW_tb, ↓dIsW_db, ↓dIsW_nn, ↓dIsW_in, ↓dIsW_sn, ↓dIsW_ln, ↓dIsW_tn, ↓dEq_ii, ↓dEq_ss, ↓dNe_ii, ↓dNe_ss, ↓dEq_nil, ↓dNe_nil, ↓dEq_bb, ↓dNe_bb, List.append_nil, List.nil_append, List.cons_append, startD, List.map_cons, List.map_nil, List.length_cons, List.length_nil, Nat.sub_self, List.replicate_zero, List.replicate_succ, List.set_cons_zero, List.set_cons_succ, List.getElem?_cons_zero, List.getElem?_cons_succ, atI_lit, vw_int, vw_str, vw_bl, vw_non, vw_lst, vw_tup, vw_dct, vw_ro, vw_obj, vw_cls, Nat.reduceAdd, Nat.reduceSub, Int.reduceToNat, Int.reduceNeg, Int.reducePow, Int.reduceAdd, Int.reduceSub, Int.reduceMul, ixN_lit, decide_eq_true_eq, decide_eq_false_iff_not, if_true, if_false, Bool.false_eq_true, Bool.not_true, Bool.not_false, Nat.reduceLT, Nat.reduceLeDiff, Int.reduceLT, Int.reduceLE, true_and, and_true, and_self, ite_true, ite_false, kind_int, kind_bl, kind_non, kind_str, kind_lst, kind_tup, kind_dct, clsAll_lt, all_lt, any_lt_l, any_lt_t, any_lt_s, any_lt_i, any_lt_b, any_lt_n, any_lt_d, kc_int, kc_bool, kc_str, kc_list, kc_tuple, kc_dict, isiT, String.reduceBEq, Bool.or_false, Bool.or_true, Bool.false_or, Bool.true_or, Bool.and_false, Bool.false_and, Bool.and_true, Bool.true_and, wipeD, Bool.not_eq_true, Bool.not_eq_false, Bool.not_eq_eq_eq_not, Bool.not_not, Bool.false_bne, Bool.true_bne, dJoin, onSome_some, sizeLine_eq, Mu.put_same, put_put, Nat.zero_le, decide_true, decide_false, flt_litc, fld_str, fld_int, fld_bl, fld_non, List.all_cons, List.all_nil, reduceCtorEq, strOk_of, eqd_int, eqd_str, eqd_bl, eqd_lst0, eqd_lst1, eqd_lst2, eqd_lst3, eqd_tup0, eqd_tup1, eqd_tup2, eqd_tup3, flt_bl, flt_non]
  refine ⟨bs, rfl, h1, h2, ?_⟩
  simp only [↓reduceIte, ↓u_sNx, ↓u_sSeq, ↓u_nx, ↓u_rt, ↓u_bk, ↓u_ct, ↓u_sBreak, ↓u_sCont, ↓u_sDrop, ↓u_sRet, ↓u_sRetN, ↓u_sIf, ↓u_sAsg, ↓u_gC, ↓u_aNil, ↓u_aCons, ↓u_gTup, ↓u_gLst, ↓u_gLstM, ↓u_gBin, ↓u_cVal, ↓u_onBl, ↓u_onInt, ↓u_onStr, ↓u_gChain, ↓u_cAnd, ↓u_cOr, ↓u_cNot, ↓u_gAnd, ↓u_gOr, ↓u_gNot, ↓u_gIf, ↓u_gNeg, ↓u_nNil, ↓u_nCons, ↓u_nTup, ↓u_nSub, ↓u_gCB, ↓u_gCall, ↓u_gM0, ↓u_gM1, ↓u_gL, ↓u_gL0, ↓u_oNo, ↓u_oSome, ↓u_gSl, ↓u_cYes, ↓u_on1, ↓u_on2, ↓u_dInt, ↓u_dInt0, ↓u_gLc, ↓u_gLcM, ↓u_gLc2, ↓u_sNever, ↓u_iEnS, ↓u_iEnL, ↓u_iEnumD, ↓u_iZipD, ↓u_zipS, ↓u_zipL, ↓u_iSeq, ↓u_iRange1, ↓u_iRange2, ↓u_sWhile, ↓u_iRange3, ↓u_on3, ↓u_sFor, ↓u_dMax2, ↓u_dMin2, ↓u_gDct0, ↓u_gVar0, ↓u_sSet0, ↓u_nName0, ↓u_gVar1, ↓u_sSet1, ↓u_nName1, ↓u_gVar2, ↓u_sSet2, ↓u_nName2, ↓u_gVar3, ↓u_sSet3, ↓u_nName3, ↓u_gVar4, ↓u_sSet4, ↓u_nName4, ↓u_gVar5, ↓u_sSet5, ↓u_nName5, ↓u_gVar6, ↓u_sSet6, ↓u_nName6, ↓u_gVar7, ↓u_sSet7, ↓u_nName7, ↓u_gVar8, ↓u_sSet8, ↓u_nName8, ↓u_gVar9, ↓u_sSet9, ↓u_nName9, ↓u_gVar10, ↓u_sSet10, ↓u_nName10, ↓u_gVar11, ↓u_sSet11, ↓u_nName11, ↓u_gVar12, ↓u_sSet12, ↓u_nName12, ↓u_gVar13, ↓u_sSet13, ↓u_nName13, ↓u_gVar14, ↓u_sSet14, ↓u_nName14, ↓u_gVar15, ↓u_sSet15, ↓u_nName15, ↓u_gVar16, ↓u_sSet16, ↓u_nName16, ↓u_gVar17, ↓u_sSet17, ↓u_nName17, ↓dToInt_int, ↓dToInt_bl, ↓dListU_lst, ↓dListU_tup, ↓dListU_str, ↓dListUM_lst, ↓dListUM_tup, ↓dListUM_str, ↓dTuple_lst, ↓dTuple_tup, ↓dIn_lst, ↓dIn_tup, ↓dSl_str, ↓dSl_lst, ↓dSl_tup, ↓dAdd_int, ↓dAdd_str, ↓dAdd_lst, ↓dAdd_tup, ↓dMul_int, ↓dMul_str, ↓dMul_lst, ↓dIx_lst, ↓dIx_ro, ↓dIx_tup, ↓dIx_str, ↓onSome_some, ↓dLen_lst, ↓dLen_tup, ↓dLen_str, ↓dLen_ro, ↓dLen_dct, ↓items_str, ↓items_lst, ↓items_tup, ↓items_ro, ↓dAll_lst, ↓dAny_lst, ↓dSum_lst, ↓dIsi_ty, ↓dIsi_tup, ↓dIn_str, ↓onSeq_lst, ↓onSeq_tup, ↓dIs_bb, ↓dStrI_i, ↓dIsW_bb, ↓dIsW_ib, ↓dIsW_sb, ↓dIsW_nb, ↓dIsW_lb, ↓dIsW_tb, ↓dIsW_db, ↓dIsW_nn, ↓dIsW_in, ↓dIsW_sn, ↓dIsW_ln, ↓dIsW_tn, ↓dEq_ii, ↓dEq_ss, ↓dNe_ii, ↓dNe_ss, ↓dEq_nil, ↓dNe_nil, ↓dEq_bb, ↓dNe_bb, List.append_nil, List.nil_append, List.cons_append, startD, List.map_cons, List.map_nil, List.length_cons, List.length_nil, Nat.sub_self, List.replicate_zero, List.replicate_succ, List.set_cons_zero, List.set_cons_succ, List.getElem?_cons_zero, List.getElem?_cons_succ, atI_lit, vw_int, vw_str, vw_bl, vw_non, vw_lst, vw_tup, vw_dct, vw_ro, vw_obj, vw_cls, Nat.reduceAdd, Nat.reduceSub, Int.reduceToNat, Int.reduceNeg, Int.reducePow, Int.reduceAdd, Int.reduceSub, Int.reduceMul, ixN_lit, decide_eq_true_eq, decide_eq_false_iff_not, if_true, if_false, Bool.false_eq_true, Bool.not_true, Bool.not_false, Nat.reduceLT, Nat.reduceLeDiff, Int.reduceLT, Int.reduceLE, true_and, and_true, and_self, ite_true, ite_false, kind_int, kind_bl, kind_non, kind_str, kind_lst, kind_tup, kind_dct, clsAll_lt, all_lt, any_lt_l, any_lt_t, any_lt_s, any_lt_i, any_lt_b, any_lt_n, any_lt_d, kc_int, kc_bool, kc_str, kc_list, kc_tuple, kc_dict, isiT, String.reduceBEq, Bool.or_false, Bool.or_true, Bool.false_or, Bool.true_or, Bool.and_false, Bool.false_and, Bool.and_true, Bool.true_and, wipeD, Bool.not_eq_true, Bool.not_eq_false, Bool.not_eq_eq_eq_not, Bool.not_not, Bool.false_bne, Bool.true_bne, dJoin, onSome_some, sizeLine_eq, Mu.put_same, put_put, Nat.zero_le, decide_true, decide_false, flt_litc, fld_str, fld_int, fld_bl, fld_non, List.all_cons, List.all_nil, reduceCtorEq, strOk_of, eqd_int, eqd_str, eqd_bl, eqd_lst0, eqd_lst1, eqd_lst2, eqd_lst3, eqd_tup0, eqd_tup1, eqd_tup2, eqd_tup3, flt_bl, flt_non]
  exact ⟨bs, rfl, by omega, q⟩
def S_row_in : Spec := fun ds m Q E => ∃ (n : Nat) (k : Int), ds = [.int (n : Nat), .int k] ∧ n ≤ 60 ∧ 0 ≤ k ∧ k < 2 ^ 62 ∧ Q (.str (rw_ (rowOf n k))) m
def g_row_in : GS :=
  (sRet (gCall S_row_of [] (aCons (gLc (iRange1 (aCons (gVar 0) aNil)) (nName 2) cYes (gBin dEq (gBin dBand (gBin dShr (gVar 1) (gBin dSub (gBin dSub (gVar 0) (gC (.int 1))) (gVar 2))) (gC (.int 1))) (gC (.int 1))) [2]) aNil)))
theorem lift_row_in (F : FnG P w K mg base k f fd ["width", "number"] (wpS ["width", "number"] ["width", "number", "hole"] g_row_in)) : FnG P w K mg base k f fd ["width", "number"] S_row_in := F.imp fun ds m Q E h => by
  obtain ⟨n, k, rfl, h1, h2, h3, q⟩ := h
  refine ⟨rfl, ?_⟩
  simp only [g_row_in, ↓reduceIte, ↓u_sNx, ↓u_sSeq, ↓u_nx, ↓u_rt, ↓u_bk, ↓u_ct, ↓u_sBreak, ↓u_sCont, ↓u_sDrop, ↓u_sRet, ↓u_sRetN, ↓u_sIf, ↓u_sAsg, ↓u_gC, ↓u_aNil, ↓u_aCons, ↓u_gTup, ↓u_gLst, ↓u_gLstM, ↓u_gBin, ↓u_cVal, ↓u_onBl, ↓u_onInt, ↓u_onStr, ↓u_gChain, ↓u_cAnd, ↓u_cOr, ↓u_cNot, ↓u_gAnd, ↓u_gOr, ↓u_gNot, ↓u_gIf, ↓u_gNeg, ↓u_nNil, ↓u_nCons, ↓u_nTup, ↓u_nSub, ↓u_gCB, ↓u_gCall, ↓u_gM0, ↓u_gM1, ↓u_gL, ↓u_gL0, ↓u_oNo, ↓u_oSome, ↓u_gSl, ↓u_cYes, ↓u_on1, ↓u_on2, ↓u_dInt, ↓u_dInt0, ↓u_gLc, ↓u_gLcM, ↓u_gLc2, ↓u_sNever, ↓u_iEnS, ↓u_iEnL, ↓u_iEnumD, ↓u_iZipD, ↓u_zipS, ↓u_zipL, ↓u_iSeq, ↓u_iRange1, ↓u_iRange2, ↓u_sWhile, ↓u_iRange3, ↓u_on3, ↓u_sFor, ↓u_dMax2, ↓u_dMin2, ↓u_gDct0, ↓u_gVar0, ↓u_sSet0, ↓u_nName0, ↓u_gVar1, ↓u_sSet1, ↓u_nName1, ↓u_gVar2, ↓u_sSet2, ↓u_nName2, ↓u_gVar3, ↓u_sSet3, ↓u_nName3, ↓u_gVar4, ↓u_sSet4, ↓u_nName4, ↓u_gVar5, ↓u_sSet5, ↓u_nName5, ↓u_gVar6, ↓u_sSet6, ↓u_nName6, ↓u_gVar7, ↓u_sSet7, ↓u_nName7, ↓u_gVar8, ↓u_sSet8, ↓u_nName8, ↓u_gVar9, ↓u_sSet9, ↓u_nName9, ↓u_gVar10, ↓u_sSet10, ↓u_nName10, ↓u_gVar11, ↓u_sSet11, ↓u_nName11, ↓u_gVar12, ↓u_sSet12, ↓u_nName12, ↓u_gVar13, ↓u_sSet13, ↓u_nName13, ↓u_gVar14, ↓u_sSet14, ↓u_nName14, ↓u_gVar15, ↓u_sSet15, ↓u_nName15, ↓u_gVar16, ↓u_sSet16, ↓u_nName16, ↓u_gVar17, ↓u_sSet17, ↓u_nName17, ↓dToInt_int, ↓dToInt_bl, ↓dListU_lst, ↓dListU_tup, ↓dListU_str, ↓dListUM_lst, ↓dListUM_tup, ↓dListUM_str, ↓dTuple_lst, ↓dTuple_tup, ↓dIn_lst, ↓dIn_tup, ↓dSl_str, ↓dSl_lst, ↓dSl_tup, ↓dAdd_int, ↓dAdd_str, ↓dAdd_lst, ↓dAdd_tup, ↓dMul_int, ↓dMul_str, ↓dMul_lst, ↓dIx_lst, ↓dIx_ro, ↓dIx_tup, ↓dIx_str, ↓onSome_some, ↓dLen_lst, ↓dLen_tup, ↓dLen_str, ↓dLen_ro, ↓dLen_dct, ↓items_str, ↓items_lst, ↓items_tup, ↓items_ro, ↓dAll_lst, ↓dAny_lst, ↓dSum_lst, ↓dIsi_ty, ↓dIsi_tup, ↓dIn_str, ↓onSeq_lst, ↓onSeq_tup, ↓dIs_bb, ↓dStrI_i, ↓dIsW_bb, ↓dIsW_ib, ↓dIsW_sb, ↓dIsW_nb, ↓dIsW_lb, ↓dIsW_tb, ↓dIsW_db, ↓dIsW_nn, ↓dIsW_in, ↓dIsW_sn, ↓dIsW_ln, ↓dIsW_tn, ↓dEq_ii, ↓dEq_ss, ↓dNe_ii, ↓dNe_ss, ↓dEq_nil, ↓dNe_nil, ↓dEq_bb, ↓dNe_bb, List.append_nil, List.nil_append, List.cons_append, startD, List.map_cons, List.map_nil, List.length_cons, List.length_nil, Nat.sub_self, List.replicate_zero, List.replicate_succ, List.set_cons_zero, List.set_cons_succ, List.getElem?_cons_zero, List.getElem?_cons_succ, atI_lit, vw_int, vw_str, vw_bl, vw_non, vw_lst, vw_tup, vw_dct, vw_ro, vw_obj, vw_cls, Nat.reduceAdd, Nat.reduceSub, Int.reduceToNat, Int.reduceNeg, Int.reducePow, Int.reduceAdd, Int.reduceSub, Int.reduceMul, ixN_lit, decide_eq_true_eq, decide_eq_false_iff_not, if_true, if_false, Bool.false_eq_true, Bool.not_true, Bool.not_false, Nat.reduceLT, Nat.reduceLeDiff, Int.reduceLT, Int.reduceLE, true_and, and_true, and_self, ite_true, ite_false, kind_int, kind_bl, kind_non, kind_str, kind_lst, kind_tup, kind_dct, clsAll_lt, all_lt, any_lt_l, any_lt_t, any_lt_s, any_lt_i, any_lt_b, any_lt_n, any_lt_d, kc_int, kc_bool, kc_str, kc_list, kc_tuple, kc_dict, isiT, String.reduceBEq, Bool.or_false, Bool.or_true, Bool.false_or, Bool.true_or, Bool.and_false, Bool.false_and, Bool.and_true, Bool.true_and, wipeD, Bool.not_eq_true, Bool.not_eq_false, Bool.not_eq_eq_eq_not, Bool.not_not, Bool.false_bne, Bool.true_bne, dJoin, onSome_some, sizeLine_eq, Mu.put_same, put_put, Nat.zero_le, decide_true, decide_false, flt_litc, fld_str, fld_int, fld_bl, fld_non, List.all_cons, List.all_nil, reduceCtorEq, strOk_of, eqd_int, eqd_str, eqd_bl, eqd_lst0, eqd_lst1, eqd_lst2, eqd_lst3, eqd_tup0, eqd_tup1, eqd_tup2, eqd_tup3, flt_bl, flt_non, Int.toNat_natCast]
  refine ⟨⟨by omega, by omega⟩, lc_map (fun d => match d with | .int i => .bl (decide (k / 2 ^ (n - 1 - i.toNat) % 2 = 1)) | d => d) (fun _ _ _ => trivial) (by rw [range_len, sizeLine_eq]; omega) (fun a c ha d hd yes hy => ?_) ?_⟩
  · obtain ⟨i, hi, rfl⟩ := range_mem hd
    simp only [↓reduceIte, ↓u_sNx, ↓u_sSeq, ↓u_nx, ↓u_rt, ↓u_bk, ↓u_ct, ↓u_sBreak, ↓u_sCont, ↓u_sDrop, ↓u_sRet, ↓u_sRetN, ↓u_sIf, ↓u_sAsg, ↓u_gC, ↓u_aNil, ↓u_aCons, ↓u_gTup, ↓u_gLst, ↓u_gLstM, ↓u_gBin, ↓u_cVal, ↓u_onBl, ↓u_onInt, ↓u_onStr, ↓u_gChain, ↓u_cAnd, ↓u_cOr, ↓u_cNot, ↓u_gAnd, ↓u_gOr, ↓u_gNot, ↓u_gIf, ↓u_gNeg, ↓u_nNil, ↓u_nCons, ↓u_nTup, ↓u_nSub, ↓u_gCB, ↓u_gCall, ↓u_gM0, ↓u_gM1, ↓u_gL, ↓u_gL0, ↓u_oNo, ↓u_oSome, ↓u_gSl, ↓u_cYes, ↓u_on1, ↓u_on2, ↓u_dInt, ↓u_dInt0, ↓u_gLc, ↓u_gLcM, ↓u_gLc2, ↓u_sNever, ↓u_iEnS, ↓u_iEnL, ↓u_iEnumD, ↓u_iZipD, ↓u_zipS, ↓u_zipL, ↓u_iSeq, ↓u_iRange1, ↓u_iRange2, ↓u_sWhile, ↓u_iRange3, ↓u_on3, ↓u_sFor, ↓u_dMax2, ↓u_dMin2, ↓u_gDct0, ↓u_gVar0, ↓u_sSet0, ↓u_nName0, ↓u_gVar1, ↓u_sSet1, ↓u_nName1, ↓u_gVar2, ↓u_sSet2, ↓u_nName2, ↓u_gVar3, ↓u_sSet3, ↓u_nName3, ↓u_gVar4, ↓u_sSet4, ↓u_nName4, ↓u_gVar5, ↓u_sSet5, ↓u_nName5, ↓u_gVar6, ↓u_sSet6, ↓u_nName6, ↓u_gVar7, ↓u_sSet7, ↓u_nName7, ↓u_gVar8, ↓u_sSet8, ↓u_nName8, ↓u_gVar9, ↓u_sSet9, ↓u_nName9, ↓u_gVar10, ↓u_sSet10, ↓u_nName10, ↓u_gVar11, ↓u_sSet11, ↓u_nName11, ↓u_gVar12, ↓u_sSet12, ↓u_nName12, ↓u_gVar13, ↓u_sSet13, ↓u_nName13, ↓u_gVar14, ↓u_sSet14, ↓u_nName14, ↓u_gVar15, ↓u_sSet15, ↓u_nName15, ↓u_gVar16, ↓u_sSet16, ↓u_nName16, ↓u_gVar17, ↓u_sSet17, ↓u_nName17, ↓dToInt_int, ↓dToInt_bl, ↓dListU_lst, ↓dListU_tup, ↓dListU_str, ↓dListUM_lst, ↓dListUM_tup, ↓dListUM_str, ↓dTuple_lst, ↓dTuple_tup, ↓dIn_lst, ↓dIn_tup, ↓dSl_str, ↓dSl_lst, ↓dSl_tup, ↓dAdd_int, ↓dAdd_str, ↓dAdd_lst, ↓dAdd_tup, ↓dMul_int, ↓dMul_str, ↓dMul_lst, ↓dIx_lst, ↓dIx_ro, ↓dIx_tup, ↓dIx_str, ↓onSome_some, ↓dLen_lst, ↓dLen_tup, ↓dLen_str, ↓dLen_ro, ↓dLen_dct, ↓items_str, ↓items_lst, ↓items_tup, ↓items_ro, ↓dAll_lst, ↓dAny_lst, ↓dSum_lst, ↓dIsi_ty, ↓dIsi_tup, ↓dIn_str, ↓onSeq_lst, ↓onSeq_tup, ↓dIs_bb, ↓dStrI_i, ↓dIsW_bb, ↓dIsW_ib, ↓dIsW_sb, ↓dIsW_nb, ↓dIsW_lb, ↓dIsW_tb, ↓dIsW_db, ↓dIsW_nn, ↓dIsW_in, ↓dIsW_sn, ↓dIsW_ln, ↓dIsW_tn, ↓dEq_ii, ↓dEq_ss, ↓dNe_ii, ↓dNe_ss, ↓dEq_nil, ↓dNe_nil, ↓dEq_bb, ↓dNe_bb, List.append_nil, List.nil_append, List.cons_append, startD, List.map_cons, List.map_nil, List.length_cons, List.length_nil, Nat.sub_self, List.replicate_zero, List.replicate_succ, List.set_cons_zero, List.set_cons_succ, List.getElem?_cons_zero, List.getElem?_cons_succ, atI_lit, vw_int, vw_str, vw_bl, vw_non, vw_lst, vw_tup, vw_dct, vw_ro, vw_obj, vw_cls, Nat.reduceAdd, Nat.reduceSub, Int.reduceToNat, Int.reduceNeg, Int.reducePow, Int.reduceAdd, Int.reduceSub, Int.reduceMul, ixN_lit, decide_eq_true_eq, decide_eq_false_iff_not, if_true, if_false, Bool.false_eq_true, Bool.not_true, Bool.not_false, Nat.reduceLT, Nat.reduceLeDiff, Int.reduceLT, Int.reduceLE, true_and, and_true, and_self, ite_true, ite_false, kind_int, kind_bl, kind_non, kind_str, kind_lst, kind_tup, kind_dct, clsAll_lt, all_lt, any_lt_l, any_lt_t, any_lt_s, any_lt_i, any_lt_b, any_lt_n, any_lt_d, kc_int, kc_bool, kc_str, kc_list, kc_tuple, kc_dict, isiT, String.reduceBEq, Bool.or_false, Bool.or_true, Bool.false_or, Bool.true_or, Bool.and_false, Bool.false_and, Bool.and_true, Bool.true_and, wipeD, Bool.not_eq_true, Bool.not_eq_false, Bool.not_eq_eq_eq_not, Bool.not_not, Bool.false_bne, Bool.true_bne, dJoin, onSome_some, sizeLine_eq, Mu.put_same, put_put, Nat.zero_le, decide_true, decide_false, flt_litc, fld_str, fld_int, fld_bl, fld_non, List.all_cons, List.all_nil, reduceCtorEq, strOk_of, eqd_int, eqd_str, eqd_bl, eqd_lst0, eqd_lst1, eqd_lst2, eqd_lst3, eqd_tup0, eqd_tup1, eqd_tup2, eqd_tup3, flt_bl, flt_non, Int.zero_add]
    simp only [Int.zero_add, Int.toNat_natCast] at hy
    have e1 : ((n : Int) - 1 - (i : Nat)).toNat = n - 1 - i := by omega
    rw [e1]
    have hk : 0 ≤ k / 2 ^ (n - 1 - i) := Int.ediv_nonneg h2 (Int.le_of_lt (p2pos _))
    have hb : Builtin.bitAnd (k / 2 ^ (n - 1 - i)) 1 = k / 2 ^ (n - 1 - i) % 2 := Bits.bitAnd_mask 1 hk
    rw [hb]
    refine ⟨by omega, flt_int ?_ ?_, hy⟩
    · have := Int.emod_nonneg (k / 2 ^ (n - 1 - i)) (show (2 : Int) ≠ 0 by decide); omega
    · have := Int.emod_lt_of_pos (k / 2 ^ (n - 1 - i)) (show (0 : Int) < 2 by decide); omega
  · refine ⟨rowOf n k, ?_, by rw [rowOf_len]; omega, q⟩
    unfold rowOf rangeD
    rw [List.map_map, List.map_map]
    congr 2
    refine List.map_congr_left fun i _ => ?_
    show D.bl (decide (k / 2 ^ (n - 1 - (0 + (i : Nat) : Int).toNat) % 2 = 1)) = _
    rw [Int.zero_add, Int.toNat_natCast]; rfl
end
end Nd

namespace Nd
open PySem L2 PyProof.Rows PySem.Spec
theorem okd_hdk {n : Nat} {d : D} (h : okd n d = true) : hdk d = true := by
  cases d <;> first | rfl | (cases n <;> (unfold okd at h; cases h))
theorem okd_tup {n : Nat} {ds : List D} (h : okd n (.tup ds) = true) : ∃ k, n = k + 1 ∧ ∀ d ∈ ds, okd k d = true := by
  cases n with
  | zero => unfold okd at h; cases h
  | succ k => unfold okd at h; exact ⟨k, rfl, List.all_eq_true.mp h⟩
theorem okd_strOk {n : Nat} {z : Str} (h : okd n (.str z) = true) : PyData.strOk z = true := by rw [okd_str] at h; exact h
def isW (z : Str) (ws : List Str) : Bool := decide (z ∈ ws)
/-- data of so many levels, no list or tuple in it longer than 1000 -/
def okw : Nat → D → Bool
  | _, .non => true
  | _, .bl _ => true
  | _, .int i => decide (i.natAbs.log2 < 1920)
  | _, .str x => PyData.strOk x
  | n + 1, .lst ds => decide (ds.length ≤ 1000) && ds.all (okw n)
  | n + 1, .tup ds => decide (ds.length ≤ 1000) && ds.all (okw n)
  | n + 1, .dct kvs => okd (n + 1) (.dct kvs)
  | _, _ => false
theorem okd_up : ∀ (n : Nat) (d : D), okd n d = true → okd (n + 1) d = true
  | n, .non, _ => by unfold okd; rfl
  | n, .bl b, _ => by unfold okd; rfl
  | n, .int i, h => by unfold okd at h ⊢; exact h
  | n, .str x, h => by unfold okd at h ⊢; exact h
  | n + 1, .lst ds, h => by
    unfold okd at h ⊢
    exact List.all_eq_true.mpr fun d hd => okd_up n d (List.all_eq_true.mp h d hd)
  | n + 1, .tup ds, h => by
    unfold okd at h ⊢
    exact List.all_eq_true.mpr fun d hd => okd_up n d (List.all_eq_true.mp h d hd)
  | n + 1, .dct ds, h => by
    unfold okd at h ⊢
    refine List.all_eq_true.mpr fun p hp => ?_
    have h1 := List.all_eq_true.mp h p hp
    obtain ⟨a, b⟩ := Bool.and_eq_true_iff.mp h1
    rw [Bool.and_eq_true]
    exact ⟨a, okd_up n p.2 b⟩
  | 0, .lst ds, h => by unfold okd at h; cases h
  | 0, .tup ds, h => by unfold okd at h; cases h
  | 0, .dct ds, h => by unfold okd at h; cases h
  | n, .obj _ _, h => by unfold okd at h; cases n <;> cases h
  | n, .ro _, h => by unfold okd at h; cases n <;> cases h
  | n, .cel _, h => by unfold okd at h; cases n <;> cases h
  | n, .cls _, h => by unfold okd at h; cases n <;> cases h
theorem okw_okd : ∀ (n : Nat) (d : D), okw n d = true → okd n d = true
  | n, .non, _ => by unfold okd; rfl
  | n, .bl b, _ => by unfold okd; rfl
  | n, .int i, h => by unfold okw at h; unfold okd; exact h
  | n, .str x, h => by unfold okw at h; unfold okd; exact h
  | n + 1, .lst ds, h => by
    unfold okw at h
    unfold okd
    have h2 := (Bool.and_eq_true_iff.mp h).2
    exact List.all_eq_true.mpr fun d hd => okw_okd n d (List.all_eq_true.mp h2 d hd)
  | n + 1, .tup ds, h => by
    unfold okw at h
    unfold okd
    have h2 := (Bool.and_eq_true_iff.mp h).2
    exact List.all_eq_true.mpr fun d hd => okw_okd n d (List.all_eq_true.mp h2 d hd)
  | n + 1, .dct ds, h => by unfold okw at h; exact h
  | 0, .lst ds, h => by unfold okw at h; cases h
  | 0, .tup ds, h => by unfold okw at h; cases h
  | 0, .dct ds, h => by unfold okw at h; cases h
  | n, .obj _ _, h => by unfold okw at h; cases n <;> cases h
  | n, .ro _, h => by unfold okw at h; cases n <;> cases h
  | n, .cel _, h => by unfold okw at h; cases n <;> cases h
  | n, .cls _, h => by unfold okw at h; cases n <;> cases h
theorem okw_up : ∀ (n : Nat) (d : D), okw n d = true → okw (n + 1) d = true
  | n, .non, _ => by unfold okw; rfl
  | n, .bl b, _ => by unfold okw; rfl
  | n, .int i, h => by unfold okw at h ⊢; exact h
  | n, .str x, h => by unfold okw at h ⊢; exact h
  | n + 1, .lst ds, h => by
    unfold okw at h ⊢
    obtain ⟨h1, h2⟩ := Bool.and_eq_true_iff.mp h
    rw [h1]
    exact List.all_eq_true.mpr fun d hd => okw_up n d (List.all_eq_true.mp h2 d hd)
  | n + 1, .tup ds, h => by
    unfold okw at h ⊢
    obtain ⟨h1, h2⟩ := Bool.and_eq_true_iff.mp h
    rw [h1]
    exact List.all_eq_true.mpr fun d hd => okw_up n d (List.all_eq_true.mp h2 d hd)
  | n + 1, .dct ds, h => by
    unfold okw at h ⊢
    have up : ∀ (k : Nat) (d : D), okd k d = true → okd (k + 1) d = true := okd_up
    exact up (n + 1) _ h
  | 0, .lst ds, h => by unfold okw at h; cases h
  | 0, .tup ds, h => by unfold okw at h; cases h
  | 0, .dct ds, h => by unfold okw at h; cases h
  | n, .obj _ _, h => by unfold okw at h; cases n <;> cases h
  | n, .ro _, h => by unfold okw at h; cases n <;> cases h
  | n, .cel _, h => by unfold okw at h; cases n <;> cases h
  | n, .cls _, h => by unfold okw at h; cases n <;> cases h
theorem okw_tup {n : Nat} {ds : List D} (h : okw n (.tup ds) = true) : ∃ k, n = k + 1 ∧ ds.length ≤ 1000 ∧ ∀ d ∈ ds, okw k d = true := by
  cases n with
  | zero => unfold okw at h; cases h
  | succ k =>
    unfold okw at h
    obtain ⟨h1, h2⟩ := Bool.and_eq_true_iff.mp h
    exact ⟨k, rfl, of_decide_eq_true h1, List.all_eq_true.mp h2⟩
/-- how many parts a request has -/
def szR : Nat → D → Option Int
  | 0, _ => none
  | r + 1, .tup (.str w :: as) =>
    if w ∈ [Str.ofString "open", Str.ofString "closed"] then (match as with | [d] => if isIntB d 0 23 = true then some 1 else none | _ => none)
    else if w ∈ [Str.ofString "all", Str.ofString "none"] then (if as = [] then some 1 else none)
    else if w ∈ [Str.ofString "and", Str.ofString "or"] then (match as with | [a, b] => (szR r a).bind fun x => (szR r b).map fun y => 1 + (x + y) | _ => none)
    else if w = Str.ofString "not" then (match as with | [a] => (szR r a).map fun x => 1 + x | _ => none)
    else none
  | _, _ => none
def oI : Option Int → D
  | some i => .int i
  | none => .non
def S_size_in (r : Nat) : Spec := fun ds m Q E => ∃ (d : D) (room n : Nat), ds = [d, .int (room : Nat)] ∧ room ≤ r ∧ room ≤ 100 ∧ okw n d = true ∧ Q (oI (szR room d)) m
section
variable {P : Program} {w : World} {K : PySem.W.Frag} {mg : Str → Option Value} {base : Heap} {k : Nat} {f : Addr} {fd : FuncData}
def S_is_integer' : Spec := S_is_integer
theorem inD2 (w a b : Str) : inD (.str w) [.str a, .str b] = decide (w ∈ [a, b]) := inD_strs w [a, b]
theorem inD3 (w a b c : Str) : inD (.str w) [.str a, .str b, .str c] = decide (w ∈ [a, b, c]) := inD_strs w [a, b, c]
theorem fld2 (w a b : Str) : (fld (.str w) = true ∧ [D.str a, D.str b].all fld = true) := ⟨rfl, rfl⟩
theorem fld3 (w a b c : Str) : (fld (.str w) = true ∧ [D.str a, D.str b, D.str c].all fld = true) := ⟨rfl, rfl⟩
/-- the sizes of the parts -/
def szAll (r : Nat) : List D → Option Int
  | [] => some 0
  | d :: ds => (szR r d).bind fun x => (szAll r ds).map fun y => x + y
theorem sizes_in (r : Nat) : ∀ ds : List D, inD .non (ds.map fun d => oI (szR r d)) = (szAll r ds).isNone ∧ (∀ s, szAll r ds = some s → ∃ is : List Int, ds.map (fun d => oI (szR r d)) = is.map D.int ∧ is.sum = s)
  | [] => ⟨rfl, fun s h => ⟨[], rfl, by simpa [szAll] using h⟩⟩
  | d :: ds => by
    obtain ⟨h1, h2⟩ := sizes_in r ds
    have e : inD .non ((d :: ds).map fun d => oI (szR r d)) = (eqV (toV (oI (szR r d))) .non || inD .non (ds.map fun d => oI (szR r d))) := rfl
    rw [e, h1]
    have sc : szAll r (d :: ds) = (szR r d).bind fun x => (szAll r ds).map fun y => x + y := rfl
    rw [sc]
    cases h : szR r d with
    | none => exact ⟨rfl, fun s z => by simp at z⟩
    | some x =>
      refine ⟨?_, fun s z => ?_⟩
      · cases hh : szAll r ds <;> rfl
      · cases hh : szAll r ds with
        | none => rw [hh] at z; simp at z
        | some y =>
          rw [hh] at z
          simp at z
          obtain ⟨is, e1, e2⟩ := h2 y hh
          exact ⟨x :: is, by rw [List.map_cons, e1, h]; rfl, by rw [List.sum_cons, e2]; exact z⟩
theorem fld_sizes (r : Nat) (ds : List D) : (ds.map fun d => oI (szR r d)).all fld = true := by
  rw [List.all_map]
  refine List.all_eq_true.mpr fun d _ => ?_
  show fld (oI (szR r d)) = true
  cases szR r d <;> rfl
theorem cut1 (x : D) (as : List D) : cutD (x :: as) (some 1) none = as := by
  unfold cutD
  rw [HT.sIx_none, show (1 : Int) = ((1 : Nat) : Int) from rfl, HT.sIx_nat]
  rw [List.length_cons, show min 1 (as.length + 1) = 1 by omega, List.drop_one, List.tail_cons, List.take_of_length_le (by omega)]
def szTwo (r : Nat) : List D → Option Int
  | [a, b] => (szR r a).bind fun x => (szR r b).map fun y => 1 + (x + y)
  | _ => none
def szOne (r : Nat) : List D → Option Int
  | [a] => (szR r a).map fun x => 1 + x
  | _ => none
theorem szR_and {w : Str} {r : Nat} {as : List D} (hw : ¬ w ∈ [Str.ofString "open", Str.ofString "closed"]) (hw2 : ¬ w ∈ [Str.ofString "all", Str.ofString "none"]) (hw3 : w ∈ [Str.ofString "and", Str.ofString "or"]) : szR (r + 1) (.tup (.str w :: as)) = szTwo r as := by
  simp only [szR]
  rw [if_neg hw, if_neg hw2, if_pos hw3]
  match as with
  | [] => rfl
  | [_] => rfl
  | [_, _] => rfl
  | _ :: _ :: _ :: _ => rfl
theorem szR_not {w : Str} {r : Nat} {as : List D} (hw : ¬ w ∈ [Str.ofString "open", Str.ofString "closed"]) (hw2 : ¬ w ∈ [Str.ofString "all", Str.ofString "none"]) (hw3 : ¬ w ∈ [Str.ofString "and", Str.ofString "or"]) (hw4 : w = Str.ofString "not") : szR (r + 1) (.tup (.str w :: as)) = szOne r as := by
  simp only [szR]
  rw [if_neg hw, if_neg hw2, if_neg hw3, if_pos hw4]
  match as with
  | [] => rfl
  | [_] => rfl
  | _ :: _ :: _ => rfl
theorem szTwo_at (r : Nat) : ∀ as : List D, (as.length + 1 = 3 → szTwo r as = (szAll r as).map fun y => 1 + y) ∧ (as.length + 1 ≠ 3 → szTwo r as = none)
  | [] => ⟨fun h => by simp at h, fun _ => rfl⟩
  | [_] => ⟨fun h => by simp at h, fun _ => rfl⟩
  | [a, b] => ⟨fun _ => by
      simp only [szTwo, szAll]
      cases szR r a <;> cases szR r b <;> simp, fun h => absurd rfl h⟩
  | _ :: _ :: _ :: _ => ⟨fun h => by simp at h, fun _ => rfl⟩
theorem szOne_at (r : Nat) : ∀ as : List D, (as.length + 1 = 2 → szOne r as = (szAll r as).map fun y => 1 + y) ∧ (as.length + 1 ≠ 2 → szOne r as = none)
  | [] => ⟨fun h => by simp at h, fun _ => rfl⟩
  | [a] => ⟨fun _ => by
      simp only [szOne, szAll]
      cases szR r a <;> simp, fun h => absurd rfl h⟩
  | _ :: _ :: _ => ⟨fun h => by simp at h, fun _ => rfl⟩
def g_size_in (S : Spec) : GS :=
  (sSeq (sIf (cOr (cVal (gBin dEq (gVar 1) (gC (.int 0)))) (cOr (cNot (cVal (gCB dIsi (aCons (gVar 0) (aCons (gC (.cls (.ty "tuple"))) aNil))))) (cOr (cVal (gBin dEq (gCB dLen (aCons (gVar 0) aNil)) (gC (.int 0)))) (cNot (cVal (gCB dIsi (aCons (gBin dIx (gVar 0) (gC (.int 0))) (aCons (gC (.cls (.ty "str"))) aNil)))))))) (sRet (gC .non)) sNx)
  (sSeq (sIf (cVal (gBin (dIn false) (gBin dIx (gVar 0) (gC (.int 0))) (gC (.tup [.str "open", .str "closed"])))) (sRet (gIf (cAnd (cVal (gBin dEq (gCB dLen (aCons (gVar 0) aNil)) (gC (.int 2)))) (cVal (gCall S_is_integer [] (aCons (gBin dIx (gVar 0) (gC (.int 1))) (aCons (gC (.int 0)) (aCons (gBin dSub (gC (.int 24)) (gC (.int 1))) aNil)))))) (gC (.int 1)) (gC .non))) sNx)
  (sSeq (sIf (cVal (gBin (dIn false) (gBin dIx (gVar 0) (gC (.int 0))) (gC (.tup [.str "all", .str "none"])))) (sRet (gIf (cVal (gBin dEq (gCB dLen (aCons (gVar 0) aNil)) (gC (.int 1)))) (gC (.int 1)) (gC .non))) sNx)
  (sSeq (sSet 2 (gIf (cVal (gBin (dIn false) (gBin dIx (gVar 0) (gC (.int 0))) (gC (.tup [.str "and", .str "or"])))) (gC (.int 2)) (gC (.int 1))))
  (sSeq (sIf (cOr (cAnd (cVal (gBin dNe (gBin dIx (gVar 0) (gC (.int 0))) (gC (.str "not")))) (cVal (gBin (dIn true) (gBin dIx (gVar 0) (gC (.int 0))) (gC (.tup [.str "and", .str "or"]))))) (cVal (gBin dNe (gCB dLen (aCons (gVar 0) aNil)) (gBin dAdd (gC (.int 1)) (gVar 2))))) (sRet (gC .non)) sNx)
  (sSeq (sSet 3 (gLc (iSeq (gSl (gVar 0) (oSome (gC (.int 1))) oNo)) (nName 4) cYes (gCall S [] (aCons (gVar 4) (aCons (gBin dSub (gVar 1) (gC (.int 1))) aNil))) [4]))
  (sRet (gIf (cVal (gBin (dIn false) (gC .non) (gVar 3))) (gC .non) (gBin dAdd (gC (.int 1)) (gCB dSum (aCons (gVar 3) aNil)))))))))))
theorem lift_size_in (r : Nat) (F : FnG P w K mg base k f fd ["value", "room"] (wpS ["value", "room"] ["value", "room", "many", "sizes", "part"] (g_size_in (RS S_size_in r)))) : FnG P w K mg base k f fd ["value", "room"] (S_size_in r) := F.imp fun ds m Q E h => by
  obtain ⟨d, room, n, rfl, h1, h2, hd, q⟩ := h
  refine ⟨rfl, ?_⟩
  have fl : flt (.int (room : Nat)) = true := flt_int (by omega) (by omega)
  have r0 : room = 0 → Q .non m := fun z => by subst z; simpa [szR, oI] using q
  have hk := okd_hdk (okw_okd _ _ hd)
  have non : szR room d = none → Q .non m := fun z => by rw [z] at q; exact q
  by_cases ht : ∃ ds, d = .tup ds
  · obtain ⟨ds, rfl⟩ := ht
    obtain ⟨n, rfl, hlen0, hds⟩ := okw_tup hd
    have hl : flt (.int (ds.length : Nat)) = true := flt_int (by omega) (by omega)
    simp only [g_size_in, ↓reduceIte, ↓u_sNx, ↓u_sSeq, ↓u_nx, ↓u_rt, ↓u_bk, ↓u_ct, ↓u_sBreak, ↓u_sCont, ↓u_sDrop, ↓u_sRet, ↓u_sRetN, ↓u_sIf, ↓u_sAsg, ↓u_gC, ↓u_aNil, ↓u_aCons, ↓u_gTup, ↓u_gLst, ↓u_gLstM, ↓u_gBin, ↓u_cVal, ↓u_onBl, ↓u_onInt, ↓u_onStr, ↓u_gChain, ↓u_cAnd, ↓u_cOr, ↓u_cNot, ↓u_gAnd, ↓u_gOr, ↓u_gNot, ↓u_gIf, ↓u_gNeg, ↓u_nNil, ↓u_nCons, ↓u_nTup, ↓u_nSub, ↓u_gCB, ↓u_gCall, ↓u_gM0, ↓u_gM1, ↓u_gL, ↓u_gL0, ↓u_oNo, ↓u_oSome, ↓u_gSl, ↓u_cYes, ↓u_on1, ↓u_on2, ↓u_dInt, ↓u_dInt0, ↓u_gLc, ↓u_gLcM, ↓u_gLc2, ↓u_sNever, ↓u_iEnS, ↓u_iEnL, ↓u_iEnumD, ↓u_iZipD, ↓u_zipS, ↓u_zipL, ↓u_iSeq, ↓u_iRange1, ↓u_iRange2, ↓u_sWhile, ↓u_iRange3, ↓u_on3, ↓u_sFor, ↓u_dMax2, ↓u_dMin2, ↓u_gDct0, ↓u_gVar0, ↓u_sSet0, ↓u_nName0, ↓u_gVar1, ↓u_sSet1, ↓u_nName1, ↓u_gVar2, ↓u_sSet2, ↓u_nName2, ↓u_gVar3, ↓u_sSet3, ↓u_nName3, ↓u_gVar4, ↓u_sSet4, ↓u_nName4, ↓u_gVar5, ↓u_sSet5, ↓u_nName5, ↓u_gVar6, ↓u_sSet6, ↓u_nName6, ↓u_gVar7, ↓u_sSet7, ↓u_nName7, ↓u_gVar8, ↓u_sSet8, ↓u_nName8, ↓u_gVar9, ↓u_sSet9, ↓u_nName9, ↓u_gVar10, ↓u_sSet10, ↓u_nName10, ↓u_gVar11, ↓u_sSet11, ↓u_nName11, ↓u_gVar12, ↓u_sSet12, ↓u_nName12, ↓u_gVar13, ↓u_sSet13, ↓u_nName13, ↓u_gVar14, ↓u_sSet14, ↓u_nName14, ↓u_gVar15, ↓u_sSet15, ↓u_nName15, ↓u_gVar16, ↓u_sSet16, ↓u_nName16, ↓u_gVar17, ↓u_sSet17, ↓u_nName17, ↓dToInt_int, ↓dToInt_bl, ↓dListU_lst, ↓dListU_tup, ↓dListU_str, ↓dListUM_lst, ↓dListUM_tup, ↓dListUM_str, ↓dTuple_lst, ↓dTuple_tup, ↓dIn_lst, ↓dIn_tup, ↓dSl_str, ↓dSl_lst, ↓dSl_tup, ↓dAdd_int, ↓dAdd_str, ↓dAdd_lst, ↓dAdd_tup, ↓dMul_int, ↓dMul_str, ↓dMul_lst, ↓dIx_lst, ↓dIx_ro, ↓dIx_tup, ↓dIx_str, ↓onSome_some, ↓dLen_lst, ↓dLen_tup, ↓dLen_str, ↓dLen_ro, ↓dLen_dct, ↓items_str, ↓items_lst, ↓items_tup, ↓items_ro, ↓dAll_lst, ↓dAny_lst, ↓dSum_lst, ↓dIsi_ty, ↓dIsi_tup, ↓dIn_str, ↓onSeq_lst, ↓onSeq_tup, ↓dIs_bb, ↓dStrI_i, ↓dIsW_bb, ↓dIsW_ib, ↓dIsW_sb, ↓dIsW_nb, ↓dIsW_lb, ↓dIsW_tb, ↓dIsW_db, ↓dIsW_nn, ↓dIsW_in, ↓dIsW_sn, ↓dIsW_ln, ↓dIsW_tn, ↓dEq_ii, ↓dEq_ss, ↓dNe_ii, ↓dNe_ss, ↓dEq_nil, ↓dNe_nil, ↓dEq_bb, ↓dNe_bb, List.append_nil, List.nil_append, List.cons_append, startD, List.map_cons, List.map_nil, List.length_cons, List.length_nil, Nat.sub_self, List.replicate_zero, List.replicate_succ, List.set_cons_zero, List.set_cons_succ, List.getElem?_cons_zero, List.getElem?_cons_succ, atI_lit, vw_int, vw_str, vw_bl, vw_non, vw_lst, vw_tup, vw_dct, vw_ro, vw_obj, vw_cls, Nat.reduceAdd, Nat.reduceSub, Int.reduceToNat, Int.reduceNeg, Int.reducePow, Int.reduceAdd, Int.reduceSub, Int.reduceMul, ixN_lit, decide_eq_true_eq, decide_eq_false_iff_not, if_true, if_false, Bool.false_eq_true, Bool.not_true, Bool.not_false, Nat.reduceLT, Nat.reduceLeDiff, Int.reduceLT, Int.reduceLE, true_and, and_true, and_self, ite_true, ite_false, kind_int, kind_bl, kind_non, kind_str, kind_lst, kind_tup, kind_dct, clsAll_lt, all_lt, any_lt_l, any_lt_t, any_lt_s, any_lt_i, any_lt_b, any_lt_n, any_lt_d, kc_int, kc_bool, kc_str, kc_list, kc_tuple, kc_dict, isiT, String.reduceBEq, Bool.or_false, Bool.or_true, Bool.false_or, Bool.true_or, Bool.and_false, Bool.false_and, Bool.and_true, Bool.true_and, wipeD, Bool.not_eq_true, Bool.not_eq_false, Bool.not_eq_eq_eq_not, Bool.not_not, Bool.false_bne, Bool.true_bne, dJoin, onSome_some, sizeLine_eq, Mu.put_same, put_put, Nat.zero_le, decide_true, decide_false, flt_litc, fld_str, fld_int, fld_bl, fld_non, List.all_cons, List.all_nil, reduceCtorEq, strOk_of, eqd_int, eqd_str, eqd_bl, eqd_lst0, eqd_lst1, eqd_lst2, eqd_lst3, eqd_tup0, eqd_tup1, eqd_tup2, eqd_tup3, flt_bl, flt_non]
    refine ⟨fl, iteI (fun hr => r0 (by omega)) fun hr => ?_⟩
    obtain ⟨room, rfl⟩ : ∃ k, room = k + 1 := ⟨room - 1, by omega⟩
    refine ⟨hl, ?_⟩
    cases ds with
    | nil => exact non rfl
    | cons x as =>
      simp only [↓reduceIte, ↓u_sNx, ↓u_sSeq, ↓u_nx, ↓u_rt, ↓u_bk, ↓u_ct, ↓u_sBreak, ↓u_sCont, ↓u_sDrop, ↓u_sRet, ↓u_sRetN, ↓u_sIf, ↓u_sAsg, ↓u_gC, ↓u_aNil, ↓u_aCons, ↓u_gTup, ↓u_gLst, ↓u_gLstM, ↓u_gBin, ↓u_cVal, ↓u_onBl, ↓u_onInt, ↓u_onStr, ↓u_gChain, ↓u_cAnd, ↓u_cOr, ↓u_cNot, ↓u_gAnd, ↓u_gOr, ↓u_gNot, ↓u_gIf, ↓u_gNeg, ↓u_nNil, ↓u_nCons, ↓u_nTup, ↓u_nSub, ↓u_gCB, ↓u_gCall, ↓u_gM0, ↓u_gM1, ↓u_gL, ↓u_gL0, ↓u_oNo, ↓u_oSome, ↓u_gSl, ↓u_cYes, ↓u_on1, ↓u_on2, ↓u_dInt, ↓u_dInt0, ↓u_gLc, ↓u_gLcM, ↓u_gLc2, ↓u_sNever, ↓u_iEnS, ↓u_iEnL, ↓u_iEnumD, ↓u_iZipD, ↓u_zipS, ↓u_zipL, ↓u_iSeq, ↓u_iRange1, ↓u_iRange2, ↓u_sWhile, ↓u_iRange3, ↓u_on3, ↓u_sFor, ↓u_dMax2, ↓u_dMin2, ↓u_gDct0, ↓u_gVar0, ↓u_sSet0, ↓u_nName0, ↓u_gVar1, ↓u_sSet1, ↓u_nName1, ↓u_gVar2, ↓u_sSet2, ↓u_nName2, ↓u_gVar3, ↓u_sSet3, ↓u_nName3, ↓u_gVar4, ↓u_sSet4, ↓u_nName4, ↓u_gVar5, ↓u_sSet5, ↓u_nName5, ↓u_gVar6, ↓u_sSet6, ↓u_nName6, ↓u_gVar7, ↓u_sSet7, ↓u_nName7, ↓u_gVar8, ↓u_sSet8, ↓u_nName8, ↓u_gVar9, ↓u_sSet9, ↓u_nName9, ↓u_gVar10, ↓u_sSet10, ↓u_nName10, ↓u_gVar11, ↓u_sSet11, ↓u_nName11, ↓u_gVar12, ↓u_sSet12, ↓u_nName12, ↓u_gVar13, ↓u_sSet13, ↓u_nName13, ↓u_gVar14, ↓u_sSet14, ↓u_nName14, ↓u_gVar15, ↓u_sSet15, ↓u_nName15, ↓u_gVar16, ↓u_sSet16, ↓u_nName16, ↓u_gVar17, ↓u_sSet17, ↓u_nName17, ↓dToInt_int, ↓dToInt_bl, ↓dListU_lst, ↓dListU_tup, ↓dListU_str, ↓dListUM_lst, ↓dListUM_tup, ↓dListUM_str, ↓dTuple_lst, ↓dTuple_tup, ↓dIn_lst, ↓dIn_tup, ↓dSl_str, ↓dSl_lst, ↓dSl_tup, ↓dAdd_int, ↓dAdd_str, ↓dAdd_lst, ↓dAdd_tup, ↓dMul_int, ↓dMul_str, ↓dMul_lst, ↓dIx_lst, ↓dIx_ro, ↓dIx_tup, ↓dIx_str, ↓onSome_some, ↓dLen_lst, ↓dLen_tup, ↓dLen_str, ↓dLen_ro, ↓dLen_dct, ↓items_str, ↓items_lst, ↓items_tup, ↓items_ro, ↓dAll_lst, ↓dAny_lst, ↓dSum_lst, ↓dIsi_ty, ↓dIsi_tup, ↓dIn_str, ↓onSeq_lst, ↓onSeq_tup, ↓dIs_bb, ↓dStrI_i, ↓dIsW_bb, ↓dIsW_ib, ↓dIsW_sb, ↓dIsW_nb, ↓dIsW_lb, ↓dIsW_tb, ↓dIsW_db, ↓dIsW_nn, ↓dIsW_in, ↓dIsW_sn, ↓dIsW_ln, ↓dIsW_tn, ↓dEq_ii, ↓dEq_ss, ↓dNe_ii, ↓dNe_ss, ↓dEq_nil, ↓dNe_nil, ↓dEq_bb, ↓dNe_bb, List.append_nil, List.nil_append, List.cons_append, startD, List.map_cons, List.map_nil, List.length_cons, List.length_nil, Nat.sub_self, List.replicate_zero, List.replicate_succ, List.set_cons_zero, List.set_cons_succ, List.getElem?_cons_zero, List.getElem?_cons_succ, atI_lit, vw_int, vw_str, vw_bl, vw_non, vw_lst, vw_tup, vw_dct, vw_ro, vw_obj, vw_cls, Nat.reduceAdd, Nat.reduceSub, Int.reduceToNat, Int.reduceNeg, Int.reducePow, Int.reduceAdd, Int.reduceSub, Int.reduceMul, ixN_lit, decide_eq_true_eq, decide_eq_false_iff_not, if_true, if_false, Bool.false_eq_true, Bool.not_true, Bool.not_false, Nat.reduceLT, Nat.reduceLeDiff, Int.reduceLT, Int.reduceLE, true_and, and_true, and_self, ite_true, ite_false, kind_int, kind_bl, kind_non, kind_str, kind_lst, kind_tup, kind_dct, clsAll_lt, all_lt, any_lt_l, any_lt_t, any_lt_s, any_lt_i, any_lt_b, any_lt_n, any_lt_d, kc_int, kc_bool, kc_str, kc_list, kc_tuple, kc_dict, isiT, String.reduceBEq, Bool.or_false, Bool.or_true, Bool.false_or, Bool.true_or, Bool.and_false, Bool.false_and, Bool.and_true, Bool.true_and, wipeD, Bool.not_eq_true, Bool.not_eq_false, Bool.not_eq_eq_eq_not, Bool.not_not, Bool.false_bne, Bool.true_bne, dJoin, onSome_some, sizeLine_eq, Mu.put_same, put_put, Nat.zero_le, decide_true, decide_false, flt_litc, fld_str, fld_int, fld_bl, fld_non, List.all_cons, List.all_nil, reduceCtorEq, strOk_of, eqd_int, eqd_str, eqd_bl, eqd_lst0, eqd_lst1, eqd_lst2, eqd_lst3, eqd_tup0, eqd_tup1, eqd_tup2, eqd_tup3, flt_bl, flt_non]
      have hx := hds x List.mem_cons_self
      have hxk := okd_hdk (okw_okd _ _ hx)
      rw [if_neg (show ¬ (((as.length + 1 : Nat) : Int) = 0) by omega)]
      by_cases hs : ∃ w, x = .str w
      · obtain ⟨w, rfl⟩ := hs
        simp only [↓reduceIte, ↓u_sNx, ↓u_sSeq, ↓u_nx, ↓u_rt, ↓u_bk, ↓u_ct, ↓u_sBreak, ↓u_sCont, ↓u_sDrop, ↓u_sRet, ↓u_sRetN, ↓u_sIf, ↓u_sAsg, ↓u_gC, ↓u_aNil, ↓u_aCons, ↓u_gTup, ↓u_gLst, ↓u_gLstM, ↓u_gBin, ↓u_cVal, ↓u_onBl, ↓u_onInt, ↓u_onStr, ↓u_gChain, ↓u_cAnd, ↓u_cOr, ↓u_cNot, ↓u_gAnd, ↓u_gOr, ↓u_gNot, ↓u_gIf, ↓u_gNeg, ↓u_nNil, ↓u_nCons, ↓u_nTup, ↓u_nSub, ↓u_gCB, ↓u_gCall, ↓u_gM0, ↓u_gM1, ↓u_gL, ↓u_gL0, ↓u_oNo, ↓u_oSome, ↓u_gSl, ↓u_cYes, ↓u_on1, ↓u_on2, ↓u_dInt, ↓u_dInt0, ↓u_gLc, ↓u_gLcM, ↓u_gLc2, ↓u_sNever, ↓u_iEnS, ↓u_iEnL, ↓u_iEnumD, ↓u_iZipD, ↓u_zipS, ↓u_zipL, ↓u_iSeq, ↓u_iRange1, ↓u_iRange2, ↓u_sWhile, ↓u_iRange3, ↓u_on3, ↓u_sFor, ↓u_dMax2, ↓u_dMin2, ↓u_gDct0, ↓u_gVar0, ↓u_sSet0, ↓u_nName0, ↓u_gVar1, ↓u_sSet1, ↓u_nName1, ↓u_gVar2, ↓u_sSet2, ↓u_nName2, ↓u_gVar3, ↓u_sSet3, ↓u_nName3, ↓u_gVar4, ↓u_sSet4, ↓u_nName4, ↓u_gVar5, ↓u_sSet5, ↓u_nName5, ↓u_gVar6, ↓u_sSet6, ↓u_nName6, ↓u_gVar7, ↓u_sSet7, ↓u_nName7, ↓u_gVar8, ↓u_sSet8, ↓u_nName8, ↓u_gVar9, ↓u_sSet9, ↓u_nName9, ↓u_gVar10, ↓u_sSet10, ↓u_nName10, ↓u_gVar11, ↓u_sSet11, ↓u_nName11, ↓u_gVar12, ↓u_sSet12, ↓u_nName12, ↓u_gVar13, ↓u_sSet13, ↓u_nName13, ↓u_gVar14, ↓u_sSet14, ↓u_nName14, ↓u_gVar15, ↓u_sSet15, ↓u_nName15, ↓u_gVar16, ↓u_sSet16, ↓u_nName16, ↓u_gVar17, ↓u_sSet17, ↓u_nName17, ↓dToInt_int, ↓dToInt_bl, ↓dListU_lst, ↓dListU_tup, ↓dListU_str, ↓dListUM_lst, ↓dListUM_tup, ↓dListUM_str, ↓dTuple_lst, ↓dTuple_tup, ↓dIn_lst, ↓dIn_tup, ↓dSl_str, ↓dSl_lst, ↓dSl_tup, ↓dAdd_int, ↓dAdd_str, ↓dAdd_lst, ↓dAdd_tup, ↓dMul_int, ↓dMul_str, ↓dMul_lst, ↓dIx_lst, ↓dIx_ro, ↓dIx_tup, ↓dIx_str, ↓onSome_some, ↓dLen_lst, ↓dLen_tup, ↓dLen_str, ↓dLen_ro, ↓dLen_dct, ↓items_str, ↓items_lst, ↓items_tup, ↓items_ro, ↓dAll_lst, ↓dAny_lst, ↓dSum_lst, ↓dIsi_ty, ↓dIsi_tup, ↓dIn_str, ↓onSeq_lst, ↓onSeq_tup, ↓dIs_bb, ↓dStrI_i, ↓dIsW_bb, ↓dIsW_ib, ↓dIsW_sb, ↓dIsW_nb, ↓dIsW_lb, ↓dIsW_tb, ↓dIsW_db, ↓dIsW_nn, ↓dIsW_in, ↓dIsW_sn, ↓dIsW_ln, ↓dIsW_tn, ↓dEq_ii, ↓dEq_ss, ↓dNe_ii, ↓dNe_ss, ↓dEq_nil, ↓dNe_nil, ↓dEq_bb, ↓dNe_bb, List.append_nil, List.nil_append, List.cons_append, startD, List.map_cons, List.map_nil, List.length_cons, List.length_nil, Nat.sub_self, List.replicate_zero, List.replicate_succ, List.set_cons_zero, List.set_cons_succ, List.getElem?_cons_zero, List.getElem?_cons_succ, atI_lit, vw_int, vw_str, vw_bl, vw_non, vw_lst, vw_tup, vw_dct, vw_ro, vw_obj, vw_cls, Nat.reduceAdd, Nat.reduceSub, Int.reduceToNat, Int.reduceNeg, Int.reducePow, Int.reduceAdd, Int.reduceSub, Int.reduceMul, ixN_lit, decide_eq_true_eq, decide_eq_false_iff_not, if_true, if_false, Bool.false_eq_true, Bool.not_true, Bool.not_false, Nat.reduceLT, Nat.reduceLeDiff, Int.reduceLT, Int.reduceLE, true_and, and_true, and_self, ite_true, ite_false, kind_int, kind_bl, kind_non, kind_str, kind_lst, kind_tup, kind_dct, clsAll_lt, all_lt, any_lt_l, any_lt_t, any_lt_s, any_lt_i, any_lt_b, any_lt_n, any_lt_d, kc_int, kc_bool, kc_str, kc_list, kc_tuple, kc_dict, isiT, String.reduceBEq, Bool.or_false, Bool.or_true, Bool.false_or, Bool.true_or, Bool.and_false, Bool.false_and, Bool.and_true, Bool.true_and, wipeD, Bool.not_eq_true, Bool.not_eq_false, Bool.not_eq_eq_eq_not, Bool.not_not, Bool.false_bne, Bool.true_bne, dJoin, onSome_some, sizeLine_eq, Mu.put_same, put_put, Nat.zero_le, decide_true, decide_false, flt_litc, fld_str, fld_int, fld_bl, fld_non, List.all_cons, List.all_nil, reduceCtorEq, strOk_of, eqd_int, eqd_str, eqd_bl, eqd_lst0, eqd_lst1, eqd_lst2, eqd_lst3, eqd_tup0, eqd_tup1, eqd_tup2, eqd_tup3, flt_bl, flt_non, inD2, fld2]
        refine iteI (fun hw => ?_) fun hw => ?_
        · refine ⟨hl, iteI (fun h2 => ?_) fun h2 => ?_⟩
          · cases as with
            | nil => simp at h2
            | cons d r =>
              cases r with
              | cons _ _ => simp at h2; omega
              | nil =>
                simp only [↓reduceIte, ↓u_sNx, ↓u_sSeq, ↓u_nx, ↓u_rt, ↓u_bk, ↓u_ct, ↓u_sBreak, ↓u_sCont, ↓u_sDrop, ↓u_sRet, ↓u_sRetN, ↓u_sIf, ↓u_sAsg, ↓u_gC, ↓u_aNil, ↓u_aCons, ↓u_gTup, ↓u_gLst, ↓u_gLstM, ↓u_gBin, ↓u_cVal, ↓u_onBl, ↓u_onInt, ↓u_onStr, ↓u_gChain, ↓u_cAnd, ↓u_cOr, ↓u_cNot, ↓u_gAnd, ↓u_gOr, ↓u_gNot, ↓u_gIf, ↓u_gNeg, ↓u_nNil, ↓u_nCons, ↓u_nTup, ↓u_nSub, ↓u_gCB, ↓u_gCall, ↓u_gM0, ↓u_gM1, ↓u_gL, ↓u_gL0, ↓u_oNo, ↓u_oSome, ↓u_gSl, ↓u_cYes, ↓u_on1, ↓u_on2, ↓u_dInt, ↓u_dInt0, ↓u_gLc, ↓u_gLcM, ↓u_gLc2, ↓u_sNever, ↓u_iEnS, ↓u_iEnL, ↓u_iEnumD, ↓u_iZipD, ↓u_zipS, ↓u_zipL, ↓u_iSeq, ↓u_iRange1, ↓u_iRange2, ↓u_sWhile, ↓u_iRange3, ↓u_on3, ↓u_sFor, ↓u_dMax2, ↓u_dMin2, ↓u_gDct0, ↓u_gVar0, ↓u_sSet0, ↓u_nName0, ↓u_gVar1, ↓u_sSet1, ↓u_nName1, ↓u_gVar2, ↓u_sSet2, ↓u_nName2, ↓u_gVar3, ↓u_sSet3, ↓u_nName3, ↓u_gVar4, ↓u_sSet4, ↓u_nName4, ↓u_gVar5, ↓u_sSet5, ↓u_nName5, ↓u_gVar6, ↓u_sSet6, ↓u_nName6, ↓u_gVar7, ↓u_sSet7, ↓u_nName7, ↓u_gVar8, ↓u_sSet8, ↓u_nName8, ↓u_gVar9, ↓u_sSet9, ↓u_nName9, ↓u_gVar10, ↓u_sSet10, ↓u_nName10, ↓u_gVar11, ↓u_sSet11, ↓u_nName11, ↓u_gVar12, ↓u_sSet12, ↓u_nName12, ↓u_gVar13, ↓u_sSet13, ↓u_nName13, ↓u_gVar14, ↓u_sSet14, ↓u_nName14, ↓u_gVar15, ↓u_sSet15, ↓u_nName15, ↓u_gVar16, ↓u_sSet16, ↓u_nName16, ↓u_gVar17, ↓u_sSet17, ↓u_nName17, ↓dToInt_int, ↓dToInt_bl, ↓dListU_lst, ↓dListU_tup, ↓dListU_str, ↓dListUM_lst, ↓dListUM_tup, ↓dListUM_str, ↓dTuple_lst, ↓dTuple_tup, ↓dIn_lst, ↓dIn_tup, ↓dSl_str, ↓dSl_lst, ↓dSl_tup, ↓dAdd_int, ↓dAdd_str, ↓dAdd_lst, ↓dAdd_tup, ↓dMul_int, ↓dMul_str, ↓dMul_lst, ↓dIx_lst, ↓dIx_ro, ↓dIx_tup, ↓dIx_str, ↓onSome_some, ↓dLen_lst, ↓dLen_tup, ↓dLen_str, ↓dLen_ro, ↓dLen_dct, ↓items_str, ↓items_lst, ↓items_tup, ↓items_ro, ↓dAll_lst, ↓dAny_lst, ↓dSum_lst, ↓dIsi_ty, ↓dIsi_tup, ↓dIn_str, ↓onSeq_lst, ↓onSeq_tup, ↓dIs_bb, ↓dStrI_i, ↓dIsW_bb, ↓dIsW_ib, ↓dIsW_sb, ↓dIsW_nb, ↓dIsW_lb, ↓dIsW_tb, ↓dIsW_db, ↓dIsW_nn, ↓dIsW_in, ↓dIsW_sn, ↓dIsW_ln, ↓dIsW_tn, ↓dEq_ii, ↓dEq_ss, ↓dNe_ii, ↓dNe_ss, ↓dEq_nil, ↓dNe_nil, ↓dEq_bb, ↓dNe_bb, List.append_nil, List.nil_append, List.cons_append, startD, List.map_cons, List.map_nil, List.length_cons, List.length_nil, Nat.sub_self, List.replicate_zero, List.replicate_succ, List.set_cons_zero, List.set_cons_succ, List.getElem?_cons_zero, List.getElem?_cons_succ, atI_lit, vw_int, vw_str, vw_bl, vw_non, vw_lst, vw_tup, vw_dct, vw_ro, vw_obj, vw_cls, Nat.reduceAdd, Nat.reduceSub, Int.reduceToNat, Int.reduceNeg, Int.reducePow, Int.reduceAdd, Int.reduceSub, Int.reduceMul, ixN_lit, decide_eq_true_eq, decide_eq_false_iff_not, if_true, if_false, Bool.false_eq_true, Bool.not_true, Bool.not_false, Nat.reduceLT, Nat.reduceLeDiff, Int.reduceLT, Int.reduceLE, true_and, and_true, and_self, ite_true, ite_false, kind_int, kind_bl, kind_non, kind_str, kind_lst, kind_tup, kind_dct, clsAll_lt, all_lt, any_lt_l, any_lt_t, any_lt_s, any_lt_i, any_lt_b, any_lt_n, any_lt_d, kc_int, kc_bool, kc_str, kc_list, kc_tuple, kc_dict, isiT, String.reduceBEq, Bool.or_false, Bool.or_true, Bool.false_or, Bool.true_or, Bool.and_false, Bool.false_and, Bool.and_true, Bool.true_and, wipeD, Bool.not_eq_true, Bool.not_eq_false, Bool.not_eq_eq_eq_not, Bool.not_not, Bool.false_bne, Bool.true_bne, dJoin, onSome_some, sizeLine_eq, Mu.put_same, put_put, Nat.zero_le, decide_true, decide_false, flt_litc, fld_str, fld_int, fld_bl, fld_non, List.all_cons, List.all_nil, reduceCtorEq, strOk_of, eqd_int, eqd_str, eqd_bl, eqd_lst0, eqd_lst1, eqd_lst2, eqd_lst3, eqd_tup0, eqd_tup1, eqd_tup2, eqd_tup3, flt_bl, flt_non]
                have hdd := okd_hdk (okw_okd _ _ (hds d (by simp)))
                refine ⟨_, _, _, rfl, hdd, ?_⟩
                simp only [↓reduceIte, ↓u_sNx, ↓u_sSeq, ↓u_nx, ↓u_rt, ↓u_bk, ↓u_ct, ↓u_sBreak, ↓u_sCont, ↓u_sDrop, ↓u_sRet, ↓u_sRetN, ↓u_sIf, ↓u_sAsg, ↓u_gC, ↓u_aNil, ↓u_aCons, ↓u_gTup, ↓u_gLst, ↓u_gLstM, ↓u_gBin, ↓u_cVal, ↓u_onBl, ↓u_onInt, ↓u_onStr, ↓u_gChain, ↓u_cAnd, ↓u_cOr, ↓u_cNot, ↓u_gAnd, ↓u_gOr, ↓u_gNot, ↓u_gIf, ↓u_gNeg, ↓u_nNil, ↓u_nCons, ↓u_nTup, ↓u_nSub, ↓u_gCB, ↓u_gCall, ↓u_gM0, ↓u_gM1, ↓u_gL, ↓u_gL0, ↓u_oNo, ↓u_oSome, ↓u_gSl, ↓u_cYes, ↓u_on1, ↓u_on2, ↓u_dInt, ↓u_dInt0, ↓u_gLc, ↓u_gLcM, ↓u_gLc2, ↓u_sNever, ↓u_iEnS, ↓u_iEnL, ↓u_iEnumD, ↓u_iZipD, ↓u_zipS, ↓u_zipL, ↓u_iSeq, ↓u_iRange1, ↓u_iRange2, ↓u_sWhile, ↓u_iRange3, ↓u_on3, ↓u_sFor, ↓u_dMax2, ↓u_dMin2, ↓u_gDct0, ↓u_gVar0, ↓u_sSet0, ↓u_nName0, ↓u_gVar1, ↓u_sSet1, ↓u_nName1, ↓u_gVar2, ↓u_sSet2, ↓u_nName2, ↓u_gVar3, ↓u_sSet3, ↓u_nName3, ↓u_gVar4, ↓u_sSet4, ↓u_nName4, ↓u_gVar5, ↓u_sSet5, ↓u_nName5, ↓u_gVar6, ↓u_sSet6, ↓u_nName6, ↓u_gVar7, ↓u_sSet7, ↓u_nName7, ↓u_gVar8, ↓u_sSet8, ↓u_nName8, ↓u_gVar9, ↓u_sSet9, ↓u_nName9, ↓u_gVar10, ↓u_sSet10, ↓u_nName10, ↓u_gVar11, ↓u_sSet11, ↓u_nName11, ↓u_gVar12, ↓u_sSet12, ↓u_nName12, ↓u_gVar13, ↓u_sSet13, ↓u_nName13, ↓u_gVar14, ↓u_sSet14, ↓u_nName14, ↓u_gVar15, ↓u_sSet15, ↓u_nName15, ↓u_gVar16, ↓u_sSet16, ↓u_nName16, ↓u_gVar17, ↓u_sSet17, ↓u_nName17, ↓dToInt_int, ↓dToInt_bl, ↓dListU_lst, ↓dListU_tup, ↓dListU_str, ↓dListUM_lst, ↓dListUM_tup, ↓dListUM_str, ↓dTuple_lst, ↓dTuple_tup, ↓dIn_lst, ↓dIn_tup, ↓dSl_str, ↓dSl_lst, ↓dSl_tup, ↓dAdd_int, ↓dAdd_str, ↓dAdd_lst, ↓dAdd_tup, ↓dMul_int, ↓dMul_str, ↓dMul_lst, ↓dIx_lst, ↓dIx_ro, ↓dIx_tup, ↓dIx_str, ↓onSome_some, ↓dLen_lst, ↓dLen_tup, ↓dLen_str, ↓dLen_ro, ↓dLen_dct, ↓items_str, ↓items_lst, ↓items_tup, ↓items_ro, ↓dAll_lst, ↓dAny_lst, ↓dSum_lst, ↓dIsi_ty, ↓dIsi_tup, ↓dIn_str, ↓onSeq_lst, ↓onSeq_tup, ↓dIs_bb, ↓dStrI_i, ↓dIsW_bb, ↓dIsW_ib, ↓dIsW_sb, ↓dIsW_nb, ↓dIsW_lb, ↓dIsW_tb, ↓dIsW_db, ↓dIsW_nn, ↓dIsW_in, ↓dIsW_sn, ↓dIsW_ln, ↓dIsW_tn, ↓dEq_ii, ↓dEq_ss, ↓dNe_ii, ↓dNe_ss, ↓dEq_nil, ↓dNe_nil, ↓dEq_bb, ↓dNe_bb, List.append_nil, List.nil_append, List.cons_append, startD, List.map_cons, List.map_nil, List.length_cons, List.length_nil, Nat.sub_self, List.replicate_zero, List.replicate_succ, List.set_cons_zero, List.set_cons_succ, List.getElem?_cons_zero, List.getElem?_cons_succ, atI_lit, vw_int, vw_str, vw_bl, vw_non, vw_lst, vw_tup, vw_dct, vw_ro, vw_obj, vw_cls, Nat.reduceAdd, Nat.reduceSub, Int.reduceToNat, Int.reduceNeg, Int.reducePow, Int.reduceAdd, Int.reduceSub, Int.reduceMul, ixN_lit, decide_eq_true_eq, decide_eq_false_iff_not, if_true, if_false, Bool.false_eq_true, Bool.not_true, Bool.not_false, Nat.reduceLT, Nat.reduceLeDiff, Int.reduceLT, Int.reduceLE, true_and, and_true, and_self, ite_true, ite_false, kind_int, kind_bl, kind_non, kind_str, kind_lst, kind_tup, kind_dct, clsAll_lt, all_lt, any_lt_l, any_lt_t, any_lt_s, any_lt_i, any_lt_b, any_lt_n, any_lt_d, kc_int, kc_bool, kc_str, kc_list, kc_tuple, kc_dict, isiT, String.reduceBEq, Bool.or_false, Bool.or_true, Bool.false_or, Bool.true_or, Bool.and_false, Bool.false_and, Bool.and_true, Bool.true_and, wipeD, Bool.not_eq_true, Bool.not_eq_false, Bool.not_eq_eq_eq_not, Bool.not_not, Bool.false_bne, Bool.true_bne, dJoin, onSome_some, sizeLine_eq, Mu.put_same, put_put, Nat.zero_le, decide_true, decide_false, flt_litc, fld_str, fld_int, fld_bl, fld_non, List.all_cons, List.all_nil, reduceCtorEq, strOk_of, eqd_int, eqd_str, eqd_bl, eqd_lst0, eqd_lst1, eqd_lst2, eqd_lst3, eqd_tup0, eqd_tup1, eqd_tup2, eqd_tup3, flt_bl, flt_non]
                have e : szR (room + 1) (.tup [.str w, d]) = if isIntB d 0 23 = true then some 1 else none := by
                  simp only [szR]; rw [if_pos hw]
                rw [e] at q
                cases h : isIntB d 0 23 <;> rw [h] at q <;> exact q
          · refine non ?_
            simp only [szR]
            rw [if_pos hw]
            cases as with
            | nil => rfl
            | cons d r =>
              cases r with
              | nil => exact absurd rfl h2
              | cons _ _ => rfl
        have so : PyData.strOk w = true := okd_strOk (okw_okd _ _ hx)
        have rest : ∀ k : Nat, (as.length + 1 = k → szR (room + 1) (.tup (.str w :: as)) = (szAll room as).map fun y => 1 + y) → (as.length + 1 ≠ k → szR (room + 1) (.tup (.str w :: as)) = none) → (2 ≤ k ∧ k ≤ 3) →
            ∀ x2, (if ¬ (((as.length + 1 : Nat) : Int) = (k : Int)) then Q .non m else ∀ a, m a = none → lcG (nName 4) cYes (gCall (RS S_size_in r) [] (aCons (gVar 4) (aCons (gBin dSub (gVar 1) (gC (.int 1))) aNil))) (fun _ => True) a
              [some (.tup (.str w :: as)), some (.int ((room + 1 : Nat) : Int)), some x2, none, none] (fun d m2 => dIn false .non d m2 fun d_1 m2 => onBl d_1 fun b => if b = true then Q .non m2 else dSum [d] m2 fun y m2 => dAdd (.int 1) y m2 Q) (cutD (.str w :: as) (some 1) none) [] (m.put a (some (.lst [])))) := fun k e1 e2 hk x2 => by
          refine iteI (fun hn => non (e2 (by omega))) fun hn => ?_
          have hlen : as.length + 1 = k := by omega
          have e := e1 hlen
          rw [cut1]
          refine lc_map (fun d => oI (szR room d)) (fun _ _ _ => trivial) (by rw [sizeLine_eq]; omega) (fun a c ha d hd yes hy => ?_) ?_
          · simp only [↓reduceIte, ↓u_sNx, ↓u_sSeq, ↓u_nx, ↓u_rt, ↓u_bk, ↓u_ct, ↓u_sBreak, ↓u_sCont, ↓u_sDrop, ↓u_sRet, ↓u_sRetN, ↓u_sIf, ↓u_sAsg, ↓u_gC, ↓u_aNil, ↓u_aCons, ↓u_gTup, ↓u_gLst, ↓u_gLstM, ↓u_gBin, ↓u_cVal, ↓u_onBl, ↓u_onInt, ↓u_onStr, ↓u_gChain, ↓u_cAnd, ↓u_cOr, ↓u_cNot, ↓u_gAnd, ↓u_gOr, ↓u_gNot, ↓u_gIf, ↓u_gNeg, ↓u_nNil, ↓u_nCons, ↓u_nTup, ↓u_nSub, ↓u_gCB, ↓u_gCall, ↓u_gM0, ↓u_gM1, ↓u_gL, ↓u_gL0, ↓u_oNo, ↓u_oSome, ↓u_gSl, ↓u_cYes, ↓u_on1, ↓u_on2, ↓u_dInt, ↓u_dInt0, ↓u_gLc, ↓u_gLcM, ↓u_gLc2, ↓u_sNever, ↓u_iEnS, ↓u_iEnL, ↓u_iEnumD, ↓u_iZipD, ↓u_zipS, ↓u_zipL, ↓u_iSeq, ↓u_iRange1, ↓u_iRange2, ↓u_sWhile, ↓u_iRange3, ↓u_on3, ↓u_sFor, ↓u_dMax2, ↓u_dMin2, ↓u_gDct0, ↓u_gVar0, ↓u_sSet0, ↓u_nName0, ↓u_gVar1, ↓u_sSet1, ↓u_nName1, ↓u_gVar2, ↓u_sSet2, ↓u_nName2, ↓u_gVar3, ↓u_sSet3, ↓u_nName3, ↓u_gVar4, ↓u_sSet4, ↓u_nName4, ↓u_gVar5, ↓u_sSet5, ↓u_nName5, ↓u_gVar6, ↓u_sSet6, ↓u_nName6, ↓u_gVar7, ↓u_sSet7, ↓u_nName7, ↓u_gVar8, ↓u_sSet8, ↓u_nName8, ↓u_gVar9, ↓u_sSet9, ↓u_nName9, ↓u_gVar10, ↓u_sSet10, ↓u_nName10, ↓u_gVar11, ↓u_sSet11, ↓u_nName11, ↓u_gVar12, ↓u_sSet12, ↓u_nName12, ↓u_gVar13, ↓u_sSet13, ↓u_nName13, ↓u_gVar14, ↓u_sSet14, ↓u_nName14, ↓u_gVar15, ↓u_sSet15, ↓u_nName15, ↓u_gVar16, ↓u_sSet16, ↓u_nName16, ↓u_gVar17, ↓u_sSet17, ↓u_nName17, ↓dToInt_int, ↓dToInt_bl, ↓dListU_lst, ↓dListU_tup, ↓dListU_str, ↓dListUM_lst, ↓dListUM_tup, ↓dListUM_str, ↓dTuple_lst, ↓dTuple_tup, ↓dIn_lst, ↓dIn_tup, ↓dSl_str, ↓dSl_lst, ↓dSl_tup, ↓dAdd_int, ↓dAdd_str, ↓dAdd_lst, ↓dAdd_tup, ↓dMul_int, ↓dMul_str, ↓dMul_lst, ↓dIx_lst, ↓dIx_ro, ↓dIx_tup, ↓dIx_str, ↓onSome_some, ↓dLen_lst, ↓dLen_tup, ↓dLen_str, ↓dLen_ro, ↓dLen_dct, ↓items_str, ↓items_lst, ↓items_tup, ↓items_ro, ↓dAll_lst, ↓dAny_lst, ↓dSum_lst, ↓dIsi_ty, ↓dIsi_tup, ↓dIn_str, ↓onSeq_lst, ↓onSeq_tup, ↓dIs_bb, ↓dStrI_i, ↓dIsW_bb, ↓dIsW_ib, ↓dIsW_sb, ↓dIsW_nb, ↓dIsW_lb, ↓dIsW_tb, ↓dIsW_db, ↓dIsW_nn, ↓dIsW_in, ↓dIsW_sn, ↓dIsW_ln, ↓dIsW_tn, ↓dEq_ii, ↓dEq_ss, ↓dNe_ii, ↓dNe_ss, ↓dEq_nil, ↓dNe_nil, ↓dEq_bb, ↓dNe_bb, List.append_nil, List.nil_append, List.cons_append, startD, List.map_cons, List.map_nil, List.length_cons, List.length_nil, Nat.sub_self, List.replicate_zero, List.replicate_succ, List.set_cons_zero, List.set_cons_succ, List.getElem?_cons_zero, List.getElem?_cons_succ, atI_lit, vw_int, vw_str, vw_bl, vw_non, vw_lst, vw_tup, vw_dct, vw_ro, vw_obj, vw_cls, Nat.reduceAdd, Nat.reduceSub, Int.reduceToNat, Int.reduceNeg, Int.reducePow, Int.reduceAdd, Int.reduceSub, Int.reduceMul, ixN_lit, decide_eq_true_eq, decide_eq_false_iff_not, if_true, if_false, Bool.false_eq_true, Bool.not_true, Bool.not_false, Nat.reduceLT, Nat.reduceLeDiff, Int.reduceLT, Int.reduceLE, true_and, and_true, and_self, ite_true, ite_false, kind_int, kind_bl, kind_non, kind_str, kind_lst, kind_tup, kind_dct, clsAll_lt, all_lt, any_lt_l, any_lt_t, any_lt_s, any_lt_i, any_lt_b, any_lt_n, any_lt_d, kc_int, kc_bool, kc_str, kc_list, kc_tuple, kc_dict, isiT, String.reduceBEq, Bool.or_false, Bool.or_true, Bool.false_or, Bool.true_or, Bool.and_false, Bool.false_and, Bool.and_true, Bool.true_and, wipeD, Bool.not_eq_true, Bool.not_eq_false, Bool.not_eq_eq_eq_not, Bool.not_not, Bool.false_bne, Bool.true_bne, dJoin, onSome_some, sizeLine_eq, Mu.put_same, put_put, Nat.zero_le, decide_true, decide_false, flt_litc, fld_str, fld_int, fld_bl, fld_non, List.all_cons, List.all_nil, reduceCtorEq, strOk_of, eqd_int, eqd_str, eqd_bl, eqd_lst0, eqd_lst1, eqd_lst2, eqd_lst3, eqd_tup0, eqd_tup1, eqd_tup2, eqd_tup3, flt_bl, flt_non]
            obtain ⟨r, rfl⟩ : ∃ j, r = j + 1 := ⟨r - 1, by omega⟩
            exact ⟨d, room, n, by rw [show ((room + 1 : Nat) : Int) - 1 = (room : Int) by omega], by omega, by omega, hds d (List.mem_cons_of_mem _ hd), hy⟩
          · obtain ⟨s1, s2⟩ := sizes_in room as
            rw [dIn_lst]
            refine ⟨⟨rfl, fld_sizes room as⟩, ?_⟩
            rw [s1]
            rw [e] at q
            cases hz : szAll room as with
            | none => rw [hz] at q; exact q
            | some s =>
              rw [hz] at q
              obtain ⟨is, e3, e4⟩ := s2 s hz
              rw [e3]
              simp only [↓reduceIte, ↓u_sNx, ↓u_sSeq, ↓u_nx, ↓u_rt, ↓u_bk, ↓u_ct, ↓u_sBreak, ↓u_sCont, ↓u_sDrop, ↓u_sRet, ↓u_sRetN, ↓u_sIf, ↓u_sAsg, ↓u_gC, ↓u_aNil, ↓u_aCons, ↓u_gTup, ↓u_gLst, ↓u_gLstM, ↓u_gBin, ↓u_cVal, ↓u_onBl, ↓u_onInt, ↓u_onStr, ↓u_gChain, ↓u_cAnd, ↓u_cOr, ↓u_cNot, ↓u_gAnd, ↓u_gOr, ↓u_gNot, ↓u_gIf, ↓u_gNeg, ↓u_nNil, ↓u_nCons, ↓u_nTup, ↓u_nSub, ↓u_gCB, ↓u_gCall, ↓u_gM0, ↓u_gM1, ↓u_gL, ↓u_gL0, ↓u_oNo, ↓u_oSome, ↓u_gSl, ↓u_cYes, ↓u_on1, ↓u_on2, ↓u_dInt, ↓u_dInt0, ↓u_gLc, ↓u_gLcM, ↓u_gLc2, ↓u_sNever, ↓u_iEnS, ↓u_iEnL, ↓u_iEnumD, ↓u_iZipD, ↓u_zipS, ↓u_zipL, ↓u_iSeq, ↓u_iRange1, ↓u_iRange2, ↓u_sWhile, ↓u_iRange3, ↓u_on3, ↓u_sFor, ↓u_dMax2, ↓u_dMin2, ↓u_gDct0, ↓u_gVar0, ↓u_sSet0, ↓u_nName0, ↓u_gVar1, ↓u_sSet1, ↓u_nName1, ↓u_gVar2, ↓u_sSet2, ↓u_nName2, ↓u_gVar3, ↓u_sSet3, ↓u_nName3, ↓u_gVar4, ↓u_sSet4, ↓u_nName4, ↓u_gVar5, ↓u_sSet5, ↓u_nName5, ↓u_gVar6, ↓u_sSet6, ↓u_nName6, ↓u_gVar7, ↓u_sSet7, ↓u_nName7, ↓u_gVar8, ↓u_sSet8, ↓u_nName8, ↓u_gVar9, ↓u_sSet9, ↓u_nName9, ↓u_gVar10, ↓u_sSet10, ↓u_nName10, ↓u_gVar11, ↓u_sSet11, ↓u_nName11, ↓u_gVar12, ↓u_sSet12, ↓u_nName12, ↓u_gVar13, ↓u_sSet13, ↓u_nName13, ↓u_gVar14, ↓u_sSet14, ↓u_nName14, ↓u_gVar15, ↓u_sSet15, ↓u_nName15, ↓u_gVar16, ↓u_sSet16, ↓u_nName16, ↓u_gVar17, ↓u_sSet17, ↓u_nName17, ↓dToInt_int, ↓dToInt_bl, ↓dListU_lst, ↓dListU_tup, ↓dListU_str, ↓dListUM_lst, ↓dListUM_tup, ↓dListUM_str, ↓dTuple_lst, ↓dTuple_tup, ↓dIn_lst, ↓dIn_tup, ↓dSl_str, ↓dSl_lst, ↓dSl_tup, ↓dAdd_int, ↓dAdd_str, ↓dAdd_lst, ↓dAdd_tup, ↓dMul_int, ↓dMul_str, ↓dMul_lst, ↓dIx_lst, ↓dIx_ro, ↓dIx_tup, ↓dIx_str, ↓onSome_some, ↓dLen_lst, ↓dLen_tup, ↓dLen_str, ↓dLen_ro, ↓dLen_dct, ↓items_str, ↓items_lst, ↓items_tup, ↓items_ro, ↓dAll_lst, ↓dAny_lst, ↓dSum_lst, ↓dIsi_ty, ↓dIsi_tup, ↓dIn_str, ↓onSeq_lst, ↓onSeq_tup, ↓dIs_bb, ↓dStrI_i, ↓dIsW_bb, ↓dIsW_ib, ↓dIsW_sb, ↓dIsW_nb, ↓dIsW_lb, ↓dIsW_tb, ↓dIsW_db, ↓dIsW_nn, ↓dIsW_in, ↓dIsW_sn, ↓dIsW_ln, ↓dIsW_tn, ↓dEq_ii, ↓dEq_ss, ↓dNe_ii, ↓dNe_ss, ↓dEq_nil, ↓dNe_nil, ↓dEq_bb, ↓dNe_bb, List.append_nil, List.nil_append, List.cons_append, startD, List.map_cons, List.map_nil, List.length_cons, List.length_nil, Nat.sub_self, List.replicate_zero, List.replicate_succ, List.set_cons_zero, List.set_cons_succ, List.getElem?_cons_zero, List.getElem?_cons_succ, atI_lit, vw_int, vw_str, vw_bl, vw_non, vw_lst, vw_tup, vw_dct, vw_ro, vw_obj, vw_cls, Nat.reduceAdd, Nat.reduceSub, Int.reduceToNat, Int.reduceNeg, Int.reducePow, Int.reduceAdd, Int.reduceSub, Int.reduceMul, ixN_lit, decide_eq_true_eq, decide_eq_false_iff_not, if_true, if_false, Bool.false_eq_true, Bool.not_true, Bool.not_false, Nat.reduceLT, Nat.reduceLeDiff, Int.reduceLT, Int.reduceLE, true_and, and_true, and_self, ite_true, ite_false, kind_int, kind_bl, kind_non, kind_str, kind_lst, kind_tup, kind_dct, clsAll_lt, all_lt, any_lt_l, any_lt_t, any_lt_s, any_lt_i, any_lt_b, any_lt_n, any_lt_d, kc_int, kc_bool, kc_str, kc_list, kc_tuple, kc_dict, isiT, String.reduceBEq, Bool.or_false, Bool.or_true, Bool.false_or, Bool.true_or, Bool.and_false, Bool.false_and, Bool.and_true, Bool.true_and, wipeD, Bool.not_eq_true, Bool.not_eq_false, Bool.not_eq_eq_eq_not, Bool.not_not, Bool.false_bne, Bool.true_bne, dJoin, onSome_some, sizeLine_eq, Mu.put_same, put_put, Nat.zero_le, decide_true, decide_false, flt_litc, fld_str, fld_int, fld_bl, fld_non, List.all_cons, List.all_nil, reduceCtorEq, strOk_of, eqd_int, eqd_str, eqd_bl, eqd_lst0, eqd_lst1, eqd_lst2, eqd_lst3, eqd_tup0, eqd_tup1, eqd_tup2, eqd_tup3, flt_bl, flt_non, Option.isNone_some, nums_map, e4]
              exact q
        refine iteI (fun hw2 => ?_) fun hw2 => ?_
        · have e : szR (room + 1) (.tup (.str w :: as)) = if as = [] then some 1 else none := by
            simp only [szR]; rw [if_neg hw, if_pos hw2]
          refine ⟨hl, iteI (fun h2 => ?_) fun h2 => ?_⟩
          · cases as with
            | nil => rw [e] at q; exact q
            | cons _ _ => simp at h2; omega
          · refine non ?_
            rw [e, if_neg (fun z => h2 (by rw [z]; rfl))]
        refine iteI (fun hw3 => ?_) fun hw3 => ?_
        · have e := szR_and (r := room) (as := as) hw hw2 hw3
          have hnn : ¬ w = Str.ofString "not" := fun z => by rw [z] at hw3; exact absurd hw3 (by decide +kernel)
          refine ⟨so, ?_⟩
          rw [if_pos hnn, if_neg (fun z => z hw3)]
          exact ⟨hl, rest 3 (fun hk => e.trans ((szTwo_at room as).1 hk)) (fun hk => e.trans ((szTwo_at room as).2 hk)) ⟨by omega, by omega⟩ _⟩
        · refine ⟨so, iteI (fun hnn => ?_) fun hnn => ?_⟩
          · rw [if_pos hw3]
            refine non ?_
            simp only [szR]
            rw [if_neg hw, if_neg hw2, if_neg hw3, if_neg hnn]
          · have hnn : w = Str.ofString "not" := Classical.byContradiction hnn
            have e := szR_not (r := room) (as := as) hw hw2 hw3 hnn
            exact ⟨hl, rest 2 (fun hk => e.trans ((szOne_at room as).1 hk)) (fun hk => e.trans ((szOne_at room as).2 hk)) ⟨by omega, by omega⟩ _⟩
      · cases x <;> first | (exact absurd ⟨_, rfl⟩ hs) | (simp only [↓reduceIte, ↓u_sNx, ↓u_sSeq, ↓u_nx, ↓u_rt, ↓u_bk, ↓u_ct, ↓u_sBreak, ↓u_sCont, ↓u_sDrop, ↓u_sRet, ↓u_sRetN, ↓u_sIf, ↓u_sAsg, ↓u_gC, ↓u_aNil, ↓u_aCons, ↓u_gTup, ↓u_gLst, ↓u_gLstM, ↓u_gBin, ↓u_cVal, ↓u_onBl, ↓u_onInt, ↓u_onStr, ↓u_gChain, ↓u_cAnd, ↓u_cOr, ↓u_cNot, ↓u_gAnd, ↓u_gOr, ↓u_gNot, ↓u_gIf, ↓u_gNeg, ↓u_nNil, ↓u_nCons, ↓u_nTup, ↓u_nSub, ↓u_gCB, ↓u_gCall, ↓u_gM0, ↓u_gM1, ↓u_gL, ↓u_gL0, ↓u_oNo, ↓u_oSome, ↓u_gSl, ↓u_cYes, ↓u_on1, ↓u_on2, ↓u_dInt, ↓u_dInt0, ↓u_gLc, ↓u_gLcM, ↓u_gLc2, ↓u_sNever, ↓u_iEnS, ↓u_iEnL, ↓u_iEnumD, ↓u_iZipD, ↓u_zipS, ↓u_zipL, ↓u_iSeq, ↓u_iRange1, ↓u_iRange2, ↓u_sWhile, ↓u_iRange3, ↓u_on3, ↓u_sFor, ↓u_dMax2, ↓u_dMin2, ↓u_gDct0, ↓u_gVar0, ↓u_sSet0, ↓u_nName0, ↓u_gVar1, ↓u_sSet1, ↓u_nName1, ↓u_gVar2, ↓u_sSet2, ↓u_nName2, ↓u_gVar3, ↓u_sSet3, ↓u_nName3, ↓u_gVar4, ↓u_sSet4, ↓u_nName4, ↓u_gVar5, ↓u_sSet5, ↓u_nName5, ↓u_gVar6, ↓u_sSet6, ↓u_nName6, ↓u_gVar7, ↓u_sSet7, ↓u_nName7, ↓u_gVar8, ↓u_sSet8, ↓u_nName8, ↓u_gVar9, ↓u_sSet9, ↓u_nName9, ↓u_gVar10, ↓u_sSet10, ↓u_nName10, ↓u_gVar11, ↓u_sSet11, ↓u_nName11, ↓u_gVar12, ↓u_sSet12, ↓u_nName12, ↓u_gVar13, ↓u_sSet13, ↓u_nName13, ↓u_gVar14, ↓u_sSet14, ↓u_nName14, ↓u_gVar15, ↓u_sSet15, ↓u_nName15, ↓u_gVar16, ↓u_sSet16, ↓u_nName16, ↓u_gVar17, ↓u_sSet17, ↓u_nName17, ↓dToInt_int, ↓dToInt_bl, ↓dListU_lst, ↓dListU_tup, ↓dListU_str, ↓dListUM_lst, ↓dListUM_tup, ↓dListUM_str, ↓dTuple_lst, ↓dTuple_tup, ↓dIn_lst, ↓dIn_tup, ↓dSl_str, ↓dSl_lst, ↓dSl_tup, ↓dAdd_int, ↓dAdd_str, ↓dAdd_lst, ↓dAdd_tup, ↓dMul_int, ↓dMul_str, ↓dMul_lst, ↓dIx_lst, ↓dIx_ro, ↓dIx_tup, ↓dIx_str, ↓onSome_some, ↓dLen_lst, ↓dLen_tup, ↓dLen_str, ↓dLen_ro, ↓dLen_dct, ↓items_str, ↓items_lst, ↓items_tup, ↓items_ro, ↓dAll_lst, ↓dAny_lst, ↓dSum_lst, ↓dIsi_ty, ↓dIsi_tup, ↓dIn_str, ↓onSeq_lst, ↓onSeq_tup, ↓dIs_bb, ↓dStrI_i, ↓dIsW_bb, ↓dIsW_ib, ↓dIsW_sb, ↓dIsW_nb, ↓dIsW_lb, ↓dIsW_tb, ↓dIsW_db, ↓dIsW_nn, ↓dIsW_in, ↓dIsW_sn, ↓dIsW_ln, ↓dIsW_tn, ↓dEq_ii, ↓dEq_ss, ↓dNe_ii, ↓dNe_ss, ↓dEq_nil, ↓dNe_nil, ↓dEq_bb, ↓dNe_bb, List.append_nil, List.nil_append, List.cons_append, startD, List.map_cons, List.map_nil, List.length_cons, List.length_nil, Nat.sub_self, List.replicate_zero, List.replicate_succ, List.set_cons_zero, List.set_cons_succ, List.getElem?_cons_zero, List.getElem?_cons_succ, atI_lit, vw_int, vw_str, vw_bl, vw_non, vw_lst, vw_tup, vw_dct, vw_ro, vw_obj, vw_cls, Nat.reduceAdd, Nat.reduceSub, Int.reduceToNat, Int.reduceNeg, Int.reducePow, Int.reduceAdd, Int.reduceSub, Int.reduceMul, ixN_lit, decide_eq_true_eq, decide_eq_false_iff_not, if_true, if_false, Bool.false_eq_true, Bool.not_true, Bool.not_false, Nat.reduceLT, Nat.reduceLeDiff, Int.reduceLT, Int.reduceLE, true_and, and_true, and_self, ite_true, ite_false, kind_int, kind_bl, kind_non, kind_str, kind_lst, kind_tup, kind_dct, clsAll_lt, all_lt, any_lt_l, any_lt_t, any_lt_s, any_lt_i, any_lt_b, any_lt_n, any_lt_d, kc_int, kc_bool, kc_str, kc_list, kc_tuple, kc_dict, isiT, String.reduceBEq, Bool.or_false, Bool.or_true, Bool.false_or, Bool.true_or, Bool.and_false, Bool.false_and, Bool.and_true, Bool.true_and, wipeD, Bool.not_eq_true, Bool.not_eq_false, Bool.not_eq_eq_eq_not, Bool.not_not, Bool.false_bne, Bool.true_bne, dJoin, onSome_some, sizeLine_eq, Mu.put_same, put_put, Nat.zero_le, decide_true, decide_false, flt_litc, fld_str, fld_int, fld_bl, fld_non, List.all_cons, List.all_nil, reduceCtorEq, strOk_of, eqd_int, eqd_str, eqd_bl, eqd_lst0, eqd_lst1, eqd_lst2, eqd_lst3, eqd_tup0, eqd_tup1, eqd_tup2, eqd_tup3, flt_bl, flt_non]; exact non rfl) | cases hxk
  · cases d <;> first | (exact absurd ⟨_, rfl⟩ ht) | cases hk | skip
    all_goals
      simp only [g_size_in, ↓reduceIte, ↓u_sNx, ↓u_sSeq, ↓u_nx, ↓u_rt, ↓u_bk, ↓u_ct, ↓u_sBreak, ↓u_sCont, ↓u_sDrop, ↓u_sRet, ↓u_sRetN, ↓u_sIf, ↓u_sAsg, ↓u_gC, ↓u_aNil, ↓u_aCons, ↓u_gTup, ↓u_gLst, ↓u_gLstM, ↓u_gBin, ↓u_cVal, ↓u_onBl, ↓u_onInt, ↓u_onStr, ↓u_gChain, ↓u_cAnd, ↓u_cOr, ↓u_cNot, ↓u_gAnd, ↓u_gOr, ↓u_gNot, ↓u_gIf, ↓u_gNeg, ↓u_nNil, ↓u_nCons, ↓u_nTup, ↓u_nSub, ↓u_gCB, ↓u_gCall, ↓u_gM0, ↓u_gM1, ↓u_gL, ↓u_gL0, ↓u_oNo, ↓u_oSome, ↓u_gSl, ↓u_cYes, ↓u_on1, ↓u_on2, ↓u_dInt, ↓u_dInt0, ↓u_gLc, ↓u_gLcM, ↓u_gLc2, ↓u_sNever, ↓u_iEnS, ↓u_iEnL, ↓u_iEnumD, ↓u_iZipD, ↓u_zipS, ↓u_zipL, ↓u_iSeq, ↓u_iRange1, ↓u_iRange2, ↓u_sWhile, ↓u_iRange3, ↓u_on3, ↓u_sFor, ↓u_dMax2, ↓u_dMin2, ↓u_gDct0, ↓u_gVar0, ↓u_sSet0, ↓u_nName0, ↓u_gVar1, ↓u_sSet1, ↓u_nName1, ↓u_gVar2, ↓u_sSet2, ↓u_nName2, ↓u_gVar3, ↓u_sSet3, ↓u_nName3, ↓u_gVar4, ↓u_sSet4, ↓u_nName4, ↓u_gVar5, ↓u_sSet5, ↓u_nName5, ↓u_gVar6, ↓u_sSet6, ↓u_nName6, ↓u_gVar7, ↓u_sSet7, ↓u_nName7, ↓u_gVar8, ↓u_sSet8, ↓u_nName8, ↓u_gVar9, ↓u_sSet9, ↓u_nName9, ↓u_gVar10, ↓u_sSet10, ↓u_nName10, ↓u_gVar11, ↓u_sSet11, ↓u_nName11, ↓u_gVar12, ↓u_sSet12, ↓u_nName12, ↓u_gVar13, ↓u_sSet13, ↓u_nName13, ↓u_gVar14, ↓u_sSet14, ↓u_nName14, ↓u_gVar15, ↓u_sSet15, ↓u_nName15, ↓u_gVar16, ↓u_sSet16, ↓u_nName16, ↓u_gVar17, ↓u_sSet17, ↓u_nName17, ↓dToInt_int, ↓dToInt_bl, ↓dListU_lst, ↓dListU_tup, ↓dListU_str, ↓dListUM_lst, ↓dListUM_tup, ↓dListUM_str, ↓dTuple_lst, ↓dTuple_tup, ↓dIn_lst, ↓dIn_tup, ↓dSl_str, ↓dSl_lst, ↓dSl_tup, ↓dAdd_int, ↓dAdd_str, ↓dAdd_lst, ↓dAdd_tup, ↓dMul_int, ↓dMul_str, ↓dMul_lst, ↓dIx_lst, ↓dIx_ro, ↓dIx_tup, ↓dIx_str, ↓onSome_some, ↓dLen_lst, ↓dLen_tup, ↓dLen_str, ↓dLen_ro, ↓dLen_dct, ↓items_str, ↓items_lst, ↓items_tup, ↓items_ro, ↓dAll_lst, ↓dAny_lst, ↓dSum_lst, ↓dIsi_ty, ↓dIsi_tup, ↓dIn_str, ↓onSeq_lst, ↓onSeq_tup, ↓dIs_bb, ↓dStrI_i, ↓dIsW_bb, ↓dIsW_ib, ↓dIsW_sb, ↓dIsW_nb, ↓dIsW_lb, ↓dIsW_tb, ↓dIsW_db, ↓dIsW_nn, ↓dIsW_in, ↓dIsW_sn, ↓dIsW_ln, ↓dIsW_tn, ↓dEq_ii, ↓dEq_ss, ↓dNe_ii, ↓dNe_ss, ↓dEq_nil, ↓dNe_nil, ↓dEq_bb, ↓dNe_bb, List.append_nil, List.nil_append, List.cons_append, startD, List.map_cons, List.map_nil, List.length_cons, List.length_nil, Nat.sub_self, List.replicate_zero, List.replicate_succ, List.set_cons_zero, List.set_cons_succ, List.getElem?_cons_zero, List.getElem?_cons_succ, atI_lit, vw_int, vw_str, vw_bl, vw_non, vw_lst, vw_tup, vw_dct, vw_ro, vw_obj, vw_cls, Nat.reduceAdd, Nat.reduceSub, Int.reduceToNat, Int.reduceNeg, Int.reducePow, Int.reduceAdd, Int.reduceSub, Int.reduceMul, ixN_lit, decide_eq_true_eq, decide_eq_false_iff_not, if_true, if_false, Bool.false_eq_true, Bool.not_true, Bool.not_false, Nat.reduceLT, Nat.reduceLeDiff, Int.reduceLT, Int.reduceLE, true_and, and_true, and_self, ite_true, ite_false, kind_int, kind_bl, kind_non, kind_str, kind_lst, kind_tup, kind_dct, clsAll_lt, all_lt, any_lt_l, any_lt_t, any_lt_s, any_lt_i, any_lt_b, any_lt_n, any_lt_d, kc_int, kc_bool, kc_str, kc_list, kc_tuple, kc_dict, isiT, String.reduceBEq, Bool.or_false, Bool.or_true, Bool.false_or, Bool.true_or, Bool.and_false, Bool.false_and, Bool.and_true, Bool.true_and, wipeD, Bool.not_eq_true, Bool.not_eq_false, Bool.not_eq_eq_eq_not, Bool.not_not, Bool.false_bne, Bool.true_bne, dJoin, onSome_some, sizeLine_eq, Mu.put_same, put_put, Nat.zero_le, decide_true, decide_false, flt_litc, fld_str, fld_int, fld_bl, fld_non, List.all_cons, List.all_nil, reduceCtorEq, strOk_of, eqd_int, eqd_str, eqd_bl, eqd_lst0, eqd_lst1, eqd_lst2, eqd_lst3, eqd_tup0, eqd_tup1, eqd_tup2, eqd_tup3, flt_bl, flt_non]
      exact ⟨fl, iteI (fun hr => r0 (by omega)) fun hr => non (by cases room <;> rfl)⟩
end
end Nd

namespace Nd
open PySem L2 PyProof.Rows PySem.Spec
/-- whether it is a request -/
def isReq (d : D) : Bool := match szR 12 d with | some s => decide (s ≤ 60) | none => false
def S_is_request : Spec := fun ds m Q E => ∃ (d : D) (n : Nat), ds = [d] ∧ okw n d = true ∧ Q (.bl (isReq d)) m
/-- the law's own count -/
def szL : Nat → D → Int
  | 0, _ => 100
  | r + 1, .tup (.str w :: as) =>
    if w ∈ [Str.ofString "open", Str.ofString "closed"] then (match as with | [d] => if isIntB d 0 23 = true then 1 else 100 | _ => 100)
    else if w ∈ [Str.ofString "all", Str.ofString "none"] then (if as = [] then 1 else 100)
    else if w ∈ [Str.ofString "and", Str.ofString "or"] then (match as with | [a, b] => 1 + (szL r a + szL r b) | _ => 100)
    else if w = Str.ofString "not" then (match as with | [a] => 1 + szL r a | _ => 100)
    else 100
  | _, _ => 100
def SzRel (o : Option Int) (l : Int) : Prop := 1 ≤ l ∧ (∀ s, o = some s → l = s) ∧ (o = none → 100 ≤ l)
theorem szRel_no : SzRel none 100 := ⟨by omega, fun s h => by simp at h, fun _ => by omega⟩
theorem szRel_yes : SzRel (some 1) 1 := ⟨by omega, fun s h => by simpa using h, fun h => by simp at h⟩
theorem szRel_if {c : Prop} [Decidable c] {o o2 : Option Int} {l l2 : Int} (h : c → SzRel o l) (h2 : ¬c → SzRel o2 l2) : SzRel (if c then o else o2) (if c then l else l2) := by
  by_cases hc : c
  · rw [if_pos hc, if_pos hc]; exact h hc
  · rw [if_neg hc, if_neg hc]; exact h2 hc
theorem szRel_one {o : Option Int} {l : Int} (h : SzRel o l) : SzRel (o.map fun x => 1 + x) (1 + l) := by
  obtain ⟨a1, a2, a3⟩ := h
  cases o with
  | none => exact ⟨by omega, fun s h => by simp at h, fun _ => by have := a3 rfl; omega⟩
  | some x => exact ⟨by omega, fun s h => by have := a2 x rfl; simp at h; omega, fun h => by simp at h⟩
theorem szRel_two {o o2 : Option Int} {l l2 : Int} (h : SzRel o l) (h2 : SzRel o2 l2) : SzRel (o.bind fun x => o2.map fun y => 1 + (x + y)) (1 + (l + l2)) := by
  obtain ⟨a1, a2, a3⟩ := h
  obtain ⟨b1, b2, b3⟩ := h2
  cases o with
  | none => exact ⟨by omega, fun s h => by simp at h, fun _ => by have := a3 rfl; omega⟩
  | some x =>
    cases o2 with
    | none => exact ⟨by omega, fun s h => by simp at h, fun _ => by have := b3 rfl; omega⟩
    | some y => exact ⟨by omega, fun s h => by have := a2 x rfl; have := b2 y rfl; simp at h; omega, fun h => by simp at h⟩
theorem szL_at : ∀ (r : Nat) (d : D), SzRel (szR r d) (szL r d)
  | 0, d => szRel_no
  | r + 1, .tup (.str w :: as) => by
    simp only [szR, szL]
    refine szRel_if (fun _ => ?_) fun _ => szRel_if (fun _ => szRel_if (fun _ => szRel_yes) fun _ => szRel_no) fun _ => szRel_if (fun _ => ?_) fun _ => szRel_if (fun _ => ?_) fun _ => szRel_no
    · match as with
      | [] => exact szRel_no
      | [d] => exact szRel_if (fun _ => szRel_yes) fun _ => szRel_no
      | _ :: _ :: _ => exact szRel_no
    · match as with
      | [] => exact szRel_no
      | [_] => exact szRel_no
      | [a, b] => exact szRel_two (szL_at r a) (szL_at r b)
      | _ :: _ :: _ :: _ => exact szRel_no
    · match as with
      | [] => exact szRel_no
      | [a] => exact szRel_one (szL_at r a)
      | _ :: _ :: _ => exact szRel_no
  | r + 1, .tup [] => szRel_no
  | r + 1, .tup (.non :: _) => szRel_no
  | r + 1, .tup (.bl _ :: _) => szRel_no
  | r + 1, .tup (.int _ :: _) => szRel_no
  | r + 1, .tup (.tup _ :: _) => szRel_no
  | r + 1, .tup (.lst _ :: _) => szRel_no
  | r + 1, .tup (.dct _ :: _) => szRel_no
  | r + 1, .tup (.obj _ _ :: _) => szRel_no
  | r + 1, .tup (.ro _ :: _) => szRel_no
  | r + 1, .tup (.cel _ :: _) => szRel_no
  | r + 1, .tup (.cls _ :: _) => szRel_no
  | r + 1, .non => szRel_no
  | r + 1, .bl _ => szRel_no
  | r + 1, .int _ => szRel_no
  | r + 1, .str _ => szRel_no
  | r + 1, .lst _ => szRel_no
  | r + 1, .dct _ => szRel_no
  | r + 1, .obj _ _ => szRel_no
  | r + 1, .ro _ => szRel_no
  | r + 1, .cel _ => szRel_no
  | r + 1, .cls _ => szRel_no
theorem isReq_szL (d : D) : isReq d = decide (szL 12 d ≤ 60) := by
  obtain ⟨h1, h2, h3⟩ := szL_at 12 d
  unfold isReq
  cases h : szR 12 d with
  | none => have := h3 h; simp; omega
  | some s => rw [h2 s h]
section
variable {P : Program} {w : World} {K : PySem.W.Frag} {mg : Str → Option Value} {base : Heap} {k : Nat} {f : Addr} {fd : FuncData}
def g_is_request : GS :=
  (sSeq (sSet 1 (gCall (S_size_in 12) [] (aCons (gVar 0) (aCons (gC (.int 12)) aNil))))
  (sRet (gAnd (gBin (dIsW true) (gVar 1) (gC .non)) (gBin dLe (gVar 1) (gC (.int 60))))))
theorem lift_is_request (F : FnG P w K mg base k f fd ["value"] (wpS ["value"] ["value", "size"] g_is_request)) : FnG P w K mg base k f fd ["value"] S_is_request := F.imp fun ds m Q E h => by
  obtain ⟨d, n, rfl, hd, q⟩ := h
  refine ⟨rfl, ?_⟩
  simp only [g_is_request, ↓reduceIte, ↓u_sNx, ↓u_sSeq, ↓u_nx, ↓u_rt, ↓u_bk, ↓u_ct, ↓u_sBreak, ↓u_sCont, ↓u_sDrop, ↓u_sRet, ↓u_sRetN, ↓u_sIf, ↓u_sAsg, ↓u_gC, ↓u_aNil, ↓u_aCons, ↓u_gTup, ↓u_gLst, ↓u_gLstM, ↓u_gBin, ↓u_cVal, ↓u_onBl, ↓u_onInt, ↓u_onStr, ↓u_gChain, ↓u_cAnd, ↓u_cOr, ↓u_cNot, ↓u_gAnd, ↓u_gOr, ↓u_gNot, ↓u_gIf, ↓u_gNeg, ↓u_nNil, ↓u_nCons, ↓u_nTup, ↓u_nSub, ↓u_gCB, ↓u_gCall, ↓u_gM0, ↓u_gM1, ↓u_gL, ↓u_gL0, ↓u_oNo, ↓u_oSome, ↓u_gSl, ↓u_cYes, ↓u_on1, ↓u_on2, ↓u_dInt, ↓u_dInt0, ↓u_gLc, ↓u_gLcM, ↓u_gLc2, ↓u_sNever, ↓u_iEnS, ↓u_iEnL, ↓u_iEnumD, ↓u_iZipD, ↓u_zipS, ↓u_zipL, ↓u_iSeq, ↓u_iRange1, ↓u_iRange2, ↓u_sWhile, ↓u_iRange3, ↓u_on3, ↓u_sFor, ↓u_dMax2, ↓u_dMin2, ↓u_gDct0, ↓u_gVar0, ↓u_sSet0, ↓u_nName0, ↓u_gVar1, ↓u_sSet1, ↓u_nName1, ↓u_gVar2, ↓u_sSet2, ↓u_nName2, ↓u_gVar3, ↓u_sSet3, ↓u_nName3, ↓u_gVar4, ↓u_sSet4, ↓u_nName4, ↓u_gVar5, ↓u_sSet5, ↓u_nName5, ↓u_gVar6, ↓u_sSet6, ↓u_nName6, ↓u_gVar7, ↓u_sSet7, ↓u_nName7, ↓u_gVar8, ↓u_sSet8, ↓u_nName8, ↓u_gVar9, ↓u_sSet9, ↓u_nName9, ↓u_gVar10, ↓u_sSet10, ↓u_nName10, ↓u_gVar11, ↓u_sSet11, ↓u_nName11, ↓u_gVar12, ↓u_sSet12, ↓u_nName12, ↓u_gVar13, ↓u_sSet13, ↓u_nName13, ↓u_gVar14, ↓u_sSet14, ↓u_nName14, ↓u_gVar15, ↓u_sSet15, ↓u_nName15, ↓u_gVar16, ↓u_sSet16, ↓u_nName16, ↓u_gVar17, ↓u_sSet17, ↓u_nName17, ↓dToInt_int, ↓dToInt_bl, ↓dListU_lst, ↓dListU_tup, ↓dListU_str, ↓dListUM_lst, ↓dListUM_tup, ↓dListUM_str, ↓dTuple_lst, ↓dTuple_tup, ↓dIn_lst, ↓dIn_tup, ↓dSl_str, ↓dSl_lst, ↓dSl_tup, ↓dAdd_int, ↓dAdd_str, ↓dAdd_lst, ↓dAdd_tup, ↓dMul_int, ↓dMul_str, ↓dMul_lst, ↓dIx_lst, ↓dIx_ro, ↓dIx_tup, ↓dIx_str, ↓onSome_some, ↓dLen_lst, ↓dLen_tup, ↓dLen_str, ↓dLen_ro, ↓dLen_dct, ↓items_str, ↓items_lst, ↓items_tup, ↓items_ro, ↓dAll_lst, ↓dAny_lst, ↓dSum_lst, ↓dIsi_ty, ↓dIsi_tup, ↓dIn_str, ↓onSeq_lst, ↓onSeq_tup, ↓dIs_bb, ↓dStrI_i, ↓dIsW_bb, ↓dIsW_ib, ↓dIsW_sb, ↓dIsW_nb, ↓dIsW_lb, ↓dIsW_tb, ↓dIsW_db, ↓dIsW_nn, ↓dIsW_in, ↓dIsW_sn, ↓dIsW_ln, ↓dIsW_tn, ↓dEq_ii, ↓dEq_ss, ↓dNe_ii, ↓dNe_ss, ↓dEq_nil, ↓dNe_nil, ↓dEq_bb, ↓dNe_bb, List.append_nil, List.nil_append, List.cons_append, startD, List.map_cons, List.map_nil, List.length_cons, List.length_nil, Nat.sub_self, List.replicate_zero, List.replicate_succ, List.set_cons_zero, List.set_cons_succ, List.getElem?_cons_zero, List.getElem?_cons_succ, atI_lit, vw_int, vw_str, vw_bl, vw_non, vw_lst, vw_tup, vw_dct, vw_ro, vw_obj, vw_cls, Nat.reduceAdd, Nat.reduceSub, Int.reduceToNat, Int.reduceNeg, Int.reducePow, Int.reduceAdd, Int.reduceSub, Int.reduceMul, ixN_lit, decide_eq_true_eq, decide_eq_false_iff_not, if_true, if_false, Bool.false_eq_true, Bool.not_true, Bool.not_false, Nat.reduceLT, Nat.reduceLeDiff, Int.reduceLT, Int.reduceLE, true_and, and_true, and_self, ite_true, ite_false, kind_int, kind_bl, kind_non, kind_str, kind_lst, kind_tup, kind_dct, clsAll_lt, all_lt, any_lt_l, any_lt_t, any_lt_s, any_lt_i, any_lt_b, any_lt_n, any_lt_d, kc_int, kc_bool, kc_str, kc_list, kc_tuple, kc_dict, isiT, String.reduceBEq, Bool.or_false, Bool.or_true, Bool.false_or, Bool.true_or, Bool.and_false, Bool.false_and, Bool.and_true, Bool.true_and, wipeD, Bool.not_eq_true, Bool.not_eq_false, Bool.not_eq_eq_eq_not, Bool.not_not, Bool.false_bne, Bool.true_bne, dJoin, onSome_some, sizeLine_eq, Mu.put_same, put_put, Nat.zero_le, decide_true, decide_false, flt_litc, fld_str, fld_int, fld_bl, fld_non, List.all_cons, List.all_nil, reduceCtorEq, strOk_of, eqd_int, eqd_str, eqd_bl, eqd_lst0, eqd_lst1, eqd_lst2, eqd_lst3, eqd_tup0, eqd_tup1, eqd_tup2, eqd_tup3, flt_bl, flt_non]
  refine ⟨d, 12, n, by rfl, by omega, by omega, hd, ?_⟩
  unfold isReq at q
  cases h : szR 12 d with
  | none => rw [h] at q; simp only [oI, ↓reduceIte, ↓u_sNx, ↓u_sSeq, ↓u_nx, ↓u_rt, ↓u_bk, ↓u_ct, ↓u_sBreak, ↓u_sCont, ↓u_sDrop, ↓u_sRet, ↓u_sRetN, ↓u_sIf, ↓u_sAsg, ↓u_gC, ↓u_aNil, ↓u_aCons, ↓u_gTup, ↓u_gLst, ↓u_gLstM, ↓u_gBin, ↓u_cVal, ↓u_onBl, ↓u_onInt, ↓u_onStr, ↓u_gChain, ↓u_cAnd, ↓u_cOr, ↓u_cNot, ↓u_gAnd, ↓u_gOr, ↓u_gNot, ↓u_gIf, ↓u_gNeg, ↓u_nNil, ↓u_nCons, ↓u_nTup, ↓u_nSub, ↓u_gCB, ↓u_gCall, ↓u_gM0, ↓u_gM1, ↓u_gL, ↓u_gL0, ↓u_oNo, ↓u_oSome, ↓u_gSl, ↓u_cYes, ↓u_on1, ↓u_on2, ↓u_dInt, ↓u_dInt0, ↓u_gLc, ↓u_gLcM, ↓u_gLc2, ↓u_sNever, ↓u_iEnS, ↓u_iEnL, ↓u_iEnumD, ↓u_iZipD, ↓u_zipS, ↓u_zipL, ↓u_iSeq, ↓u_iRange1, ↓u_iRange2, ↓u_sWhile, ↓u_iRange3, ↓u_on3, ↓u_sFor, ↓u_dMax2, ↓u_dMin2, ↓u_gDct0, ↓u_gVar0, ↓u_sSet0, ↓u_nName0, ↓u_gVar1, ↓u_sSet1, ↓u_nName1, ↓u_gVar2, ↓u_sSet2, ↓u_nName2, ↓u_gVar3, ↓u_sSet3, ↓u_nName3, ↓u_gVar4, ↓u_sSet4, ↓u_nName4, ↓u_gVar5, ↓u_sSet5, ↓u_nName5, ↓u_gVar6, ↓u_sSet6, ↓u_nName6, ↓u_gVar7, ↓u_sSet7, ↓u_nName7, ↓u_gVar8, ↓u_sSet8, ↓u_nName8, ↓u_gVar9, ↓u_sSet9, ↓u_nName9, ↓u_gVar10, ↓u_sSet10, ↓u_nName10, ↓u_gVar11, ↓u_sSet11, ↓u_nName11, ↓u_gVar12, ↓u_sSet12, ↓u_nName12, ↓u_gVar13, ↓u_sSet13, ↓u_nName13, ↓u_gVar14, ↓u_sSet14, ↓u_nName14, ↓u_gVar15, ↓u_sSet15, ↓u_nName15, ↓u_gVar16, ↓u_sSet16, ↓u_nName16, ↓u_gVar17, ↓u_sSet17, ↓u_nName17, ↓dToInt_int, ↓dToInt_bl, ↓dListU_lst, ↓dListU_tup, ↓dListU_str, ↓dListUM_lst, ↓dListUM_tup, ↓dListUM_str, ↓dTuple_lst, ↓dTuple_tup, ↓dIn_lst, ↓dIn_tup, ↓dSl_str, ↓dSl_lst, ↓dSl_tup, ↓dAdd_int, ↓dAdd_str, ↓dAdd_lst, ↓dAdd_tup, ↓dMul_int, ↓dMul_str, ↓dMul_lst, ↓dIx_lst, ↓dIx_ro, ↓dIx_tup, ↓dIx_str, ↓onSome_some, ↓dLen_lst, ↓dLen_tup, ↓dLen_str, ↓dLen_ro, ↓dLen_dct, ↓items_str, ↓items_lst, ↓items_tup, ↓items_ro, ↓dAll_lst, ↓dAny_lst, ↓dSum_lst, ↓dIsi_ty, ↓dIsi_tup, ↓dIn_str, ↓onSeq_lst, ↓onSeq_tup, ↓dIs_bb, ↓dStrI_i, ↓dIsW_bb, ↓dIsW_ib, ↓dIsW_sb, ↓dIsW_nb, ↓dIsW_lb, ↓dIsW_tb, ↓dIsW_db, ↓dIsW_nn, ↓dIsW_in, ↓dIsW_sn, ↓dIsW_ln, ↓dIsW_tn, ↓dEq_ii, ↓dEq_ss, ↓dNe_ii, ↓dNe_ss, ↓dEq_nil, ↓dNe_nil, ↓dEq_bb, ↓dNe_bb, List.append_nil, List.nil_append, List.cons_append, startD, List.map_cons, List.map_nil, List.length_cons, List.length_nil, Nat.sub_self, List.replicate_zero, List.replicate_succ, List.set_cons_zero, List.set_cons_succ, List.getElem?_cons_zero, List.getElem?_cons_succ, atI_lit, vw_int, vw_str, vw_bl, vw_non, vw_lst, vw_tup, vw_dct, vw_ro, vw_obj, vw_cls, Nat.reduceAdd, Nat.reduceSub, Int.reduceToNat, Int.reduceNeg, Int.reducePow, Int.reduceAdd, Int.reduceSub, Int.reduceMul, ixN_lit, decide_eq_true_eq, decide_eq_false_iff_not, if_true, if_false, Bool.false_eq_true, Bool.not_true, Bool.not_false, Nat.reduceLT, Nat.reduceLeDiff, Int.reduceLT, Int.reduceLE, true_and, and_true, and_self, ite_true, ite_false, kind_int, kind_bl, kind_non, kind_str, kind_lst, kind_tup, kind_dct, clsAll_lt, all_lt, any_lt_l, any_lt_t, any_lt_s, any_lt_i, any_lt_b, any_lt_n, any_lt_d, kc_int, kc_bool, kc_str, kc_list, kc_tuple, kc_dict, isiT, String.reduceBEq, Bool.or_false, Bool.or_true, Bool.false_or, Bool.true_or, Bool.and_false, Bool.false_and, Bool.and_true, Bool.true_and, wipeD, Bool.not_eq_true, Bool.not_eq_false, Bool.not_eq_eq_eq_not, Bool.not_not, Bool.false_bne, Bool.true_bne, dJoin, onSome_some, sizeLine_eq, Mu.put_same, put_put, Nat.zero_le, decide_true, decide_false, flt_litc, fld_str, fld_int, fld_bl, fld_non, List.all_cons, List.all_nil, reduceCtorEq, strOk_of, eqd_int, eqd_str, eqd_bl, eqd_lst0, eqd_lst1, eqd_lst2, eqd_lst3, eqd_tup0, eqd_tup1, eqd_tup2, eqd_tup3, flt_bl, flt_non]; exact q
  | some s =>
    rw [h] at q
    simp only [oI, ↓reduceIte, ↓u_sNx, ↓u_sSeq, ↓u_nx, ↓u_rt, ↓u_bk, ↓u_ct, ↓u_sBreak, ↓u_sCont, ↓u_sDrop, ↓u_sRet, ↓u_sRetN, ↓u_sIf, ↓u_sAsg, ↓u_gC, ↓u_aNil, ↓u_aCons, ↓u_gTup, ↓u_gLst, ↓u_gLstM, ↓u_gBin, ↓u_cVal, ↓u_onBl, ↓u_onInt, ↓u_onStr, ↓u_gChain, ↓u_cAnd, ↓u_cOr, ↓u_cNot, ↓u_gAnd, ↓u_gOr, ↓u_gNot, ↓u_gIf, ↓u_gNeg, ↓u_nNil, ↓u_nCons, ↓u_nTup, ↓u_nSub, ↓u_gCB, ↓u_gCall, ↓u_gM0, ↓u_gM1, ↓u_gL, ↓u_gL0, ↓u_oNo, ↓u_oSome, ↓u_gSl, ↓u_cYes, ↓u_on1, ↓u_on2, ↓u_dInt, ↓u_dInt0, ↓u_gLc, ↓u_gLcM, ↓u_gLc2, ↓u_sNever, ↓u_iEnS, ↓u_iEnL, ↓u_iEnumD, ↓u_iZipD, ↓u_zipS, ↓u_zipL, ↓u_iSeq, ↓u_iRange1, ↓u_iRange2, ↓u_sWhile, ↓u_iRange3, ↓u_on3, ↓u_sFor, ↓u_dMax2, ↓u_dMin2, ↓u_gDct0, ↓u_gVar0, ↓u_sSet0, ↓u_nName0, ↓u_gVar1, ↓u_sSet1, ↓u_nName1, ↓u_gVar2, ↓u_sSet2, ↓u_nName2, ↓u_gVar3, ↓u_sSet3, ↓u_nName3, ↓u_gVar4, ↓u_sSet4, ↓u_nName4, ↓u_gVar5, ↓u_sSet5, ↓u_nName5, ↓u_gVar6, ↓u_sSet6, ↓u_nName6, ↓u_gVar7, ↓u_sSet7, ↓u_nName7, ↓u_gVar8, ↓u_sSet8, ↓u_nName8, ↓u_gVar9, ↓u_sSet9, ↓u_nName9, ↓u_gVar10, ↓u_sSet10, ↓u_nName10, ↓u_gVar11, ↓u_sSet11, ↓u_nName11, ↓u_gVar12, ↓u_sSet12, ↓u_nName12, ↓u_gVar13, ↓u_sSet13, ↓u_nName13, ↓u_gVar14, ↓u_sSet14, ↓u_nName14, ↓u_gVar15, ↓u_sSet15, ↓u_nName15, ↓u_gVar16, ↓u_sSet16, ↓u_nName16, ↓u_gVar17, ↓u_sSet17, ↓u_nName17, ↓dToInt_int, ↓dToInt_bl, ↓dListU_lst, ↓dListU_tup, ↓dListU_str, ↓dListUM_lst, ↓dListUM_tup, ↓dListUM_str, ↓dTuple_lst, ↓dTuple_tup, ↓dIn_lst, ↓dIn_tup, ↓dSl_str, ↓dSl_lst, ↓dSl_tup, ↓dAdd_int, ↓dAdd_str, ↓dAdd_lst, ↓dAdd_tup, ↓dMul_int, ↓dMul_str, ↓dMul_lst, ↓dIx_lst, ↓dIx_ro, ↓dIx_tup, ↓dIx_str, ↓onSome_some, ↓dLen_lst, ↓dLen_tup, ↓dLen_str, ↓dLen_ro, ↓dLen_dct, ↓items_str, ↓items_lst, ↓items_tup, ↓items_ro, ↓dAll_lst, ↓dAny_lst, ↓dSum_lst, ↓dIsi_ty, ↓dIsi_tup, ↓dIn_str, ↓onSeq_lst, ↓onSeq_tup, ↓dIs_bb, ↓dStrI_i, ↓dIsW_bb, ↓dIsW_ib, ↓dIsW_sb, ↓dIsW_nb, ↓dIsW_lb, ↓dIsW_tb, ↓dIsW_db, ↓dIsW_nn, ↓dIsW_in, ↓dIsW_sn, ↓dIsW_ln, ↓dIsW_tn, ↓dEq_ii, ↓dEq_ss, ↓dNe_ii, ↓dNe_ss, ↓dEq_nil, ↓dNe_nil, ↓dEq_bb, ↓dNe_bb, List.append_nil, List.nil_append, List.cons_append, startD, List.map_cons, List.map_nil, List.length_cons, List.length_nil, Nat.sub_self, List.replicate_zero, List.replicate_succ, List.set_cons_zero, List.set_cons_succ, List.getElem?_cons_zero, List.getElem?_cons_succ, atI_lit, vw_int, vw_str, vw_bl, vw_non, vw_lst, vw_tup, vw_dct, vw_ro, vw_obj, vw_cls, Nat.reduceAdd, Nat.reduceSub, Int.reduceToNat, Int.reduceNeg, Int.reducePow, Int.reduceAdd, Int.reduceSub, Int.reduceMul, ixN_lit, decide_eq_true_eq, decide_eq_false_iff_not, if_true, if_false, Bool.false_eq_true, Bool.not_true, Bool.not_false, Nat.reduceLT, Nat.reduceLeDiff, Int.reduceLT, Int.reduceLE, true_and, and_true, and_self, ite_true, ite_false, kind_int, kind_bl, kind_non, kind_str, kind_lst, kind_tup, kind_dct, clsAll_lt, all_lt, any_lt_l, any_lt_t, any_lt_s, any_lt_i, any_lt_b, any_lt_n, any_lt_d, kc_int, kc_bool, kc_str, kc_list, kc_tuple, kc_dict, isiT, String.reduceBEq, Bool.or_false, Bool.or_true, Bool.false_or, Bool.true_or, Bool.and_false, Bool.false_and, Bool.and_true, Bool.true_and, wipeD, Bool.not_eq_true, Bool.not_eq_false, Bool.not_eq_eq_eq_not, Bool.not_not, Bool.false_bne, Bool.true_bne, dJoin, onSome_some, sizeLine_eq, Mu.put_same, put_put, Nat.zero_le, decide_true, decide_false, flt_litc, fld_str, fld_int, fld_bl, fld_non, List.all_cons, List.all_nil, reduceCtorEq, strOk_of, eqd_int, eqd_str, eqd_bl, eqd_lst0, eqd_lst1, eqd_lst2, eqd_lst3, eqd_tup0, eqd_tup1, eqd_tup2, eqd_tup3, flt_bl, flt_non]
    exact q
end
end Nd

namespace Nd
open PySem L2 PyProof.Rows PySem.Spec
/-! comprehensions over typed items -/
section
variable {α : Type} {gt gt1 : GG} {tt : GT} {gi1 : GI} {te : GE} {tt1 : GT} {vs1 : List Nat} {st : Mu → Prop} {ρ : Env} {Q : D → Mu → Prop} {m : Mu} {a : Addr}
theorem lcG_T (e : α → D) (p : α → Bool) (g : α → D) (ha : m a = none) (hst : ∀ c, st (m.put a c)) : ∀ (xs : List α) (acc : List D),
    (∀ x ∈ xs, ∀ c (yes : D → Mu → Prop) (no : Mu → Prop), (if p x = true then yes (g x) (m.put a c) else no (m.put a c)) → gt noX (e x) ρ (m.put a c) fun ρ2 m2 => tt noX ρ2 m2 fun b m3 => if b = true then te noX ρ2 m3 yes else no m3) →
    acc.length + xs.length ≤ sizeLine → Q (.lst (acc ++ (xs.filter p).map g)) m → lcG gt tt te st a ρ Q (xs.map e) acc (m.put a (some (.lst acc)))
  | [], acc, _, _, q => by
    refine ⟨hst _, Mu.put_same, ?_⟩
    rw [put_put, put_self ha]
    simpa using q
  | d :: r, acc, hp, hl, q => by
    refine ⟨hst _, hp d List.mem_cons_self _ _ _ ?_⟩
    have hr := fun x hx => hp x (List.mem_cons_of_mem d hx)
    rw [List.length_cons] at hl
    cases hpd : p d with
    | true =>
      simp only [if_true]
      refine ⟨⟨Mu.put_same, by omega⟩, ?_⟩
      rw [put_put]
      refine lcG_T e p g ha hst r (acc ++ [g d]) hr (by rw [List.length_append, List.length_singleton]; omega) ?_
      rw [List.filter_cons_of_pos hpd, List.map_cons] at q
      simpa using q
    | false =>
      simp only [Bool.false_eq_true, if_false]
      refine lcG_T e p g ha hst r acc hr (by omega) ?_
      rw [List.filter_cons_of_neg (by rw [hpd]; decide)] at q
      exact q
theorem lc_T {xs : List α} (e : α → D) (p : α → Bool) (g : α → D) (hst : ∀ a c, m a = none → st (m.put a c)) (hl : xs.length ≤ sizeLine)
    (hp : ∀ a, m a = none → ∀ x ∈ xs, ∀ c (yes : D → Mu → Prop) (no : Mu → Prop), (if p x = true then yes (g x) (m.put a c) else no (m.put a c)) → gt noX (e x) ρ (m.put a c) fun ρ2 m2 => tt noX ρ2 m2 fun b m3 => if b = true then te noX ρ2 m3 yes else no m3)
    (q : Q (.lst ((xs.filter p).map g)) m) : ∀ a, m a = none → lcG gt tt te st a ρ Q (xs.map e) [] (m.put a (some (.lst []))) := fun a ha =>
  lcG_T e p g ha (hst a · ha) xs [] (hp a ha) (by rw [List.length_nil]; omega) (by simpa using q)
theorem lc_Tm {xs : List α} (e : α → D) (g : α → D) (hst : ∀ a c, m a = none → st (m.put a c)) (hl : xs.length ≤ sizeLine)
    (hp : ∀ a, m a = none → ∀ x ∈ xs, ∀ c (yes : D → Mu → Prop), yes (g x) (m.put a c) → gt noX (e x) ρ (m.put a c) fun ρ2 m2 => te noX ρ2 m2 yes)
    (q : Q (.lst (xs.map g)) m) : ∀ a, m a = none → lcG gt cYes te st a ρ Q (xs.map e) [] (m.put a (some (.lst []))) :=
  lc_T e (fun _ => true) g hst hl (fun a ha x hx c yes no h => by
    simp only [if_true, cYes] at h ⊢
    exact hp a ha x hx c yes h) (by rw [List.filter_eq_self.mpr (fun _ _ => rfl)]; exact q)
/-- two fors -/
theorem lcG2_flat (B : Nat) (e : α → D) (f : α → List D) (ha : m a = none) (hst : ∀ c, st (m.put a c)) : ∀ (xs : List α) (acc : List D),
    (∀ x ∈ xs, ∀ (acc : List D) (N : List D → Mu → Prop), acc.length + (f x).length ≤ B → N (acc ++ f x) (m.put a (some (.lst (acc ++ f x)))) → gt noX (e x) ρ (m.put a (some (.lst acc))) fun ρ2 m2 => tt noX ρ2 m2 fun b m3 => if b = true then gi1 noX ρ2 m3 fun ds1 st1 m4 => lcG gt1 tt1 te st1 a (wipeD ρ2 vs1) (lcB a N) ds1 acc m4 else N acc m3) →
    acc.length + (xs.flatMap f).length ≤ B →     Q (.lst (acc ++ xs.flatMap f)) m → lcG2 gt tt gi1 gt1 tt1 te vs1 st a ρ Q (xs.map e) acc (m.put a (some (.lst acc)))
  | [], acc, _, _, q => by
    refine ⟨hst _, Mu.put_same, ?_⟩
    rw [put_put, put_self ha]
    simpa using q
  | d :: r, acc, hs, hB, q => by
    rw [List.flatMap_cons, List.length_append] at hB
    refine ⟨hst _, hs d List.mem_cons_self acc (fun acc' m' => lcG2 gt tt gi1 gt1 tt1 te vs1 st a ρ Q (r.map e) acc' m') (by omega) ?_⟩
    refine lcG2_flat B e f ha hst r (acc ++ f d) (fun d hd => hs d (List.mem_cons_of_mem _ hd)) (by rw [List.length_append]; omega) ?_
    rw [List.flatMap_cons] at q
    simpa using q
/-- the items as they are, N behind them -/
theorem lcG_id {N : List D → Mu → Prop} {ds acc : List D} (ha : m a = none) (hst : ∀ c, st (m.put a c)) (hp : ∀ c (d : D) (yes : D → Mu → Prop), d ∈ ds → yes d (m.put a c) → gt noX d ρ (m.put a c) fun ρ2 m2 => te noX ρ2 m2 yes)
    (hl : acc.length + ds.length ≤ sizeLine) (q : N (acc ++ ds) (m.put a (some (.lst (acc ++ ds))))) : lcG gt cYes te st a ρ (lcB a N) ds acc (m.put a (some (.lst acc))) :=
  lcG_pure (all := ds) (fun _ => true) (fun d => d) ha hst (fun c d yes no h hd => by
    simp only [if_true, cYes] at h ⊢
    exact hp c d yes hd h) ds acc (fun _ h => h) hl (by
    rw [List.filter_eq_self.mpr (fun _ _ => rfl), List.map_id']
    exact q)
end
end Nd

namespace Nd
open PySem L2 PyProof.Rows PySem.Spec
/-! requests -/
inductive Rq where
  | opn (i : Nat) | cls (i : Nat) | all | non | and (a b : Rq) | or (a b : Rq) | not (a : Rq)
namespace Rq
def d : Rq → D
  | .opn i => .tup [.str "open", .int (i : Nat)]
  | .cls i => .tup [.str "closed", .int (i : Nat)]
  | .all => .tup [.str "all"]
  | .non => .tup [.str "none"]
  | .and a b => .tup [.str "and", a.d, b.d]
  | .or a b => .tup [.str "or", a.d, b.d]
  | .not a => .tup [.str "not", a.d]
def depth : Rq → Nat
  | .and a b => max a.depth b.depth + 1
  | .or a b => max a.depth b.depth + 1
  | .not a => a.depth + 1
  | _ => 1
def size : Rq → Nat
  | .and a b => 1 + (a.size + b.size)
  | .or a b => 1 + (a.size + b.size)
  | .not a => 1 + a.size
  | _ => 1
def holes : Rq → List Nat
  | .opn i => [i]
  | .cls i => [i]
  | .and a b => a.holes ++ b.holes
  | .or a b => a.holes ++ b.holes
  | .not a => a.holes
  | _ => []
def parts : Rq → List Rq
  | .and a b => [a, b]
  | .or a b => [a, b]
  | .not a => [a]
  | _ => []
/-- whether a row is as it wants -/
def hd (bs : List Bool) : Rq → Bool
  | .opn i => bs[i]?.getD false
  | .cls i => !(bs[i]?.getD false)
  | .all => true
  | .non => false
  | .and a b => a.hd bs && b.hd bs
  | .or a b => a.hd bs || b.hd bs
  | .not a => !(a.hd bs)
def ok (w : Nat) (q : Rq) : Prop := ∀ i ∈ q.holes, i < w
theorem depth1 (q : Rq) : 1 ≤ q.depth := by cases q <;> simp [depth]
theorem size1 (q : Rq) : 1 ≤ q.size := by cases q <;> simp [size]
theorem holes_size (q : Rq) : q.holes.length ≤ q.size := by
  induction q with
  | and a b ha hb => simp [holes, size]; omega
  | or a b ha hb => simp [holes, size]; omega
  | not a ha => simp [holes, size]; omega
  | _ => simp [holes, size]
theorem tup (q : Rq) : ∃ ds, q.d = .tup ds := by cases q <;> exact ⟨_, rfl⟩
theorem okq_int {n i : Nat} (h : i < 2 ^ 60) : okw n (.int (i : Nat)) = true := by
  have h2 := (okd_int (n := n) (i := (i : Nat)) (by omega) (by omega))
  cases n <;> (unfold okw; unfold okd at h2; exact h2)
theorem okw_d : ∀ (q : Rq) (n : Nat), q.depth ≤ n → q.ok (2 ^ 60) → okw n q.d = true := by
  intro q
  have st : ∀ (n : Nat) (w : Str), PyData.strOk w = true → okw n (.str w) = true := fun n w h => by cases n <;> (unfold okw; exact h)
  induction q with
  | opn i =>
    intro n hn ho
    obtain ⟨n, rfl⟩ : ∃ k, n = k + 1 := ⟨n - 1, by simp [depth] at hn; omega⟩
    have h := ho i (by simp [holes])
    simp only [d]
    unfold okw
    simp only [List.all_cons, List.all_nil, Bool.and_true, Bool.and_eq_true]
    exact ⟨by simp, st _ _ (by decide +kernel), okq_int h⟩
  | cls i =>
    intro n hn ho
    obtain ⟨n, rfl⟩ : ∃ k, n = k + 1 := ⟨n - 1, by simp [depth] at hn; omega⟩
    have h := ho i (by simp [holes])
    simp only [d]
    unfold okw
    simp only [List.all_cons, List.all_nil, Bool.and_true, Bool.and_eq_true]
    exact ⟨by simp, st _ _ (by decide +kernel), okq_int h⟩
  | all =>
    intro n hn ho
    obtain ⟨n, rfl⟩ : ∃ k, n = k + 1 := ⟨n - 1, by simp [depth] at hn; omega⟩
    simp only [d]
    unfold okw
    simp only [List.all_cons, List.all_nil, Bool.and_true, Bool.and_eq_true]
    exact ⟨by simp, st _ _ (by decide +kernel)⟩
  | non =>
    intro n hn ho
    obtain ⟨n, rfl⟩ : ∃ k, n = k + 1 := ⟨n - 1, by simp [depth] at hn; omega⟩
    simp only [d]
    unfold okw
    simp only [List.all_cons, List.all_nil, Bool.and_true, Bool.and_eq_true]
    exact ⟨by simp, st _ _ (by decide +kernel)⟩
  | and a b ha hb =>
    intro n hn ho
    simp only [depth] at hn
    obtain ⟨n, rfl⟩ : ∃ k, n = k + 1 := ⟨n - 1, by omega⟩
    simp only [d]
    unfold okw
    simp only [List.all_cons, List.all_nil, Bool.and_true, Bool.and_eq_true]
    exact ⟨by simp, st _ _ (by decide +kernel), ha n (by omega) (fun i hi => ho i (by simp [holes, hi])), hb n (by omega) (fun i hi => ho i (by simp [holes, hi]))⟩
  | or a b ha hb =>
    intro n hn ho
    simp only [depth] at hn
    obtain ⟨n, rfl⟩ : ∃ k, n = k + 1 := ⟨n - 1, by omega⟩
    simp only [d]
    unfold okw
    simp only [List.all_cons, List.all_nil, Bool.and_true, Bool.and_eq_true]
    exact ⟨by simp, st _ _ (by decide +kernel), ha n (by omega) (fun i hi => ho i (by simp [holes, hi])), hb n (by omega) (fun i hi => ho i (by simp [holes, hi]))⟩
  | not a ha =>
    intro n hn ho
    simp only [depth] at hn
    obtain ⟨n, rfl⟩ : ∃ k, n = k + 1 := ⟨n - 1, by omega⟩
    simp only [d]
    unfold okw
    simp only [List.all_cons, List.all_nil, Bool.and_true, Bool.and_eq_true]
    exact ⟨by simp, st _ _ (by decide +kernel), ha n (by omega) (fun i hi => ho i (by simp [holes, hi]))⟩
theorem szR_d : ∀ (q : Rq) (n : Nat), q.depth ≤ n → q.ok 24 → szR n q.d = some (q.size : Int) := by
  intro q
  induction q with
  | opn i =>
    intro n hn ho
    obtain ⟨n, rfl⟩ : ∃ k, n = k + 1 := ⟨n - 1, by simp [depth] at hn; omega⟩
    have h := ho i (by simp [holes])
    simp only [d, szR]
    rw [if_pos (by decide +kernel), if_pos (by simp [isIntB]; omega)]
    rfl
  | cls i =>
    intro n hn ho
    obtain ⟨n, rfl⟩ : ∃ k, n = k + 1 := ⟨n - 1, by simp [depth] at hn; omega⟩
    have h := ho i (by simp [holes])
    simp only [d, szR]
    rw [if_pos (by decide +kernel), if_pos (by simp [isIntB]; omega)]
    rfl
  | all =>
    intro n hn ho
    obtain ⟨n, rfl⟩ : ∃ k, n = k + 1 := ⟨n - 1, by simp [depth] at hn; omega⟩
    simp only [d, szR]
    rw [if_neg (by decide +kernel), if_pos (by decide +kernel)]
    rfl
  | non =>
    intro n hn ho
    obtain ⟨n, rfl⟩ : ∃ k, n = k + 1 := ⟨n - 1, by simp [depth] at hn; omega⟩
    simp only [d, szR]
    rw [if_neg (by decide +kernel), if_pos (by decide +kernel)]
    rfl
  | and a b ha hb =>
    intro n hn ho
    simp only [depth] at hn
    obtain ⟨n, rfl⟩ : ∃ k, n = k + 1 := ⟨n - 1, by omega⟩
    simp only [d, szR]
    rw [if_neg (by decide +kernel), if_neg (by decide +kernel), if_pos (by decide +kernel), ha n (by omega) (fun i hi => ho i (by simp [holes, hi])), hb n (by omega) (fun i hi => ho i (by simp [holes, hi]))]
    simp [size]
  | or a b ha hb =>
    intro n hn ho
    simp only [depth] at hn
    obtain ⟨n, rfl⟩ : ∃ k, n = k + 1 := ⟨n - 1, by omega⟩
    simp only [d, szR]
    rw [if_neg (by decide +kernel), if_neg (by decide +kernel), if_pos (by decide +kernel), ha n (by omega) (fun i hi => ho i (by simp [holes, hi])), hb n (by omega) (fun i hi => ho i (by simp [holes, hi]))]
    simp [size]
  | not a ha =>
    intro n hn ho
    simp only [depth] at hn
    obtain ⟨n, rfl⟩ : ∃ k, n = k + 1 := ⟨n - 1, by omega⟩
    simp only [d, szR]
    rw [if_neg (by decide +kernel), if_neg (by decide +kernel), if_neg (by decide +kernel), if_pos (by decide +kernel), ha n (by omega) (fun i hi => ho i (by simp [holes, hi]))]
    simp [size]
/-- what the program takes -/
structure Good (w : Nat) (q : Rq) : Prop where
  dp : q.depth ≤ 12
  sz : q.size ≤ 60
  ho : q.ok w
theorem isReq_d {q : Rq} {w : Nat} (g : q.Good w) (hw : w ≤ 24) : isReq q.d = true := by
  unfold isReq
  rw [szR_d q 12 g.dp (fun i hi => Nat.lt_of_lt_of_le (g.ho i hi) hw)]
  have := g.sz
  simp
  omega
end Rq
end Nd

namespace Nd
open PySem L2 PyProof.Rows PySem.Spec
theorem wq_open_closed : (Str.ofString "open" = Str.ofString "closed") = False := eq_false (by decide +kernel)
theorem wq_open_all : (Str.ofString "open" = Str.ofString "all") = False := eq_false (by decide +kernel)
theorem wq_open_none : (Str.ofString "open" = Str.ofString "none") = False := eq_false (by decide +kernel)
theorem wq_open_and : (Str.ofString "open" = Str.ofString "and") = False := eq_false (by decide +kernel)
theorem wq_open_or : (Str.ofString "open" = Str.ofString "or") = False := eq_false (by decide +kernel)
theorem wq_open_not : (Str.ofString "open" = Str.ofString "not") = False := eq_false (by decide +kernel)
theorem wi_open_0 : inD (.str (Str.ofString "open")) [.str (Str.ofString "open"), .str (Str.ofString "closed")] = true := by rw [show [D.str (Str.ofString "open"), D.str (Str.ofString "closed")] = [Str.ofString "open", Str.ofString "closed"].map D.str from rfl, inD_strs]; decide +kernel
theorem wi_open_1 : inD (.str (Str.ofString "open")) [.str (Str.ofString "all"), .str (Str.ofString "none")] = false := by rw [show [D.str (Str.ofString "all"), D.str (Str.ofString "none")] = [Str.ofString "all", Str.ofString "none"].map D.str from rfl, inD_strs]; decide +kernel
theorem wi_open_2 : inD (.str (Str.ofString "open")) [.str (Str.ofString "and"), .str (Str.ofString "or")] = false := by rw [show [D.str (Str.ofString "and"), D.str (Str.ofString "or")] = [Str.ofString "and", Str.ofString "or"].map D.str from rfl, inD_strs]; decide +kernel
theorem wi_open_3 : inD (.str (Str.ofString "open")) [.str (Str.ofString "open"), .str (Str.ofString "closed"), .str (Str.ofString "all"), .str (Str.ofString "none")] = true := by rw [show [D.str (Str.ofString "open"), D.str (Str.ofString "closed"), D.str (Str.ofString "all"), D.str (Str.ofString "none")] = [Str.ofString "open", Str.ofString "closed", Str.ofString "all", Str.ofString "none"].map D.str from rfl, inD_strs]; decide +kernel
theorem wq_closed_open : (Str.ofString "closed" = Str.ofString "open") = False := eq_false (by decide +kernel)
theorem wq_closed_all : (Str.ofString "closed" = Str.ofString "all") = False := eq_false (by decide +kernel)
theorem wq_closed_none : (Str.ofString "closed" = Str.ofString "none") = False := eq_false (by decide +kernel)
theorem wq_closed_and : (Str.ofString "closed" = Str.ofString "and") = False := eq_false (by decide +kernel)
theorem wq_closed_or : (Str.ofString "closed" = Str.ofString "or") = False := eq_false (by decide +kernel)
theorem wq_closed_not : (Str.ofString "closed" = Str.ofString "not") = False := eq_false (by decide +kernel)
theorem wi_closed_0 : inD (.str (Str.ofString "closed")) [.str (Str.ofString "open"), .str (Str.ofString "closed")] = true := by rw [show [D.str (Str.ofString "open"), D.str (Str.ofString "closed")] = [Str.ofString "open", Str.ofString "closed"].map D.str from rfl, inD_strs]; decide +kernel
theorem wi_closed_1 : inD (.str (Str.ofString "closed")) [.str (Str.ofString "all"), .str (Str.ofString "none")] = false := by rw [show [D.str (Str.ofString "all"), D.str (Str.ofString "none")] = [Str.ofString "all", Str.ofString "none"].map D.str from rfl, inD_strs]; decide +kernel
theorem wi_closed_2 : inD (.str (Str.ofString "closed")) [.str (Str.ofString "and"), .str (Str.ofString "or")] = false := by rw [show [D.str (Str.ofString "and"), D.str (Str.ofString "or")] = [Str.ofString "and", Str.ofString "or"].map D.str from rfl, inD_strs]; decide +kernel
theorem wi_closed_3 : inD (.str (Str.ofString "closed")) [.str (Str.ofString "open"), .str (Str.ofString "closed"), .str (Str.ofString "all"), .str (Str.ofString "none")] = true := by rw [show [D.str (Str.ofString "open"), D.str (Str.ofString "closed"), D.str (Str.ofString "all"), D.str (Str.ofString "none")] = [Str.ofString "open", Str.ofString "closed", Str.ofString "all", Str.ofString "none"].map D.str from rfl, inD_strs]; decide +kernel
theorem wq_all_open : (Str.ofString "all" = Str.ofString "open") = False := eq_false (by decide +kernel)
theorem wq_all_closed : (Str.ofString "all" = Str.ofString "closed") = False := eq_false (by decide +kernel)
theorem wq_all_none : (Str.ofString "all" = Str.ofString "none") = False := eq_false (by decide +kernel)
theorem wq_all_and : (Str.ofString "all" = Str.ofString "and") = False := eq_false (by decide +kernel)
theorem wq_all_or : (Str.ofString "all" = Str.ofString "or") = False := eq_false (by decide +kernel)
theorem wq_all_not : (Str.ofString "all" = Str.ofString "not") = False := eq_false (by decide +kernel)
theorem wi_all_0 : inD (.str (Str.ofString "all")) [.str (Str.ofString "open"), .str (Str.ofString "closed")] = false := by rw [show [D.str (Str.ofString "open"), D.str (Str.ofString "closed")] = [Str.ofString "open", Str.ofString "closed"].map D.str from rfl, inD_strs]; decide +kernel
theorem wi_all_1 : inD (.str (Str.ofString "all")) [.str (Str.ofString "all"), .str (Str.ofString "none")] = true := by rw [show [D.str (Str.ofString "all"), D.str (Str.ofString "none")] = [Str.ofString "all", Str.ofString "none"].map D.str from rfl, inD_strs]; decide +kernel
theorem wi_all_2 : inD (.str (Str.ofString "all")) [.str (Str.ofString "and"), .str (Str.ofString "or")] = false := by rw [show [D.str (Str.ofString "and"), D.str (Str.ofString "or")] = [Str.ofString "and", Str.ofString "or"].map D.str from rfl, inD_strs]; decide +kernel
theorem wi_all_3 : inD (.str (Str.ofString "all")) [.str (Str.ofString "open"), .str (Str.ofString "closed"), .str (Str.ofString "all"), .str (Str.ofString "none")] = true := by rw [show [D.str (Str.ofString "open"), D.str (Str.ofString "closed"), D.str (Str.ofString "all"), D.str (Str.ofString "none")] = [Str.ofString "open", Str.ofString "closed", Str.ofString "all", Str.ofString "none"].map D.str from rfl, inD_strs]; decide +kernel
theorem wq_none_open : (Str.ofString "none" = Str.ofString "open") = False := eq_false (by decide +kernel)
theorem wq_none_closed : (Str.ofString "none" = Str.ofString "closed") = False := eq_false (by decide +kernel)
theorem wq_none_all : (Str.ofString "none" = Str.ofString "all") = False := eq_false (by decide +kernel)
theorem wq_none_and : (Str.ofString "none" = Str.ofString "and") = False := eq_false (by decide +kernel)
theorem wq_none_or : (Str.ofString "none" = Str.ofString "or") = False := eq_false (by decide +kernel)
theorem wq_none_not : (Str.ofString "none" = Str.ofString "not") = False := eq_false (by decide +kernel)
theorem wi_none_0 : inD (.str (Str.ofString "none")) [.str (Str.ofString "open"), .str (Str.ofString "closed")] = false := by rw [show [D.str (Str.ofString "open"), D.str (Str.ofString "closed")] = [Str.ofString "open", Str.ofString "closed"].map D.str from rfl, inD_strs]; decide +kernel
theorem wi_none_1 : inD (.str (Str.ofString "none")) [.str (Str.ofString "all"), .str (Str.ofString "none")] = true := by rw [show [D.str (Str.ofString "all"), D.str (Str.ofString "none")] = [Str.ofString "all", Str.ofString "none"].map D.str from rfl, inD_strs]; decide +kernel
theorem wi_none_2 : inD (.str (Str.ofString "none")) [.str (Str.ofString "and"), .str (Str.ofString "or")] = false := by rw [show [D.str (Str.ofString "and"), D.str (Str.ofString "or")] = [Str.ofString "and", Str.ofString "or"].map D.str from rfl, inD_strs]; decide +kernel
theorem wi_none_3 : inD (.str (Str.ofString "none")) [.str (Str.ofString "open"), .str (Str.ofString "closed"), .str (Str.ofString "all"), .str (Str.ofString "none")] = true := by rw [show [D.str (Str.ofString "open"), D.str (Str.ofString "closed"), D.str (Str.ofString "all"), D.str (Str.ofString "none")] = [Str.ofString "open", Str.ofString "closed", Str.ofString "all", Str.ofString "none"].map D.str from rfl, inD_strs]; decide +kernel
theorem wq_and_open : (Str.ofString "and" = Str.ofString "open") = False := eq_false (by decide +kernel)
theorem wq_and_closed : (Str.ofString "and" = Str.ofString "closed") = False := eq_false (by decide +kernel)
theorem wq_and_all : (Str.ofString "and" = Str.ofString "all") = False := eq_false (by decide +kernel)
theorem wq_and_none : (Str.ofString "and" = Str.ofString "none") = False := eq_false (by decide +kernel)
theorem wq_and_or : (Str.ofString "and" = Str.ofString "or") = False := eq_false (by decide +kernel)
theorem wq_and_not : (Str.ofString "and" = Str.ofString "not") = False := eq_false (by decide +kernel)
theorem wi_and_0 : inD (.str (Str.ofString "and")) [.str (Str.ofString "open"), .str (Str.ofString "closed")] = false := by rw [show [D.str (Str.ofString "open"), D.str (Str.ofString "closed")] = [Str.ofString "open", Str.ofString "closed"].map D.str from rfl, inD_strs]; decide +kernel
theorem wi_and_1 : inD (.str (Str.ofString "and")) [.str (Str.ofString "all"), .str (Str.ofString "none")] = false := by rw [show [D.str (Str.ofString "all"), D.str (Str.ofString "none")] = [Str.ofString "all", Str.ofString "none"].map D.str from rfl, inD_strs]; decide +kernel
theorem wi_and_2 : inD (.str (Str.ofString "and")) [.str (Str.ofString "and"), .str (Str.ofString "or")] = true := by rw [show [D.str (Str.ofString "and"), D.str (Str.ofString "or")] = [Str.ofString "and", Str.ofString "or"].map D.str from rfl, inD_strs]; decide +kernel
theorem wi_and_3 : inD (.str (Str.ofString "and")) [.str (Str.ofString "open"), .str (Str.ofString "closed"), .str (Str.ofString "all"), .str (Str.ofString "none")] = false := by rw [show [D.str (Str.ofString "open"), D.str (Str.ofString "closed"), D.str (Str.ofString "all"), D.str (Str.ofString "none")] = [Str.ofString "open", Str.ofString "closed", Str.ofString "all", Str.ofString "none"].map D.str from rfl, inD_strs]; decide +kernel
theorem wq_or_open : (Str.ofString "or" = Str.ofString "open") = False := eq_false (by decide +kernel)
theorem wq_or_closed : (Str.ofString "or" = Str.ofString "closed") = False := eq_false (by decide +kernel)
theorem wq_or_all : (Str.ofString "or" = Str.ofString "all") = False := eq_false (by decide +kernel)
theorem wq_or_none : (Str.ofString "or" = Str.ofString "none") = False := eq_false (by decide +kernel)
theorem wq_or_and : (Str.ofString "or" = Str.ofString "and") = False := eq_false (by decide +kernel)
theorem wq_or_not : (Str.ofString "or" = Str.ofString "not") = False := eq_false (by decide +kernel)
theorem wi_or_0 : inD (.str (Str.ofString "or")) [.str (Str.ofString "open"), .str (Str.ofString "closed")] = false := by rw [show [D.str (Str.ofString "open"), D.str (Str.ofString "closed")] = [Str.ofString "open", Str.ofString "closed"].map D.str from rfl, inD_strs]; decide +kernel
theorem wi_or_1 : inD (.str (Str.ofString "or")) [.str (Str.ofString "all"), .str (Str.ofString "none")] = false := by rw [show [D.str (Str.ofString "all"), D.str (Str.ofString "none")] = [Str.ofString "all", Str.ofString "none"].map D.str from rfl, inD_strs]; decide +kernel
theorem wi_or_2 : inD (.str (Str.ofString "or")) [.str (Str.ofString "and"), .str (Str.ofString "or")] = true := by rw [show [D.str (Str.ofString "and"), D.str (Str.ofString "or")] = [Str.ofString "and", Str.ofString "or"].map D.str from rfl, inD_strs]; decide +kernel
theorem wi_or_3 : inD (.str (Str.ofString "or")) [.str (Str.ofString "open"), .str (Str.ofString "closed"), .str (Str.ofString "all"), .str (Str.ofString "none")] = false := by rw [show [D.str (Str.ofString "open"), D.str (Str.ofString "closed"), D.str (Str.ofString "all"), D.str (Str.ofString "none")] = [Str.ofString "open", Str.ofString "closed", Str.ofString "all", Str.ofString "none"].map D.str from rfl, inD_strs]; decide +kernel
theorem wq_not_open : (Str.ofString "not" = Str.ofString "open") = False := eq_false (by decide +kernel)
theorem wq_not_closed : (Str.ofString "not" = Str.ofString "closed") = False := eq_false (by decide +kernel)
theorem wq_not_all : (Str.ofString "not" = Str.ofString "all") = False := eq_false (by decide +kernel)
theorem wq_not_none : (Str.ofString "not" = Str.ofString "none") = False := eq_false (by decide +kernel)
theorem wq_not_and : (Str.ofString "not" = Str.ofString "and") = False := eq_false (by decide +kernel)
theorem wq_not_or : (Str.ofString "not" = Str.ofString "or") = False := eq_false (by decide +kernel)
theorem wi_not_0 : inD (.str (Str.ofString "not")) [.str (Str.ofString "open"), .str (Str.ofString "closed")] = false := by rw [show [D.str (Str.ofString "open"), D.str (Str.ofString "closed")] = [Str.ofString "open", Str.ofString "closed"].map D.str from rfl, inD_strs]; decide +kernel
theorem wi_not_1 : inD (.str (Str.ofString "not")) [.str (Str.ofString "all"), .str (Str.ofString "none")] = false := by rw [show [D.str (Str.ofString "all"), D.str (Str.ofString "none")] = [Str.ofString "all", Str.ofString "none"].map D.str from rfl, inD_strs]; decide +kernel
theorem wi_not_2 : inD (.str (Str.ofString "not")) [.str (Str.ofString "and"), .str (Str.ofString "or")] = false := by rw [show [D.str (Str.ofString "and"), D.str (Str.ofString "or")] = [Str.ofString "and", Str.ofString "or"].map D.str from rfl, inD_strs]; decide +kernel
theorem wi_not_3 : inD (.str (Str.ofString "not")) [.str (Str.ofString "open"), .str (Str.ofString "closed"), .str (Str.ofString "all"), .str (Str.ofString "none")] = false := by rw [show [D.str (Str.ofString "open"), D.str (Str.ofString "closed"), D.str (Str.ofString "all"), D.str (Str.ofString "none")] = [Str.ofString "open", Str.ofString "closed", Str.ofString "all", Str.ofString "none"].map D.str from rfl, inD_strs]; decide +kernel

def S_parts_of : Spec := fun ds m Q E => ∃ q : Rq, ds = [q.d] ∧ Q (.lst (q.parts.map Rq.d)) m
def S_need_request : Spec := fun ds m Q E => ∃ q : Rq, ds = [q.d] ∧ q.Good 24 ∧ Q .non m
def S_holes_in (r : Nat) : Spec := fun ds m Q E => ∃ q : Rq, ds = [q.d] ∧ q.depth ≤ r ∧ q.size ≤ 1000 ∧ Q (.lst (q.holes.map fun (i : Nat) => D.int i)) m
def S_need_holes : Spec := fun ds m Q E => ∃ (hs : List Nat) (w : Nat), ds = [.lst (hs.map fun (i : Nat) => D.int i), .int (w : Nat)] ∧ (∀ i ∈ hs, i < w) ∧ Q .non m
def S_holds (r : Nat) : Spec := fun ds m Q E => ∃ (q : Rq) (bs : List Bool), ds = [q.d, .str (rw_ bs)] ∧ q.depth ≤ r ∧ q.ok bs.length ∧ bs.length ≤ 1000 ∧ Q (.bl (q.hd bs)) m
/-- the first row on which two differ -/
def difD (p q : Rq) (w : Nat) : D := match (List.range (2 ^ w)).find? (fun k => p.hd (rowOf w (k : Nat)) != q.hd (rowOf w (k : Nat))) with
  | some k => .str (rw_ (rowOf w (k : Nat)))
  | none => .non
def S_difference : Spec := fun ds m Q E => ∃ (p q : Rq) (w : Nat), ds = [p.d, q.d, .int (w : Nat)] ∧ 1 ≤ w ∧ w ≤ 10 ∧ p.Good w ∧ q.Good w ∧ Q (difD p q w) m
def S__law_parts : Spec := fun ds m Q E => ∃ q : Rq, ds = [q.d] ∧ Q (.lst (q.parts.map Rq.d)) m
def S__law_fits (r : Nat) : Spec := fun ds m Q E => ∃ (q : Rq) (bs : List Bool), ds = [q.d, .str (rw_ bs)] ∧ q.depth ≤ r ∧ q.ok bs.length ∧ bs.length ≤ 1000 ∧ Q (.bl (q.hd bs)) m
def S__law_due : Spec := fun ds m Q E => ∃ (p q : Rq) (w : Nat), ds = [p.d, q.d, .int (w : Nat)] ∧ 1 ≤ w ∧ w ≤ 10 ∧ p.Good w ∧ q.Good w ∧ Q (difD p q w) m
theorem Rq.parts_depth {q p : Rq} (h : p ∈ q.parts) : p.depth + 1 ≤ q.depth := by
  cases q <;> simp [Rq.parts] at h
  case and a b => rcases h with rfl | rfl <;> simp [Rq.depth] <;> omega
  case or a b => rcases h with rfl | rfl <;> simp [Rq.depth] <;> omega
  case not a => subst h; simp [Rq.depth]
theorem Rq.parts_size {q p : Rq} (h : p ∈ q.parts) : p.size + 1 ≤ q.size := by
  cases q <;> simp [Rq.parts] at h
  case and a b => rcases h with rfl | rfl <;> simp [Rq.size] <;> omega
  case or a b => rcases h with rfl | rfl <;> simp [Rq.size] <;> omega
  case not a => subst h; simp [Rq.size]; omega
theorem Rq.parts_holes {q p : Rq} (h : p ∈ q.parts) : ∀ i ∈ p.holes, i ∈ q.holes := by
  cases q <;> simp [Rq.parts] at h
  case and a b => rcases h with rfl | rfl <;> (intro i hi; simp [Rq.holes, hi])
  case or a b => rcases h with rfl | rfl <;> (intro i hi; simp [Rq.holes, hi])
  case not a => subst h; intro i hi; simp [Rq.holes, hi]
theorem bls2 (a b : Bool) : bls [.bl a, .bl b] = some [a, b] := bls_map [a, b]
theorem dEq_bb2 {x y : Bool} {m : Mu} {Q : D → Mu → Prop} (h : Q (.bl (x && y)) m) : dEq (.lst [.bl x, .bl y]) (.lst [.bl true, .bl true]) m Q := by
  unfold dEq
  rw [vw_lst, vw_lst]
  have e : eqd (.lst [.bl x, .bl y]) (.lst [.bl true, .bl true]) = (x && y) := by cases x <;> cases y <;> simp [eqd, py, pys, PyData.eqv, PyData.eqvAll]
  rw [e]
  exact ⟨by cases x <;> cases y <;> decide, by decide, h⟩
theorem inD_b2 (x y : Bool) : inD (.bl true) [.bl x, .bl y] = (x || y) := by cases x <;> cases y <;> decide
section
variable {P : Program} {w : World} {K : PySem.W.Frag} {mg : Str → Option Value} {base : Heap} {k : Nat} {f : Addr} {fd : FuncData}
def g_parts_of : GS :=
  (sRet (gIf (cOr (cVal (gBin (dIn false) (gBin dIx (gVar 0) (gC (.int 0))) (gC (.tup [.str "and", .str "or"])))) (cVal (gBin dEq (gBin dIx (gVar 0) (gC (.int 0))) (gC (.str "not"))))) (gCB dListU (aCons (gSl (gVar 0) (oSome (gC (.int 1))) oNo) aNil)) (gLst aNil)))
theorem lift_parts_of (F : FnG P w K mg base k f fd ["request"] (wpS ["request"] ["request"] g_parts_of)) : FnG P w K mg base k f fd ["request"] S_parts_of := F.imp fun ds m Q E h => by
  obtain ⟨q, rfl, h⟩ := h
  refine ⟨rfl, ?_⟩
  cases q <;> (simp only [Rq.d, g_parts_of, ↓reduceIte, ↓u_sNx, ↓u_sSeq, ↓u_nx, ↓u_rt, ↓u_bk, ↓u_ct, ↓u_sBreak, ↓u_sCont, ↓u_sDrop, ↓u_sRet, ↓u_sRetN, ↓u_sIf, ↓u_sAsg, ↓u_gC, ↓u_aNil, ↓u_aCons, ↓u_gTup, ↓u_gLst, ↓u_gLstM, ↓u_gBin, ↓u_cVal, ↓u_onBl, ↓u_onInt, ↓u_onStr, ↓u_gChain, ↓u_cAnd, ↓u_cOr, ↓u_cNot, ↓u_gAnd, ↓u_gOr, ↓u_gNot, ↓u_gIf, ↓u_gNeg, ↓u_nNil, ↓u_nCons, ↓u_nTup, ↓u_nSub, ↓u_gCB, ↓u_gCall, ↓u_gM0, ↓u_gM1, ↓u_gL, ↓u_gL0, ↓u_oNo, ↓u_oSome, ↓u_gSl, ↓u_cYes, ↓u_on1, ↓u_on2, ↓u_dInt, ↓u_dInt0, ↓u_gLc, ↓u_gLcM, ↓u_gLc2, ↓u_sNever, ↓u_iEnS, ↓u_iEnL, ↓u_iEnumD, ↓u_iZipD, ↓u_zipS, ↓u_zipL, ↓u_iSeq, ↓u_iRange1, ↓u_iRange2, ↓u_sWhile, ↓u_iRange3, ↓u_on3, ↓u_sFor, ↓u_dMax2, ↓u_dMin2, ↓u_gDct0, ↓u_gVar0, ↓u_sSet0, ↓u_nName0, ↓u_gVar1, ↓u_sSet1, ↓u_nName1, ↓u_gVar2, ↓u_sSet2, ↓u_nName2, ↓u_gVar3, ↓u_sSet3, ↓u_nName3, ↓u_gVar4, ↓u_sSet4, ↓u_nName4, ↓u_gVar5, ↓u_sSet5, ↓u_nName5, ↓u_gVar6, ↓u_sSet6, ↓u_nName6, ↓u_gVar7, ↓u_sSet7, ↓u_nName7, ↓u_gVar8, ↓u_sSet8, ↓u_nName8, ↓u_gVar9, ↓u_sSet9, ↓u_nName9, ↓u_gVar10, ↓u_sSet10, ↓u_nName10, ↓u_gVar11, ↓u_sSet11, ↓u_nName11, ↓u_gVar12, ↓u_sSet12, ↓u_nName12, ↓u_gVar13, ↓u_sSet13, ↓u_nName13, ↓u_gVar14, ↓u_sSet14, ↓u_nName14, ↓u_gVar15, ↓u_sSet15, ↓u_nName15, ↓u_gVar16, ↓u_sSet16, ↓u_nName16, ↓u_gVar17, ↓u_sSet17, ↓u_nName17, ↓dToInt_int, ↓dToInt_bl, ↓dListU_lst, ↓dListU_tup, ↓dListU_str, ↓dListUM_lst, ↓dListUM_tup, ↓dListUM_str, ↓dTuple_lst, ↓dTuple_tup, ↓dIn_lst, ↓dIn_tup, ↓dSl_str, ↓dSl_lst, ↓dSl_tup, ↓dAdd_int, ↓dAdd_str, ↓dAdd_lst, ↓dAdd_tup, ↓dMul_int, ↓dMul_str, ↓dMul_lst, ↓dIx_lst, ↓dIx_ro, ↓dIx_tup, ↓dIx_str, ↓onSome_some, ↓dLen_lst, ↓dLen_tup, ↓dLen_str, ↓dLen_ro, ↓dLen_dct, ↓items_str, ↓items_lst, ↓items_tup, ↓items_ro, ↓dAll_lst, ↓dAny_lst, ↓dSum_lst, ↓dIsi_ty, ↓dIsi_tup, ↓dIn_str, ↓onSeq_lst, ↓onSeq_tup, ↓dIs_bb, ↓dStrI_i, ↓dIsW_bb, ↓dIsW_ib, ↓dIsW_sb, ↓dIsW_nb, ↓dIsW_lb, ↓dIsW_tb, ↓dIsW_db, ↓dIsW_nn, ↓dIsW_in, ↓dIsW_sn, ↓dIsW_ln, ↓dIsW_tn, ↓dEq_ii, ↓dEq_ss, ↓dNe_ii, ↓dNe_ss, ↓dEq_nil, ↓dNe_nil, ↓dEq_bb, ↓dNe_bb, List.append_nil, List.nil_append, List.cons_append, startD, List.map_cons, List.map_nil, List.length_cons, List.length_nil, Nat.sub_self, List.replicate_zero, List.replicate_succ, List.set_cons_zero, List.set_cons_succ, List.getElem?_cons_zero, List.getElem?_cons_succ, atI_lit, vw_int, vw_str, vw_bl, vw_non, vw_lst, vw_tup, vw_dct, vw_ro, vw_obj, vw_cls, Nat.reduceAdd, Nat.reduceSub, Int.reduceToNat, Int.reduceNeg, Int.reducePow, Int.reduceAdd, Int.reduceSub, Int.reduceMul, ixN_lit, decide_eq_true_eq, decide_eq_false_iff_not, if_true, if_false, Bool.false_eq_true, Bool.not_true, Bool.not_false, Nat.reduceLT, Nat.reduceLeDiff, Int.reduceLT, Int.reduceLE, true_and, and_true, and_self, ite_true, ite_false, kind_int, kind_bl, kind_non, kind_str, kind_lst, kind_tup, kind_dct, clsAll_lt, all_lt, any_lt_l, any_lt_t, any_lt_s, any_lt_i, any_lt_b, any_lt_n, any_lt_d, kc_int, kc_bool, kc_str, kc_list, kc_tuple, kc_dict, isiT, String.reduceBEq, Bool.or_false, Bool.or_true, Bool.false_or, Bool.true_or, Bool.and_false, Bool.false_and, Bool.and_true, Bool.true_and, wipeD, Bool.not_eq_true, Bool.not_eq_false, Bool.not_eq_eq_eq_not, Bool.not_not, Bool.false_bne, Bool.true_bne, dJoin, onSome_some, sizeLine_eq, Mu.put_same, put_put, Nat.zero_le, decide_true, decide_false, flt_litc, fld_str, fld_int, fld_bl, fld_non, List.all_cons, List.all_nil, reduceCtorEq, strOk_of, eqd_int, eqd_str, eqd_bl, eqd_lst0, eqd_lst1, eqd_lst2, eqd_lst3, eqd_tup0, eqd_tup1, eqd_tup2, eqd_tup3, flt_bl, flt_non, wq_open_closed, wq_open_all, wq_open_none, wq_open_and, wq_open_or, wq_open_not, wi_open_0, wi_open_1, wi_open_2, wi_open_3, wq_closed_open, wq_closed_all, wq_closed_none, wq_closed_and, wq_closed_or, wq_closed_not, wi_closed_0, wi_closed_1, wi_closed_2, wi_closed_3, wq_all_open, wq_all_closed, wq_all_none, wq_all_and, wq_all_or, wq_all_not, wi_all_0, wi_all_1, wi_all_2, wi_all_3, wq_none_open, wq_none_closed, wq_none_all, wq_none_and, wq_none_or, wq_none_not, wi_none_0, wi_none_1, wi_none_2, wi_none_3, wq_and_open, wq_and_closed, wq_and_all, wq_and_none, wq_and_or, wq_and_not, wi_and_0, wi_and_1, wi_and_2, wi_and_3, wq_or_open, wq_or_closed, wq_or_all, wq_or_none, wq_or_and, wq_or_not, wi_or_0, wi_or_1, wi_or_2, wi_or_3, wq_not_open, wq_not_closed, wq_not_all, wq_not_none, wq_not_and, wq_not_or, wi_not_0, wi_not_1, wi_not_2, wi_not_3, cut1, Bool.false_eq_true]; exact h)
def g_need_request : GS :=
  (sIf (cNot (cVal (gCall S_is_request [] (aCons (gVar 0) aNil)))) sNever sNx)
theorem lift_need_request (F : FnG P w K mg base k f fd ["request"] (wpS ["request"] ["request"] g_need_request)) : FnG P w K mg base k f fd ["request"] S_need_request := F.imp fun ds m Q E h => by
  obtain ⟨q, rfl, g, h⟩ := h
  refine ⟨rfl, ?_⟩
  simp only [g_need_request, ↓reduceIte, ↓u_sNx, ↓u_sSeq, ↓u_nx, ↓u_rt, ↓u_bk, ↓u_ct, ↓u_sBreak, ↓u_sCont, ↓u_sDrop, ↓u_sRet, ↓u_sRetN, ↓u_sIf, ↓u_sAsg, ↓u_gC, ↓u_aNil, ↓u_aCons, ↓u_gTup, ↓u_gLst, ↓u_gLstM, ↓u_gBin, ↓u_cVal, ↓u_onBl, ↓u_onInt, ↓u_onStr, ↓u_gChain, ↓u_cAnd, ↓u_cOr, ↓u_cNot, ↓u_gAnd, ↓u_gOr, ↓u_gNot, ↓u_gIf, ↓u_gNeg, ↓u_nNil, ↓u_nCons, ↓u_nTup, ↓u_nSub, ↓u_gCB, ↓u_gCall, ↓u_gM0, ↓u_gM1, ↓u_gL, ↓u_gL0, ↓u_oNo, ↓u_oSome, ↓u_gSl, ↓u_cYes, ↓u_on1, ↓u_on2, ↓u_dInt, ↓u_dInt0, ↓u_gLc, ↓u_gLcM, ↓u_gLc2, ↓u_sNever, ↓u_iEnS, ↓u_iEnL, ↓u_iEnumD, ↓u_iZipD, ↓u_zipS, ↓u_zipL, ↓u_iSeq, ↓u_iRange1, ↓u_iRange2, ↓u_sWhile, ↓u_iRange3, ↓u_on3, ↓u_sFor, ↓u_dMax2, ↓u_dMin2, ↓u_gDct0, ↓u_gVar0, ↓u_sSet0, ↓u_nName0, ↓u_gVar1, ↓u_sSet1, ↓u_nName1, ↓u_gVar2, ↓u_sSet2, ↓u_nName2, ↓u_gVar3, ↓u_sSet3, ↓u_nName3, ↓u_gVar4, ↓u_sSet4, ↓u_nName4, ↓u_gVar5, ↓u_sSet5, ↓u_nName5, ↓u_gVar6, ↓u_sSet6, ↓u_nName6, ↓u_gVar7, ↓u_sSet7, ↓u_nName7, ↓u_gVar8, ↓u_sSet8, ↓u_nName8, ↓u_gVar9, ↓u_sSet9, ↓u_nName9, ↓u_gVar10, ↓u_sSet10, ↓u_nName10, ↓u_gVar11, ↓u_sSet11, ↓u_nName11, ↓u_gVar12, ↓u_sSet12, ↓u_nName12, ↓u_gVar13, ↓u_sSet13, ↓u_nName13, ↓u_gVar14, ↓u_sSet14, ↓u_nName14, ↓u_gVar15, ↓u_sSet15, ↓u_nName15, ↓u_gVar16, ↓u_sSet16, ↓u_nName16, ↓u_gVar17, ↓u_sSet17, ↓u_nName17, ↓dToInt_int, ↓dToInt_bl, ↓dListU_lst, ↓dListU_tup, ↓dListU_str, ↓dListUM_lst, ↓dListUM_tup, ↓dListUM_str, ↓dTuple_lst, ↓dTuple_tup, ↓dIn_lst, ↓dIn_tup, ↓dSl_str, ↓dSl_lst, ↓dSl_tup, ↓dAdd_int, ↓dAdd_str, ↓dAdd_lst, ↓dAdd_tup, ↓dMul_int, ↓dMul_str, ↓dMul_lst, ↓dIx_lst, ↓dIx_ro, ↓dIx_tup, ↓dIx_str, ↓onSome_some, ↓dLen_lst, ↓dLen_tup, ↓dLen_str, ↓dLen_ro, ↓dLen_dct, ↓items_str, ↓items_lst, ↓items_tup, ↓items_ro, ↓dAll_lst, ↓dAny_lst, ↓dSum_lst, ↓dIsi_ty, ↓dIsi_tup, ↓dIn_str, ↓onSeq_lst, ↓onSeq_tup, ↓dIs_bb, ↓dStrI_i, ↓dIsW_bb, ↓dIsW_ib, ↓dIsW_sb, ↓dIsW_nb, ↓dIsW_lb, ↓dIsW_tb, ↓dIsW_db, ↓dIsW_nn, ↓dIsW_in, ↓dIsW_sn, ↓dIsW_ln, ↓dIsW_tn, ↓dEq_ii, ↓dEq_ss, ↓dNe_ii, ↓dNe_ss, ↓dEq_nil, ↓dNe_nil, ↓dEq_bb, ↓dNe_bb, List.append_nil, List.nil_append, List.cons_append, startD, List.map_cons, List.map_nil, List.length_cons, List.length_nil, Nat.sub_self, List.replicate_zero, List.replicate_succ, List.set_cons_zero, List.set_cons_succ, List.getElem?_cons_zero, List.getElem?_cons_succ, atI_lit, vw_int, vw_str, vw_bl, vw_non, vw_lst, vw_tup, vw_dct, vw_ro, vw_obj, vw_cls, Nat.reduceAdd, Nat.reduceSub, Int.reduceToNat, Int.reduceNeg, Int.reducePow, Int.reduceAdd, Int.reduceSub, Int.reduceMul, ixN_lit, decide_eq_true_eq, decide_eq_false_iff_not, if_true, if_false, Bool.false_eq_true, Bool.not_true, Bool.not_false, Nat.reduceLT, Nat.reduceLeDiff, Int.reduceLT, Int.reduceLE, true_and, and_true, and_self, ite_true, ite_false, kind_int, kind_bl, kind_non, kind_str, kind_lst, kind_tup, kind_dct, clsAll_lt, all_lt, any_lt_l, any_lt_t, any_lt_s, any_lt_i, any_lt_b, any_lt_n, any_lt_d, kc_int, kc_bool, kc_str, kc_list, kc_tuple, kc_dict, isiT, String.reduceBEq, Bool.or_false, Bool.or_true, Bool.false_or, Bool.true_or, Bool.and_false, Bool.false_and, Bool.and_true, Bool.true_and, wipeD, Bool.not_eq_true, Bool.not_eq_false, Bool.not_eq_eq_eq_not, Bool.not_not, Bool.false_bne, Bool.true_bne, dJoin, onSome_some, sizeLine_eq, Mu.put_same, put_put, Nat.zero_le, decide_true, decide_false, flt_litc, fld_str, fld_int, fld_bl, fld_non, List.all_cons, List.all_nil, reduceCtorEq, strOk_of, eqd_int, eqd_str, eqd_bl, eqd_lst0, eqd_lst1, eqd_lst2, eqd_lst3, eqd_tup0, eqd_tup1, eqd_tup2, eqd_tup3, flt_bl, flt_non]
  refine ⟨_, 12, rfl, Rq.okw_d q 12 g.dp (fun i hi => Nat.lt_of_lt_of_le (g.ho i hi) (by decide)), ?_⟩
  simp only [↓reduceIte, ↓u_sNx, ↓u_sSeq, ↓u_nx, ↓u_rt, ↓u_bk, ↓u_ct, ↓u_sBreak, ↓u_sCont, ↓u_sDrop, ↓u_sRet, ↓u_sRetN, ↓u_sIf, ↓u_sAsg, ↓u_gC, ↓u_aNil, ↓u_aCons, ↓u_gTup, ↓u_gLst, ↓u_gLstM, ↓u_gBin, ↓u_cVal, ↓u_onBl, ↓u_onInt, ↓u_onStr, ↓u_gChain, ↓u_cAnd, ↓u_cOr, ↓u_cNot, ↓u_gAnd, ↓u_gOr, ↓u_gNot, ↓u_gIf, ↓u_gNeg, ↓u_nNil, ↓u_nCons, ↓u_nTup, ↓u_nSub, ↓u_gCB, ↓u_gCall, ↓u_gM0, ↓u_gM1, ↓u_gL, ↓u_gL0, ↓u_oNo, ↓u_oSome, ↓u_gSl, ↓u_cYes, ↓u_on1, ↓u_on2, ↓u_dInt, ↓u_dInt0, ↓u_gLc, ↓u_gLcM, ↓u_gLc2, ↓u_sNever, ↓u_iEnS, ↓u_iEnL, ↓u_iEnumD, ↓u_iZipD, ↓u_zipS, ↓u_zipL, ↓u_iSeq, ↓u_iRange1, ↓u_iRange2, ↓u_sWhile, ↓u_iRange3, ↓u_on3, ↓u_sFor, ↓u_dMax2, ↓u_dMin2, ↓u_gDct0, ↓u_gVar0, ↓u_sSet0, ↓u_nName0, ↓u_gVar1, ↓u_sSet1, ↓u_nName1, ↓u_gVar2, ↓u_sSet2, ↓u_nName2, ↓u_gVar3, ↓u_sSet3, ↓u_nName3, ↓u_gVar4, ↓u_sSet4, ↓u_nName4, ↓u_gVar5, ↓u_sSet5, ↓u_nName5, ↓u_gVar6, ↓u_sSet6, ↓u_nName6, ↓u_gVar7, ↓u_sSet7, ↓u_nName7, ↓u_gVar8, ↓u_sSet8, ↓u_nName8, ↓u_gVar9, ↓u_sSet9, ↓u_nName9, ↓u_gVar10, ↓u_sSet10, ↓u_nName10, ↓u_gVar11, ↓u_sSet11, ↓u_nName11, ↓u_gVar12, ↓u_sSet12, ↓u_nName12, ↓u_gVar13, ↓u_sSet13, ↓u_nName13, ↓u_gVar14, ↓u_sSet14, ↓u_nName14, ↓u_gVar15, ↓u_sSet15, ↓u_nName15, ↓u_gVar16, ↓u_sSet16, ↓u_nName16, ↓u_gVar17, ↓u_sSet17, ↓u_nName17, ↓dToInt_int, ↓dToInt_bl, ↓dListU_lst, ↓dListU_tup, ↓dListU_str, ↓dListUM_lst, ↓dListUM_tup, ↓dListUM_str, ↓dTuple_lst, ↓dTuple_tup, ↓dIn_lst, ↓dIn_tup, ↓dSl_str, ↓dSl_lst, ↓dSl_tup, ↓dAdd_int, ↓dAdd_str, ↓dAdd_lst, ↓dAdd_tup, ↓dMul_int, ↓dMul_str, ↓dMul_lst, ↓dIx_lst, ↓dIx_ro, ↓dIx_tup, ↓dIx_str, ↓onSome_some, ↓dLen_lst, ↓dLen_tup, ↓dLen_str, ↓dLen_ro, ↓dLen_dct, ↓items_str, ↓items_lst, ↓items_tup, ↓items_ro, ↓dAll_lst, ↓dAny_lst, ↓dSum_lst, ↓dIsi_ty, ↓dIsi_tup, ↓dIn_str, ↓onSeq_lst, ↓onSeq_tup, ↓dIs_bb, ↓dStrI_i, ↓dIsW_bb, ↓dIsW_ib, ↓dIsW_sb, ↓dIsW_nb, ↓dIsW_lb, ↓dIsW_tb, ↓dIsW_db, ↓dIsW_nn, ↓dIsW_in, ↓dIsW_sn, ↓dIsW_ln, ↓dIsW_tn, ↓dEq_ii, ↓dEq_ss, ↓dNe_ii, ↓dNe_ss, ↓dEq_nil, ↓dNe_nil, ↓dEq_bb, ↓dNe_bb, List.append_nil, List.nil_append, List.cons_append, startD, List.map_cons, List.map_nil, List.length_cons, List.length_nil, Nat.sub_self, List.replicate_zero, List.replicate_succ, List.set_cons_zero, List.set_cons_succ, List.getElem?_cons_zero, List.getElem?_cons_succ, atI_lit, vw_int, vw_str, vw_bl, vw_non, vw_lst, vw_tup, vw_dct, vw_ro, vw_obj, vw_cls, Nat.reduceAdd, Nat.reduceSub, Int.reduceToNat, Int.reduceNeg, Int.reducePow, Int.reduceAdd, Int.reduceSub, Int.reduceMul, ixN_lit, decide_eq_true_eq, decide_eq_false_iff_not, if_true, if_false, Bool.false_eq_true, Bool.not_true, Bool.not_false, Nat.reduceLT, Nat.reduceLeDiff, Int.reduceLT, Int.reduceLE, true_and, and_true, and_self, ite_true, ite_false, kind_int, kind_bl, kind_non, kind_str, kind_lst, kind_tup, kind_dct, clsAll_lt, all_lt, any_lt_l, any_lt_t, any_lt_s, any_lt_i, any_lt_b, any_lt_n, any_lt_d, kc_int, kc_bool, kc_str, kc_list, kc_tuple, kc_dict, isiT, String.reduceBEq, Bool.or_false, Bool.or_true, Bool.false_or, Bool.true_or, Bool.and_false, Bool.false_and, Bool.and_true, Bool.true_and, wipeD, Bool.not_eq_true, Bool.not_eq_false, Bool.not_eq_eq_eq_not, Bool.not_not, Bool.false_bne, Bool.true_bne, dJoin, onSome_some, sizeLine_eq, Mu.put_same, put_put, Nat.zero_le, decide_true, decide_false, flt_litc, fld_str, fld_int, fld_bl, fld_non, List.all_cons, List.all_nil, reduceCtorEq, strOk_of, eqd_int, eqd_str, eqd_bl, eqd_lst0, eqd_lst1, eqd_lst2, eqd_lst3, eqd_tup0, eqd_tup1, eqd_tup2, eqd_tup3, flt_bl, flt_non, Rq.isReq_d g (Nat.le_refl _)]
  exact h
def g_need_holes : GS :=
  (sFor (iSeq (gVar 0)) (nName 2) (sIf (cVal (gBin dGe (gVar 2) (gVar 1))) sNever sNx))
theorem lift_need_holes (F : FnG P w K mg base k f fd ["holes", "width"] (wpS ["holes", "width"] ["holes", "width", "hole"] g_need_holes)) : FnG P w K mg base k f fd ["holes", "width"] S_need_holes := F.imp fun ds m Q E h => by
  obtain ⟨hs, w, rfl, hh, h⟩ := h
  refine ⟨rfl, ?_⟩
  simp only [g_need_holes, ↓reduceIte, ↓u_sNx, ↓u_sSeq, ↓u_nx, ↓u_rt, ↓u_bk, ↓u_ct, ↓u_sBreak, ↓u_sCont, ↓u_sDrop, ↓u_sRet, ↓u_sRetN, ↓u_sIf, ↓u_sAsg, ↓u_gC, ↓u_aNil, ↓u_aCons, ↓u_gTup, ↓u_gLst, ↓u_gLstM, ↓u_gBin, ↓u_cVal, ↓u_onBl, ↓u_onInt, ↓u_onStr, ↓u_gChain, ↓u_cAnd, ↓u_cOr, ↓u_cNot, ↓u_gAnd, ↓u_gOr, ↓u_gNot, ↓u_gIf, ↓u_gNeg, ↓u_nNil, ↓u_nCons, ↓u_nTup, ↓u_nSub, ↓u_gCB, ↓u_gCall, ↓u_gM0, ↓u_gM1, ↓u_gL, ↓u_gL0, ↓u_oNo, ↓u_oSome, ↓u_gSl, ↓u_cYes, ↓u_on1, ↓u_on2, ↓u_dInt, ↓u_dInt0, ↓u_gLc, ↓u_gLcM, ↓u_gLc2, ↓u_sNever, ↓u_iEnS, ↓u_iEnL, ↓u_iEnumD, ↓u_iZipD, ↓u_zipS, ↓u_zipL, ↓u_iSeq, ↓u_iRange1, ↓u_iRange2, ↓u_sWhile, ↓u_iRange3, ↓u_on3, ↓u_sFor, ↓u_dMax2, ↓u_dMin2, ↓u_gDct0, ↓u_gVar0, ↓u_sSet0, ↓u_nName0, ↓u_gVar1, ↓u_sSet1, ↓u_nName1, ↓u_gVar2, ↓u_sSet2, ↓u_nName2, ↓u_gVar3, ↓u_sSet3, ↓u_nName3, ↓u_gVar4, ↓u_sSet4, ↓u_nName4, ↓u_gVar5, ↓u_sSet5, ↓u_nName5, ↓u_gVar6, ↓u_sSet6, ↓u_nName6, ↓u_gVar7, ↓u_sSet7, ↓u_nName7, ↓u_gVar8, ↓u_sSet8, ↓u_nName8, ↓u_gVar9, ↓u_sSet9, ↓u_nName9, ↓u_gVar10, ↓u_sSet10, ↓u_nName10, ↓u_gVar11, ↓u_sSet11, ↓u_nName11, ↓u_gVar12, ↓u_sSet12, ↓u_nName12, ↓u_gVar13, ↓u_sSet13, ↓u_nName13, ↓u_gVar14, ↓u_sSet14, ↓u_nName14, ↓u_gVar15, ↓u_sSet15, ↓u_nName15, ↓u_gVar16, ↓u_sSet16, ↓u_nName16, ↓u_gVar17, ↓u_sSet17, ↓u_nName17, ↓dToInt_int, ↓dToInt_bl, ↓dListU_lst, ↓dListU_tup, ↓dListU_str, ↓dListUM_lst, ↓dListUM_tup, ↓dListUM_str, ↓dTuple_lst, ↓dTuple_tup, ↓dIn_lst, ↓dIn_tup, ↓dSl_str, ↓dSl_lst, ↓dSl_tup, ↓dAdd_int, ↓dAdd_str, ↓dAdd_lst, ↓dAdd_tup, ↓dMul_int, ↓dMul_str, ↓dMul_lst, ↓dIx_lst, ↓dIx_ro, ↓dIx_tup, ↓dIx_str, ↓onSome_some, ↓dLen_lst, ↓dLen_tup, ↓dLen_str, ↓dLen_ro, ↓dLen_dct, ↓items_str, ↓items_lst, ↓items_tup, ↓items_ro, ↓dAll_lst, ↓dAny_lst, ↓dSum_lst, ↓dIsi_ty, ↓dIsi_tup, ↓dIn_str, ↓onSeq_lst, ↓onSeq_tup, ↓dIs_bb, ↓dStrI_i, ↓dIsW_bb, ↓dIsW_ib, ↓dIsW_sb, ↓dIsW_nb, ↓dIsW_lb, ↓dIsW_tb, ↓dIsW_db, ↓dIsW_nn, ↓dIsW_in, ↓dIsW_sn, ↓dIsW_ln, ↓dIsW_tn, ↓dEq_ii, ↓dEq_ss, ↓dNe_ii, ↓dNe_ss, ↓dEq_nil, ↓dNe_nil, ↓dEq_bb, ↓dNe_bb, List.append_nil, List.nil_append, List.cons_append, startD, List.map_cons, List.map_nil, List.length_cons, List.length_nil, Nat.sub_self, List.replicate_zero, List.replicate_succ, List.set_cons_zero, List.set_cons_succ, List.getElem?_cons_zero, List.getElem?_cons_succ, atI_lit, vw_int, vw_str, vw_bl, vw_non, vw_lst, vw_tup, vw_dct, vw_ro, vw_obj, vw_cls, Nat.reduceAdd, Nat.reduceSub, Int.reduceToNat, Int.reduceNeg, Int.reducePow, Int.reduceAdd, Int.reduceSub, Int.reduceMul, ixN_lit, decide_eq_true_eq, decide_eq_false_iff_not, if_true, if_false, Bool.false_eq_true, Bool.not_true, Bool.not_false, Nat.reduceLT, Nat.reduceLeDiff, Int.reduceLT, Int.reduceLE, true_and, and_true, and_self, ite_true, ite_false, kind_int, kind_bl, kind_non, kind_str, kind_lst, kind_tup, kind_dct, clsAll_lt, all_lt, any_lt_l, any_lt_t, any_lt_s, any_lt_i, any_lt_b, any_lt_n, any_lt_d, kc_int, kc_bool, kc_str, kc_list, kc_tuple, kc_dict, isiT, String.reduceBEq, Bool.or_false, Bool.or_true, Bool.false_or, Bool.true_or, Bool.and_false, Bool.false_and, Bool.and_true, Bool.true_and, wipeD, Bool.not_eq_true, Bool.not_eq_false, Bool.not_eq_eq_eq_not, Bool.not_not, Bool.false_bne, Bool.true_bne, dJoin, onSome_some, sizeLine_eq, Mu.put_same, put_put, Nat.zero_le, decide_true, decide_false, flt_litc, fld_str, fld_int, fld_bl, fld_non, List.all_cons, List.all_nil, reduceCtorEq, strOk_of, eqd_int, eqd_str, eqd_bl, eqd_lst0, eqd_lst1, eqd_lst2, eqd_lst3, eqd_tup0, eqd_tup1, eqd_tup2, eqd_tup3, flt_bl, flt_non]
  refine for_inv (fun _ ρ m' => m' = m ∧ ∃ x, ρ = [some (.lst (hs.map fun (i : Nat) => D.int i)), some (.int (w : Nat)), x]) ⟨rfl, _, rfl⟩ (fun _ _ _ _ => trivial) ?_ ?_
  · rintro i d ρ m N hd ⟨rfl, x, rfl⟩ hN
    obtain ⟨j, hj, rfl⟩ := List.mem_map.mp (List.mem_of_getElem? hd)
    have := hh j hj
    simp only [↓reduceIte, ↓u_sNx, ↓u_sSeq, ↓u_nx, ↓u_rt, ↓u_bk, ↓u_ct, ↓u_sBreak, ↓u_sCont, ↓u_sDrop, ↓u_sRet, ↓u_sRetN, ↓u_sIf, ↓u_sAsg, ↓u_gC, ↓u_aNil, ↓u_aCons, ↓u_gTup, ↓u_gLst, ↓u_gLstM, ↓u_gBin, ↓u_cVal, ↓u_onBl, ↓u_onInt, ↓u_onStr, ↓u_gChain, ↓u_cAnd, ↓u_cOr, ↓u_cNot, ↓u_gAnd, ↓u_gOr, ↓u_gNot, ↓u_gIf, ↓u_gNeg, ↓u_nNil, ↓u_nCons, ↓u_nTup, ↓u_nSub, ↓u_gCB, ↓u_gCall, ↓u_gM0, ↓u_gM1, ↓u_gL, ↓u_gL0, ↓u_oNo, ↓u_oSome, ↓u_gSl, ↓u_cYes, ↓u_on1, ↓u_on2, ↓u_dInt, ↓u_dInt0, ↓u_gLc, ↓u_gLcM, ↓u_gLc2, ↓u_sNever, ↓u_iEnS, ↓u_iEnL, ↓u_iEnumD, ↓u_iZipD, ↓u_zipS, ↓u_zipL, ↓u_iSeq, ↓u_iRange1, ↓u_iRange2, ↓u_sWhile, ↓u_iRange3, ↓u_on3, ↓u_sFor, ↓u_dMax2, ↓u_dMin2, ↓u_gDct0, ↓u_gVar0, ↓u_sSet0, ↓u_nName0, ↓u_gVar1, ↓u_sSet1, ↓u_nName1, ↓u_gVar2, ↓u_sSet2, ↓u_nName2, ↓u_gVar3, ↓u_sSet3, ↓u_nName3, ↓u_gVar4, ↓u_sSet4, ↓u_nName4, ↓u_gVar5, ↓u_sSet5, ↓u_nName5, ↓u_gVar6, ↓u_sSet6, ↓u_nName6, ↓u_gVar7, ↓u_sSet7, ↓u_nName7, ↓u_gVar8, ↓u_sSet8, ↓u_nName8, ↓u_gVar9, ↓u_sSet9, ↓u_nName9, ↓u_gVar10, ↓u_sSet10, ↓u_nName10, ↓u_gVar11, ↓u_sSet11, ↓u_nName11, ↓u_gVar12, ↓u_sSet12, ↓u_nName12, ↓u_gVar13, ↓u_sSet13, ↓u_nName13, ↓u_gVar14, ↓u_sSet14, ↓u_nName14, ↓u_gVar15, ↓u_sSet15, ↓u_nName15, ↓u_gVar16, ↓u_sSet16, ↓u_nName16, ↓u_gVar17, ↓u_sSet17, ↓u_nName17, ↓dToInt_int, ↓dToInt_bl, ↓dListU_lst, ↓dListU_tup, ↓dListU_str, ↓dListUM_lst, ↓dListUM_tup, ↓dListUM_str, ↓dTuple_lst, ↓dTuple_tup, ↓dIn_lst, ↓dIn_tup, ↓dSl_str, ↓dSl_lst, ↓dSl_tup, ↓dAdd_int, ↓dAdd_str, ↓dAdd_lst, ↓dAdd_tup, ↓dMul_int, ↓dMul_str, ↓dMul_lst, ↓dIx_lst, ↓dIx_ro, ↓dIx_tup, ↓dIx_str, ↓onSome_some, ↓dLen_lst, ↓dLen_tup, ↓dLen_str, ↓dLen_ro, ↓dLen_dct, ↓items_str, ↓items_lst, ↓items_tup, ↓items_ro, ↓dAll_lst, ↓dAny_lst, ↓dSum_lst, ↓dIsi_ty, ↓dIsi_tup, ↓dIn_str, ↓onSeq_lst, ↓onSeq_tup, ↓dIs_bb, ↓dStrI_i, ↓dIsW_bb, ↓dIsW_ib, ↓dIsW_sb, ↓dIsW_nb, ↓dIsW_lb, ↓dIsW_tb, ↓dIsW_db, ↓dIsW_nn, ↓dIsW_in, ↓dIsW_sn, ↓dIsW_ln, ↓dIsW_tn, ↓dEq_ii, ↓dEq_ss, ↓dNe_ii, ↓dNe_ss, ↓dEq_nil, ↓dNe_nil, ↓dEq_bb, ↓dNe_bb, List.append_nil, List.nil_append, List.cons_append, startD, List.map_cons, List.map_nil, List.length_cons, List.length_nil, Nat.sub_self, List.replicate_zero, List.replicate_succ, List.set_cons_zero, List.set_cons_succ, List.getElem?_cons_zero, List.getElem?_cons_succ, atI_lit, vw_int, vw_str, vw_bl, vw_non, vw_lst, vw_tup, vw_dct, vw_ro, vw_obj, vw_cls, Nat.reduceAdd, Nat.reduceSub, Int.reduceToNat, Int.reduceNeg, Int.reducePow, Int.reduceAdd, Int.reduceSub, Int.reduceMul, ixN_lit, decide_eq_true_eq, decide_eq_false_iff_not, if_true, if_false, Bool.false_eq_true, Bool.not_true, Bool.not_false, Nat.reduceLT, Nat.reduceLeDiff, Int.reduceLT, Int.reduceLE, true_and, and_true, and_self, ite_true, ite_false, kind_int, kind_bl, kind_non, kind_str, kind_lst, kind_tup, kind_dct, clsAll_lt, all_lt, any_lt_l, any_lt_t, any_lt_s, any_lt_i, any_lt_b, any_lt_n, any_lt_d, kc_int, kc_bool, kc_str, kc_list, kc_tuple, kc_dict, isiT, String.reduceBEq, Bool.or_false, Bool.or_true, Bool.false_or, Bool.true_or, Bool.and_false, Bool.false_and, Bool.and_true, Bool.true_and, wipeD, Bool.not_eq_true, Bool.not_eq_false, Bool.not_eq_eq_eq_not, Bool.not_not, Bool.false_bne, Bool.true_bne, dJoin, onSome_some, sizeLine_eq, Mu.put_same, put_put, Nat.zero_le, decide_true, decide_false, flt_litc, fld_str, fld_int, fld_bl, fld_non, List.all_cons, List.all_nil, reduceCtorEq, strOk_of, eqd_int, eqd_str, eqd_bl, eqd_lst0, eqd_lst1, eqd_lst2, eqd_lst3, eqd_tup0, eqd_tup1, eqd_tup2, eqd_tup3, flt_bl, flt_non]
    rw [if_neg (by omega)]
    exact hN _ _ ⟨rfl, _, rfl⟩
  · rintro ρ m ⟨rfl, x, rfl⟩
    exact h
def g_holes_in (S : Spec) : GS :=
  (sSeq (sIf (cVal (gBin (dIn false) (gBin dIx (gVar 0) (gC (.int 0))) (gC (.tup [.str "open", .str "closed"])))) (sRet (gLst (aCons (gBin dIx (gVar 0) (gC (.int 1))) aNil))) sNx)
  (sRet (gLc2 (iSeq (gCall S_parts_of [] (aCons (gVar 0) aNil))) (nName 1) cYes (iSeq (gCall S [] (aCons (gVar 1) aNil))) (nName 2) cYes (gVar 2) [1, 2] [2])))
theorem lift_holes_in (r : Nat) (F : FnG P w K mg base k f fd ["request"] (wpS ["request"] ["request", "part", "hole"] (g_holes_in (RS S_holes_in r)))) : FnG P w K mg base k f fd ["request"] (S_holes_in r) := F.imp fun ds m Q E h => by
  obtain ⟨q, rfl, hr, hz, h⟩ := h
  refine ⟨rfl, ?_⟩
  obtain ⟨r, rfl⟩ : ∃ j, r = j + 1 := ⟨r - 1, by have := q.depth1; omega⟩
  have rest : ∀ (c : Option Cl), Q (.lst ((q.parts.flatMap Rq.holes).map fun (i : Nat) => D.int i)) m → S_parts_of [q.d] m (fun d m_1 => itemsD m_1 d fun ds st => ∀ a, m_1 a = none → lcG2 (nName 1) cYes (iSeq (gCall (RS S_holes_in (r + 1)) [] (aCons (gVar 1) aNil))) (nName 2) cYes (gVar 2) [2] st a [some q.d, none, none] Q ds [] (m_1.put a (some (.lst [])))) (fun y m2 => E y m2) := fun c hQ => by
    refine ⟨q, rfl, ?_⟩
    simp only [↓reduceIte, ↓u_sNx, ↓u_sSeq, ↓u_nx, ↓u_rt, ↓u_bk, ↓u_ct, ↓u_sBreak, ↓u_sCont, ↓u_sDrop, ↓u_sRet, ↓u_sRetN, ↓u_sIf, ↓u_sAsg, ↓u_gC, ↓u_aNil, ↓u_aCons, ↓u_gTup, ↓u_gLst, ↓u_gLstM, ↓u_gBin, ↓u_cVal, ↓u_onBl, ↓u_onInt, ↓u_onStr, ↓u_gChain, ↓u_cAnd, ↓u_cOr, ↓u_cNot, ↓u_gAnd, ↓u_gOr, ↓u_gNot, ↓u_gIf, ↓u_gNeg, ↓u_nNil, ↓u_nCons, ↓u_nTup, ↓u_nSub, ↓u_gCB, ↓u_gCall, ↓u_gM0, ↓u_gM1, ↓u_gL, ↓u_gL0, ↓u_oNo, ↓u_oSome, ↓u_gSl, ↓u_cYes, ↓u_on1, ↓u_on2, ↓u_dInt, ↓u_dInt0, ↓u_gLc, ↓u_gLcM, ↓u_gLc2, ↓u_sNever, ↓u_iEnS, ↓u_iEnL, ↓u_iEnumD, ↓u_iZipD, ↓u_zipS, ↓u_zipL, ↓u_iSeq, ↓u_iRange1, ↓u_iRange2, ↓u_sWhile, ↓u_iRange3, ↓u_on3, ↓u_sFor, ↓u_dMax2, ↓u_dMin2, ↓u_gDct0, ↓u_gVar0, ↓u_sSet0, ↓u_nName0, ↓u_gVar1, ↓u_sSet1, ↓u_nName1, ↓u_gVar2, ↓u_sSet2, ↓u_nName2, ↓u_gVar3, ↓u_sSet3, ↓u_nName3, ↓u_gVar4, ↓u_sSet4, ↓u_nName4, ↓u_gVar5, ↓u_sSet5, ↓u_nName5, ↓u_gVar6, ↓u_sSet6, ↓u_nName6, ↓u_gVar7, ↓u_sSet7, ↓u_nName7, ↓u_gVar8, ↓u_sSet8, ↓u_nName8, ↓u_gVar9, ↓u_sSet9, ↓u_nName9, ↓u_gVar10, ↓u_sSet10, ↓u_nName10, ↓u_gVar11, ↓u_sSet11, ↓u_nName11, ↓u_gVar12, ↓u_sSet12, ↓u_nName12, ↓u_gVar13, ↓u_sSet13, ↓u_nName13, ↓u_gVar14, ↓u_sSet14, ↓u_nName14, ↓u_gVar15, ↓u_sSet15, ↓u_nName15, ↓u_gVar16, ↓u_sSet16, ↓u_nName16, ↓u_gVar17, ↓u_sSet17, ↓u_nName17, ↓dToInt_int, ↓dToInt_bl, ↓dListU_lst, ↓dListU_tup, ↓dListU_str, ↓dListUM_lst, ↓dListUM_tup, ↓dListUM_str, ↓dTuple_lst, ↓dTuple_tup, ↓dIn_lst, ↓dIn_tup, ↓dSl_str, ↓dSl_lst, ↓dSl_tup, ↓dAdd_int, ↓dAdd_str, ↓dAdd_lst, ↓dAdd_tup, ↓dMul_int, ↓dMul_str, ↓dMul_lst, ↓dIx_lst, ↓dIx_ro, ↓dIx_tup, ↓dIx_str, ↓onSome_some, ↓dLen_lst, ↓dLen_tup, ↓dLen_str, ↓dLen_ro, ↓dLen_dct, ↓items_str, ↓items_lst, ↓items_tup, ↓items_ro, ↓dAll_lst, ↓dAny_lst, ↓dSum_lst, ↓dIsi_ty, ↓dIsi_tup, ↓dIn_str, ↓onSeq_lst, ↓onSeq_tup, ↓dIs_bb, ↓dStrI_i, ↓dIsW_bb, ↓dIsW_ib, ↓dIsW_sb, ↓dIsW_nb, ↓dIsW_lb, ↓dIsW_tb, ↓dIsW_db, ↓dIsW_nn, ↓dIsW_in, ↓dIsW_sn, ↓dIsW_ln, ↓dIsW_tn, ↓dEq_ii, ↓dEq_ss, ↓dNe_ii, ↓dNe_ss, ↓dEq_nil, ↓dNe_nil, ↓dEq_bb, ↓dNe_bb, List.append_nil, List.nil_append, List.cons_append, startD, List.map_cons, List.map_nil, List.length_cons, List.length_nil, Nat.sub_self, List.replicate_zero, List.replicate_succ, List.set_cons_zero, List.set_cons_succ, List.getElem?_cons_zero, List.getElem?_cons_succ, atI_lit, vw_int, vw_str, vw_bl, vw_non, vw_lst, vw_tup, vw_dct, vw_ro, vw_obj, vw_cls, Nat.reduceAdd, Nat.reduceSub, Int.reduceToNat, Int.reduceNeg, Int.reducePow, Int.reduceAdd, Int.reduceSub, Int.reduceMul, ixN_lit, decide_eq_true_eq, decide_eq_false_iff_not, if_true, if_false, Bool.false_eq_true, Bool.not_true, Bool.not_false, Nat.reduceLT, Nat.reduceLeDiff, Int.reduceLT, Int.reduceLE, true_and, and_true, and_self, ite_true, ite_false, kind_int, kind_bl, kind_non, kind_str, kind_lst, kind_tup, kind_dct, clsAll_lt, all_lt, any_lt_l, any_lt_t, any_lt_s, any_lt_i, any_lt_b, any_lt_n, any_lt_d, kc_int, kc_bool, kc_str, kc_list, kc_tuple, kc_dict, isiT, String.reduceBEq, Bool.or_false, Bool.or_true, Bool.false_or, Bool.true_or, Bool.and_false, Bool.false_and, Bool.and_true, Bool.true_and, wipeD, Bool.not_eq_true, Bool.not_eq_false, Bool.not_eq_eq_eq_not, Bool.not_not, Bool.false_bne, Bool.true_bne, dJoin, onSome_some, sizeLine_eq, Mu.put_same, put_put, Nat.zero_le, decide_true, decide_false, flt_litc, fld_str, fld_int, fld_bl, fld_non, List.all_cons, List.all_nil, reduceCtorEq, strOk_of, eqd_int, eqd_str, eqd_bl, eqd_lst0, eqd_lst1, eqd_lst2, eqd_lst3, eqd_tup0, eqd_tup1, eqd_tup2, eqd_tup3, flt_bl, flt_non]
    intro a ha
    refine lcG2_flat 1000 Rq.d (fun p => p.holes.map fun (i : Nat) => D.int i) ha (fun _ => trivial) _ _ (fun p hp acc N hB hN => ?_) ?_ ?_
    · have hd := Rq.parts_depth hp
      have hs := Rq.parts_size hp
      simp only [↓reduceIte, ↓u_sNx, ↓u_sSeq, ↓u_nx, ↓u_rt, ↓u_bk, ↓u_ct, ↓u_sBreak, ↓u_sCont, ↓u_sDrop, ↓u_sRet, ↓u_sRetN, ↓u_sIf, ↓u_sAsg, ↓u_gC, ↓u_aNil, ↓u_aCons, ↓u_gTup, ↓u_gLst, ↓u_gLstM, ↓u_gBin, ↓u_cVal, ↓u_onBl, ↓u_onInt, ↓u_onStr, ↓u_gChain, ↓u_cAnd, ↓u_cOr, ↓u_cNot, ↓u_gAnd, ↓u_gOr, ↓u_gNot, ↓u_gIf, ↓u_gNeg, ↓u_nNil, ↓u_nCons, ↓u_nTup, ↓u_nSub, ↓u_gCB, ↓u_gCall, ↓u_gM0, ↓u_gM1, ↓u_gL, ↓u_gL0, ↓u_oNo, ↓u_oSome, ↓u_gSl, ↓u_cYes, ↓u_on1, ↓u_on2, ↓u_dInt, ↓u_dInt0, ↓u_gLc, ↓u_gLcM, ↓u_gLc2, ↓u_sNever, ↓u_iEnS, ↓u_iEnL, ↓u_iEnumD, ↓u_iZipD, ↓u_zipS, ↓u_zipL, ↓u_iSeq, ↓u_iRange1, ↓u_iRange2, ↓u_sWhile, ↓u_iRange3, ↓u_on3, ↓u_sFor, ↓u_dMax2, ↓u_dMin2, ↓u_gDct0, ↓u_gVar0, ↓u_sSet0, ↓u_nName0, ↓u_gVar1, ↓u_sSet1, ↓u_nName1, ↓u_gVar2, ↓u_sSet2, ↓u_nName2, ↓u_gVar3, ↓u_sSet3, ↓u_nName3, ↓u_gVar4, ↓u_sSet4, ↓u_nName4, ↓u_gVar5, ↓u_sSet5, ↓u_nName5, ↓u_gVar6, ↓u_sSet6, ↓u_nName6, ↓u_gVar7, ↓u_sSet7, ↓u_nName7, ↓u_gVar8, ↓u_sSet8, ↓u_nName8, ↓u_gVar9, ↓u_sSet9, ↓u_nName9, ↓u_gVar10, ↓u_sSet10, ↓u_nName10, ↓u_gVar11, ↓u_sSet11, ↓u_nName11, ↓u_gVar12, ↓u_sSet12, ↓u_nName12, ↓u_gVar13, ↓u_sSet13, ↓u_nName13, ↓u_gVar14, ↓u_sSet14, ↓u_nName14, ↓u_gVar15, ↓u_sSet15, ↓u_nName15, ↓u_gVar16, ↓u_sSet16, ↓u_nName16, ↓u_gVar17, ↓u_sSet17, ↓u_nName17, ↓dToInt_int, ↓dToInt_bl, ↓dListU_lst, ↓dListU_tup, ↓dListU_str, ↓dListUM_lst, ↓dListUM_tup, ↓dListUM_str, ↓dTuple_lst, ↓dTuple_tup, ↓dIn_lst, ↓dIn_tup, ↓dSl_str, ↓dSl_lst, ↓dSl_tup, ↓dAdd_int, ↓dAdd_str, ↓dAdd_lst, ↓dAdd_tup, ↓dMul_int, ↓dMul_str, ↓dMul_lst, ↓dIx_lst, ↓dIx_ro, ↓dIx_tup, ↓dIx_str, ↓onSome_some, ↓dLen_lst, ↓dLen_tup, ↓dLen_str, ↓dLen_ro, ↓dLen_dct, ↓items_str, ↓items_lst, ↓items_tup, ↓items_ro, ↓dAll_lst, ↓dAny_lst, ↓dSum_lst, ↓dIsi_ty, ↓dIsi_tup, ↓dIn_str, ↓onSeq_lst, ↓onSeq_tup, ↓dIs_bb, ↓dStrI_i, ↓dIsW_bb, ↓dIsW_ib, ↓dIsW_sb, ↓dIsW_nb, ↓dIsW_lb, ↓dIsW_tb, ↓dIsW_db, ↓dIsW_nn, ↓dIsW_in, ↓dIsW_sn, ↓dIsW_ln, ↓dIsW_tn, ↓dEq_ii, ↓dEq_ss, ↓dNe_ii, ↓dNe_ss, ↓dEq_nil, ↓dNe_nil, ↓dEq_bb, ↓dNe_bb, List.append_nil, List.nil_append, List.cons_append, startD, List.map_cons, List.map_nil, List.length_cons, List.length_nil, Nat.sub_self, List.replicate_zero, List.replicate_succ, List.set_cons_zero, List.set_cons_succ, List.getElem?_cons_zero, List.getElem?_cons_succ, atI_lit, vw_int, vw_str, vw_bl, vw_non, vw_lst, vw_tup, vw_dct, vw_ro, vw_obj, vw_cls, Nat.reduceAdd, Nat.reduceSub, Int.reduceToNat, Int.reduceNeg, Int.reducePow, Int.reduceAdd, Int.reduceSub, Int.reduceMul, ixN_lit, decide_eq_true_eq, decide_eq_false_iff_not, if_true, if_false, Bool.false_eq_true, Bool.not_true, Bool.not_false, Nat.reduceLT, Nat.reduceLeDiff, Int.reduceLT, Int.reduceLE, true_and, and_true, and_self, ite_true, ite_false, kind_int, kind_bl, kind_non, kind_str, kind_lst, kind_tup, kind_dct, clsAll_lt, all_lt, any_lt_l, any_lt_t, any_lt_s, any_lt_i, any_lt_b, any_lt_n, any_lt_d, kc_int, kc_bool, kc_str, kc_list, kc_tuple, kc_dict, isiT, String.reduceBEq, Bool.or_false, Bool.or_true, Bool.false_or, Bool.true_or, Bool.and_false, Bool.false_and, Bool.and_true, Bool.true_and, wipeD, Bool.not_eq_true, Bool.not_eq_false, Bool.not_eq_eq_eq_not, Bool.not_not, Bool.false_bne, Bool.true_bne, dJoin, onSome_some, sizeLine_eq, Mu.put_same, put_put, Nat.zero_le, decide_true, decide_false, flt_litc, fld_str, fld_int, fld_bl, fld_non, List.all_cons, List.all_nil, reduceCtorEq, strOk_of, eqd_int, eqd_str, eqd_bl, eqd_lst0, eqd_lst1, eqd_lst2, eqd_lst3, eqd_tup0, eqd_tup1, eqd_tup2, eqd_tup3, flt_bl, flt_non]
      refine ⟨p, rfl, by omega, by omega, ?_⟩
      simp only [↓reduceIte, ↓u_sNx, ↓u_sSeq, ↓u_nx, ↓u_rt, ↓u_bk, ↓u_ct, ↓u_sBreak, ↓u_sCont, ↓u_sDrop, ↓u_sRet, ↓u_sRetN, ↓u_sIf, ↓u_sAsg, ↓u_gC, ↓u_aNil, ↓u_aCons, ↓u_gTup, ↓u_gLst, ↓u_gLstM, ↓u_gBin, ↓u_cVal, ↓u_onBl, ↓u_onInt, ↓u_onStr, ↓u_gChain, ↓u_cAnd, ↓u_cOr, ↓u_cNot, ↓u_gAnd, ↓u_gOr, ↓u_gNot, ↓u_gIf, ↓u_gNeg, ↓u_nNil, ↓u_nCons, ↓u_nTup, ↓u_nSub, ↓u_gCB, ↓u_gCall, ↓u_gM0, ↓u_gM1, ↓u_gL, ↓u_gL0, ↓u_oNo, ↓u_oSome, ↓u_gSl, ↓u_cYes, ↓u_on1, ↓u_on2, ↓u_dInt, ↓u_dInt0, ↓u_gLc, ↓u_gLcM, ↓u_gLc2, ↓u_sNever, ↓u_iEnS, ↓u_iEnL, ↓u_iEnumD, ↓u_iZipD, ↓u_zipS, ↓u_zipL, ↓u_iSeq, ↓u_iRange1, ↓u_iRange2, ↓u_sWhile, ↓u_iRange3, ↓u_on3, ↓u_sFor, ↓u_dMax2, ↓u_dMin2, ↓u_gDct0, ↓u_gVar0, ↓u_sSet0, ↓u_nName0, ↓u_gVar1, ↓u_sSet1, ↓u_nName1, ↓u_gVar2, ↓u_sSet2, ↓u_nName2, ↓u_gVar3, ↓u_sSet3, ↓u_nName3, ↓u_gVar4, ↓u_sSet4, ↓u_nName4, ↓u_gVar5, ↓u_sSet5, ↓u_nName5, ↓u_gVar6, ↓u_sSet6, ↓u_nName6, ↓u_gVar7, ↓u_sSet7, ↓u_nName7, ↓u_gVar8, ↓u_sSet8, ↓u_nName8, ↓u_gVar9, ↓u_sSet9, ↓u_nName9, ↓u_gVar10, ↓u_sSet10, ↓u_nName10, ↓u_gVar11, ↓u_sSet11, ↓u_nName11, ↓u_gVar12, ↓u_sSet12, ↓u_nName12, ↓u_gVar13, ↓u_sSet13, ↓u_nName13, ↓u_gVar14, ↓u_sSet14, ↓u_nName14, ↓u_gVar15, ↓u_sSet15, ↓u_nName15, ↓u_gVar16, ↓u_sSet16, ↓u_nName16, ↓u_gVar17, ↓u_sSet17, ↓u_nName17, ↓dToInt_int, ↓dToInt_bl, ↓dListU_lst, ↓dListU_tup, ↓dListU_str, ↓dListUM_lst, ↓dListUM_tup, ↓dListUM_str, ↓dTuple_lst, ↓dTuple_tup, ↓dIn_lst, ↓dIn_tup, ↓dSl_str, ↓dSl_lst, ↓dSl_tup, ↓dAdd_int, ↓dAdd_str, ↓dAdd_lst, ↓dAdd_tup, ↓dMul_int, ↓dMul_str, ↓dMul_lst, ↓dIx_lst, ↓dIx_ro, ↓dIx_tup, ↓dIx_str, ↓onSome_some, ↓dLen_lst, ↓dLen_tup, ↓dLen_str, ↓dLen_ro, ↓dLen_dct, ↓items_str, ↓items_lst, ↓items_tup, ↓items_ro, ↓dAll_lst, ↓dAny_lst, ↓dSum_lst, ↓dIsi_ty, ↓dIsi_tup, ↓dIn_str, ↓onSeq_lst, ↓onSeq_tup, ↓dIs_bb, ↓dStrI_i, ↓dIsW_bb, ↓dIsW_ib, ↓dIsW_sb, ↓dIsW_nb, ↓dIsW_lb, ↓dIsW_tb, ↓dIsW_db, ↓dIsW_nn, ↓dIsW_in, ↓dIsW_sn, ↓dIsW_ln, ↓dIsW_tn, ↓dEq_ii, ↓dEq_ss, ↓dNe_ii, ↓dNe_ss, ↓dEq_nil, ↓dNe_nil, ↓dEq_bb, ↓dNe_bb, List.append_nil, List.nil_append, List.cons_append, startD, List.map_cons, List.map_nil, List.length_cons, List.length_nil, Nat.sub_self, List.replicate_zero, List.replicate_succ, List.set_cons_zero, List.set_cons_succ, List.getElem?_cons_zero, List.getElem?_cons_succ, atI_lit, vw_int, vw_str, vw_bl, vw_non, vw_lst, vw_tup, vw_dct, vw_ro, vw_obj, vw_cls, Nat.reduceAdd, Nat.reduceSub, Int.reduceToNat, Int.reduceNeg, Int.reducePow, Int.reduceAdd, Int.reduceSub, Int.reduceMul, ixN_lit, decide_eq_true_eq, decide_eq_false_iff_not, if_true, if_false, Bool.false_eq_true, Bool.not_true, Bool.not_false, Nat.reduceLT, Nat.reduceLeDiff, Int.reduceLT, Int.reduceLE, true_and, and_true, and_self, ite_true, ite_false, kind_int, kind_bl, kind_non, kind_str, kind_lst, kind_tup, kind_dct, clsAll_lt, all_lt, any_lt_l, any_lt_t, any_lt_s, any_lt_i, any_lt_b, any_lt_n, any_lt_d, kc_int, kc_bool, kc_str, kc_list, kc_tuple, kc_dict, isiT, String.reduceBEq, Bool.or_false, Bool.or_true, Bool.false_or, Bool.true_or, Bool.and_false, Bool.false_and, Bool.and_true, Bool.true_and, wipeD, Bool.not_eq_true, Bool.not_eq_false, Bool.not_eq_eq_eq_not, Bool.not_not, Bool.false_bne, Bool.true_bne, dJoin, onSome_some, sizeLine_eq, Mu.put_same, put_put, Nat.zero_le, decide_true, decide_false, flt_litc, fld_str, fld_int, fld_bl, fld_non, List.all_cons, List.all_nil, reduceCtorEq, strOk_of, eqd_int, eqd_str, eqd_bl, eqd_lst0, eqd_lst1, eqd_lst2, eqd_lst3, eqd_tup0, eqd_tup1, eqd_tup2, eqd_tup3, flt_bl, flt_non]
      refine lcG_id ha (fun _ => trivial) (fun c d yes _ hy => ?_) (by rw [sizeLine_eq]; omega) hN
      simp only [↓reduceIte, ↓u_sNx, ↓u_sSeq, ↓u_nx, ↓u_rt, ↓u_bk, ↓u_ct, ↓u_sBreak, ↓u_sCont, ↓u_sDrop, ↓u_sRet, ↓u_sRetN, ↓u_sIf, ↓u_sAsg, ↓u_gC, ↓u_aNil, ↓u_aCons, ↓u_gTup, ↓u_gLst, ↓u_gLstM, ↓u_gBin, ↓u_cVal, ↓u_onBl, ↓u_onInt, ↓u_onStr, ↓u_gChain, ↓u_cAnd, ↓u_cOr, ↓u_cNot, ↓u_gAnd, ↓u_gOr, ↓u_gNot, ↓u_gIf, ↓u_gNeg, ↓u_nNil, ↓u_nCons, ↓u_nTup, ↓u_nSub, ↓u_gCB, ↓u_gCall, ↓u_gM0, ↓u_gM1, ↓u_gL, ↓u_gL0, ↓u_oNo, ↓u_oSome, ↓u_gSl, ↓u_cYes, ↓u_on1, ↓u_on2, ↓u_dInt, ↓u_dInt0, ↓u_gLc, ↓u_gLcM, ↓u_gLc2, ↓u_sNever, ↓u_iEnS, ↓u_iEnL, ↓u_iEnumD, ↓u_iZipD, ↓u_zipS, ↓u_zipL, ↓u_iSeq, ↓u_iRange1, ↓u_iRange2, ↓u_sWhile, ↓u_iRange3, ↓u_on3, ↓u_sFor, ↓u_dMax2, ↓u_dMin2, ↓u_gDct0, ↓u_gVar0, ↓u_sSet0, ↓u_nName0, ↓u_gVar1, ↓u_sSet1, ↓u_nName1, ↓u_gVar2, ↓u_sSet2, ↓u_nName2, ↓u_gVar3, ↓u_sSet3, ↓u_nName3, ↓u_gVar4, ↓u_sSet4, ↓u_nName4, ↓u_gVar5, ↓u_sSet5, ↓u_nName5, ↓u_gVar6, ↓u_sSet6, ↓u_nName6, ↓u_gVar7, ↓u_sSet7, ↓u_nName7, ↓u_gVar8, ↓u_sSet8, ↓u_nName8, ↓u_gVar9, ↓u_sSet9, ↓u_nName9, ↓u_gVar10, ↓u_sSet10, ↓u_nName10, ↓u_gVar11, ↓u_sSet11, ↓u_nName11, ↓u_gVar12, ↓u_sSet12, ↓u_nName12, ↓u_gVar13, ↓u_sSet13, ↓u_nName13, ↓u_gVar14, ↓u_sSet14, ↓u_nName14, ↓u_gVar15, ↓u_sSet15, ↓u_nName15, ↓u_gVar16, ↓u_sSet16, ↓u_nName16, ↓u_gVar17, ↓u_sSet17, ↓u_nName17, ↓dToInt_int, ↓dToInt_bl, ↓dListU_lst, ↓dListU_tup, ↓dListU_str, ↓dListUM_lst, ↓dListUM_tup, ↓dListUM_str, ↓dTuple_lst, ↓dTuple_tup, ↓dIn_lst, ↓dIn_tup, ↓dSl_str, ↓dSl_lst, ↓dSl_tup, ↓dAdd_int, ↓dAdd_str, ↓dAdd_lst, ↓dAdd_tup, ↓dMul_int, ↓dMul_str, ↓dMul_lst, ↓dIx_lst, ↓dIx_ro, ↓dIx_tup, ↓dIx_str, ↓onSome_some, ↓dLen_lst, ↓dLen_tup, ↓dLen_str, ↓dLen_ro, ↓dLen_dct, ↓items_str, ↓items_lst, ↓items_tup, ↓items_ro, ↓dAll_lst, ↓dAny_lst, ↓dSum_lst, ↓dIsi_ty, ↓dIsi_tup, ↓dIn_str, ↓onSeq_lst, ↓onSeq_tup, ↓dIs_bb, ↓dStrI_i, ↓dIsW_bb, ↓dIsW_ib, ↓dIsW_sb, ↓dIsW_nb, ↓dIsW_lb, ↓dIsW_tb, ↓dIsW_db, ↓dIsW_nn, ↓dIsW_in, ↓dIsW_sn, ↓dIsW_ln, ↓dIsW_tn, ↓dEq_ii, ↓dEq_ss, ↓dNe_ii, ↓dNe_ss, ↓dEq_nil, ↓dNe_nil, ↓dEq_bb, ↓dNe_bb, List.append_nil, List.nil_append, List.cons_append, startD, List.map_cons, List.map_nil, List.length_cons, List.length_nil, Nat.sub_self, List.replicate_zero, List.replicate_succ, List.set_cons_zero, List.set_cons_succ, List.getElem?_cons_zero, List.getElem?_cons_succ, atI_lit, vw_int, vw_str, vw_bl, vw_non, vw_lst, vw_tup, vw_dct, vw_ro, vw_obj, vw_cls, Nat.reduceAdd, Nat.reduceSub, Int.reduceToNat, Int.reduceNeg, Int.reducePow, Int.reduceAdd, Int.reduceSub, Int.reduceMul, ixN_lit, decide_eq_true_eq, decide_eq_false_iff_not, if_true, if_false, Bool.false_eq_true, Bool.not_true, Bool.not_false, Nat.reduceLT, Nat.reduceLeDiff, Int.reduceLT, Int.reduceLE, true_and, and_true, and_self, ite_true, ite_false, kind_int, kind_bl, kind_non, kind_str, kind_lst, kind_tup, kind_dct, clsAll_lt, all_lt, any_lt_l, any_lt_t, any_lt_s, any_lt_i, any_lt_b, any_lt_n, any_lt_d, kc_int, kc_bool, kc_str, kc_list, kc_tuple, kc_dict, isiT, String.reduceBEq, Bool.or_false, Bool.or_true, Bool.false_or, Bool.true_or, Bool.and_false, Bool.false_and, Bool.and_true, Bool.true_and, wipeD, Bool.not_eq_true, Bool.not_eq_false, Bool.not_eq_eq_eq_not, Bool.not_not, Bool.false_bne, Bool.true_bne, dJoin, onSome_some, sizeLine_eq, Mu.put_same, put_put, Nat.zero_le, decide_true, decide_false, flt_litc, fld_str, fld_int, fld_bl, fld_non, List.all_cons, List.all_nil, reduceCtorEq, strOk_of, eqd_int, eqd_str, eqd_bl, eqd_lst0, eqd_lst1, eqd_lst2, eqd_lst3, eqd_tup0, eqd_tup1, eqd_tup2, eqd_tup3, flt_bl, flt_non]
      exact hy
    · have : (q.parts.flatMap fun p => p.holes.map fun (i : Nat) => D.int i).length = (q.parts.flatMap Rq.holes).length := by
        simp [List.length_flatMap]
      rw [this, List.length_nil]
      have h1 := q.holes_size
      have h2 : (q.parts.flatMap Rq.holes).length ≤ q.holes.length := by cases q <;> simp [Rq.parts, Rq.holes]
      omega
    · rw [List.nil_append]
      rw [List.map_flatMap] at hQ
      exact hQ
  cases q <;> (simp only [Rq.d, g_holes_in, ↓reduceIte, ↓u_sNx, ↓u_sSeq, ↓u_nx, ↓u_rt, ↓u_bk, ↓u_ct, ↓u_sBreak, ↓u_sCont, ↓u_sDrop, ↓u_sRet, ↓u_sRetN, ↓u_sIf, ↓u_sAsg, ↓u_gC, ↓u_aNil, ↓u_aCons, ↓u_gTup, ↓u_gLst, ↓u_gLstM, ↓u_gBin, ↓u_cVal, ↓u_onBl, ↓u_onInt, ↓u_onStr, ↓u_gChain, ↓u_cAnd, ↓u_cOr, ↓u_cNot, ↓u_gAnd, ↓u_gOr, ↓u_gNot, ↓u_gIf, ↓u_gNeg, ↓u_nNil, ↓u_nCons, ↓u_nTup, ↓u_nSub, ↓u_gCB, ↓u_gCall, ↓u_gM0, ↓u_gM1, ↓u_gL, ↓u_gL0, ↓u_oNo, ↓u_oSome, ↓u_gSl, ↓u_cYes, ↓u_on1, ↓u_on2, ↓u_dInt, ↓u_dInt0, ↓u_gLc, ↓u_gLcM, ↓u_gLc2, ↓u_sNever, ↓u_iEnS, ↓u_iEnL, ↓u_iEnumD, ↓u_iZipD, ↓u_zipS, ↓u_zipL, ↓u_iSeq, ↓u_iRange1, ↓u_iRange2, ↓u_sWhile, ↓u_iRange3, ↓u_on3, ↓u_sFor, ↓u_dMax2, ↓u_dMin2, ↓u_gDct0, ↓u_gVar0, ↓u_sSet0, ↓u_nName0, ↓u_gVar1, ↓u_sSet1, ↓u_nName1, ↓u_gVar2, ↓u_sSet2, ↓u_nName2, ↓u_gVar3, ↓u_sSet3, ↓u_nName3, ↓u_gVar4, ↓u_sSet4, ↓u_nName4, ↓u_gVar5, ↓u_sSet5, ↓u_nName5, ↓u_gVar6, ↓u_sSet6, ↓u_nName6, ↓u_gVar7, ↓u_sSet7, ↓u_nName7, ↓u_gVar8, ↓u_sSet8, ↓u_nName8, ↓u_gVar9, ↓u_sSet9, ↓u_nName9, ↓u_gVar10, ↓u_sSet10, ↓u_nName10, ↓u_gVar11, ↓u_sSet11, ↓u_nName11, ↓u_gVar12, ↓u_sSet12, ↓u_nName12, ↓u_gVar13, ↓u_sSet13, ↓u_nName13, ↓u_gVar14, ↓u_sSet14, ↓u_nName14, ↓u_gVar15, ↓u_sSet15, ↓u_nName15, ↓u_gVar16, ↓u_sSet16, ↓u_nName16, ↓u_gVar17, ↓u_sSet17, ↓u_nName17, ↓dToInt_int, ↓dToInt_bl, ↓dListU_lst, ↓dListU_tup, ↓dListU_str, ↓dListUM_lst, ↓dListUM_tup, ↓dListUM_str, ↓dTuple_lst, ↓dTuple_tup, ↓dIn_lst, ↓dIn_tup, ↓dSl_str, ↓dSl_lst, ↓dSl_tup, ↓dAdd_int, ↓dAdd_str, ↓dAdd_lst, ↓dAdd_tup, ↓dMul_int, ↓dMul_str, ↓dMul_lst, ↓dIx_lst, ↓dIx_ro, ↓dIx_tup, ↓dIx_str, ↓onSome_some, ↓dLen_lst, ↓dLen_tup, ↓dLen_str, ↓dLen_ro, ↓dLen_dct, ↓items_str, ↓items_lst, ↓items_tup, ↓items_ro, ↓dAll_lst, ↓dAny_lst, ↓dSum_lst, ↓dIsi_ty, ↓dIsi_tup, ↓dIn_str, ↓onSeq_lst, ↓onSeq_tup, ↓dIs_bb, ↓dStrI_i, ↓dIsW_bb, ↓dIsW_ib, ↓dIsW_sb, ↓dIsW_nb, ↓dIsW_lb, ↓dIsW_tb, ↓dIsW_db, ↓dIsW_nn, ↓dIsW_in, ↓dIsW_sn, ↓dIsW_ln, ↓dIsW_tn, ↓dEq_ii, ↓dEq_ss, ↓dNe_ii, ↓dNe_ss, ↓dEq_nil, ↓dNe_nil, ↓dEq_bb, ↓dNe_bb, List.append_nil, List.nil_append, List.cons_append, startD, List.map_cons, List.map_nil, List.length_cons, List.length_nil, Nat.sub_self, List.replicate_zero, List.replicate_succ, List.set_cons_zero, List.set_cons_succ, List.getElem?_cons_zero, List.getElem?_cons_succ, atI_lit, vw_int, vw_str, vw_bl, vw_non, vw_lst, vw_tup, vw_dct, vw_ro, vw_obj, vw_cls, Nat.reduceAdd, Nat.reduceSub, Int.reduceToNat, Int.reduceNeg, Int.reducePow, Int.reduceAdd, Int.reduceSub, Int.reduceMul, ixN_lit, decide_eq_true_eq, decide_eq_false_iff_not, if_true, if_false, Bool.false_eq_true, Bool.not_true, Bool.not_false, Nat.reduceLT, Nat.reduceLeDiff, Int.reduceLT, Int.reduceLE, true_and, and_true, and_self, ite_true, ite_false, kind_int, kind_bl, kind_non, kind_str, kind_lst, kind_tup, kind_dct, clsAll_lt, all_lt, any_lt_l, any_lt_t, any_lt_s, any_lt_i, any_lt_b, any_lt_n, any_lt_d, kc_int, kc_bool, kc_str, kc_list, kc_tuple, kc_dict, isiT, String.reduceBEq, Bool.or_false, Bool.or_true, Bool.false_or, Bool.true_or, Bool.and_false, Bool.false_and, Bool.and_true, Bool.true_and, wipeD, Bool.not_eq_true, Bool.not_eq_false, Bool.not_eq_eq_eq_not, Bool.not_not, Bool.false_bne, Bool.true_bne, dJoin, onSome_some, sizeLine_eq, Mu.put_same, put_put, Nat.zero_le, decide_true, decide_false, flt_litc, fld_str, fld_int, fld_bl, fld_non, List.all_cons, List.all_nil, reduceCtorEq, strOk_of, eqd_int, eqd_str, eqd_bl, eqd_lst0, eqd_lst1, eqd_lst2, eqd_lst3, eqd_tup0, eqd_tup1, eqd_tup2, eqd_tup3, flt_bl, flt_non, wq_open_closed, wq_open_all, wq_open_none, wq_open_and, wq_open_or, wq_open_not, wi_open_0, wi_open_1, wi_open_2, wi_open_3, wq_closed_open, wq_closed_all, wq_closed_none, wq_closed_and, wq_closed_or, wq_closed_not, wi_closed_0, wi_closed_1, wi_closed_2, wi_closed_3, wq_all_open, wq_all_closed, wq_all_none, wq_all_and, wq_all_or, wq_all_not, wi_all_0, wi_all_1, wi_all_2, wi_all_3, wq_none_open, wq_none_closed, wq_none_all, wq_none_and, wq_none_or, wq_none_not, wi_none_0, wi_none_1, wi_none_2, wi_none_3, wq_and_open, wq_and_closed, wq_and_all, wq_and_none, wq_and_or, wq_and_not, wi_and_0, wi_and_1, wi_and_2, wi_and_3, wq_or_open, wq_or_closed, wq_or_all, wq_or_none, wq_or_and, wq_or_not, wi_or_0, wi_or_1, wi_or_2, wi_or_3, wq_not_open, wq_not_closed, wq_not_all, wq_not_none, wq_not_and, wq_not_or, wi_not_0, wi_not_1, wi_not_2, wi_not_3, cut1, Bool.false_eq_true]; try exact h)
  all_goals exact rest none (by simpa [Rq.parts, Rq.holes] using h)
def g_holds (S : Spec) : GS :=
  (sSeq (sSet 2 (gBin dIx (gVar 0) (gC (.int 0))))
  (sSeq (sIf (cVal (gBin (dIn false) (gVar 2) (gC (.tup [.str "open", .str "closed"])))) (sRet (gBin dEq (gCall S_is_open [] (aCons (gVar 1) (aCons (gBin dIx (gVar 0) (gC (.int 1))) aNil))) (gBin dEq (gVar 2) (gC (.str "open"))))) sNx)
  (sSeq (sIf (cVal (gBin (dIn false) (gVar 2) (gC (.tup [.str "all", .str "none"])))) (sRet (gBin dEq (gVar 2) (gC (.str "all")))) sNx)
  (sSeq (sSet 3 (gLc (iSeq (gCall S_parts_of [] (aCons (gVar 0) aNil))) (nName 4) cYes (gCall S [] (aCons (gVar 4) (aCons (gVar 1) aNil))) [4]))
  (sSeq (sIf (cVal (gBin dEq (gVar 2) (gC (.str "not")))) (sRet (gNot (gBin dIx (gVar 3) (gC (.int 0))))) sNx)
  (sRet (gIf (cVal (gBin dEq (gVar 2) (gC (.str "and")))) (gCB dAll (aCons (gVar 3) aNil)) (gCB dAny (aCons (gVar 3) aNil)))))))))
theorem lift_holds (r : Nat) (F : FnG P w K mg base k f fd ["request", "row"] (wpS ["request", "row"] ["request", "row", "word", "found", "part"] (g_holds (RS S_holds r)))) : FnG P w K mg base k f fd ["request", "row"] (S_holds r) := F.imp fun ds m Q E h => by
  obtain ⟨q, bs, rfl, hr, ho, hl, h⟩ := h
  refine ⟨rfl, ?_⟩
  obtain ⟨r, rfl⟩ : ∃ j, r = j + 1 := ⟨r - 1, by have := q.depth1; omega⟩
  have rest : ∀ (Q2 : D → Mu → Prop) (w : Option D), Q2 (.lst (q.parts.map fun p => .bl (p.hd bs))) m → S_parts_of [q.d] m (fun d m2 => itemsD m2 d fun ds st => ∀ a, m2 a = none → lcG (nName 4) cYes (gCall (RS S_holds (r + 1)) [] (aCons (gVar 4) (aCons (gVar 1) aNil))) st a [some q.d, some (.str (rw_ bs)), w, none, none] Q2 ds [] (m2.put a (some (.lst [])))) (fun y m2 => E y m2) := fun Q2 w hQ => by
    refine ⟨q, rfl, ?_⟩
    simp only [↓reduceIte, ↓u_sNx, ↓u_sSeq, ↓u_nx, ↓u_rt, ↓u_bk, ↓u_ct, ↓u_sBreak, ↓u_sCont, ↓u_sDrop, ↓u_sRet, ↓u_sRetN, ↓u_sIf, ↓u_sAsg, ↓u_gC, ↓u_aNil, ↓u_aCons, ↓u_gTup, ↓u_gLst, ↓u_gLstM, ↓u_gBin, ↓u_cVal, ↓u_onBl, ↓u_onInt, ↓u_onStr, ↓u_gChain, ↓u_cAnd, ↓u_cOr, ↓u_cNot, ↓u_gAnd, ↓u_gOr, ↓u_gNot, ↓u_gIf, ↓u_gNeg, ↓u_nNil, ↓u_nCons, ↓u_nTup, ↓u_nSub, ↓u_gCB, ↓u_gCall, ↓u_gM0, ↓u_gM1, ↓u_gL, ↓u_gL0, ↓u_oNo, ↓u_oSome, ↓u_gSl, ↓u_cYes, ↓u_on1, ↓u_on2, ↓u_dInt, ↓u_dInt0, ↓u_gLc, ↓u_gLcM, ↓u_gLc2, ↓u_sNever, ↓u_iEnS, ↓u_iEnL, ↓u_iEnumD, ↓u_iZipD, ↓u_zipS, ↓u_zipL, ↓u_iSeq, ↓u_iRange1, ↓u_iRange2, ↓u_sWhile, ↓u_iRange3, ↓u_on3, ↓u_sFor, ↓u_dMax2, ↓u_dMin2, ↓u_gDct0, ↓u_gVar0, ↓u_sSet0, ↓u_nName0, ↓u_gVar1, ↓u_sSet1, ↓u_nName1, ↓u_gVar2, ↓u_sSet2, ↓u_nName2, ↓u_gVar3, ↓u_sSet3, ↓u_nName3, ↓u_gVar4, ↓u_sSet4, ↓u_nName4, ↓u_gVar5, ↓u_sSet5, ↓u_nName5, ↓u_gVar6, ↓u_sSet6, ↓u_nName6, ↓u_gVar7, ↓u_sSet7, ↓u_nName7, ↓u_gVar8, ↓u_sSet8, ↓u_nName8, ↓u_gVar9, ↓u_sSet9, ↓u_nName9, ↓u_gVar10, ↓u_sSet10, ↓u_nName10, ↓u_gVar11, ↓u_sSet11, ↓u_nName11, ↓u_gVar12, ↓u_sSet12, ↓u_nName12, ↓u_gVar13, ↓u_sSet13, ↓u_nName13, ↓u_gVar14, ↓u_sSet14, ↓u_nName14, ↓u_gVar15, ↓u_sSet15, ↓u_nName15, ↓u_gVar16, ↓u_sSet16, ↓u_nName16, ↓u_gVar17, ↓u_sSet17, ↓u_nName17, ↓dToInt_int, ↓dToInt_bl, ↓dListU_lst, ↓dListU_tup, ↓dListU_str, ↓dListUM_lst, ↓dListUM_tup, ↓dListUM_str, ↓dTuple_lst, ↓dTuple_tup, ↓dIn_lst, ↓dIn_tup, ↓dSl_str, ↓dSl_lst, ↓dSl_tup, ↓dAdd_int, ↓dAdd_str, ↓dAdd_lst, ↓dAdd_tup, ↓dMul_int, ↓dMul_str, ↓dMul_lst, ↓dIx_lst, ↓dIx_ro, ↓dIx_tup, ↓dIx_str, ↓onSome_some, ↓dLen_lst, ↓dLen_tup, ↓dLen_str, ↓dLen_ro, ↓dLen_dct, ↓items_str, ↓items_lst, ↓items_tup, ↓items_ro, ↓dAll_lst, ↓dAny_lst, ↓dSum_lst, ↓dIsi_ty, ↓dIsi_tup, ↓dIn_str, ↓onSeq_lst, ↓onSeq_tup, ↓dIs_bb, ↓dStrI_i, ↓dIsW_bb, ↓dIsW_ib, ↓dIsW_sb, ↓dIsW_nb, ↓dIsW_lb, ↓dIsW_tb, ↓dIsW_db, ↓dIsW_nn, ↓dIsW_in, ↓dIsW_sn, ↓dIsW_ln, ↓dIsW_tn, ↓dEq_ii, ↓dEq_ss, ↓dNe_ii, ↓dNe_ss, ↓dEq_nil, ↓dNe_nil, ↓dEq_bb, ↓dNe_bb, List.append_nil, List.nil_append, List.cons_append, startD, List.map_cons, List.map_nil, List.length_cons, List.length_nil, Nat.sub_self, List.replicate_zero, List.replicate_succ, List.set_cons_zero, List.set_cons_succ, List.getElem?_cons_zero, List.getElem?_cons_succ, atI_lit, vw_int, vw_str, vw_bl, vw_non, vw_lst, vw_tup, vw_dct, vw_ro, vw_obj, vw_cls, Nat.reduceAdd, Nat.reduceSub, Int.reduceToNat, Int.reduceNeg, Int.reducePow, Int.reduceAdd, Int.reduceSub, Int.reduceMul, ixN_lit, decide_eq_true_eq, decide_eq_false_iff_not, if_true, if_false, Bool.false_eq_true, Bool.not_true, Bool.not_false, Nat.reduceLT, Nat.reduceLeDiff, Int.reduceLT, Int.reduceLE, true_and, and_true, and_self, ite_true, ite_false, kind_int, kind_bl, kind_non, kind_str, kind_lst, kind_tup, kind_dct, clsAll_lt, all_lt, any_lt_l, any_lt_t, any_lt_s, any_lt_i, any_lt_b, any_lt_n, any_lt_d, kc_int, kc_bool, kc_str, kc_list, kc_tuple, kc_dict, isiT, String.reduceBEq, Bool.or_false, Bool.or_true, Bool.false_or, Bool.true_or, Bool.and_false, Bool.false_and, Bool.and_true, Bool.true_and, wipeD, Bool.not_eq_true, Bool.not_eq_false, Bool.not_eq_eq_eq_not, Bool.not_not, Bool.false_bne, Bool.true_bne, dJoin, onSome_some, sizeLine_eq, Mu.put_same, put_put, Nat.zero_le, decide_true, decide_false, flt_litc, fld_str, fld_int, fld_bl, fld_non, List.all_cons, List.all_nil, reduceCtorEq, strOk_of, eqd_int, eqd_str, eqd_bl, eqd_lst0, eqd_lst1, eqd_lst2, eqd_lst3, eqd_tup0, eqd_tup1, eqd_tup2, eqd_tup3, flt_bl, flt_non]
    refine lc_Tm Rq.d (fun p => .bl (p.hd bs)) (fun _ _ _ => trivial) (by have : q.parts.length ≤ 2 := by cases q <;> simp [Rq.parts]
                                                                          rw [sizeLine_eq]; omega) (fun a ha p hp c yes hy => ?_) hQ
    have hd := Rq.parts_depth hp
    simp only [↓reduceIte, ↓u_sNx, ↓u_sSeq, ↓u_nx, ↓u_rt, ↓u_bk, ↓u_ct, ↓u_sBreak, ↓u_sCont, ↓u_sDrop, ↓u_sRet, ↓u_sRetN, ↓u_sIf, ↓u_sAsg, ↓u_gC, ↓u_aNil, ↓u_aCons, ↓u_gTup, ↓u_gLst, ↓u_gLstM, ↓u_gBin, ↓u_cVal, ↓u_onBl, ↓u_onInt, ↓u_onStr, ↓u_gChain, ↓u_cAnd, ↓u_cOr, ↓u_cNot, ↓u_gAnd, ↓u_gOr, ↓u_gNot, ↓u_gIf, ↓u_gNeg, ↓u_nNil, ↓u_nCons, ↓u_nTup, ↓u_nSub, ↓u_gCB, ↓u_gCall, ↓u_gM0, ↓u_gM1, ↓u_gL, ↓u_gL0, ↓u_oNo, ↓u_oSome, ↓u_gSl, ↓u_cYes, ↓u_on1, ↓u_on2, ↓u_dInt, ↓u_dInt0, ↓u_gLc, ↓u_gLcM, ↓u_gLc2, ↓u_sNever, ↓u_iEnS, ↓u_iEnL, ↓u_iEnumD, ↓u_iZipD, ↓u_zipS, ↓u_zipL, ↓u_iSeq, ↓u_iRange1, ↓u_iRange2, ↓u_sWhile, ↓u_iRange3, ↓u_on3, ↓u_sFor, ↓u_dMax2, ↓u_dMin2, ↓u_gDct0, ↓u_gVar0, ↓u_sSet0, ↓u_nName0, ↓u_gVar1, ↓u_sSet1, ↓u_nName1, ↓u_gVar2, ↓u_sSet2, ↓u_nName2, ↓u_gVar3, ↓u_sSet3, ↓u_nName3, ↓u_gVar4, ↓u_sSet4, ↓u_nName4, ↓u_gVar5, ↓u_sSet5, ↓u_nName5, ↓u_gVar6, ↓u_sSet6, ↓u_nName6, ↓u_gVar7, ↓u_sSet7, ↓u_nName7, ↓u_gVar8, ↓u_sSet8, ↓u_nName8, ↓u_gVar9, ↓u_sSet9, ↓u_nName9, ↓u_gVar10, ↓u_sSet10, ↓u_nName10, ↓u_gVar11, ↓u_sSet11, ↓u_nName11, ↓u_gVar12, ↓u_sSet12, ↓u_nName12, ↓u_gVar13, ↓u_sSet13, ↓u_nName13, ↓u_gVar14, ↓u_sSet14, ↓u_nName14, ↓u_gVar15, ↓u_sSet15, ↓u_nName15, ↓u_gVar16, ↓u_sSet16, ↓u_nName16, ↓u_gVar17, ↓u_sSet17, ↓u_nName17, ↓dToInt_int, ↓dToInt_bl, ↓dListU_lst, ↓dListU_tup, ↓dListU_str, ↓dListUM_lst, ↓dListUM_tup, ↓dListUM_str, ↓dTuple_lst, ↓dTuple_tup, ↓dIn_lst, ↓dIn_tup, ↓dSl_str, ↓dSl_lst, ↓dSl_tup, ↓dAdd_int, ↓dAdd_str, ↓dAdd_lst, ↓dAdd_tup, ↓dMul_int, ↓dMul_str, ↓dMul_lst, ↓dIx_lst, ↓dIx_ro, ↓dIx_tup, ↓dIx_str, ↓onSome_some, ↓dLen_lst, ↓dLen_tup, ↓dLen_str, ↓dLen_ro, ↓dLen_dct, ↓items_str, ↓items_lst, ↓items_tup, ↓items_ro, ↓dAll_lst, ↓dAny_lst, ↓dSum_lst, ↓dIsi_ty, ↓dIsi_tup, ↓dIn_str, ↓onSeq_lst, ↓onSeq_tup, ↓dIs_bb, ↓dStrI_i, ↓dIsW_bb, ↓dIsW_ib, ↓dIsW_sb, ↓dIsW_nb, ↓dIsW_lb, ↓dIsW_tb, ↓dIsW_db, ↓dIsW_nn, ↓dIsW_in, ↓dIsW_sn, ↓dIsW_ln, ↓dIsW_tn, ↓dEq_ii, ↓dEq_ss, ↓dNe_ii, ↓dNe_ss, ↓dEq_nil, ↓dNe_nil, ↓dEq_bb, ↓dNe_bb, List.append_nil, List.nil_append, List.cons_append, startD, List.map_cons, List.map_nil, List.length_cons, List.length_nil, Nat.sub_self, List.replicate_zero, List.replicate_succ, List.set_cons_zero, List.set_cons_succ, List.getElem?_cons_zero, List.getElem?_cons_succ, atI_lit, vw_int, vw_str, vw_bl, vw_non, vw_lst, vw_tup, vw_dct, vw_ro, vw_obj, vw_cls, Nat.reduceAdd, Nat.reduceSub, Int.reduceToNat, Int.reduceNeg, Int.reducePow, Int.reduceAdd, Int.reduceSub, Int.reduceMul, ixN_lit, decide_eq_true_eq, decide_eq_false_iff_not, if_true, if_false, Bool.false_eq_true, Bool.not_true, Bool.not_false, Nat.reduceLT, Nat.reduceLeDiff, Int.reduceLT, Int.reduceLE, true_and, and_true, and_self, ite_true, ite_false, kind_int, kind_bl, kind_non, kind_str, kind_lst, kind_tup, kind_dct, clsAll_lt, all_lt, any_lt_l, any_lt_t, any_lt_s, any_lt_i, any_lt_b, any_lt_n, any_lt_d, kc_int, kc_bool, kc_str, kc_list, kc_tuple, kc_dict, isiT, String.reduceBEq, Bool.or_false, Bool.or_true, Bool.false_or, Bool.true_or, Bool.and_false, Bool.false_and, Bool.and_true, Bool.true_and, wipeD, Bool.not_eq_true, Bool.not_eq_false, Bool.not_eq_eq_eq_not, Bool.not_not, Bool.false_bne, Bool.true_bne, dJoin, onSome_some, sizeLine_eq, Mu.put_same, put_put, Nat.zero_le, decide_true, decide_false, flt_litc, fld_str, fld_int, fld_bl, fld_non, List.all_cons, List.all_nil, reduceCtorEq, strOk_of, eqd_int, eqd_str, eqd_bl, eqd_lst0, eqd_lst1, eqd_lst2, eqd_lst3, eqd_tup0, eqd_tup1, eqd_tup2, eqd_tup3, flt_bl, flt_non]
    exact ⟨p, bs, rfl, by omega, fun i hi => ho i (Rq.parts_holes hp i hi), hl, hy⟩
  have at_ : ∀ i, i ∈ q.holes → bs[i]? = some (bs[i]?.getD false) := fun i hi => by
    have := ho i hi
    rw [List.getElem?_eq_getElem this]; rfl
  cases q <;> (simp only [Rq.d, g_holds, ↓reduceIte, ↓u_sNx, ↓u_sSeq, ↓u_nx, ↓u_rt, ↓u_bk, ↓u_ct, ↓u_sBreak, ↓u_sCont, ↓u_sDrop, ↓u_sRet, ↓u_sRetN, ↓u_sIf, ↓u_sAsg, ↓u_gC, ↓u_aNil, ↓u_aCons, ↓u_gTup, ↓u_gLst, ↓u_gLstM, ↓u_gBin, ↓u_cVal, ↓u_onBl, ↓u_onInt, ↓u_onStr, ↓u_gChain, ↓u_cAnd, ↓u_cOr, ↓u_cNot, ↓u_gAnd, ↓u_gOr, ↓u_gNot, ↓u_gIf, ↓u_gNeg, ↓u_nNil, ↓u_nCons, ↓u_nTup, ↓u_nSub, ↓u_gCB, ↓u_gCall, ↓u_gM0, ↓u_gM1, ↓u_gL, ↓u_gL0, ↓u_oNo, ↓u_oSome, ↓u_gSl, ↓u_cYes, ↓u_on1, ↓u_on2, ↓u_dInt, ↓u_dInt0, ↓u_gLc, ↓u_gLcM, ↓u_gLc2, ↓u_sNever, ↓u_iEnS, ↓u_iEnL, ↓u_iEnumD, ↓u_iZipD, ↓u_zipS, ↓u_zipL, ↓u_iSeq, ↓u_iRange1, ↓u_iRange2, ↓u_sWhile, ↓u_iRange3, ↓u_on3, ↓u_sFor, ↓u_dMax2, ↓u_dMin2, ↓u_gDct0, ↓u_gVar0, ↓u_sSet0, ↓u_nName0, ↓u_gVar1, ↓u_sSet1, ↓u_nName1, ↓u_gVar2, ↓u_sSet2, ↓u_nName2, ↓u_gVar3, ↓u_sSet3, ↓u_nName3, ↓u_gVar4, ↓u_sSet4, ↓u_nName4, ↓u_gVar5, ↓u_sSet5, ↓u_nName5, ↓u_gVar6, ↓u_sSet6, ↓u_nName6, ↓u_gVar7, ↓u_sSet7, ↓u_nName7, ↓u_gVar8, ↓u_sSet8, ↓u_nName8, ↓u_gVar9, ↓u_sSet9, ↓u_nName9, ↓u_gVar10, ↓u_sSet10, ↓u_nName10, ↓u_gVar11, ↓u_sSet11, ↓u_nName11, ↓u_gVar12, ↓u_sSet12, ↓u_nName12, ↓u_gVar13, ↓u_sSet13, ↓u_nName13, ↓u_gVar14, ↓u_sSet14, ↓u_nName14, ↓u_gVar15, ↓u_sSet15, ↓u_nName15, ↓u_gVar16, ↓u_sSet16, ↓u_nName16, ↓u_gVar17, ↓u_sSet17, ↓u_nName17, ↓dToInt_int, ↓dToInt_bl, ↓dListU_lst, ↓dListU_tup, ↓dListU_str, ↓dListUM_lst, ↓dListUM_tup, ↓dListUM_str, ↓dTuple_lst, ↓dTuple_tup, ↓dIn_lst, ↓dIn_tup, ↓dSl_str, ↓dSl_lst, ↓dSl_tup, ↓dAdd_int, ↓dAdd_str, ↓dAdd_lst, ↓dAdd_tup, ↓dMul_int, ↓dMul_str, ↓dMul_lst, ↓dIx_lst, ↓dIx_ro, ↓dIx_tup, ↓dIx_str, ↓onSome_some, ↓dLen_lst, ↓dLen_tup, ↓dLen_str, ↓dLen_ro, ↓dLen_dct, ↓items_str, ↓items_lst, ↓items_tup, ↓items_ro, ↓dAll_lst, ↓dAny_lst, ↓dSum_lst, ↓dIsi_ty, ↓dIsi_tup, ↓dIn_str, ↓onSeq_lst, ↓onSeq_tup, ↓dIs_bb, ↓dStrI_i, ↓dIsW_bb, ↓dIsW_ib, ↓dIsW_sb, ↓dIsW_nb, ↓dIsW_lb, ↓dIsW_tb, ↓dIsW_db, ↓dIsW_nn, ↓dIsW_in, ↓dIsW_sn, ↓dIsW_ln, ↓dIsW_tn, ↓dEq_ii, ↓dEq_ss, ↓dNe_ii, ↓dNe_ss, ↓dEq_nil, ↓dNe_nil, ↓dEq_bb, ↓dNe_bb, List.append_nil, List.nil_append, List.cons_append, startD, List.map_cons, List.map_nil, List.length_cons, List.length_nil, Nat.sub_self, List.replicate_zero, List.replicate_succ, List.set_cons_zero, List.set_cons_succ, List.getElem?_cons_zero, List.getElem?_cons_succ, atI_lit, vw_int, vw_str, vw_bl, vw_non, vw_lst, vw_tup, vw_dct, vw_ro, vw_obj, vw_cls, Nat.reduceAdd, Nat.reduceSub, Int.reduceToNat, Int.reduceNeg, Int.reducePow, Int.reduceAdd, Int.reduceSub, Int.reduceMul, ixN_lit, decide_eq_true_eq, decide_eq_false_iff_not, if_true, if_false, Bool.false_eq_true, Bool.not_true, Bool.not_false, Nat.reduceLT, Nat.reduceLeDiff, Int.reduceLT, Int.reduceLE, true_and, and_true, and_self, ite_true, ite_false, kind_int, kind_bl, kind_non, kind_str, kind_lst, kind_tup, kind_dct, clsAll_lt, all_lt, any_lt_l, any_lt_t, any_lt_s, any_lt_i, any_lt_b, any_lt_n, any_lt_d, kc_int, kc_bool, kc_str, kc_list, kc_tuple, kc_dict, isiT, String.reduceBEq, Bool.or_false, Bool.or_true, Bool.false_or, Bool.true_or, Bool.and_false, Bool.false_and, Bool.and_true, Bool.true_and, wipeD, Bool.not_eq_true, Bool.not_eq_false, Bool.not_eq_eq_eq_not, Bool.not_not, Bool.false_bne, Bool.true_bne, dJoin, onSome_some, sizeLine_eq, Mu.put_same, put_put, Nat.zero_le, decide_true, decide_false, flt_litc, fld_str, fld_int, fld_bl, fld_non, List.all_cons, List.all_nil, reduceCtorEq, strOk_of, eqd_int, eqd_str, eqd_bl, eqd_lst0, eqd_lst1, eqd_lst2, eqd_lst3, eqd_tup0, eqd_tup1, eqd_tup2, eqd_tup3, flt_bl, flt_non, wq_open_closed, wq_open_all, wq_open_none, wq_open_and, wq_open_or, wq_open_not, wi_open_0, wi_open_1, wi_open_2, wi_open_3, wq_closed_open, wq_closed_all, wq_closed_none, wq_closed_and, wq_closed_or, wq_closed_not, wi_closed_0, wi_closed_1, wi_closed_2, wi_closed_3, wq_all_open, wq_all_closed, wq_all_none, wq_all_and, wq_all_or, wq_all_not, wi_all_0, wi_all_1, wi_all_2, wi_all_3, wq_none_open, wq_none_closed, wq_none_all, wq_none_and, wq_none_or, wq_none_not, wi_none_0, wi_none_1, wi_none_2, wi_none_3, wq_and_open, wq_and_closed, wq_and_all, wq_and_none, wq_and_or, wq_and_not, wi_and_0, wi_and_1, wi_and_2, wi_and_3, wq_or_open, wq_or_closed, wq_or_all, wq_or_none, wq_or_and, wq_or_not, wi_or_0, wi_or_1, wi_or_2, wi_or_3, wq_not_open, wq_not_closed, wq_not_all, wq_not_none, wq_not_and, wq_not_or, wi_not_0, wi_not_1, wi_not_2, wi_not_3, cut1, Bool.false_eq_true]; try exact h)
  · refine ⟨bs, _, _, rfl, hl, at_ _ (by simp [Rq.holes]), ?_⟩
    simp only [↓reduceIte, ↓u_sNx, ↓u_sSeq, ↓u_nx, ↓u_rt, ↓u_bk, ↓u_ct, ↓u_sBreak, ↓u_sCont, ↓u_sDrop, ↓u_sRet, ↓u_sRetN, ↓u_sIf, ↓u_sAsg, ↓u_gC, ↓u_aNil, ↓u_aCons, ↓u_gTup, ↓u_gLst, ↓u_gLstM, ↓u_gBin, ↓u_cVal, ↓u_onBl, ↓u_onInt, ↓u_onStr, ↓u_gChain, ↓u_cAnd, ↓u_cOr, ↓u_cNot, ↓u_gAnd, ↓u_gOr, ↓u_gNot, ↓u_gIf, ↓u_gNeg, ↓u_nNil, ↓u_nCons, ↓u_nTup, ↓u_nSub, ↓u_gCB, ↓u_gCall, ↓u_gM0, ↓u_gM1, ↓u_gL, ↓u_gL0, ↓u_oNo, ↓u_oSome, ↓u_gSl, ↓u_cYes, ↓u_on1, ↓u_on2, ↓u_dInt, ↓u_dInt0, ↓u_gLc, ↓u_gLcM, ↓u_gLc2, ↓u_sNever, ↓u_iEnS, ↓u_iEnL, ↓u_iEnumD, ↓u_iZipD, ↓u_zipS, ↓u_zipL, ↓u_iSeq, ↓u_iRange1, ↓u_iRange2, ↓u_sWhile, ↓u_iRange3, ↓u_on3, ↓u_sFor, ↓u_dMax2, ↓u_dMin2, ↓u_gDct0, ↓u_gVar0, ↓u_sSet0, ↓u_nName0, ↓u_gVar1, ↓u_sSet1, ↓u_nName1, ↓u_gVar2, ↓u_sSet2, ↓u_nName2, ↓u_gVar3, ↓u_sSet3, ↓u_nName3, ↓u_gVar4, ↓u_sSet4, ↓u_nName4, ↓u_gVar5, ↓u_sSet5, ↓u_nName5, ↓u_gVar6, ↓u_sSet6, ↓u_nName6, ↓u_gVar7, ↓u_sSet7, ↓u_nName7, ↓u_gVar8, ↓u_sSet8, ↓u_nName8, ↓u_gVar9, ↓u_sSet9, ↓u_nName9, ↓u_gVar10, ↓u_sSet10, ↓u_nName10, ↓u_gVar11, ↓u_sSet11, ↓u_nName11, ↓u_gVar12, ↓u_sSet12, ↓u_nName12, ↓u_gVar13, ↓u_sSet13, ↓u_nName13, ↓u_gVar14, ↓u_sSet14, ↓u_nName14, ↓u_gVar15, ↓u_sSet15, ↓u_nName15, ↓u_gVar16, ↓u_sSet16, ↓u_nName16, ↓u_gVar17, ↓u_sSet17, ↓u_nName17, ↓dToInt_int, ↓dToInt_bl, ↓dListU_lst, ↓dListU_tup, ↓dListU_str, ↓dListUM_lst, ↓dListUM_tup, ↓dListUM_str, ↓dTuple_lst, ↓dTuple_tup, ↓dIn_lst, ↓dIn_tup, ↓dSl_str, ↓dSl_lst, ↓dSl_tup, ↓dAdd_int, ↓dAdd_str, ↓dAdd_lst, ↓dAdd_tup, ↓dMul_int, ↓dMul_str, ↓dMul_lst, ↓dIx_lst, ↓dIx_ro, ↓dIx_tup, ↓dIx_str, ↓onSome_some, ↓dLen_lst, ↓dLen_tup, ↓dLen_str, ↓dLen_ro, ↓dLen_dct, ↓items_str, ↓items_lst, ↓items_tup, ↓items_ro, ↓dAll_lst, ↓dAny_lst, ↓dSum_lst, ↓dIsi_ty, ↓dIsi_tup, ↓dIn_str, ↓onSeq_lst, ↓onSeq_tup, ↓dIs_bb, ↓dStrI_i, ↓dIsW_bb, ↓dIsW_ib, ↓dIsW_sb, ↓dIsW_nb, ↓dIsW_lb, ↓dIsW_tb, ↓dIsW_db, ↓dIsW_nn, ↓dIsW_in, ↓dIsW_sn, ↓dIsW_ln, ↓dIsW_tn, ↓dEq_ii, ↓dEq_ss, ↓dNe_ii, ↓dNe_ss, ↓dEq_nil, ↓dNe_nil, ↓dEq_bb, ↓dNe_bb, List.append_nil, List.nil_append, List.cons_append, startD, List.map_cons, List.map_nil, List.length_cons, List.length_nil, Nat.sub_self, List.replicate_zero, List.replicate_succ, List.set_cons_zero, List.set_cons_succ, List.getElem?_cons_zero, List.getElem?_cons_succ, atI_lit, vw_int, vw_str, vw_bl, vw_non, vw_lst, vw_tup, vw_dct, vw_ro, vw_obj, vw_cls, Nat.reduceAdd, Nat.reduceSub, Int.reduceToNat, Int.reduceNeg, Int.reducePow, Int.reduceAdd, Int.reduceSub, Int.reduceMul, ixN_lit, decide_eq_true_eq, decide_eq_false_iff_not, if_true, if_false, Bool.false_eq_true, Bool.not_true, Bool.not_false, Nat.reduceLT, Nat.reduceLeDiff, Int.reduceLT, Int.reduceLE, true_and, and_true, and_self, ite_true, ite_false, kind_int, kind_bl, kind_non, kind_str, kind_lst, kind_tup, kind_dct, clsAll_lt, all_lt, any_lt_l, any_lt_t, any_lt_s, any_lt_i, any_lt_b, any_lt_n, any_lt_d, kc_int, kc_bool, kc_str, kc_list, kc_tuple, kc_dict, isiT, String.reduceBEq, Bool.or_false, Bool.or_true, Bool.false_or, Bool.true_or, Bool.and_false, Bool.false_and, Bool.and_true, Bool.true_and, wipeD, Bool.not_eq_true, Bool.not_eq_false, Bool.not_eq_eq_eq_not, Bool.not_not, Bool.false_bne, Bool.true_bne, dJoin, onSome_some, sizeLine_eq, Mu.put_same, put_put, Nat.zero_le, decide_true, decide_false, flt_litc, fld_str, fld_int, fld_bl, fld_non, List.all_cons, List.all_nil, reduceCtorEq, strOk_of, eqd_int, eqd_str, eqd_bl, eqd_lst0, eqd_lst1, eqd_lst2, eqd_lst3, eqd_tup0, eqd_tup1, eqd_tup2, eqd_tup3, flt_bl, flt_non]
    simpa [Rq.hd] using h
  · refine ⟨bs, _, _, rfl, hl, at_ _ (by simp [Rq.holes]), ?_⟩
    simp only [↓reduceIte, ↓u_sNx, ↓u_sSeq, ↓u_nx, ↓u_rt, ↓u_bk, ↓u_ct, ↓u_sBreak, ↓u_sCont, ↓u_sDrop, ↓u_sRet, ↓u_sRetN, ↓u_sIf, ↓u_sAsg, ↓u_gC, ↓u_aNil, ↓u_aCons, ↓u_gTup, ↓u_gLst, ↓u_gLstM, ↓u_gBin, ↓u_cVal, ↓u_onBl, ↓u_onInt, ↓u_onStr, ↓u_gChain, ↓u_cAnd, ↓u_cOr, ↓u_cNot, ↓u_gAnd, ↓u_gOr, ↓u_gNot, ↓u_gIf, ↓u_gNeg, ↓u_nNil, ↓u_nCons, ↓u_nTup, ↓u_nSub, ↓u_gCB, ↓u_gCall, ↓u_gM0, ↓u_gM1, ↓u_gL, ↓u_gL0, ↓u_oNo, ↓u_oSome, ↓u_gSl, ↓u_cYes, ↓u_on1, ↓u_on2, ↓u_dInt, ↓u_dInt0, ↓u_gLc, ↓u_gLcM, ↓u_gLc2, ↓u_sNever, ↓u_iEnS, ↓u_iEnL, ↓u_iEnumD, ↓u_iZipD, ↓u_zipS, ↓u_zipL, ↓u_iSeq, ↓u_iRange1, ↓u_iRange2, ↓u_sWhile, ↓u_iRange3, ↓u_on3, ↓u_sFor, ↓u_dMax2, ↓u_dMin2, ↓u_gDct0, ↓u_gVar0, ↓u_sSet0, ↓u_nName0, ↓u_gVar1, ↓u_sSet1, ↓u_nName1, ↓u_gVar2, ↓u_sSet2, ↓u_nName2, ↓u_gVar3, ↓u_sSet3, ↓u_nName3, ↓u_gVar4, ↓u_sSet4, ↓u_nName4, ↓u_gVar5, ↓u_sSet5, ↓u_nName5, ↓u_gVar6, ↓u_sSet6, ↓u_nName6, ↓u_gVar7, ↓u_sSet7, ↓u_nName7, ↓u_gVar8, ↓u_sSet8, ↓u_nName8, ↓u_gVar9, ↓u_sSet9, ↓u_nName9, ↓u_gVar10, ↓u_sSet10, ↓u_nName10, ↓u_gVar11, ↓u_sSet11, ↓u_nName11, ↓u_gVar12, ↓u_sSet12, ↓u_nName12, ↓u_gVar13, ↓u_sSet13, ↓u_nName13, ↓u_gVar14, ↓u_sSet14, ↓u_nName14, ↓u_gVar15, ↓u_sSet15, ↓u_nName15, ↓u_gVar16, ↓u_sSet16, ↓u_nName16, ↓u_gVar17, ↓u_sSet17, ↓u_nName17, ↓dToInt_int, ↓dToInt_bl, ↓dListU_lst, ↓dListU_tup, ↓dListU_str, ↓dListUM_lst, ↓dListUM_tup, ↓dListUM_str, ↓dTuple_lst, ↓dTuple_tup, ↓dIn_lst, ↓dIn_tup, ↓dSl_str, ↓dSl_lst, ↓dSl_tup, ↓dAdd_int, ↓dAdd_str, ↓dAdd_lst, ↓dAdd_tup, ↓dMul_int, ↓dMul_str, ↓dMul_lst, ↓dIx_lst, ↓dIx_ro, ↓dIx_tup, ↓dIx_str, ↓onSome_some, ↓dLen_lst, ↓dLen_tup, ↓dLen_str, ↓dLen_ro, ↓dLen_dct, ↓items_str, ↓items_lst, ↓items_tup, ↓items_ro, ↓dAll_lst, ↓dAny_lst, ↓dSum_lst, ↓dIsi_ty, ↓dIsi_tup, ↓dIn_str, ↓onSeq_lst, ↓onSeq_tup, ↓dIs_bb, ↓dStrI_i, ↓dIsW_bb, ↓dIsW_ib, ↓dIsW_sb, ↓dIsW_nb, ↓dIsW_lb, ↓dIsW_tb, ↓dIsW_db, ↓dIsW_nn, ↓dIsW_in, ↓dIsW_sn, ↓dIsW_ln, ↓dIsW_tn, ↓dEq_ii, ↓dEq_ss, ↓dNe_ii, ↓dNe_ss, ↓dEq_nil, ↓dNe_nil, ↓dEq_bb, ↓dNe_bb, List.append_nil, List.nil_append, List.cons_append, startD, List.map_cons, List.map_nil, List.length_cons, List.length_nil, Nat.sub_self, List.replicate_zero, List.replicate_succ, List.set_cons_zero, List.set_cons_succ, List.getElem?_cons_zero, List.getElem?_cons_succ, atI_lit, vw_int, vw_str, vw_bl, vw_non, vw_lst, vw_tup, vw_dct, vw_ro, vw_obj, vw_cls, Nat.reduceAdd, Nat.reduceSub, Int.reduceToNat, Int.reduceNeg, Int.reducePow, Int.reduceAdd, Int.reduceSub, Int.reduceMul, ixN_lit, decide_eq_true_eq, decide_eq_false_iff_not, if_true, if_false, Bool.false_eq_true, Bool.not_true, Bool.not_false, Nat.reduceLT, Nat.reduceLeDiff, Int.reduceLT, Int.reduceLE, true_and, and_true, and_self, ite_true, ite_false, kind_int, kind_bl, kind_non, kind_str, kind_lst, kind_tup, kind_dct, clsAll_lt, all_lt, any_lt_l, any_lt_t, any_lt_s, any_lt_i, any_lt_b, any_lt_n, any_lt_d, kc_int, kc_bool, kc_str, kc_list, kc_tuple, kc_dict, isiT, String.reduceBEq, Bool.or_false, Bool.or_true, Bool.false_or, Bool.true_or, Bool.and_false, Bool.false_and, Bool.and_true, Bool.true_and, wipeD, Bool.not_eq_true, Bool.not_eq_false, Bool.not_eq_eq_eq_not, Bool.not_not, Bool.false_bne, Bool.true_bne, dJoin, onSome_some, sizeLine_eq, Mu.put_same, put_put, Nat.zero_le, decide_true, decide_false, flt_litc, fld_str, fld_int, fld_bl, fld_non, List.all_cons, List.all_nil, reduceCtorEq, strOk_of, eqd_int, eqd_str, eqd_bl, eqd_lst0, eqd_lst1, eqd_lst2, eqd_lst3, eqd_tup0, eqd_tup1, eqd_tup2, eqd_tup3, flt_bl, flt_non]
    simpa [Rq.hd] using h
  · refine rest _ _ ?_
    simp only [Rq.parts, ↓reduceIte, ↓u_sNx, ↓u_sSeq, ↓u_nx, ↓u_rt, ↓u_bk, ↓u_ct, ↓u_sBreak, ↓u_sCont, ↓u_sDrop, ↓u_sRet, ↓u_sRetN, ↓u_sIf, ↓u_sAsg, ↓u_gC, ↓u_aNil, ↓u_aCons, ↓u_gTup, ↓u_gLst, ↓u_gLstM, ↓u_gBin, ↓u_cVal, ↓u_onBl, ↓u_onInt, ↓u_onStr, ↓u_gChain, ↓u_cAnd, ↓u_cOr, ↓u_cNot, ↓u_gAnd, ↓u_gOr, ↓u_gNot, ↓u_gIf, ↓u_gNeg, ↓u_nNil, ↓u_nCons, ↓u_nTup, ↓u_nSub, ↓u_gCB, ↓u_gCall, ↓u_gM0, ↓u_gM1, ↓u_gL, ↓u_gL0, ↓u_oNo, ↓u_oSome, ↓u_gSl, ↓u_cYes, ↓u_on1, ↓u_on2, ↓u_dInt, ↓u_dInt0, ↓u_gLc, ↓u_gLcM, ↓u_gLc2, ↓u_sNever, ↓u_iEnS, ↓u_iEnL, ↓u_iEnumD, ↓u_iZipD, ↓u_zipS, ↓u_zipL, ↓u_iSeq, ↓u_iRange1, ↓u_iRange2, ↓u_sWhile, ↓u_iRange3, ↓u_on3, ↓u_sFor, ↓u_dMax2, ↓u_dMin2, ↓u_gDct0, ↓u_gVar0, ↓u_sSet0, ↓u_nName0, ↓u_gVar1, ↓u_sSet1, ↓u_nName1, ↓u_gVar2, ↓u_sSet2, ↓u_nName2, ↓u_gVar3, ↓u_sSet3, ↓u_nName3, ↓u_gVar4, ↓u_sSet4, ↓u_nName4, ↓u_gVar5, ↓u_sSet5, ↓u_nName5, ↓u_gVar6, ↓u_sSet6, ↓u_nName6, ↓u_gVar7, ↓u_sSet7, ↓u_nName7, ↓u_gVar8, ↓u_sSet8, ↓u_nName8, ↓u_gVar9, ↓u_sSet9, ↓u_nName9, ↓u_gVar10, ↓u_sSet10, ↓u_nName10, ↓u_gVar11, ↓u_sSet11, ↓u_nName11, ↓u_gVar12, ↓u_sSet12, ↓u_nName12, ↓u_gVar13, ↓u_sSet13, ↓u_nName13, ↓u_gVar14, ↓u_sSet14, ↓u_nName14, ↓u_gVar15, ↓u_sSet15, ↓u_nName15, ↓u_gVar16, ↓u_sSet16, ↓u_nName16, ↓u_gVar17, ↓u_sSet17, ↓u_nName17, ↓dToInt_int, ↓dToInt_bl, ↓dListU_lst, ↓dListU_tup, ↓dListU_str, ↓dListUM_lst, ↓dListUM_tup, ↓dListUM_str, ↓dTuple_lst, ↓dTuple_tup, ↓dIn_lst, ↓dIn_tup, ↓dSl_str, ↓dSl_lst, ↓dSl_tup, ↓dAdd_int, ↓dAdd_str, ↓dAdd_lst, ↓dAdd_tup, ↓dMul_int, ↓dMul_str, ↓dMul_lst, ↓dIx_lst, ↓dIx_ro, ↓dIx_tup, ↓dIx_str, ↓onSome_some, ↓dLen_lst, ↓dLen_tup, ↓dLen_str, ↓dLen_ro, ↓dLen_dct, ↓items_str, ↓items_lst, ↓items_tup, ↓items_ro, ↓dAll_lst, ↓dAny_lst, ↓dSum_lst, ↓dIsi_ty, ↓dIsi_tup, ↓dIn_str, ↓onSeq_lst, ↓onSeq_tup, ↓dIs_bb, ↓dStrI_i, ↓dIsW_bb, ↓dIsW_ib, ↓dIsW_sb, ↓dIsW_nb, ↓dIsW_lb, ↓dIsW_tb, ↓dIsW_db, ↓dIsW_nn, ↓dIsW_in, ↓dIsW_sn, ↓dIsW_ln, ↓dIsW_tn, ↓dEq_ii, ↓dEq_ss, ↓dNe_ii, ↓dNe_ss, ↓dEq_nil, ↓dNe_nil, ↓dEq_bb, ↓dNe_bb, List.append_nil, List.nil_append, List.cons_append, startD, List.map_cons, List.map_nil, List.length_cons, List.length_nil, Nat.sub_self, List.replicate_zero, List.replicate_succ, List.set_cons_zero, List.set_cons_succ, List.getElem?_cons_zero, List.getElem?_cons_succ, atI_lit, vw_int, vw_str, vw_bl, vw_non, vw_lst, vw_tup, vw_dct, vw_ro, vw_obj, vw_cls, Nat.reduceAdd, Nat.reduceSub, Int.reduceToNat, Int.reduceNeg, Int.reducePow, Int.reduceAdd, Int.reduceSub, Int.reduceMul, ixN_lit, decide_eq_true_eq, decide_eq_false_iff_not, if_true, if_false, Bool.false_eq_true, Bool.not_true, Bool.not_false, Nat.reduceLT, Nat.reduceLeDiff, Int.reduceLT, Int.reduceLE, true_and, and_true, and_self, ite_true, ite_false, kind_int, kind_bl, kind_non, kind_str, kind_lst, kind_tup, kind_dct, clsAll_lt, all_lt, any_lt_l, any_lt_t, any_lt_s, any_lt_i, any_lt_b, any_lt_n, any_lt_d, kc_int, kc_bool, kc_str, kc_list, kc_tuple, kc_dict, isiT, String.reduceBEq, Bool.or_false, Bool.or_true, Bool.false_or, Bool.true_or, Bool.and_false, Bool.false_and, Bool.and_true, Bool.true_and, wipeD, Bool.not_eq_true, Bool.not_eq_false, Bool.not_eq_eq_eq_not, Bool.not_not, Bool.false_bne, Bool.true_bne, dJoin, onSome_some, sizeLine_eq, Mu.put_same, put_put, Nat.zero_le, decide_true, decide_false, flt_litc, fld_str, fld_int, fld_bl, fld_non, List.all_cons, List.all_nil, reduceCtorEq, strOk_of, eqd_int, eqd_str, eqd_bl, eqd_lst0, eqd_lst1, eqd_lst2, eqd_lst3, eqd_tup0, eqd_tup1, eqd_tup2, eqd_tup3, flt_bl, flt_non]
    rw [bls2, onSome_some]
    simpa [Rq.hd] using h
  · refine rest _ _ ?_
    simp only [Rq.parts, ↓reduceIte, ↓u_sNx, ↓u_sSeq, ↓u_nx, ↓u_rt, ↓u_bk, ↓u_ct, ↓u_sBreak, ↓u_sCont, ↓u_sDrop, ↓u_sRet, ↓u_sRetN, ↓u_sIf, ↓u_sAsg, ↓u_gC, ↓u_aNil, ↓u_aCons, ↓u_gTup, ↓u_gLst, ↓u_gLstM, ↓u_gBin, ↓u_cVal, ↓u_onBl, ↓u_onInt, ↓u_onStr, ↓u_gChain, ↓u_cAnd, ↓u_cOr, ↓u_cNot, ↓u_gAnd, ↓u_gOr, ↓u_gNot, ↓u_gIf, ↓u_gNeg, ↓u_nNil, ↓u_nCons, ↓u_nTup, ↓u_nSub, ↓u_gCB, ↓u_gCall, ↓u_gM0, ↓u_gM1, ↓u_gL, ↓u_gL0, ↓u_oNo, ↓u_oSome, ↓u_gSl, ↓u_cYes, ↓u_on1, ↓u_on2, ↓u_dInt, ↓u_dInt0, ↓u_gLc, ↓u_gLcM, ↓u_gLc2, ↓u_sNever, ↓u_iEnS, ↓u_iEnL, ↓u_iEnumD, ↓u_iZipD, ↓u_zipS, ↓u_zipL, ↓u_iSeq, ↓u_iRange1, ↓u_iRange2, ↓u_sWhile, ↓u_iRange3, ↓u_on3, ↓u_sFor, ↓u_dMax2, ↓u_dMin2, ↓u_gDct0, ↓u_gVar0, ↓u_sSet0, ↓u_nName0, ↓u_gVar1, ↓u_sSet1, ↓u_nName1, ↓u_gVar2, ↓u_sSet2, ↓u_nName2, ↓u_gVar3, ↓u_sSet3, ↓u_nName3, ↓u_gVar4, ↓u_sSet4, ↓u_nName4, ↓u_gVar5, ↓u_sSet5, ↓u_nName5, ↓u_gVar6, ↓u_sSet6, ↓u_nName6, ↓u_gVar7, ↓u_sSet7, ↓u_nName7, ↓u_gVar8, ↓u_sSet8, ↓u_nName8, ↓u_gVar9, ↓u_sSet9, ↓u_nName9, ↓u_gVar10, ↓u_sSet10, ↓u_nName10, ↓u_gVar11, ↓u_sSet11, ↓u_nName11, ↓u_gVar12, ↓u_sSet12, ↓u_nName12, ↓u_gVar13, ↓u_sSet13, ↓u_nName13, ↓u_gVar14, ↓u_sSet14, ↓u_nName14, ↓u_gVar15, ↓u_sSet15, ↓u_nName15, ↓u_gVar16, ↓u_sSet16, ↓u_nName16, ↓u_gVar17, ↓u_sSet17, ↓u_nName17, ↓dToInt_int, ↓dToInt_bl, ↓dListU_lst, ↓dListU_tup, ↓dListU_str, ↓dListUM_lst, ↓dListUM_tup, ↓dListUM_str, ↓dTuple_lst, ↓dTuple_tup, ↓dIn_lst, ↓dIn_tup, ↓dSl_str, ↓dSl_lst, ↓dSl_tup, ↓dAdd_int, ↓dAdd_str, ↓dAdd_lst, ↓dAdd_tup, ↓dMul_int, ↓dMul_str, ↓dMul_lst, ↓dIx_lst, ↓dIx_ro, ↓dIx_tup, ↓dIx_str, ↓onSome_some, ↓dLen_lst, ↓dLen_tup, ↓dLen_str, ↓dLen_ro, ↓dLen_dct, ↓items_str, ↓items_lst, ↓items_tup, ↓items_ro, ↓dAll_lst, ↓dAny_lst, ↓dSum_lst, ↓dIsi_ty, ↓dIsi_tup, ↓dIn_str, ↓onSeq_lst, ↓onSeq_tup, ↓dIs_bb, ↓dStrI_i, ↓dIsW_bb, ↓dIsW_ib, ↓dIsW_sb, ↓dIsW_nb, ↓dIsW_lb, ↓dIsW_tb, ↓dIsW_db, ↓dIsW_nn, ↓dIsW_in, ↓dIsW_sn, ↓dIsW_ln, ↓dIsW_tn, ↓dEq_ii, ↓dEq_ss, ↓dNe_ii, ↓dNe_ss, ↓dEq_nil, ↓dNe_nil, ↓dEq_bb, ↓dNe_bb, List.append_nil, List.nil_append, List.cons_append, startD, List.map_cons, List.map_nil, List.length_cons, List.length_nil, Nat.sub_self, List.replicate_zero, List.replicate_succ, List.set_cons_zero, List.set_cons_succ, List.getElem?_cons_zero, List.getElem?_cons_succ, atI_lit, vw_int, vw_str, vw_bl, vw_non, vw_lst, vw_tup, vw_dct, vw_ro, vw_obj, vw_cls, Nat.reduceAdd, Nat.reduceSub, Int.reduceToNat, Int.reduceNeg, Int.reducePow, Int.reduceAdd, Int.reduceSub, Int.reduceMul, ixN_lit, decide_eq_true_eq, decide_eq_false_iff_not, if_true, if_false, Bool.false_eq_true, Bool.not_true, Bool.not_false, Nat.reduceLT, Nat.reduceLeDiff, Int.reduceLT, Int.reduceLE, true_and, and_true, and_self, ite_true, ite_false, kind_int, kind_bl, kind_non, kind_str, kind_lst, kind_tup, kind_dct, clsAll_lt, all_lt, any_lt_l, any_lt_t, any_lt_s, any_lt_i, any_lt_b, any_lt_n, any_lt_d, kc_int, kc_bool, kc_str, kc_list, kc_tuple, kc_dict, isiT, String.reduceBEq, Bool.or_false, Bool.or_true, Bool.false_or, Bool.true_or, Bool.and_false, Bool.false_and, Bool.and_true, Bool.true_and, wipeD, Bool.not_eq_true, Bool.not_eq_false, Bool.not_eq_eq_eq_not, Bool.not_not, Bool.false_bne, Bool.true_bne, dJoin, onSome_some, sizeLine_eq, Mu.put_same, put_put, Nat.zero_le, decide_true, decide_false, flt_litc, fld_str, fld_int, fld_bl, fld_non, List.all_cons, List.all_nil, reduceCtorEq, strOk_of, eqd_int, eqd_str, eqd_bl, eqd_lst0, eqd_lst1, eqd_lst2, eqd_lst3, eqd_tup0, eqd_tup1, eqd_tup2, eqd_tup3, flt_bl, flt_non]
    rw [bls2, onSome_some]
    simpa [Rq.hd] using h
  · refine rest _ _ ?_
    simp only [Rq.parts, ↓reduceIte, ↓u_sNx, ↓u_sSeq, ↓u_nx, ↓u_rt, ↓u_bk, ↓u_ct, ↓u_sBreak, ↓u_sCont, ↓u_sDrop, ↓u_sRet, ↓u_sRetN, ↓u_sIf, ↓u_sAsg, ↓u_gC, ↓u_aNil, ↓u_aCons, ↓u_gTup, ↓u_gLst, ↓u_gLstM, ↓u_gBin, ↓u_cVal, ↓u_onBl, ↓u_onInt, ↓u_onStr, ↓u_gChain, ↓u_cAnd, ↓u_cOr, ↓u_cNot, ↓u_gAnd, ↓u_gOr, ↓u_gNot, ↓u_gIf, ↓u_gNeg, ↓u_nNil, ↓u_nCons, ↓u_nTup, ↓u_nSub, ↓u_gCB, ↓u_gCall, ↓u_gM0, ↓u_gM1, ↓u_gL, ↓u_gL0, ↓u_oNo, ↓u_oSome, ↓u_gSl, ↓u_cYes, ↓u_on1, ↓u_on2, ↓u_dInt, ↓u_dInt0, ↓u_gLc, ↓u_gLcM, ↓u_gLc2, ↓u_sNever, ↓u_iEnS, ↓u_iEnL, ↓u_iEnumD, ↓u_iZipD, ↓u_zipS, ↓u_zipL, ↓u_iSeq, ↓u_iRange1, ↓u_iRange2, ↓u_sWhile, ↓u_iRange3, ↓u_on3, ↓u_sFor, ↓u_dMax2, ↓u_dMin2, ↓u_gDct0, ↓u_gVar0, ↓u_sSet0, ↓u_nName0, ↓u_gVar1, ↓u_sSet1, ↓u_nName1, ↓u_gVar2, ↓u_sSet2, ↓u_nName2, ↓u_gVar3, ↓u_sSet3, ↓u_nName3, ↓u_gVar4, ↓u_sSet4, ↓u_nName4, ↓u_gVar5, ↓u_sSet5, ↓u_nName5, ↓u_gVar6, ↓u_sSet6, ↓u_nName6, ↓u_gVar7, ↓u_sSet7, ↓u_nName7, ↓u_gVar8, ↓u_sSet8, ↓u_nName8, ↓u_gVar9, ↓u_sSet9, ↓u_nName9, ↓u_gVar10, ↓u_sSet10, ↓u_nName10, ↓u_gVar11, ↓u_sSet11, ↓u_nName11, ↓u_gVar12, ↓u_sSet12, ↓u_nName12, ↓u_gVar13, ↓u_sSet13, ↓u_nName13, ↓u_gVar14, ↓u_sSet14, ↓u_nName14, ↓u_gVar15, ↓u_sSet15, ↓u_nName15, ↓u_gVar16, ↓u_sSet16, ↓u_nName16, ↓u_gVar17, ↓u_sSet17, ↓u_nName17, ↓dToInt_int, ↓dToInt_bl, ↓dListU_lst, ↓dListU_tup, ↓dListU_str, ↓dListUM_lst, ↓dListUM_tup, ↓dListUM_str, ↓dTuple_lst, ↓dTuple_tup, ↓dIn_lst, ↓dIn_tup, ↓dSl_str, ↓dSl_lst, ↓dSl_tup, ↓dAdd_int, ↓dAdd_str, ↓dAdd_lst, ↓dAdd_tup, ↓dMul_int, ↓dMul_str, ↓dMul_lst, ↓dIx_lst, ↓dIx_ro, ↓dIx_tup, ↓dIx_str, ↓onSome_some, ↓dLen_lst, ↓dLen_tup, ↓dLen_str, ↓dLen_ro, ↓dLen_dct, ↓items_str, ↓items_lst, ↓items_tup, ↓items_ro, ↓dAll_lst, ↓dAny_lst, ↓dSum_lst, ↓dIsi_ty, ↓dIsi_tup, ↓dIn_str, ↓onSeq_lst, ↓onSeq_tup, ↓dIs_bb, ↓dStrI_i, ↓dIsW_bb, ↓dIsW_ib, ↓dIsW_sb, ↓dIsW_nb, ↓dIsW_lb, ↓dIsW_tb, ↓dIsW_db, ↓dIsW_nn, ↓dIsW_in, ↓dIsW_sn, ↓dIsW_ln, ↓dIsW_tn, ↓dEq_ii, ↓dEq_ss, ↓dNe_ii, ↓dNe_ss, ↓dEq_nil, ↓dNe_nil, ↓dEq_bb, ↓dNe_bb, List.append_nil, List.nil_append, List.cons_append, startD, List.map_cons, List.map_nil, List.length_cons, List.length_nil, Nat.sub_self, List.replicate_zero, List.replicate_succ, List.set_cons_zero, List.set_cons_succ, List.getElem?_cons_zero, List.getElem?_cons_succ, atI_lit, vw_int, vw_str, vw_bl, vw_non, vw_lst, vw_tup, vw_dct, vw_ro, vw_obj, vw_cls, Nat.reduceAdd, Nat.reduceSub, Int.reduceToNat, Int.reduceNeg, Int.reducePow, Int.reduceAdd, Int.reduceSub, Int.reduceMul, ixN_lit, decide_eq_true_eq, decide_eq_false_iff_not, if_true, if_false, Bool.false_eq_true, Bool.not_true, Bool.not_false, Nat.reduceLT, Nat.reduceLeDiff, Int.reduceLT, Int.reduceLE, true_and, and_true, and_self, ite_true, ite_false, kind_int, kind_bl, kind_non, kind_str, kind_lst, kind_tup, kind_dct, clsAll_lt, all_lt, any_lt_l, any_lt_t, any_lt_s, any_lt_i, any_lt_b, any_lt_n, any_lt_d, kc_int, kc_bool, kc_str, kc_list, kc_tuple, kc_dict, isiT, String.reduceBEq, Bool.or_false, Bool.or_true, Bool.false_or, Bool.true_or, Bool.and_false, Bool.false_and, Bool.and_true, Bool.true_and, wipeD, Bool.not_eq_true, Bool.not_eq_false, Bool.not_eq_eq_eq_not, Bool.not_not, Bool.false_bne, Bool.true_bne, dJoin, onSome_some, sizeLine_eq, Mu.put_same, put_put, Nat.zero_le, decide_true, decide_false, flt_litc, fld_str, fld_int, fld_bl, fld_non, List.all_cons, List.all_nil, reduceCtorEq, strOk_of, eqd_int, eqd_str, eqd_bl, eqd_lst0, eqd_lst1, eqd_lst2, eqd_lst3, eqd_tup0, eqd_tup1, eqd_tup2, eqd_tup3, flt_bl, flt_non]
    simpa [Rq.hd] using h
def g__law_parts : GS :=
  (sRet (gLc (iSeq (gSl (gVar 0) (oSome (gC (.int 1))) oNo)) (nName 1) (cVal (gCB dIsi (aCons (gVar 1) (aCons (gC (.cls (.ty "tuple"))) aNil)))) (gVar 1) [1]))
theorem lift__law_parts (F : FnG P w K mg base k f fd ["request"] (wpS ["request"] ["request", "part"] g__law_parts)) : FnG P w K mg base k f fd ["request"] S__law_parts := F.imp fun ds m Q E h => by
  obtain ⟨q, rfl, h⟩ := h
  refine ⟨rfl, ?_⟩
  have tup : ∀ (m : Mu) (q2 : Rq), kindD m q2.d = some "tuple" := fun m q2 => by obtain ⟨ds, e⟩ := q2.tup; rw [e]; rfl
  have go : ∀ (r : Option D) (ds : List D), ds.length ≤ 2 → (∀ d ∈ ds, ∃ t, ∀ m, kindD m d = some t) → Q (.lst (ds.filter fun d => kindD m d == some "tuple")) m → ∀ a, m a = none → lcG (nName 1) (cVal (gCB dIsi (aCons (gVar 1) (aCons (gC (D.cls (V.ty "tuple"))) aNil)))) (gVar 1) (fun x => True)
        a [r, none] Q ds [] (m.put a (some (Cl.lst []))) := fun r ds hl2 hk hQ => by
    refine lc_pure (fun d => kindD m d == some "tuple") (fun d => d) (fun _ _ _ => trivial) (by rw [sizeLine_eq]; omega) (fun a c ha d hd yes no hy => ?_) (by simpa using hQ)
    obtain ⟨t, ht⟩ := hk d hd
    simp only [↓reduceIte, ↓u_sNx, ↓u_sSeq, ↓u_nx, ↓u_rt, ↓u_bk, ↓u_ct, ↓u_sBreak, ↓u_sCont, ↓u_sDrop, ↓u_sRet, ↓u_sRetN, ↓u_sIf, ↓u_sAsg, ↓u_gC, ↓u_aNil, ↓u_aCons, ↓u_gTup, ↓u_gLst, ↓u_gLstM, ↓u_gBin, ↓u_cVal, ↓u_onBl, ↓u_onInt, ↓u_onStr, ↓u_gChain, ↓u_cAnd, ↓u_cOr, ↓u_cNot, ↓u_gAnd, ↓u_gOr, ↓u_gNot, ↓u_gIf, ↓u_gNeg, ↓u_nNil, ↓u_nCons, ↓u_nTup, ↓u_nSub, ↓u_gCB, ↓u_gCall, ↓u_gM0, ↓u_gM1, ↓u_gL, ↓u_gL0, ↓u_oNo, ↓u_oSome, ↓u_gSl, ↓u_cYes, ↓u_on1, ↓u_on2, ↓u_dInt, ↓u_dInt0, ↓u_gLc, ↓u_gLcM, ↓u_gLc2, ↓u_sNever, ↓u_iEnS, ↓u_iEnL, ↓u_iEnumD, ↓u_iZipD, ↓u_zipS, ↓u_zipL, ↓u_iSeq, ↓u_iRange1, ↓u_iRange2, ↓u_sWhile, ↓u_iRange3, ↓u_on3, ↓u_sFor, ↓u_dMax2, ↓u_dMin2, ↓u_gDct0, ↓u_gVar0, ↓u_sSet0, ↓u_nName0, ↓u_gVar1, ↓u_sSet1, ↓u_nName1, ↓u_gVar2, ↓u_sSet2, ↓u_nName2, ↓u_gVar3, ↓u_sSet3, ↓u_nName3, ↓u_gVar4, ↓u_sSet4, ↓u_nName4, ↓u_gVar5, ↓u_sSet5, ↓u_nName5, ↓u_gVar6, ↓u_sSet6, ↓u_nName6, ↓u_gVar7, ↓u_sSet7, ↓u_nName7, ↓u_gVar8, ↓u_sSet8, ↓u_nName8, ↓u_gVar9, ↓u_sSet9, ↓u_nName9, ↓u_gVar10, ↓u_sSet10, ↓u_nName10, ↓u_gVar11, ↓u_sSet11, ↓u_nName11, ↓u_gVar12, ↓u_sSet12, ↓u_nName12, ↓u_gVar13, ↓u_sSet13, ↓u_nName13, ↓u_gVar14, ↓u_sSet14, ↓u_nName14, ↓u_gVar15, ↓u_sSet15, ↓u_nName15, ↓u_gVar16, ↓u_sSet16, ↓u_nName16, ↓u_gVar17, ↓u_sSet17, ↓u_nName17, ↓dToInt_int, ↓dToInt_bl, ↓dListU_lst, ↓dListU_tup, ↓dListU_str, ↓dListUM_lst, ↓dListUM_tup, ↓dListUM_str, ↓dTuple_lst, ↓dTuple_tup, ↓dIn_lst, ↓dIn_tup, ↓dSl_str, ↓dSl_lst, ↓dSl_tup, ↓dAdd_int, ↓dAdd_str, ↓dAdd_lst, ↓dAdd_tup, ↓dMul_int, ↓dMul_str, ↓dMul_lst, ↓dIx_lst, ↓dIx_ro, ↓dIx_tup, ↓dIx_str, ↓onSome_some, ↓dLen_lst, ↓dLen_tup, ↓dLen_str, ↓dLen_ro, ↓dLen_dct, ↓items_str, ↓items_lst, ↓items_tup, ↓items_ro, ↓dAll_lst, ↓dAny_lst, ↓dSum_lst, ↓dIsi_ty, ↓dIsi_tup, ↓dIn_str, ↓onSeq_lst, ↓onSeq_tup, ↓dIs_bb, ↓dStrI_i, ↓dIsW_bb, ↓dIsW_ib, ↓dIsW_sb, ↓dIsW_nb, ↓dIsW_lb, ↓dIsW_tb, ↓dIsW_db, ↓dIsW_nn, ↓dIsW_in, ↓dIsW_sn, ↓dIsW_ln, ↓dIsW_tn, ↓dEq_ii, ↓dEq_ss, ↓dNe_ii, ↓dNe_ss, ↓dEq_nil, ↓dNe_nil, ↓dEq_bb, ↓dNe_bb, List.append_nil, List.nil_append, List.cons_append, startD, List.map_cons, List.map_nil, List.length_cons, List.length_nil, Nat.sub_self, List.replicate_zero, List.replicate_succ, List.set_cons_zero, List.set_cons_succ, List.getElem?_cons_zero, List.getElem?_cons_succ, atI_lit, vw_int, vw_str, vw_bl, vw_non, vw_lst, vw_tup, vw_dct, vw_ro, vw_obj, vw_cls, Nat.reduceAdd, Nat.reduceSub, Int.reduceToNat, Int.reduceNeg, Int.reducePow, Int.reduceAdd, Int.reduceSub, Int.reduceMul, ixN_lit, decide_eq_true_eq, decide_eq_false_iff_not, if_true, if_false, Bool.false_eq_true, Bool.not_true, Bool.not_false, Nat.reduceLT, Nat.reduceLeDiff, Int.reduceLT, Int.reduceLE, true_and, and_true, and_self, ite_true, ite_false, kind_int, kind_bl, kind_non, kind_str, kind_lst, kind_tup, kind_dct, clsAll_lt, all_lt, any_lt_l, any_lt_t, any_lt_s, any_lt_i, any_lt_b, any_lt_n, any_lt_d, kc_int, kc_bool, kc_str, kc_list, kc_tuple, kc_dict, isiT, String.reduceBEq, Bool.or_false, Bool.or_true, Bool.false_or, Bool.true_or, Bool.and_false, Bool.false_and, Bool.and_true, Bool.true_and, wipeD, Bool.not_eq_true, Bool.not_eq_false, Bool.not_eq_eq_eq_not, Bool.not_not, Bool.false_bne, Bool.true_bne, dJoin, onSome_some, sizeLine_eq, Mu.put_same, put_put, Nat.zero_le, decide_true, decide_false, flt_litc, fld_str, fld_int, fld_bl, fld_non, List.all_cons, List.all_nil, reduceCtorEq, strOk_of, eqd_int, eqd_str, eqd_bl, eqd_lst0, eqd_lst1, eqd_lst2, eqd_lst3, eqd_tup0, eqd_tup1, eqd_tup2, eqd_tup3, flt_bl, flt_non]
    rw [ht, onSome_some]
    rw [ht] at hy
    simpa using hy
  cases q <;> (simp only [Rq.d, g__law_parts, ↓reduceIte, ↓u_sNx, ↓u_sSeq, ↓u_nx, ↓u_rt, ↓u_bk, ↓u_ct, ↓u_sBreak, ↓u_sCont, ↓u_sDrop, ↓u_sRet, ↓u_sRetN, ↓u_sIf, ↓u_sAsg, ↓u_gC, ↓u_aNil, ↓u_aCons, ↓u_gTup, ↓u_gLst, ↓u_gLstM, ↓u_gBin, ↓u_cVal, ↓u_onBl, ↓u_onInt, ↓u_onStr, ↓u_gChain, ↓u_cAnd, ↓u_cOr, ↓u_cNot, ↓u_gAnd, ↓u_gOr, ↓u_gNot, ↓u_gIf, ↓u_gNeg, ↓u_nNil, ↓u_nCons, ↓u_nTup, ↓u_nSub, ↓u_gCB, ↓u_gCall, ↓u_gM0, ↓u_gM1, ↓u_gL, ↓u_gL0, ↓u_oNo, ↓u_oSome, ↓u_gSl, ↓u_cYes, ↓u_on1, ↓u_on2, ↓u_dInt, ↓u_dInt0, ↓u_gLc, ↓u_gLcM, ↓u_gLc2, ↓u_sNever, ↓u_iEnS, ↓u_iEnL, ↓u_iEnumD, ↓u_iZipD, ↓u_zipS, ↓u_zipL, ↓u_iSeq, ↓u_iRange1, ↓u_iRange2, ↓u_sWhile, ↓u_iRange3, ↓u_on3, ↓u_sFor, ↓u_dMax2, ↓u_dMin2, ↓u_gDct0, ↓u_gVar0, ↓u_sSet0, ↓u_nName0, ↓u_gVar1, ↓u_sSet1, ↓u_nName1, ↓u_gVar2, ↓u_sSet2, ↓u_nName2, ↓u_gVar3, ↓u_sSet3, ↓u_nName3, ↓u_gVar4, ↓u_sSet4, ↓u_nName4, ↓u_gVar5, ↓u_sSet5, ↓u_nName5, ↓u_gVar6, ↓u_sSet6, ↓u_nName6, ↓u_gVar7, ↓u_sSet7, ↓u_nName7, ↓u_gVar8, ↓u_sSet8, ↓u_nName8, ↓u_gVar9, ↓u_sSet9, ↓u_nName9, ↓u_gVar10, ↓u_sSet10, ↓u_nName10, ↓u_gVar11, ↓u_sSet11, ↓u_nName11, ↓u_gVar12, ↓u_sSet12, ↓u_nName12, ↓u_gVar13, ↓u_sSet13, ↓u_nName13, ↓u_gVar14, ↓u_sSet14, ↓u_nName14, ↓u_gVar15, ↓u_sSet15, ↓u_nName15, ↓u_gVar16, ↓u_sSet16, ↓u_nName16, ↓u_gVar17, ↓u_sSet17, ↓u_nName17, ↓dToInt_int, ↓dToInt_bl, ↓dListU_lst, ↓dListU_tup, ↓dListU_str, ↓dListUM_lst, ↓dListUM_tup, ↓dListUM_str, ↓dTuple_lst, ↓dTuple_tup, ↓dIn_lst, ↓dIn_tup, ↓dSl_str, ↓dSl_lst, ↓dSl_tup, ↓dAdd_int, ↓dAdd_str, ↓dAdd_lst, ↓dAdd_tup, ↓dMul_int, ↓dMul_str, ↓dMul_lst, ↓dIx_lst, ↓dIx_ro, ↓dIx_tup, ↓dIx_str, ↓onSome_some, ↓dLen_lst, ↓dLen_tup, ↓dLen_str, ↓dLen_ro, ↓dLen_dct, ↓items_str, ↓items_lst, ↓items_tup, ↓items_ro, ↓dAll_lst, ↓dAny_lst, ↓dSum_lst, ↓dIsi_ty, ↓dIsi_tup, ↓dIn_str, ↓onSeq_lst, ↓onSeq_tup, ↓dIs_bb, ↓dStrI_i, ↓dIsW_bb, ↓dIsW_ib, ↓dIsW_sb, ↓dIsW_nb, ↓dIsW_lb, ↓dIsW_tb, ↓dIsW_db, ↓dIsW_nn, ↓dIsW_in, ↓dIsW_sn, ↓dIsW_ln, ↓dIsW_tn, ↓dEq_ii, ↓dEq_ss, ↓dNe_ii, ↓dNe_ss, ↓dEq_nil, ↓dNe_nil, ↓dEq_bb, ↓dNe_bb, List.append_nil, List.nil_append, List.cons_append, startD, List.map_cons, List.map_nil, List.length_cons, List.length_nil, Nat.sub_self, List.replicate_zero, List.replicate_succ, List.set_cons_zero, List.set_cons_succ, List.getElem?_cons_zero, List.getElem?_cons_succ, atI_lit, vw_int, vw_str, vw_bl, vw_non, vw_lst, vw_tup, vw_dct, vw_ro, vw_obj, vw_cls, Nat.reduceAdd, Nat.reduceSub, Int.reduceToNat, Int.reduceNeg, Int.reducePow, Int.reduceAdd, Int.reduceSub, Int.reduceMul, ixN_lit, decide_eq_true_eq, decide_eq_false_iff_not, if_true, if_false, Bool.false_eq_true, Bool.not_true, Bool.not_false, Nat.reduceLT, Nat.reduceLeDiff, Int.reduceLT, Int.reduceLE, true_and, and_true, and_self, ite_true, ite_false, kind_int, kind_bl, kind_non, kind_str, kind_lst, kind_tup, kind_dct, clsAll_lt, all_lt, any_lt_l, any_lt_t, any_lt_s, any_lt_i, any_lt_b, any_lt_n, any_lt_d, kc_int, kc_bool, kc_str, kc_list, kc_tuple, kc_dict, isiT, String.reduceBEq, Bool.or_false, Bool.or_true, Bool.false_or, Bool.true_or, Bool.and_false, Bool.false_and, Bool.and_true, Bool.true_and, wipeD, Bool.not_eq_true, Bool.not_eq_false, Bool.not_eq_eq_eq_not, Bool.not_not, Bool.false_bne, Bool.true_bne, dJoin, onSome_some, sizeLine_eq, Mu.put_same, put_put, Nat.zero_le, decide_true, decide_false, flt_litc, fld_str, fld_int, fld_bl, fld_non, List.all_cons, List.all_nil, reduceCtorEq, strOk_of, eqd_int, eqd_str, eqd_bl, eqd_lst0, eqd_lst1, eqd_lst2, eqd_lst3, eqd_tup0, eqd_tup1, eqd_tup2, eqd_tup3, flt_bl, flt_non, cut1])
  · exact go _ _ (by simp) (fun d hd => ⟨"int", fun m => by rw [List.mem_singleton.mp hd]; rfl⟩) h
  · exact go _ _ (by simp) (fun d hd => ⟨"int", fun m => by rw [List.mem_singleton.mp hd]; rfl⟩) h
  · exact go _ _ (by simp) (fun d hd => by cases hd) h
  · exact go _ _ (by simp) (fun d hd => by cases hd) h
  · exact go _ _ (by simp) (fun d hd => ⟨"tuple", fun m => by
      simp only [List.mem_cons, List.not_mem_nil, or_false] at hd
      rcases hd with rfl | rfl <;> exact tup m _⟩) (by simpa [tup, Rq.parts] using h)
  · exact go _ _ (by simp) (fun d hd => ⟨"tuple", fun m => by
      simp only [List.mem_cons, List.not_mem_nil, or_false] at hd
      rcases hd with rfl | rfl <;> exact tup m _⟩) (by simpa [tup, Rq.parts] using h)
  · exact go _ _ (by simp) (fun d hd => ⟨"tuple", fun m => by
      rw [List.mem_singleton.mp hd]; exact tup m _⟩) (by simpa [tup, Rq.parts] using h)
def g__law_fits (S : Spec) : GS :=
  (sSeq (sSet 2 (gBin dIx (gVar 0) (gC (.int 0))))
  (sSeq (sIf (cOr (cVal (gBin dEq (gVar 2) (gC (.str "open")))) (cVal (gBin dEq (gVar 2) (gC (.str "closed"))))) (sRet (gBin dEq (gBin dEq (gBin dIx (gVar 1) (gBin dIx (gVar 0) (gC (.int 1)))) (gC (.str "v"))) (gBin dEq (gVar 2) (gC (.str "open"))))) sNx)
  (sSeq (sIf (cOr (cVal (gBin dEq (gVar 2) (gC (.str "all")))) (cVal (gBin dEq (gVar 2) (gC (.str "none"))))) (sRet (gBin dEq (gVar 2) (gC (.str "all")))) sNx)
  (sSeq (sSet 3 (gLc (iSeq (gCall S__law_parts [] (aCons (gVar 0) aNil))) (nName 4) cYes (gCall S [] (aCons (gVar 4) (aCons (gVar 1) aNil))) [4]))
  (sSeq (sIf (cVal (gBin dEq (gVar 2) (gC (.str "not")))) (sRet (gNot (gBin dIx (gVar 3) (gC (.int 0))))) sNx)
  (sRet (gIf (cVal (gBin dEq (gVar 2) (gC (.str "and")))) (gBin dEq (gVar 3) (gLst (aCons (gC (.bl true)) (aCons (gC (.bl true)) aNil)))) (gBin (dIn false) (gC (.bl true)) (gVar 3)))))))))
theorem lift__law_fits (r : Nat) (F : FnG P w K mg base k f fd ["request", "row"] (wpS ["request", "row"] ["request", "row", "word", "found", "part"] (g__law_fits (RS S__law_fits r)))) : FnG P w K mg base k f fd ["request", "row"] (S__law_fits r) := F.imp fun ds m Q E h => by
  obtain ⟨q, bs, rfl, hr, ho, hl, h⟩ := h
  refine ⟨rfl, ?_⟩
  obtain ⟨r, rfl⟩ : ∃ j, r = j + 1 := ⟨r - 1, by have := q.depth1; omega⟩
  have rest : ∀ (Q2 : D → Mu → Prop) (w : Option D), Q2 (.lst (q.parts.map fun p => .bl (p.hd bs))) m → S__law_parts [q.d] m (fun d m2 => itemsD m2 d fun ds st => ∀ a, m2 a = none → lcG (nName 4) cYes (gCall (RS S__law_fits (r + 1)) [] (aCons (gVar 4) (aCons (gVar 1) aNil))) st a [some q.d, some (.str (rw_ bs)), w, none, none] Q2 ds [] (m2.put a (some (.lst [])))) (fun y m2 => E y m2) := fun Q2 w hQ => by
    refine ⟨q, rfl, ?_⟩
    simp only [↓reduceIte, ↓u_sNx, ↓u_sSeq, ↓u_nx, ↓u_rt, ↓u_bk, ↓u_ct, ↓u_sBreak, ↓u_sCont, ↓u_sDrop, ↓u_sRet, ↓u_sRetN, ↓u_sIf, ↓u_sAsg, ↓u_gC, ↓u_aNil, ↓u_aCons, ↓u_gTup, ↓u_gLst, ↓u_gLstM, ↓u_gBin, ↓u_cVal, ↓u_onBl, ↓u_onInt, ↓u_onStr, ↓u_gChain, ↓u_cAnd, ↓u_cOr, ↓u_cNot, ↓u_gAnd, ↓u_gOr, ↓u_gNot, ↓u_gIf, ↓u_gNeg, ↓u_nNil, ↓u_nCons, ↓u_nTup, ↓u_nSub, ↓u_gCB, ↓u_gCall, ↓u_gM0, ↓u_gM1, ↓u_gL, ↓u_gL0, ↓u_oNo, ↓u_oSome, ↓u_gSl, ↓u_cYes, ↓u_on1, ↓u_on2, ↓u_dInt, ↓u_dInt0, ↓u_gLc, ↓u_gLcM, ↓u_gLc2, ↓u_sNever, ↓u_iEnS, ↓u_iEnL, ↓u_iEnumD, ↓u_iZipD, ↓u_zipS, ↓u_zipL, ↓u_iSeq, ↓u_iRange1, ↓u_iRange2, ↓u_sWhile, ↓u_iRange3, ↓u_on3, ↓u_sFor, ↓u_dMax2, ↓u_dMin2, ↓u_gDct0, ↓u_gVar0, ↓u_sSet0, ↓u_nName0, ↓u_gVar1, ↓u_sSet1, ↓u_nName1, ↓u_gVar2, ↓u_sSet2, ↓u_nName2, ↓u_gVar3, ↓u_sSet3, ↓u_nName3, ↓u_gVar4, ↓u_sSet4, ↓u_nName4, ↓u_gVar5, ↓u_sSet5, ↓u_nName5, ↓u_gVar6, ↓u_sSet6, ↓u_nName6, ↓u_gVar7, ↓u_sSet7, ↓u_nName7, ↓u_gVar8, ↓u_sSet8, ↓u_nName8, ↓u_gVar9, ↓u_sSet9, ↓u_nName9, ↓u_gVar10, ↓u_sSet10, ↓u_nName10, ↓u_gVar11, ↓u_sSet11, ↓u_nName11, ↓u_gVar12, ↓u_sSet12, ↓u_nName12, ↓u_gVar13, ↓u_sSet13, ↓u_nName13, ↓u_gVar14, ↓u_sSet14, ↓u_nName14, ↓u_gVar15, ↓u_sSet15, ↓u_nName15, ↓u_gVar16, ↓u_sSet16, ↓u_nName16, ↓u_gVar17, ↓u_sSet17, ↓u_nName17, ↓dToInt_int, ↓dToInt_bl, ↓dListU_lst, ↓dListU_tup, ↓dListU_str, ↓dListUM_lst, ↓dListUM_tup, ↓dListUM_str, ↓dTuple_lst, ↓dTuple_tup, ↓dIn_lst, ↓dIn_tup, ↓dSl_str, ↓dSl_lst, ↓dSl_tup, ↓dAdd_int, ↓dAdd_str, ↓dAdd_lst, ↓dAdd_tup, ↓dMul_int, ↓dMul_str, ↓dMul_lst, ↓dIx_lst, ↓dIx_ro, ↓dIx_tup, ↓dIx_str, ↓onSome_some, ↓dLen_lst, ↓dLen_tup, ↓dLen_str, ↓dLen_ro, ↓dLen_dct, ↓items_str, ↓items_lst, ↓items_tup, ↓items_ro, ↓dAll_lst, ↓dAny_lst, ↓dSum_lst, ↓dIsi_ty, ↓dIsi_tup, ↓dIn_str, ↓onSeq_lst, ↓onSeq_tup, ↓dIs_bb, ↓dStrI_i, ↓dIsW_bb, ↓dIsW_ib, ↓dIsW_sb, ↓dIsW_nb, ↓dIsW_lb, ↓dIsW_tb, ↓dIsW_db, ↓dIsW_nn, ↓dIsW_in, ↓dIsW_sn, ↓dIsW_ln, ↓dIsW_tn, ↓dEq_ii, ↓dEq_ss, ↓dNe_ii, ↓dNe_ss, ↓dEq_nil, ↓dNe_nil, ↓dEq_bb, ↓dNe_bb, List.append_nil, List.nil_append, List.cons_append, startD, List.map_cons, List.map_nil, List.length_cons, List.length_nil, Nat.sub_self, List.replicate_zero, List.replicate_succ, List.set_cons_zero, List.set_cons_succ, List.getElem?_cons_zero, List.getElem?_cons_succ, atI_lit, vw_int, vw_str, vw_bl, vw_non, vw_lst, vw_tup, vw_dct, vw_ro, vw_obj, vw_cls, Nat.reduceAdd, Nat.reduceSub, Int.reduceToNat, Int.reduceNeg, Int.reducePow, Int.reduceAdd, Int.reduceSub, Int.reduceMul, ixN_lit, decide_eq_true_eq, decide_eq_false_iff_not, if_true, if_false, Bool.false_eq_true, Bool.not_true, Bool.not_false, Nat.reduceLT, Nat.reduceLeDiff, Int.reduceLT, Int.reduceLE, true_and, and_true, and_self, ite_true, ite_false, kind_int, kind_bl, kind_non, kind_str, kind_lst, kind_tup, kind_dct, clsAll_lt, all_lt, any_lt_l, any_lt_t, any_lt_s, any_lt_i, any_lt_b, any_lt_n, any_lt_d, kc_int, kc_bool, kc_str, kc_list, kc_tuple, kc_dict, isiT, String.reduceBEq, Bool.or_false, Bool.or_true, Bool.false_or, Bool.true_or, Bool.and_false, Bool.false_and, Bool.and_true, Bool.true_and, wipeD, Bool.not_eq_true, Bool.not_eq_false, Bool.not_eq_eq_eq_not, Bool.not_not, Bool.false_bne, Bool.true_bne, dJoin, onSome_some, sizeLine_eq, Mu.put_same, put_put, Nat.zero_le, decide_true, decide_false, flt_litc, fld_str, fld_int, fld_bl, fld_non, List.all_cons, List.all_nil, reduceCtorEq, strOk_of, eqd_int, eqd_str, eqd_bl, eqd_lst0, eqd_lst1, eqd_lst2, eqd_lst3, eqd_tup0, eqd_tup1, eqd_tup2, eqd_tup3, flt_bl, flt_non]
    refine lc_Tm Rq.d (fun p => .bl (p.hd bs)) (fun _ _ _ => trivial) (by have : q.parts.length ≤ 2 := by cases q <;> simp [Rq.parts]
                                                                          rw [sizeLine_eq]; omega) (fun a ha p hp c yes hy => ?_) hQ
    have hd := Rq.parts_depth hp
    simp only [↓reduceIte, ↓u_sNx, ↓u_sSeq, ↓u_nx, ↓u_rt, ↓u_bk, ↓u_ct, ↓u_sBreak, ↓u_sCont, ↓u_sDrop, ↓u_sRet, ↓u_sRetN, ↓u_sIf, ↓u_sAsg, ↓u_gC, ↓u_aNil, ↓u_aCons, ↓u_gTup, ↓u_gLst, ↓u_gLstM, ↓u_gBin, ↓u_cVal, ↓u_onBl, ↓u_onInt, ↓u_onStr, ↓u_gChain, ↓u_cAnd, ↓u_cOr, ↓u_cNot, ↓u_gAnd, ↓u_gOr, ↓u_gNot, ↓u_gIf, ↓u_gNeg, ↓u_nNil, ↓u_nCons, ↓u_nTup, ↓u_nSub, ↓u_gCB, ↓u_gCall, ↓u_gM0, ↓u_gM1, ↓u_gL, ↓u_gL0, ↓u_oNo, ↓u_oSome, ↓u_gSl, ↓u_cYes, ↓u_on1, ↓u_on2, ↓u_dInt, ↓u_dInt0, ↓u_gLc, ↓u_gLcM, ↓u_gLc2, ↓u_sNever, ↓u_iEnS, ↓u_iEnL, ↓u_iEnumD, ↓u_iZipD, ↓u_zipS, ↓u_zipL, ↓u_iSeq, ↓u_iRange1, ↓u_iRange2, ↓u_sWhile, ↓u_iRange3, ↓u_on3, ↓u_sFor, ↓u_dMax2, ↓u_dMin2, ↓u_gDct0, ↓u_gVar0, ↓u_sSet0, ↓u_nName0, ↓u_gVar1, ↓u_sSet1, ↓u_nName1, ↓u_gVar2, ↓u_sSet2, ↓u_nName2, ↓u_gVar3, ↓u_sSet3, ↓u_nName3, ↓u_gVar4, ↓u_sSet4, ↓u_nName4, ↓u_gVar5, ↓u_sSet5, ↓u_nName5, ↓u_gVar6, ↓u_sSet6, ↓u_nName6, ↓u_gVar7, ↓u_sSet7, ↓u_nName7, ↓u_gVar8, ↓u_sSet8, ↓u_nName8, ↓u_gVar9, ↓u_sSet9, ↓u_nName9, ↓u_gVar10, ↓u_sSet10, ↓u_nName10, ↓u_gVar11, ↓u_sSet11, ↓u_nName11, ↓u_gVar12, ↓u_sSet12, ↓u_nName12, ↓u_gVar13, ↓u_sSet13, ↓u_nName13, ↓u_gVar14, ↓u_sSet14, ↓u_nName14, ↓u_gVar15, ↓u_sSet15, ↓u_nName15, ↓u_gVar16, ↓u_sSet16, ↓u_nName16, ↓u_gVar17, ↓u_sSet17, ↓u_nName17, ↓dToInt_int, ↓dToInt_bl, ↓dListU_lst, ↓dListU_tup, ↓dListU_str, ↓dListUM_lst, ↓dListUM_tup, ↓dListUM_str, ↓dTuple_lst, ↓dTuple_tup, ↓dIn_lst, ↓dIn_tup, ↓dSl_str, ↓dSl_lst, ↓dSl_tup, ↓dAdd_int, ↓dAdd_str, ↓dAdd_lst, ↓dAdd_tup, ↓dMul_int, ↓dMul_str, ↓dMul_lst, ↓dIx_lst, ↓dIx_ro, ↓dIx_tup, ↓dIx_str, ↓onSome_some, ↓dLen_lst, ↓dLen_tup, ↓dLen_str, ↓dLen_ro, ↓dLen_dct, ↓items_str, ↓items_lst, ↓items_tup, ↓items_ro, ↓dAll_lst, ↓dAny_lst, ↓dSum_lst, ↓dIsi_ty, ↓dIsi_tup, ↓dIn_str, ↓onSeq_lst, ↓onSeq_tup, ↓dIs_bb, ↓dStrI_i, ↓dIsW_bb, ↓dIsW_ib, ↓dIsW_sb, ↓dIsW_nb, ↓dIsW_lb, ↓dIsW_tb, ↓dIsW_db, ↓dIsW_nn, ↓dIsW_in, ↓dIsW_sn, ↓dIsW_ln, ↓dIsW_tn, ↓dEq_ii, ↓dEq_ss, ↓dNe_ii, ↓dNe_ss, ↓dEq_nil, ↓dNe_nil, ↓dEq_bb, ↓dNe_bb, List.append_nil, List.nil_append, List.cons_append, startD, List.map_cons, List.map_nil, List.length_cons, List.length_nil, Nat.sub_self, List.replicate_zero, List.replicate_succ, List.set_cons_zero, List.set_cons_succ, List.getElem?_cons_zero, List.getElem?_cons_succ, atI_lit, vw_int, vw_str, vw_bl, vw_non, vw_lst, vw_tup, vw_dct, vw_ro, vw_obj, vw_cls, Nat.reduceAdd, Nat.reduceSub, Int.reduceToNat, Int.reduceNeg, Int.reducePow, Int.reduceAdd, Int.reduceSub, Int.reduceMul, ixN_lit, decide_eq_true_eq, decide_eq_false_iff_not, if_true, if_false, Bool.false_eq_true, Bool.not_true, Bool.not_false, Nat.reduceLT, Nat.reduceLeDiff, Int.reduceLT, Int.reduceLE, true_and, and_true, and_self, ite_true, ite_false, kind_int, kind_bl, kind_non, kind_str, kind_lst, kind_tup, kind_dct, clsAll_lt, all_lt, any_lt_l, any_lt_t, any_lt_s, any_lt_i, any_lt_b, any_lt_n, any_lt_d, kc_int, kc_bool, kc_str, kc_list, kc_tuple, kc_dict, isiT, String.reduceBEq, Bool.or_false, Bool.or_true, Bool.false_or, Bool.true_or, Bool.and_false, Bool.false_and, Bool.and_true, Bool.true_and, wipeD, Bool.not_eq_true, Bool.not_eq_false, Bool.not_eq_eq_eq_not, Bool.not_not, Bool.false_bne, Bool.true_bne, dJoin, onSome_some, sizeLine_eq, Mu.put_same, put_put, Nat.zero_le, decide_true, decide_false, flt_litc, fld_str, fld_int, fld_bl, fld_non, List.all_cons, List.all_nil, reduceCtorEq, strOk_of, eqd_int, eqd_str, eqd_bl, eqd_lst0, eqd_lst1, eqd_lst2, eqd_lst3, eqd_tup0, eqd_tup1, eqd_tup2, eqd_tup3, flt_bl, flt_non]
    exact ⟨p, bs, rfl, by omega, fun i hi => ho i (Rq.parts_holes hp i hi), hl, hy⟩
  have at_ : ∀ i, i ∈ q.holes → bs[i]? = some (bs[i]?.getD false) := fun i hi => by
    have := ho i hi
    rw [List.getElem?_eq_getElem this]; rfl
  cases q <;> (simp only [Rq.d, g__law_fits, ↓reduceIte, ↓u_sNx, ↓u_sSeq, ↓u_nx, ↓u_rt, ↓u_bk, ↓u_ct, ↓u_sBreak, ↓u_sCont, ↓u_sDrop, ↓u_sRet, ↓u_sRetN, ↓u_sIf, ↓u_sAsg, ↓u_gC, ↓u_aNil, ↓u_aCons, ↓u_gTup, ↓u_gLst, ↓u_gLstM, ↓u_gBin, ↓u_cVal, ↓u_onBl, ↓u_onInt, ↓u_onStr, ↓u_gChain, ↓u_cAnd, ↓u_cOr, ↓u_cNot, ↓u_gAnd, ↓u_gOr, ↓u_gNot, ↓u_gIf, ↓u_gNeg, ↓u_nNil, ↓u_nCons, ↓u_nTup, ↓u_nSub, ↓u_gCB, ↓u_gCall, ↓u_gM0, ↓u_gM1, ↓u_gL, ↓u_gL0, ↓u_oNo, ↓u_oSome, ↓u_gSl, ↓u_cYes, ↓u_on1, ↓u_on2, ↓u_dInt, ↓u_dInt0, ↓u_gLc, ↓u_gLcM, ↓u_gLc2, ↓u_sNever, ↓u_iEnS, ↓u_iEnL, ↓u_iEnumD, ↓u_iZipD, ↓u_zipS, ↓u_zipL, ↓u_iSeq, ↓u_iRange1, ↓u_iRange2, ↓u_sWhile, ↓u_iRange3, ↓u_on3, ↓u_sFor, ↓u_dMax2, ↓u_dMin2, ↓u_gDct0, ↓u_gVar0, ↓u_sSet0, ↓u_nName0, ↓u_gVar1, ↓u_sSet1, ↓u_nName1, ↓u_gVar2, ↓u_sSet2, ↓u_nName2, ↓u_gVar3, ↓u_sSet3, ↓u_nName3, ↓u_gVar4, ↓u_sSet4, ↓u_nName4, ↓u_gVar5, ↓u_sSet5, ↓u_nName5, ↓u_gVar6, ↓u_sSet6, ↓u_nName6, ↓u_gVar7, ↓u_sSet7, ↓u_nName7, ↓u_gVar8, ↓u_sSet8, ↓u_nName8, ↓u_gVar9, ↓u_sSet9, ↓u_nName9, ↓u_gVar10, ↓u_sSet10, ↓u_nName10, ↓u_gVar11, ↓u_sSet11, ↓u_nName11, ↓u_gVar12, ↓u_sSet12, ↓u_nName12, ↓u_gVar13, ↓u_sSet13, ↓u_nName13, ↓u_gVar14, ↓u_sSet14, ↓u_nName14, ↓u_gVar15, ↓u_sSet15, ↓u_nName15, ↓u_gVar16, ↓u_sSet16, ↓u_nName16, ↓u_gVar17, ↓u_sSet17, ↓u_nName17, ↓dToInt_int, ↓dToInt_bl, ↓dListU_lst, ↓dListU_tup, ↓dListU_str, ↓dListUM_lst, ↓dListUM_tup, ↓dListUM_str, ↓dTuple_lst, ↓dTuple_tup, ↓dIn_lst, ↓dIn_tup, ↓dSl_str, ↓dSl_lst, ↓dSl_tup, ↓dAdd_int, ↓dAdd_str, ↓dAdd_lst, ↓dAdd_tup, ↓dMul_int, ↓dMul_str, ↓dMul_lst, ↓dIx_lst, ↓dIx_ro, ↓dIx_tup, ↓dIx_str, ↓onSome_some, ↓dLen_lst, ↓dLen_tup, ↓dLen_str, ↓dLen_ro, ↓dLen_dct, ↓items_str, ↓items_lst, ↓items_tup, ↓items_ro, ↓dAll_lst, ↓dAny_lst, ↓dSum_lst, ↓dIsi_ty, ↓dIsi_tup, ↓dIn_str, ↓onSeq_lst, ↓onSeq_tup, ↓dIs_bb, ↓dStrI_i, ↓dIsW_bb, ↓dIsW_ib, ↓dIsW_sb, ↓dIsW_nb, ↓dIsW_lb, ↓dIsW_tb, ↓dIsW_db, ↓dIsW_nn, ↓dIsW_in, ↓dIsW_sn, ↓dIsW_ln, ↓dIsW_tn, ↓dEq_ii, ↓dEq_ss, ↓dNe_ii, ↓dNe_ss, ↓dEq_nil, ↓dNe_nil, ↓dEq_bb, ↓dNe_bb, List.append_nil, List.nil_append, List.cons_append, startD, List.map_cons, List.map_nil, List.length_cons, List.length_nil, Nat.sub_self, List.replicate_zero, List.replicate_succ, List.set_cons_zero, List.set_cons_succ, List.getElem?_cons_zero, List.getElem?_cons_succ, atI_lit, vw_int, vw_str, vw_bl, vw_non, vw_lst, vw_tup, vw_dct, vw_ro, vw_obj, vw_cls, Nat.reduceAdd, Nat.reduceSub, Int.reduceToNat, Int.reduceNeg, Int.reducePow, Int.reduceAdd, Int.reduceSub, Int.reduceMul, ixN_lit, decide_eq_true_eq, decide_eq_false_iff_not, if_true, if_false, Bool.false_eq_true, Bool.not_true, Bool.not_false, Nat.reduceLT, Nat.reduceLeDiff, Int.reduceLT, Int.reduceLE, true_and, and_true, and_self, ite_true, ite_false, kind_int, kind_bl, kind_non, kind_str, kind_lst, kind_tup, kind_dct, clsAll_lt, all_lt, any_lt_l, any_lt_t, any_lt_s, any_lt_i, any_lt_b, any_lt_n, any_lt_d, kc_int, kc_bool, kc_str, kc_list, kc_tuple, kc_dict, isiT, String.reduceBEq, Bool.or_false, Bool.or_true, Bool.false_or, Bool.true_or, Bool.and_false, Bool.false_and, Bool.and_true, Bool.true_and, wipeD, Bool.not_eq_true, Bool.not_eq_false, Bool.not_eq_eq_eq_not, Bool.not_not, Bool.false_bne, Bool.true_bne, dJoin, onSome_some, sizeLine_eq, Mu.put_same, put_put, Nat.zero_le, decide_true, decide_false, flt_litc, fld_str, fld_int, fld_bl, fld_non, List.all_cons, List.all_nil, reduceCtorEq, strOk_of, eqd_int, eqd_str, eqd_bl, eqd_lst0, eqd_lst1, eqd_lst2, eqd_lst3, eqd_tup0, eqd_tup1, eqd_tup2, eqd_tup3, flt_bl, flt_non, wq_open_closed, wq_open_all, wq_open_none, wq_open_and, wq_open_or, wq_open_not, wi_open_0, wi_open_1, wi_open_2, wi_open_3, wq_closed_open, wq_closed_all, wq_closed_none, wq_closed_and, wq_closed_or, wq_closed_not, wi_closed_0, wi_closed_1, wi_closed_2, wi_closed_3, wq_all_open, wq_all_closed, wq_all_none, wq_all_and, wq_all_or, wq_all_not, wi_all_0, wi_all_1, wi_all_2, wi_all_3, wq_none_open, wq_none_closed, wq_none_all, wq_none_and, wq_none_or, wq_none_not, wi_none_0, wi_none_1, wi_none_2, wi_none_3, wq_and_open, wq_and_closed, wq_and_all, wq_and_none, wq_and_or, wq_and_not, wi_and_0, wi_and_1, wi_and_2, wi_and_3, wq_or_open, wq_or_closed, wq_or_all, wq_or_none, wq_or_and, wq_or_not, wi_or_0, wi_or_1, wi_or_2, wi_or_3, wq_not_open, wq_not_closed, wq_not_all, wq_not_none, wq_not_and, wq_not_or, wi_not_0, wi_not_1, wi_not_2, wi_not_3, cut1, Bool.false_eq_true]; try exact h)
  · refine ⟨by rw [rw_len]; omega, ix_rw (at_ _ (by simp [Rq.holes])) ?_⟩
    simp only [rw1, rw_v, rw_ok, rw_eq1]
    refine ⟨trivial, ?_⟩
    simp only [Rq.hd] at h
    rename_i i
    generalize bs[i]?.getD false = b at h
    cases b <;> exact h
  · refine ⟨by rw [rw_len]; omega, ix_rw (at_ _ (by simp [Rq.holes])) ?_⟩
    simp only [rw1, rw_v, rw_ok, rw_eq1]
    refine ⟨trivial, ?_⟩
    simp only [Rq.hd] at h
    rename_i i
    generalize bs[i]?.getD false = b at h
    cases b <;> exact h
  · refine rest _ _ ?_
    simp only [Rq.parts, ↓reduceIte, ↓u_sNx, ↓u_sSeq, ↓u_nx, ↓u_rt, ↓u_bk, ↓u_ct, ↓u_sBreak, ↓u_sCont, ↓u_sDrop, ↓u_sRet, ↓u_sRetN, ↓u_sIf, ↓u_sAsg, ↓u_gC, ↓u_aNil, ↓u_aCons, ↓u_gTup, ↓u_gLst, ↓u_gLstM, ↓u_gBin, ↓u_cVal, ↓u_onBl, ↓u_onInt, ↓u_onStr, ↓u_gChain, ↓u_cAnd, ↓u_cOr, ↓u_cNot, ↓u_gAnd, ↓u_gOr, ↓u_gNot, ↓u_gIf, ↓u_gNeg, ↓u_nNil, ↓u_nCons, ↓u_nTup, ↓u_nSub, ↓u_gCB, ↓u_gCall, ↓u_gM0, ↓u_gM1, ↓u_gL, ↓u_gL0, ↓u_oNo, ↓u_oSome, ↓u_gSl, ↓u_cYes, ↓u_on1, ↓u_on2, ↓u_dInt, ↓u_dInt0, ↓u_gLc, ↓u_gLcM, ↓u_gLc2, ↓u_sNever, ↓u_iEnS, ↓u_iEnL, ↓u_iEnumD, ↓u_iZipD, ↓u_zipS, ↓u_zipL, ↓u_iSeq, ↓u_iRange1, ↓u_iRange2, ↓u_sWhile, ↓u_iRange3, ↓u_on3, ↓u_sFor, ↓u_dMax2, ↓u_dMin2, ↓u_gDct0, ↓u_gVar0, ↓u_sSet0, ↓u_nName0, ↓u_gVar1, ↓u_sSet1, ↓u_nName1, ↓u_gVar2, ↓u_sSet2, ↓u_nName2, ↓u_gVar3, ↓u_sSet3, ↓u_nName3, ↓u_gVar4, ↓u_sSet4, ↓u_nName4, ↓u_gVar5, ↓u_sSet5, ↓u_nName5, ↓u_gVar6, ↓u_sSet6, ↓u_nName6, ↓u_gVar7, ↓u_sSet7, ↓u_nName7, ↓u_gVar8, ↓u_sSet8, ↓u_nName8, ↓u_gVar9, ↓u_sSet9, ↓u_nName9, ↓u_gVar10, ↓u_sSet10, ↓u_nName10, ↓u_gVar11, ↓u_sSet11, ↓u_nName11, ↓u_gVar12, ↓u_sSet12, ↓u_nName12, ↓u_gVar13, ↓u_sSet13, ↓u_nName13, ↓u_gVar14, ↓u_sSet14, ↓u_nName14, ↓u_gVar15, ↓u_sSet15, ↓u_nName15, ↓u_gVar16, ↓u_sSet16, ↓u_nName16, ↓u_gVar17, ↓u_sSet17, ↓u_nName17, ↓dToInt_int, ↓dToInt_bl, ↓dListU_lst, ↓dListU_tup, ↓dListU_str, ↓dListUM_lst, ↓dListUM_tup, ↓dListUM_str, ↓dTuple_lst, ↓dTuple_tup, ↓dIn_lst, ↓dIn_tup, ↓dSl_str, ↓dSl_lst, ↓dSl_tup, ↓dAdd_int, ↓dAdd_str, ↓dAdd_lst, ↓dAdd_tup, ↓dMul_int, ↓dMul_str, ↓dMul_lst, ↓dIx_lst, ↓dIx_ro, ↓dIx_tup, ↓dIx_str, ↓onSome_some, ↓dLen_lst, ↓dLen_tup, ↓dLen_str, ↓dLen_ro, ↓dLen_dct, ↓items_str, ↓items_lst, ↓items_tup, ↓items_ro, ↓dAll_lst, ↓dAny_lst, ↓dSum_lst, ↓dIsi_ty, ↓dIsi_tup, ↓dIn_str, ↓onSeq_lst, ↓onSeq_tup, ↓dIs_bb, ↓dStrI_i, ↓dIsW_bb, ↓dIsW_ib, ↓dIsW_sb, ↓dIsW_nb, ↓dIsW_lb, ↓dIsW_tb, ↓dIsW_db, ↓dIsW_nn, ↓dIsW_in, ↓dIsW_sn, ↓dIsW_ln, ↓dIsW_tn, ↓dEq_ii, ↓dEq_ss, ↓dNe_ii, ↓dNe_ss, ↓dEq_nil, ↓dNe_nil, ↓dEq_bb, ↓dNe_bb, List.append_nil, List.nil_append, List.cons_append, startD, List.map_cons, List.map_nil, List.length_cons, List.length_nil, Nat.sub_self, List.replicate_zero, List.replicate_succ, List.set_cons_zero, List.set_cons_succ, List.getElem?_cons_zero, List.getElem?_cons_succ, atI_lit, vw_int, vw_str, vw_bl, vw_non, vw_lst, vw_tup, vw_dct, vw_ro, vw_obj, vw_cls, Nat.reduceAdd, Nat.reduceSub, Int.reduceToNat, Int.reduceNeg, Int.reducePow, Int.reduceAdd, Int.reduceSub, Int.reduceMul, ixN_lit, decide_eq_true_eq, decide_eq_false_iff_not, if_true, if_false, Bool.false_eq_true, Bool.not_true, Bool.not_false, Nat.reduceLT, Nat.reduceLeDiff, Int.reduceLT, Int.reduceLE, true_and, and_true, and_self, ite_true, ite_false, kind_int, kind_bl, kind_non, kind_str, kind_lst, kind_tup, kind_dct, clsAll_lt, all_lt, any_lt_l, any_lt_t, any_lt_s, any_lt_i, any_lt_b, any_lt_n, any_lt_d, kc_int, kc_bool, kc_str, kc_list, kc_tuple, kc_dict, isiT, String.reduceBEq, Bool.or_false, Bool.or_true, Bool.false_or, Bool.true_or, Bool.and_false, Bool.false_and, Bool.and_true, Bool.true_and, wipeD, Bool.not_eq_true, Bool.not_eq_false, Bool.not_eq_eq_eq_not, Bool.not_not, Bool.false_bne, Bool.true_bne, dJoin, onSome_some, sizeLine_eq, Mu.put_same, put_put, Nat.zero_le, decide_true, decide_false, flt_litc, fld_str, fld_int, fld_bl, fld_non, List.all_cons, List.all_nil, reduceCtorEq, strOk_of, eqd_int, eqd_str, eqd_bl, eqd_lst0, eqd_lst1, eqd_lst2, eqd_lst3, eqd_tup0, eqd_tup1, eqd_tup2, eqd_tup3, flt_bl, flt_non, Rq.hd] at h ⊢
    exact dEq_bb2 h
  · refine rest _ _ ?_
    simp only [Rq.parts, ↓reduceIte, ↓u_sNx, ↓u_sSeq, ↓u_nx, ↓u_rt, ↓u_bk, ↓u_ct, ↓u_sBreak, ↓u_sCont, ↓u_sDrop, ↓u_sRet, ↓u_sRetN, ↓u_sIf, ↓u_sAsg, ↓u_gC, ↓u_aNil, ↓u_aCons, ↓u_gTup, ↓u_gLst, ↓u_gLstM, ↓u_gBin, ↓u_cVal, ↓u_onBl, ↓u_onInt, ↓u_onStr, ↓u_gChain, ↓u_cAnd, ↓u_cOr, ↓u_cNot, ↓u_gAnd, ↓u_gOr, ↓u_gNot, ↓u_gIf, ↓u_gNeg, ↓u_nNil, ↓u_nCons, ↓u_nTup, ↓u_nSub, ↓u_gCB, ↓u_gCall, ↓u_gM0, ↓u_gM1, ↓u_gL, ↓u_gL0, ↓u_oNo, ↓u_oSome, ↓u_gSl, ↓u_cYes, ↓u_on1, ↓u_on2, ↓u_dInt, ↓u_dInt0, ↓u_gLc, ↓u_gLcM, ↓u_gLc2, ↓u_sNever, ↓u_iEnS, ↓u_iEnL, ↓u_iEnumD, ↓u_iZipD, ↓u_zipS, ↓u_zipL, ↓u_iSeq, ↓u_iRange1, ↓u_iRange2, ↓u_sWhile, ↓u_iRange3, ↓u_on3, ↓u_sFor, ↓u_dMax2, ↓u_dMin2, ↓u_gDct0, ↓u_gVar0, ↓u_sSet0, ↓u_nName0, ↓u_gVar1, ↓u_sSet1, ↓u_nName1, ↓u_gVar2, ↓u_sSet2, ↓u_nName2, ↓u_gVar3, ↓u_sSet3, ↓u_nName3, ↓u_gVar4, ↓u_sSet4, ↓u_nName4, ↓u_gVar5, ↓u_sSet5, ↓u_nName5, ↓u_gVar6, ↓u_sSet6, ↓u_nName6, ↓u_gVar7, ↓u_sSet7, ↓u_nName7, ↓u_gVar8, ↓u_sSet8, ↓u_nName8, ↓u_gVar9, ↓u_sSet9, ↓u_nName9, ↓u_gVar10, ↓u_sSet10, ↓u_nName10, ↓u_gVar11, ↓u_sSet11, ↓u_nName11, ↓u_gVar12, ↓u_sSet12, ↓u_nName12, ↓u_gVar13, ↓u_sSet13, ↓u_nName13, ↓u_gVar14, ↓u_sSet14, ↓u_nName14, ↓u_gVar15, ↓u_sSet15, ↓u_nName15, ↓u_gVar16, ↓u_sSet16, ↓u_nName16, ↓u_gVar17, ↓u_sSet17, ↓u_nName17, ↓dToInt_int, ↓dToInt_bl, ↓dListU_lst, ↓dListU_tup, ↓dListU_str, ↓dListUM_lst, ↓dListUM_tup, ↓dListUM_str, ↓dTuple_lst, ↓dTuple_tup, ↓dIn_lst, ↓dIn_tup, ↓dSl_str, ↓dSl_lst, ↓dSl_tup, ↓dAdd_int, ↓dAdd_str, ↓dAdd_lst, ↓dAdd_tup, ↓dMul_int, ↓dMul_str, ↓dMul_lst, ↓dIx_lst, ↓dIx_ro, ↓dIx_tup, ↓dIx_str, ↓onSome_some, ↓dLen_lst, ↓dLen_tup, ↓dLen_str, ↓dLen_ro, ↓dLen_dct, ↓items_str, ↓items_lst, ↓items_tup, ↓items_ro, ↓dAll_lst, ↓dAny_lst, ↓dSum_lst, ↓dIsi_ty, ↓dIsi_tup, ↓dIn_str, ↓onSeq_lst, ↓onSeq_tup, ↓dIs_bb, ↓dStrI_i, ↓dIsW_bb, ↓dIsW_ib, ↓dIsW_sb, ↓dIsW_nb, ↓dIsW_lb, ↓dIsW_tb, ↓dIsW_db, ↓dIsW_nn, ↓dIsW_in, ↓dIsW_sn, ↓dIsW_ln, ↓dIsW_tn, ↓dEq_ii, ↓dEq_ss, ↓dNe_ii, ↓dNe_ss, ↓dEq_nil, ↓dNe_nil, ↓dEq_bb, ↓dNe_bb, List.append_nil, List.nil_append, List.cons_append, startD, List.map_cons, List.map_nil, List.length_cons, List.length_nil, Nat.sub_self, List.replicate_zero, List.replicate_succ, List.set_cons_zero, List.set_cons_succ, List.getElem?_cons_zero, List.getElem?_cons_succ, atI_lit, vw_int, vw_str, vw_bl, vw_non, vw_lst, vw_tup, vw_dct, vw_ro, vw_obj, vw_cls, Nat.reduceAdd, Nat.reduceSub, Int.reduceToNat, Int.reduceNeg, Int.reducePow, Int.reduceAdd, Int.reduceSub, Int.reduceMul, ixN_lit, decide_eq_true_eq, decide_eq_false_iff_not, if_true, if_false, Bool.false_eq_true, Bool.not_true, Bool.not_false, Nat.reduceLT, Nat.reduceLeDiff, Int.reduceLT, Int.reduceLE, true_and, and_true, and_self, ite_true, ite_false, kind_int, kind_bl, kind_non, kind_str, kind_lst, kind_tup, kind_dct, clsAll_lt, all_lt, any_lt_l, any_lt_t, any_lt_s, any_lt_i, any_lt_b, any_lt_n, any_lt_d, kc_int, kc_bool, kc_str, kc_list, kc_tuple, kc_dict, isiT, String.reduceBEq, Bool.or_false, Bool.or_true, Bool.false_or, Bool.true_or, Bool.and_false, Bool.false_and, Bool.and_true, Bool.true_and, wipeD, Bool.not_eq_true, Bool.not_eq_false, Bool.not_eq_eq_eq_not, Bool.not_not, Bool.false_bne, Bool.true_bne, dJoin, onSome_some, sizeLine_eq, Mu.put_same, put_put, Nat.zero_le, decide_true, decide_false, flt_litc, fld_str, fld_int, fld_bl, fld_non, List.all_cons, List.all_nil, reduceCtorEq, strOk_of, eqd_int, eqd_str, eqd_bl, eqd_lst0, eqd_lst1, eqd_lst2, eqd_lst3, eqd_tup0, eqd_tup1, eqd_tup2, eqd_tup3, flt_bl, flt_non, Rq.hd] at h ⊢
    rw [inD_b2]
    exact h
  · refine rest _ _ ?_
    simp only [Rq.parts, ↓reduceIte, ↓u_sNx, ↓u_sSeq, ↓u_nx, ↓u_rt, ↓u_bk, ↓u_ct, ↓u_sBreak, ↓u_sCont, ↓u_sDrop, ↓u_sRet, ↓u_sRetN, ↓u_sIf, ↓u_sAsg, ↓u_gC, ↓u_aNil, ↓u_aCons, ↓u_gTup, ↓u_gLst, ↓u_gLstM, ↓u_gBin, ↓u_cVal, ↓u_onBl, ↓u_onInt, ↓u_onStr, ↓u_gChain, ↓u_cAnd, ↓u_cOr, ↓u_cNot, ↓u_gAnd, ↓u_gOr, ↓u_gNot, ↓u_gIf, ↓u_gNeg, ↓u_nNil, ↓u_nCons, ↓u_nTup, ↓u_nSub, ↓u_gCB, ↓u_gCall, ↓u_gM0, ↓u_gM1, ↓u_gL, ↓u_gL0, ↓u_oNo, ↓u_oSome, ↓u_gSl, ↓u_cYes, ↓u_on1, ↓u_on2, ↓u_dInt, ↓u_dInt0, ↓u_gLc, ↓u_gLcM, ↓u_gLc2, ↓u_sNever, ↓u_iEnS, ↓u_iEnL, ↓u_iEnumD, ↓u_iZipD, ↓u_zipS, ↓u_zipL, ↓u_iSeq, ↓u_iRange1, ↓u_iRange2, ↓u_sWhile, ↓u_iRange3, ↓u_on3, ↓u_sFor, ↓u_dMax2, ↓u_dMin2, ↓u_gDct0, ↓u_gVar0, ↓u_sSet0, ↓u_nName0, ↓u_gVar1, ↓u_sSet1, ↓u_nName1, ↓u_gVar2, ↓u_sSet2, ↓u_nName2, ↓u_gVar3, ↓u_sSet3, ↓u_nName3, ↓u_gVar4, ↓u_sSet4, ↓u_nName4, ↓u_gVar5, ↓u_sSet5, ↓u_nName5, ↓u_gVar6, ↓u_sSet6, ↓u_nName6, ↓u_gVar7, ↓u_sSet7, ↓u_nName7, ↓u_gVar8, ↓u_sSet8, ↓u_nName8, ↓u_gVar9, ↓u_sSet9, ↓u_nName9, ↓u_gVar10, ↓u_sSet10, ↓u_nName10, ↓u_gVar11, ↓u_sSet11, ↓u_nName11, ↓u_gVar12, ↓u_sSet12, ↓u_nName12, ↓u_gVar13, ↓u_sSet13, ↓u_nName13, ↓u_gVar14, ↓u_sSet14, ↓u_nName14, ↓u_gVar15, ↓u_sSet15, ↓u_nName15, ↓u_gVar16, ↓u_sSet16, ↓u_nName16, ↓u_gVar17, ↓u_sSet17, ↓u_nName17, ↓dToInt_int, ↓dToInt_bl, ↓dListU_lst, ↓dListU_tup, ↓dListU_str, ↓dListUM_lst, ↓dListUM_tup, ↓dListUM_str, ↓dTuple_lst, ↓dTuple_tup, ↓dIn_lst, ↓dIn_tup, ↓dSl_str, ↓dSl_lst, ↓dSl_tup, ↓dAdd_int, ↓dAdd_str, ↓dAdd_lst, ↓dAdd_tup, ↓dMul_int, ↓dMul_str, ↓dMul_lst, ↓dIx_lst, ↓dIx_ro, ↓dIx_tup, ↓dIx_str, ↓onSome_some, ↓dLen_lst, ↓dLen_tup, ↓dLen_str, ↓dLen_ro, ↓dLen_dct, ↓items_str, ↓items_lst, ↓items_tup, ↓items_ro, ↓dAll_lst, ↓dAny_lst, ↓dSum_lst, ↓dIsi_ty, ↓dIsi_tup, ↓dIn_str, ↓onSeq_lst, ↓onSeq_tup, ↓dIs_bb, ↓dStrI_i, ↓dIsW_bb, ↓dIsW_ib, ↓dIsW_sb, ↓dIsW_nb, ↓dIsW_lb, ↓dIsW_tb, ↓dIsW_db, ↓dIsW_nn, ↓dIsW_in, ↓dIsW_sn, ↓dIsW_ln, ↓dIsW_tn, ↓dEq_ii, ↓dEq_ss, ↓dNe_ii, ↓dNe_ss, ↓dEq_nil, ↓dNe_nil, ↓dEq_bb, ↓dNe_bb, List.append_nil, List.nil_append, List.cons_append, startD, List.map_cons, List.map_nil, List.length_cons, List.length_nil, Nat.sub_self, List.replicate_zero, List.replicate_succ, List.set_cons_zero, List.set_cons_succ, List.getElem?_cons_zero, List.getElem?_cons_succ, atI_lit, vw_int, vw_str, vw_bl, vw_non, vw_lst, vw_tup, vw_dct, vw_ro, vw_obj, vw_cls, Nat.reduceAdd, Nat.reduceSub, Int.reduceToNat, Int.reduceNeg, Int.reducePow, Int.reduceAdd, Int.reduceSub, Int.reduceMul, ixN_lit, decide_eq_true_eq, decide_eq_false_iff_not, if_true, if_false, Bool.false_eq_true, Bool.not_true, Bool.not_false, Nat.reduceLT, Nat.reduceLeDiff, Int.reduceLT, Int.reduceLE, true_and, and_true, and_self, ite_true, ite_false, kind_int, kind_bl, kind_non, kind_str, kind_lst, kind_tup, kind_dct, clsAll_lt, all_lt, any_lt_l, any_lt_t, any_lt_s, any_lt_i, any_lt_b, any_lt_n, any_lt_d, kc_int, kc_bool, kc_str, kc_list, kc_tuple, kc_dict, isiT, String.reduceBEq, Bool.or_false, Bool.or_true, Bool.false_or, Bool.true_or, Bool.and_false, Bool.false_and, Bool.and_true, Bool.true_and, wipeD, Bool.not_eq_true, Bool.not_eq_false, Bool.not_eq_eq_eq_not, Bool.not_not, Bool.false_bne, Bool.true_bne, dJoin, onSome_some, sizeLine_eq, Mu.put_same, put_put, Nat.zero_le, decide_true, decide_false, flt_litc, fld_str, fld_int, fld_bl, fld_non, List.all_cons, List.all_nil, reduceCtorEq, strOk_of, eqd_int, eqd_str, eqd_bl, eqd_lst0, eqd_lst1, eqd_lst2, eqd_lst3, eqd_tup0, eqd_tup1, eqd_tup2, eqd_tup3, flt_bl, flt_non]
    simpa [Rq.hd] using h
end
end Nd

namespace Nd
open PySem L2 PyProof.Rows PySem.Spec
theorem difD_at {p q : Rq} {w i : Nat} (h : ∀ j < i, p.hd (rowOf w (j : Nat)) = q.hd (rowOf w (j : Nat))) (hi : i < 2 ^ w) (hb : p.hd (rowOf w (i : Nat)) ≠ q.hd (rowOf w (i : Nat))) : difD p q w = .str (rw_ (rowOf w (i : Nat))) := by
  unfold difD
  have e : (List.range (2 ^ w)).find? (fun k => p.hd (rowOf w (k : Nat)) != q.hd (rowOf w (k : Nat))) = some i := by
    rw [List.find?_range_eq_some]
    refine ⟨by simpa using hb, List.mem_range.mpr hi, fun j hj => ?_⟩
    rw [h j hj]; simp
  rw [e]
theorem difD_no {p q : Rq} {w : Nat} (h : ∀ j < 2 ^ w, p.hd (rowOf w (j : Nat)) = q.hd (rowOf w (j : Nat))) : difD p q w = .non := by
  unfold difD
  have e : (List.range (2 ^ w)).find? (fun k => p.hd (rowOf w (k : Nat)) != q.hd (rowOf w (k : Nat))) = none := by
    rw [List.find?_eq_none]
    intro j hj
    rw [h j (List.mem_range.mp hj)]; simp
  rw [e]
theorem difD_comm (p q : Rq) (w : Nat) : difD p q w = difD q p w := by
  unfold difD
  have e : (fun k : Nat => p.hd (rowOf w (k : Nat)) != q.hd (rowOf w (k : Nat))) = fun k : Nat => q.hd (rowOf w (k : Nat)) != p.hd (rowOf w (k : Nat)) := by
    funext k
    cases p.hd (rowOf w (k : Nat)) <;> cases q.hd (rowOf w (k : Nat)) <;> rfl
  rw [e]
section
variable {P : Program} {w : World} {K : PySem.W.Frag} {mg : Str → Option Value} {base : Heap} {k : Nat} {f : Addr} {fd : FuncData}
theorem pw10 {w : Nat} (h : w ≤ 10) : (2 : Nat) ^ w ≤ 1024 := Nat.le_trans (Nat.pow_le_pow_right (by decide) h) (by decide)
theorem pw_nat {w : Nat} : (1 * 2 ^ ((w : Nat) : Int).toNat : Int) = ((2 ^ w : Nat) : Int) := by rw [Int.toNat_natCast, Int.one_mul]; push_cast; rfl
/-- the word of a number's row, sign by sign -/
theorem bit_row {k : Int} {n : Nat} (hk : 0 ≤ k) : Builtin.bitAnd (k / 2 ^ n) 1 = (if k / 2 ^ n % 2 = 1 then 1 else 0) := by
  have hk2 : 0 ≤ k / 2 ^ n := Int.ediv_nonneg hk (Int.le_of_lt (p2pos _))
  have hb : Builtin.bitAnd (k / 2 ^ n) 1 = k / 2 ^ n % 2 := Bits.bitAnd_mask 1 hk2
  rw [hb]
  have h1 := Int.emod_nonneg (k / 2 ^ n) (show (2 : Int) ≠ 0 by decide)
  have h2 := Int.emod_lt_of_pos (k / 2 ^ n) (show (0 : Int) < 2 by decide)
  split <;> omega
def g_difference : GS :=
  (sSeq (sDrop (gCall S_need_request [] (aCons (gVar 0) aNil)))
  (sSeq (sDrop (gCall S_need_request [] (aCons (gVar 1) aNil)))
  (sSeq (sDrop (gCall S_need_width [] (aCons (gVar 2) (aCons (gC (.int 10)) aNil))))
  (sSeq (sDrop (gCall S_need_holes [] (aCons (gBin dAdd (gCall (S_holes_in 12) [] (aCons (gVar 0) aNil)) (gCall (S_holes_in 12) [] (aCons (gVar 1) aNil))) (aCons (gVar 2) aNil))))
  (sSeq (sFor (iRange1 (aCons (gBin dShl (gC (.int 1)) (gVar 2)) aNil)) (nName 3) (sSeq (sSet 4 (gCall S_row_in [] (aCons (gVar 2) (aCons (gVar 3) aNil))))
  (sIf (cVal (gBin dNe (gCall (S_holds 12) [] (aCons (gVar 0) (aCons (gVar 4) aNil))) (gCall (S_holds 12) [] (aCons (gVar 1) (aCons (gVar 4) aNil))))) (sRet (gVar 4)) sNx)))
  (sRet (gC .non)))))))
theorem lift_difference (F : FnG P w K mg base k f fd ["request", "other", "width"] (wpS ["request", "other", "width"] ["request", "other", "width", "number", "row"] g_difference)) : FnG P w K mg base k f fd ["request", "other", "width"] S_difference := F.imp fun ds m Q E h => by
  obtain ⟨p, q, w, rfl, w1, w10, gp, gq, h⟩ := h
  refine ⟨rfl, ?_⟩
  simp only [g_difference, ↓reduceIte, ↓u_sNx, ↓u_sSeq, ↓u_nx, ↓u_rt, ↓u_bk, ↓u_ct, ↓u_sBreak, ↓u_sCont, ↓u_sDrop, ↓u_sRet, ↓u_sRetN, ↓u_sIf, ↓u_sAsg, ↓u_gC, ↓u_aNil, ↓u_aCons, ↓u_gTup, ↓u_gLst, ↓u_gLstM, ↓u_gBin, ↓u_cVal, ↓u_onBl, ↓u_onInt, ↓u_onStr, ↓u_gChain, ↓u_cAnd, ↓u_cOr, ↓u_cNot, ↓u_gAnd, ↓u_gOr, ↓u_gNot, ↓u_gIf, ↓u_gNeg, ↓u_nNil, ↓u_nCons, ↓u_nTup, ↓u_nSub, ↓u_gCB, ↓u_gCall, ↓u_gM0, ↓u_gM1, ↓u_gL, ↓u_gL0, ↓u_oNo, ↓u_oSome, ↓u_gSl, ↓u_cYes, ↓u_on1, ↓u_on2, ↓u_dInt, ↓u_dInt0, ↓u_gLc, ↓u_gLcM, ↓u_gLc2, ↓u_sNever, ↓u_iEnS, ↓u_iEnL, ↓u_iEnumD, ↓u_iZipD, ↓u_zipS, ↓u_zipL, ↓u_iSeq, ↓u_iRange1, ↓u_iRange2, ↓u_sWhile, ↓u_iRange3, ↓u_on3, ↓u_sFor, ↓u_dMax2, ↓u_dMin2, ↓u_gDct0, ↓u_gVar0, ↓u_sSet0, ↓u_nName0, ↓u_gVar1, ↓u_sSet1, ↓u_nName1, ↓u_gVar2, ↓u_sSet2, ↓u_nName2, ↓u_gVar3, ↓u_sSet3, ↓u_nName3, ↓u_gVar4, ↓u_sSet4, ↓u_nName4, ↓u_gVar5, ↓u_sSet5, ↓u_nName5, ↓u_gVar6, ↓u_sSet6, ↓u_nName6, ↓u_gVar7, ↓u_sSet7, ↓u_nName7, ↓u_gVar8, ↓u_sSet8, ↓u_nName8, ↓u_gVar9, ↓u_sSet9, ↓u_nName9, ↓u_gVar10, ↓u_sSet10, ↓u_nName10, ↓u_gVar11, ↓u_sSet11, ↓u_nName11, ↓u_gVar12, ↓u_sSet12, ↓u_nName12, ↓u_gVar13, ↓u_sSet13, ↓u_nName13, ↓u_gVar14, ↓u_sSet14, ↓u_nName14, ↓u_gVar15, ↓u_sSet15, ↓u_nName15, ↓u_gVar16, ↓u_sSet16, ↓u_nName16, ↓u_gVar17, ↓u_sSet17, ↓u_nName17, ↓dToInt_int, ↓dToInt_bl, ↓dListU_lst, ↓dListU_tup, ↓dListU_str, ↓dListUM_lst, ↓dListUM_tup, ↓dListUM_str, ↓dTuple_lst, ↓dTuple_tup, ↓dIn_lst, ↓dIn_tup, ↓dSl_str, ↓dSl_lst, ↓dSl_tup, ↓dAdd_int, ↓dAdd_str, ↓dAdd_lst, ↓dAdd_tup, ↓dMul_int, ↓dMul_str, ↓dMul_lst, ↓dIx_lst, ↓dIx_ro, ↓dIx_tup, ↓dIx_str, ↓onSome_some, ↓dLen_lst, ↓dLen_tup, ↓dLen_str, ↓dLen_ro, ↓dLen_dct, ↓items_str, ↓items_lst, ↓items_tup, ↓items_ro, ↓dAll_lst, ↓dAny_lst, ↓dSum_lst, ↓dIsi_ty, ↓dIsi_tup, ↓dIn_str, ↓onSeq_lst, ↓onSeq_tup, ↓dIs_bb, ↓dStrI_i, ↓dIsW_bb, ↓dIsW_ib, ↓dIsW_sb, ↓dIsW_nb, ↓dIsW_lb, ↓dIsW_tb, ↓dIsW_db, ↓dIsW_nn, ↓dIsW_in, ↓dIsW_sn, ↓dIsW_ln, ↓dIsW_tn, ↓dEq_ii, ↓dEq_ss, ↓dNe_ii, ↓dNe_ss, ↓dEq_nil, ↓dNe_nil, ↓dEq_bb, ↓dNe_bb, List.append_nil, List.nil_append, List.cons_append, startD, List.map_cons, List.map_nil, List.length_cons, List.length_nil, Nat.sub_self, List.replicate_zero, List.replicate_succ, List.set_cons_zero, List.set_cons_succ, List.getElem?_cons_zero, List.getElem?_cons_succ, atI_lit, vw_int, vw_str, vw_bl, vw_non, vw_lst, vw_tup, vw_dct, vw_ro, vw_obj, vw_cls, Nat.reduceAdd, Nat.reduceSub, Int.reduceToNat, Int.reduceNeg, Int.reducePow, Int.reduceAdd, Int.reduceSub, Int.reduceMul, ixN_lit, decide_eq_true_eq, decide_eq_false_iff_not, if_true, if_false, Bool.false_eq_true, Bool.not_true, Bool.not_false, Nat.reduceLT, Nat.reduceLeDiff, Int.reduceLT, Int.reduceLE, true_and, and_true, and_self, ite_true, ite_false, kind_int, kind_bl, kind_non, kind_str, kind_lst, kind_tup, kind_dct, clsAll_lt, all_lt, any_lt_l, any_lt_t, any_lt_s, any_lt_i, any_lt_b, any_lt_n, any_lt_d, kc_int, kc_bool, kc_str, kc_list, kc_tuple, kc_dict, isiT, String.reduceBEq, Bool.or_false, Bool.or_true, Bool.false_or, Bool.true_or, Bool.and_false, Bool.false_and, Bool.and_true, Bool.true_and, wipeD, Bool.not_eq_true, Bool.not_eq_false, Bool.not_eq_eq_eq_not, Bool.not_not, Bool.false_bne, Bool.true_bne, dJoin, onSome_some, sizeLine_eq, Mu.put_same, put_put, Nat.zero_le, decide_true, decide_false, flt_litc, fld_str, fld_int, fld_bl, fld_non, List.all_cons, List.all_nil, reduceCtorEq, strOk_of, eqd_int, eqd_str, eqd_bl, eqd_lst0, eqd_lst1, eqd_lst2, eqd_lst3, eqd_tup0, eqd_tup1, eqd_tup2, eqd_tup3, flt_bl, flt_non]
  have w24 : ∀ {q : Rq}, q.Good w → q.Good 24 := fun g => ⟨g.dp, g.sz, fun i hi => Nat.lt_of_lt_of_le (g.ho i hi) (by omega)⟩
  refine ⟨p, rfl, w24 gp, ⟨q, rfl, w24 gq, ⟨w, 10, rfl, by omega, by omega, ?_⟩⟩⟩
  refine ⟨p, rfl, gp.dp, by have := gp.sz; omega, ⟨q, rfl, gq.dp, by have := gq.sz; omega, ?_⟩⟩
  simp only [↓reduceIte, ↓u_sNx, ↓u_sSeq, ↓u_nx, ↓u_rt, ↓u_bk, ↓u_ct, ↓u_sBreak, ↓u_sCont, ↓u_sDrop, ↓u_sRet, ↓u_sRetN, ↓u_sIf, ↓u_sAsg, ↓u_gC, ↓u_aNil, ↓u_aCons, ↓u_gTup, ↓u_gLst, ↓u_gLstM, ↓u_gBin, ↓u_cVal, ↓u_onBl, ↓u_onInt, ↓u_onStr, ↓u_gChain, ↓u_cAnd, ↓u_cOr, ↓u_cNot, ↓u_gAnd, ↓u_gOr, ↓u_gNot, ↓u_gIf, ↓u_gNeg, ↓u_nNil, ↓u_nCons, ↓u_nTup, ↓u_nSub, ↓u_gCB, ↓u_gCall, ↓u_gM0, ↓u_gM1, ↓u_gL, ↓u_gL0, ↓u_oNo, ↓u_oSome, ↓u_gSl, ↓u_cYes, ↓u_on1, ↓u_on2, ↓u_dInt, ↓u_dInt0, ↓u_gLc, ↓u_gLcM, ↓u_gLc2, ↓u_sNever, ↓u_iEnS, ↓u_iEnL, ↓u_iEnumD, ↓u_iZipD, ↓u_zipS, ↓u_zipL, ↓u_iSeq, ↓u_iRange1, ↓u_iRange2, ↓u_sWhile, ↓u_iRange3, ↓u_on3, ↓u_sFor, ↓u_dMax2, ↓u_dMin2, ↓u_gDct0, ↓u_gVar0, ↓u_sSet0, ↓u_nName0, ↓u_gVar1, ↓u_sSet1, ↓u_nName1, ↓u_gVar2, ↓u_sSet2, ↓u_nName2, ↓u_gVar3, ↓u_sSet3, ↓u_nName3, ↓u_gVar4, ↓u_sSet4, ↓u_nName4, ↓u_gVar5, ↓u_sSet5, ↓u_nName5, ↓u_gVar6, ↓u_sSet6, ↓u_nName6, ↓u_gVar7, ↓u_sSet7, ↓u_nName7, ↓u_gVar8, ↓u_sSet8, ↓u_nName8, ↓u_gVar9, ↓u_sSet9, ↓u_nName9, ↓u_gVar10, ↓u_sSet10, ↓u_nName10, ↓u_gVar11, ↓u_sSet11, ↓u_nName11, ↓u_gVar12, ↓u_sSet12, ↓u_nName12, ↓u_gVar13, ↓u_sSet13, ↓u_nName13, ↓u_gVar14, ↓u_sSet14, ↓u_nName14, ↓u_gVar15, ↓u_sSet15, ↓u_nName15, ↓u_gVar16, ↓u_sSet16, ↓u_nName16, ↓u_gVar17, ↓u_sSet17, ↓u_nName17, ↓dToInt_int, ↓dToInt_bl, ↓dListU_lst, ↓dListU_tup, ↓dListU_str, ↓dListUM_lst, ↓dListUM_tup, ↓dListUM_str, ↓dTuple_lst, ↓dTuple_tup, ↓dIn_lst, ↓dIn_tup, ↓dSl_str, ↓dSl_lst, ↓dSl_tup, ↓dAdd_int, ↓dAdd_str, ↓dAdd_lst, ↓dAdd_tup, ↓dMul_int, ↓dMul_str, ↓dMul_lst, ↓dIx_lst, ↓dIx_ro, ↓dIx_tup, ↓dIx_str, ↓onSome_some, ↓dLen_lst, ↓dLen_tup, ↓dLen_str, ↓dLen_ro, ↓dLen_dct, ↓items_str, ↓items_lst, ↓items_tup, ↓items_ro, ↓dAll_lst, ↓dAny_lst, ↓dSum_lst, ↓dIsi_ty, ↓dIsi_tup, ↓dIn_str, ↓onSeq_lst, ↓onSeq_tup, ↓dIs_bb, ↓dStrI_i, ↓dIsW_bb, ↓dIsW_ib, ↓dIsW_sb, ↓dIsW_nb, ↓dIsW_lb, ↓dIsW_tb, ↓dIsW_db, ↓dIsW_nn, ↓dIsW_in, ↓dIsW_sn, ↓dIsW_ln, ↓dIsW_tn, ↓dEq_ii, ↓dEq_ss, ↓dNe_ii, ↓dNe_ss, ↓dEq_nil, ↓dNe_nil, ↓dEq_bb, ↓dNe_bb, List.append_nil, List.nil_append, List.cons_append, startD, List.map_cons, List.map_nil, List.length_cons, List.length_nil, Nat.sub_self, List.replicate_zero, List.replicate_succ, List.set_cons_zero, List.set_cons_succ, List.getElem?_cons_zero, List.getElem?_cons_succ, atI_lit, vw_int, vw_str, vw_bl, vw_non, vw_lst, vw_tup, vw_dct, vw_ro, vw_obj, vw_cls, Nat.reduceAdd, Nat.reduceSub, Int.reduceToNat, Int.reduceNeg, Int.reducePow, Int.reduceAdd, Int.reduceSub, Int.reduceMul, ixN_lit, decide_eq_true_eq, decide_eq_false_iff_not, if_true, if_false, Bool.false_eq_true, Bool.not_true, Bool.not_false, Nat.reduceLT, Nat.reduceLeDiff, Int.reduceLT, Int.reduceLE, true_and, and_true, and_self, ite_true, ite_false, kind_int, kind_bl, kind_non, kind_str, kind_lst, kind_tup, kind_dct, clsAll_lt, all_lt, any_lt_l, any_lt_t, any_lt_s, any_lt_i, any_lt_b, any_lt_n, any_lt_d, kc_int, kc_bool, kc_str, kc_list, kc_tuple, kc_dict, isiT, String.reduceBEq, Bool.or_false, Bool.or_true, Bool.false_or, Bool.true_or, Bool.and_false, Bool.false_and, Bool.and_true, Bool.true_and, wipeD, Bool.not_eq_true, Bool.not_eq_false, Bool.not_eq_eq_eq_not, Bool.not_not, Bool.false_bne, Bool.true_bne, dJoin, onSome_some, sizeLine_eq, Mu.put_same, put_put, Nat.zero_le, decide_true, decide_false, flt_litc, fld_str, fld_int, fld_bl, fld_non, List.all_cons, List.all_nil, reduceCtorEq, strOk_of, eqd_int, eqd_str, eqd_bl, eqd_lst0, eqd_lst1, eqd_lst2, eqd_lst3, eqd_tup0, eqd_tup1, eqd_tup2, eqd_tup3, flt_bl, flt_non]
  have s1 := p.holes_size
  have s2 := q.holes_size
  have s3 := gp.sz
  have s4 := gq.sz
  refine ⟨by rw [List.length_map, List.length_map]; omega, ⟨p.holes ++ q.holes, w, by rw [List.map_append], fun i hi => (List.mem_append.mp hi).elim (gp.ho i) (gq.ho i), ?_⟩⟩
  have hp := pw10 w10
  rw [pw_nat, Int.toNat_natCast]
  generalize hT : 2 ^ w = T at hp
  refine ⟨⟨by omega, by omega, by omega⟩, ⟨by omega, by omega⟩, ?_⟩
  subst hT
  refine for_inv (fun i ρ m' => m' = m ∧ (∀ j < i, p.hd (rowOf w (j : Nat)) = q.hd (rowOf w (j : Nat))) ∧ ∃ x y, ρ = [some p.d, some q.d, some (.int (w : Nat)), x, y]) ⟨rfl, fun j hj => absurd hj (by omega), _, _, rfl⟩ (fun _ _ _ _ => trivial) ?_ ?_
  · rintro i d ρ m N hd ⟨rfl, hall, x, y, rfl⟩ hN
    obtain ⟨hi, rfl⟩ := range_at hd
    simp only [↓reduceIte, ↓u_sNx, ↓u_sSeq, ↓u_nx, ↓u_rt, ↓u_bk, ↓u_ct, ↓u_sBreak, ↓u_sCont, ↓u_sDrop, ↓u_sRet, ↓u_sRetN, ↓u_sIf, ↓u_sAsg, ↓u_gC, ↓u_aNil, ↓u_aCons, ↓u_gTup, ↓u_gLst, ↓u_gLstM, ↓u_gBin, ↓u_cVal, ↓u_onBl, ↓u_onInt, ↓u_onStr, ↓u_gChain, ↓u_cAnd, ↓u_cOr, ↓u_cNot, ↓u_gAnd, ↓u_gOr, ↓u_gNot, ↓u_gIf, ↓u_gNeg, ↓u_nNil, ↓u_nCons, ↓u_nTup, ↓u_nSub, ↓u_gCB, ↓u_gCall, ↓u_gM0, ↓u_gM1, ↓u_gL, ↓u_gL0, ↓u_oNo, ↓u_oSome, ↓u_gSl, ↓u_cYes, ↓u_on1, ↓u_on2, ↓u_dInt, ↓u_dInt0, ↓u_gLc, ↓u_gLcM, ↓u_gLc2, ↓u_sNever, ↓u_iEnS, ↓u_iEnL, ↓u_iEnumD, ↓u_iZipD, ↓u_zipS, ↓u_zipL, ↓u_iSeq, ↓u_iRange1, ↓u_iRange2, ↓u_sWhile, ↓u_iRange3, ↓u_on3, ↓u_sFor, ↓u_dMax2, ↓u_dMin2, ↓u_gDct0, ↓u_gVar0, ↓u_sSet0, ↓u_nName0, ↓u_gVar1, ↓u_sSet1, ↓u_nName1, ↓u_gVar2, ↓u_sSet2, ↓u_nName2, ↓u_gVar3, ↓u_sSet3, ↓u_nName3, ↓u_gVar4, ↓u_sSet4, ↓u_nName4, ↓u_gVar5, ↓u_sSet5, ↓u_nName5, ↓u_gVar6, ↓u_sSet6, ↓u_nName6, ↓u_gVar7, ↓u_sSet7, ↓u_nName7, ↓u_gVar8, ↓u_sSet8, ↓u_nName8, ↓u_gVar9, ↓u_sSet9, ↓u_nName9, ↓u_gVar10, ↓u_sSet10, ↓u_nName10, ↓u_gVar11, ↓u_sSet11, ↓u_nName11, ↓u_gVar12, ↓u_sSet12, ↓u_nName12, ↓u_gVar13, ↓u_sSet13, ↓u_nName13, ↓u_gVar14, ↓u_sSet14, ↓u_nName14, ↓u_gVar15, ↓u_sSet15, ↓u_nName15, ↓u_gVar16, ↓u_sSet16, ↓u_nName16, ↓u_gVar17, ↓u_sSet17, ↓u_nName17, ↓dToInt_int, ↓dToInt_bl, ↓dListU_lst, ↓dListU_tup, ↓dListU_str, ↓dListUM_lst, ↓dListUM_tup, ↓dListUM_str, ↓dTuple_lst, ↓dTuple_tup, ↓dIn_lst, ↓dIn_tup, ↓dSl_str, ↓dSl_lst, ↓dSl_tup, ↓dAdd_int, ↓dAdd_str, ↓dAdd_lst, ↓dAdd_tup, ↓dMul_int, ↓dMul_str, ↓dMul_lst, ↓dIx_lst, ↓dIx_ro, ↓dIx_tup, ↓dIx_str, ↓onSome_some, ↓dLen_lst, ↓dLen_tup, ↓dLen_str, ↓dLen_ro, ↓dLen_dct, ↓items_str, ↓items_lst, ↓items_tup, ↓items_ro, ↓dAll_lst, ↓dAny_lst, ↓dSum_lst, ↓dIsi_ty, ↓dIsi_tup, ↓dIn_str, ↓onSeq_lst, ↓onSeq_tup, ↓dIs_bb, ↓dStrI_i, ↓dIsW_bb, ↓dIsW_ib, ↓dIsW_sb, ↓dIsW_nb, ↓dIsW_lb, ↓dIsW_tb, ↓dIsW_db, ↓dIsW_nn, ↓dIsW_in, ↓dIsW_sn, ↓dIsW_ln, ↓dIsW_tn, ↓dEq_ii, ↓dEq_ss, ↓dNe_ii, ↓dNe_ss, ↓dEq_nil, ↓dNe_nil, ↓dEq_bb, ↓dNe_bb, List.append_nil, List.nil_append, List.cons_append, startD, List.map_cons, List.map_nil, List.length_cons, List.length_nil, Nat.sub_self, List.replicate_zero, List.replicate_succ, List.set_cons_zero, List.set_cons_succ, List.getElem?_cons_zero, List.getElem?_cons_succ, atI_lit, vw_int, vw_str, vw_bl, vw_non, vw_lst, vw_tup, vw_dct, vw_ro, vw_obj, vw_cls, Nat.reduceAdd, Nat.reduceSub, Int.reduceToNat, Int.reduceNeg, Int.reducePow, Int.reduceAdd, Int.reduceSub, Int.reduceMul, ixN_lit, decide_eq_true_eq, decide_eq_false_iff_not, if_true, if_false, Bool.false_eq_true, Bool.not_true, Bool.not_false, Nat.reduceLT, Nat.reduceLeDiff, Int.reduceLT, Int.reduceLE, true_and, and_true, and_self, ite_true, ite_false, kind_int, kind_bl, kind_non, kind_str, kind_lst, kind_tup, kind_dct, clsAll_lt, all_lt, any_lt_l, any_lt_t, any_lt_s, any_lt_i, any_lt_b, any_lt_n, any_lt_d, kc_int, kc_bool, kc_str, kc_list, kc_tuple, kc_dict, isiT, String.reduceBEq, Bool.or_false, Bool.or_true, Bool.false_or, Bool.true_or, Bool.and_false, Bool.false_and, Bool.and_true, Bool.true_and, wipeD, Bool.not_eq_true, Bool.not_eq_false, Bool.not_eq_eq_eq_not, Bool.not_not, Bool.false_bne, Bool.true_bne, dJoin, onSome_some, sizeLine_eq, Mu.put_same, put_put, Nat.zero_le, decide_true, decide_false, flt_litc, fld_str, fld_int, fld_bl, fld_non, List.all_cons, List.all_nil, reduceCtorEq, strOk_of, eqd_int, eqd_str, eqd_bl, eqd_lst0, eqd_lst1, eqd_lst2, eqd_lst3, eqd_tup0, eqd_tup1, eqd_tup2, eqd_tup3, flt_bl, flt_non]
    rw [Int.zero_add]
    have hok : ∀ {q : Rq}, q.Good w → q.ok (rowOf w (i : Nat)).length := fun g => by rw [rowOf_len]; exact g.ho
    refine ⟨w, (i : Nat), rfl, by omega, by omega, by omega, ⟨p, _, rfl, gp.dp, hok gp, by rw [rowOf_len]; omega, ⟨q, _, rfl, gq.dp, hok gq, by rw [rowOf_len]; omega, ?_⟩⟩⟩
    simp only [↓reduceIte, ↓u_sNx, ↓u_sSeq, ↓u_nx, ↓u_rt, ↓u_bk, ↓u_ct, ↓u_sBreak, ↓u_sCont, ↓u_sDrop, ↓u_sRet, ↓u_sRetN, ↓u_sIf, ↓u_sAsg, ↓u_gC, ↓u_aNil, ↓u_aCons, ↓u_gTup, ↓u_gLst, ↓u_gLstM, ↓u_gBin, ↓u_cVal, ↓u_onBl, ↓u_onInt, ↓u_onStr, ↓u_gChain, ↓u_cAnd, ↓u_cOr, ↓u_cNot, ↓u_gAnd, ↓u_gOr, ↓u_gNot, ↓u_gIf, ↓u_gNeg, ↓u_nNil, ↓u_nCons, ↓u_nTup, ↓u_nSub, ↓u_gCB, ↓u_gCall, ↓u_gM0, ↓u_gM1, ↓u_gL, ↓u_gL0, ↓u_oNo, ↓u_oSome, ↓u_gSl, ↓u_cYes, ↓u_on1, ↓u_on2, ↓u_dInt, ↓u_dInt0, ↓u_gLc, ↓u_gLcM, ↓u_gLc2, ↓u_sNever, ↓u_iEnS, ↓u_iEnL, ↓u_iEnumD, ↓u_iZipD, ↓u_zipS, ↓u_zipL, ↓u_iSeq, ↓u_iRange1, ↓u_iRange2, ↓u_sWhile, ↓u_iRange3, ↓u_on3, ↓u_sFor, ↓u_dMax2, ↓u_dMin2, ↓u_gDct0, ↓u_gVar0, ↓u_sSet0, ↓u_nName0, ↓u_gVar1, ↓u_sSet1, ↓u_nName1, ↓u_gVar2, ↓u_sSet2, ↓u_nName2, ↓u_gVar3, ↓u_sSet3, ↓u_nName3, ↓u_gVar4, ↓u_sSet4, ↓u_nName4, ↓u_gVar5, ↓u_sSet5, ↓u_nName5, ↓u_gVar6, ↓u_sSet6, ↓u_nName6, ↓u_gVar7, ↓u_sSet7, ↓u_nName7, ↓u_gVar8, ↓u_sSet8, ↓u_nName8, ↓u_gVar9, ↓u_sSet9, ↓u_nName9, ↓u_gVar10, ↓u_sSet10, ↓u_nName10, ↓u_gVar11, ↓u_sSet11, ↓u_nName11, ↓u_gVar12, ↓u_sSet12, ↓u_nName12, ↓u_gVar13, ↓u_sSet13, ↓u_nName13, ↓u_gVar14, ↓u_sSet14, ↓u_nName14, ↓u_gVar15, ↓u_sSet15, ↓u_nName15, ↓u_gVar16, ↓u_sSet16, ↓u_nName16, ↓u_gVar17, ↓u_sSet17, ↓u_nName17, ↓dToInt_int, ↓dToInt_bl, ↓dListU_lst, ↓dListU_tup, ↓dListU_str, ↓dListUM_lst, ↓dListUM_tup, ↓dListUM_str, ↓dTuple_lst, ↓dTuple_tup, ↓dIn_lst, ↓dIn_tup, ↓dSl_str, ↓dSl_lst, ↓dSl_tup, ↓dAdd_int, ↓dAdd_str, ↓dAdd_lst, ↓dAdd_tup, ↓dMul_int, ↓dMul_str, ↓dMul_lst, ↓dIx_lst, ↓dIx_ro, ↓dIx_tup, ↓dIx_str, ↓onSome_some, ↓dLen_lst, ↓dLen_tup, ↓dLen_str, ↓dLen_ro, ↓dLen_dct, ↓items_str, ↓items_lst, ↓items_tup, ↓items_ro, ↓dAll_lst, ↓dAny_lst, ↓dSum_lst, ↓dIsi_ty, ↓dIsi_tup, ↓dIn_str, ↓onSeq_lst, ↓onSeq_tup, ↓dIs_bb, ↓dStrI_i, ↓dIsW_bb, ↓dIsW_ib, ↓dIsW_sb, ↓dIsW_nb, ↓dIsW_lb, ↓dIsW_tb, ↓dIsW_db, ↓dIsW_nn, ↓dIsW_in, ↓dIsW_sn, ↓dIsW_ln, ↓dIsW_tn, ↓dEq_ii, ↓dEq_ss, ↓dNe_ii, ↓dNe_ss, ↓dEq_nil, ↓dNe_nil, ↓dEq_bb, ↓dNe_bb, List.append_nil, List.nil_append, List.cons_append, startD, List.map_cons, List.map_nil, List.length_cons, List.length_nil, Nat.sub_self, List.replicate_zero, List.replicate_succ, List.set_cons_zero, List.set_cons_succ, List.getElem?_cons_zero, List.getElem?_cons_succ, atI_lit, vw_int, vw_str, vw_bl, vw_non, vw_lst, vw_tup, vw_dct, vw_ro, vw_obj, vw_cls, Nat.reduceAdd, Nat.reduceSub, Int.reduceToNat, Int.reduceNeg, Int.reducePow, Int.reduceAdd, Int.reduceSub, Int.reduceMul, ixN_lit, decide_eq_true_eq, decide_eq_false_iff_not, if_true, if_false, Bool.false_eq_true, Bool.not_true, Bool.not_false, Nat.reduceLT, Nat.reduceLeDiff, Int.reduceLT, Int.reduceLE, true_and, and_true, and_self, ite_true, ite_false, kind_int, kind_bl, kind_non, kind_str, kind_lst, kind_tup, kind_dct, clsAll_lt, all_lt, any_lt_l, any_lt_t, any_lt_s, any_lt_i, any_lt_b, any_lt_n, any_lt_d, kc_int, kc_bool, kc_str, kc_list, kc_tuple, kc_dict, isiT, String.reduceBEq, Bool.or_false, Bool.or_true, Bool.false_or, Bool.true_or, Bool.and_false, Bool.false_and, Bool.and_true, Bool.true_and, wipeD, Bool.not_eq_true, Bool.not_eq_false, Bool.not_eq_eq_eq_not, Bool.not_not, Bool.false_bne, Bool.true_bne, dJoin, onSome_some, sizeLine_eq, Mu.put_same, put_put, Nat.zero_le, decide_true, decide_false, flt_litc, fld_str, fld_int, fld_bl, fld_non, List.all_cons, List.all_nil, reduceCtorEq, strOk_of, eqd_int, eqd_str, eqd_bl, eqd_lst0, eqd_lst1, eqd_lst2, eqd_lst3, eqd_tup0, eqd_tup1, eqd_tup2, eqd_tup3, flt_bl, flt_non]
    refine iteI (fun hc => ?_) fun hc => ?_
    · rw [difD_at hall hi (by simpa using hc)] at h; exact h
    · refine hN _ _ ⟨rfl, fun j hj => ?_, _, _, rfl⟩
      by_cases e : j < i
      · exact hall j e
      · obtain rfl : j = i := by omega
        simpa using hc
  · rintro ρ m' ⟨rfl, hall, x, y, rfl⟩
    rw [range_len] at hall
    rw [difD_no hall] at h
    exact h
def g__law_due : GS :=
  (sSeq (sFor (iRange1 (aCons (gBin dShl (gC (.int 1)) (gVar 2)) aNil)) (nName 3) (sSeq (sSet 4 (gM1 dJoin (gC (.str "")) (gLc (iRange1 (aCons (gVar 2) aNil)) (nName 5) cYes (gBin dIx (gC (.str "ov")) (gBin dBand (gBin dShr (gVar 3) (gBin dSub (gBin dSub (gVar 2) (gC (.int 1))) (gVar 5))) (gC (.int 1)))) [5])))
  (sIf (cVal (gBin dNe (gCall (S__law_fits 12) [] (aCons (gVar 0) (aCons (gVar 4) aNil))) (gCall (S__law_fits 12) [] (aCons (gVar 1) (aCons (gVar 4) aNil))))) (sRet (gVar 4)) sNx)))
  (sRet (gC .non)))
theorem lift__law_due (F : FnG P w K mg base k f fd ["one", "other", "width"] (wpS ["one", "other", "width"] ["one", "other", "width", "number", "row", "hole"] g__law_due)) : FnG P w K mg base k f fd ["one", "other", "width"] S__law_due := F.imp fun ds m Q E h => by
  obtain ⟨p, q, w, rfl, w1, w10, gp, gq, h⟩ := h
  refine ⟨rfl, ?_⟩
  simp only [g__law_due, ↓reduceIte, ↓u_sNx, ↓u_sSeq, ↓u_nx, ↓u_rt, ↓u_bk, ↓u_ct, ↓u_sBreak, ↓u_sCont, ↓u_sDrop, ↓u_sRet, ↓u_sRetN, ↓u_sIf, ↓u_sAsg, ↓u_gC, ↓u_aNil, ↓u_aCons, ↓u_gTup, ↓u_gLst, ↓u_gLstM, ↓u_gBin, ↓u_cVal, ↓u_onBl, ↓u_onInt, ↓u_onStr, ↓u_gChain, ↓u_cAnd, ↓u_cOr, ↓u_cNot, ↓u_gAnd, ↓u_gOr, ↓u_gNot, ↓u_gIf, ↓u_gNeg, ↓u_nNil, ↓u_nCons, ↓u_nTup, ↓u_nSub, ↓u_gCB, ↓u_gCall, ↓u_gM0, ↓u_gM1, ↓u_gL, ↓u_gL0, ↓u_oNo, ↓u_oSome, ↓u_gSl, ↓u_cYes, ↓u_on1, ↓u_on2, ↓u_dInt, ↓u_dInt0, ↓u_gLc, ↓u_gLcM, ↓u_gLc2, ↓u_sNever, ↓u_iEnS, ↓u_iEnL, ↓u_iEnumD, ↓u_iZipD, ↓u_zipS, ↓u_zipL, ↓u_iSeq, ↓u_iRange1, ↓u_iRange2, ↓u_sWhile, ↓u_iRange3, ↓u_on3, ↓u_sFor, ↓u_dMax2, ↓u_dMin2, ↓u_gDct0, ↓u_gVar0, ↓u_sSet0, ↓u_nName0, ↓u_gVar1, ↓u_sSet1, ↓u_nName1, ↓u_gVar2, ↓u_sSet2, ↓u_nName2, ↓u_gVar3, ↓u_sSet3, ↓u_nName3, ↓u_gVar4, ↓u_sSet4, ↓u_nName4, ↓u_gVar5, ↓u_sSet5, ↓u_nName5, ↓u_gVar6, ↓u_sSet6, ↓u_nName6, ↓u_gVar7, ↓u_sSet7, ↓u_nName7, ↓u_gVar8, ↓u_sSet8, ↓u_nName8, ↓u_gVar9, ↓u_sSet9, ↓u_nName9, ↓u_gVar10, ↓u_sSet10, ↓u_nName10, ↓u_gVar11, ↓u_sSet11, ↓u_nName11, ↓u_gVar12, ↓u_sSet12, ↓u_nName12, ↓u_gVar13, ↓u_sSet13, ↓u_nName13, ↓u_gVar14, ↓u_sSet14, ↓u_nName14, ↓u_gVar15, ↓u_sSet15, ↓u_nName15, ↓u_gVar16, ↓u_sSet16, ↓u_nName16, ↓u_gVar17, ↓u_sSet17, ↓u_nName17, ↓dToInt_int, ↓dToInt_bl, ↓dListU_lst, ↓dListU_tup, ↓dListU_str, ↓dListUM_lst, ↓dListUM_tup, ↓dListUM_str, ↓dTuple_lst, ↓dTuple_tup, ↓dIn_lst, ↓dIn_tup, ↓dSl_str, ↓dSl_lst, ↓dSl_tup, ↓dAdd_int, ↓dAdd_str, ↓dAdd_lst, ↓dAdd_tup, ↓dMul_int, ↓dMul_str, ↓dMul_lst, ↓dIx_lst, ↓dIx_ro, ↓dIx_tup, ↓dIx_str, ↓onSome_some, ↓dLen_lst, ↓dLen_tup, ↓dLen_str, ↓dLen_ro, ↓dLen_dct, ↓items_str, ↓items_lst, ↓items_tup, ↓items_ro, ↓dAll_lst, ↓dAny_lst, ↓dSum_lst, ↓dIsi_ty, ↓dIsi_tup, ↓dIn_str, ↓onSeq_lst, ↓onSeq_tup, ↓dIs_bb, ↓dStrI_i, ↓dIsW_bb, ↓dIsW_ib, ↓dIsW_sb, ↓dIsW_nb, ↓dIsW_lb, ↓dIsW_tb, ↓dIsW_db, ↓dIsW_nn, ↓dIsW_in, ↓dIsW_sn, ↓dIsW_ln, ↓dIsW_tn, ↓dEq_ii, ↓dEq_ss, ↓dNe_ii, ↓dNe_ss, ↓dEq_nil, ↓dNe_nil, ↓dEq_bb, ↓dNe_bb, List.append_nil, List.nil_append, List.cons_append, startD, List.map_cons, List.map_nil, List.length_cons, List.length_nil, Nat.sub_self, List.replicate_zero, List.replicate_succ, List.set_cons_zero, List.set_cons_succ, List.getElem?_cons_zero, List.getElem?_cons_succ, atI_lit, vw_int, vw_str, vw_bl, vw_non, vw_lst, vw_tup, vw_dct, vw_ro, vw_obj, vw_cls, Nat.reduceAdd, Nat.reduceSub, Int.reduceToNat, Int.reduceNeg, Int.reducePow, Int.reduceAdd, Int.reduceSub, Int.reduceMul, ixN_lit, decide_eq_true_eq, decide_eq_false_iff_not, if_true, if_false, Bool.false_eq_true, Bool.not_true, Bool.not_false, Nat.reduceLT, Nat.reduceLeDiff, Int.reduceLT, Int.reduceLE, true_and, and_true, and_self, ite_true, ite_false, kind_int, kind_bl, kind_non, kind_str, kind_lst, kind_tup, kind_dct, clsAll_lt, all_lt, any_lt_l, any_lt_t, any_lt_s, any_lt_i, any_lt_b, any_lt_n, any_lt_d, kc_int, kc_bool, kc_str, kc_list, kc_tuple, kc_dict, isiT, String.reduceBEq, Bool.or_false, Bool.or_true, Bool.false_or, Bool.true_or, Bool.and_false, Bool.false_and, Bool.and_true, Bool.true_and, wipeD, Bool.not_eq_true, Bool.not_eq_false, Bool.not_eq_eq_eq_not, Bool.not_not, Bool.false_bne, Bool.true_bne, dJoin, onSome_some, sizeLine_eq, Mu.put_same, put_put, Nat.zero_le, decide_true, decide_false, flt_litc, fld_str, fld_int, fld_bl, fld_non, List.all_cons, List.all_nil, reduceCtorEq, strOk_of, eqd_int, eqd_str, eqd_bl, eqd_lst0, eqd_lst1, eqd_lst2, eqd_lst3, eqd_tup0, eqd_tup1, eqd_tup2, eqd_tup3, flt_bl, flt_non]
  have hp := pw10 w10
  rw [pw_nat, Int.toNat_natCast]
  generalize hT : 2 ^ w = T at hp
  refine ⟨⟨by omega, by omega, by omega⟩, ⟨by omega, by omega⟩, ?_⟩
  subst hT
  refine for_inv (fun i ρ m' => m' = m ∧ (∀ j < i, p.hd (rowOf w (j : Nat)) = q.hd (rowOf w (j : Nat))) ∧ ∃ x y, ρ = [some p.d, some q.d, some (.int (w : Nat)), x, y, none]) ⟨rfl, fun j hj => absurd hj (by omega), _, _, rfl⟩ (fun _ _ _ _ => trivial) ?_ ?_
  · rintro i d ρ m N hd ⟨rfl, hall, x, y, rfl⟩ hN
    obtain ⟨hi, rfl⟩ := range_at hd
    simp only [↓reduceIte, ↓u_sNx, ↓u_sSeq, ↓u_nx, ↓u_rt, ↓u_bk, ↓u_ct, ↓u_sBreak, ↓u_sCont, ↓u_sDrop, ↓u_sRet, ↓u_sRetN, ↓u_sIf, ↓u_sAsg, ↓u_gC, ↓u_aNil, ↓u_aCons, ↓u_gTup, ↓u_gLst, ↓u_gLstM, ↓u_gBin, ↓u_cVal, ↓u_onBl, ↓u_onInt, ↓u_onStr, ↓u_gChain, ↓u_cAnd, ↓u_cOr, ↓u_cNot, ↓u_gAnd, ↓u_gOr, ↓u_gNot, ↓u_gIf, ↓u_gNeg, ↓u_nNil, ↓u_nCons, ↓u_nTup, ↓u_nSub, ↓u_gCB, ↓u_gCall, ↓u_gM0, ↓u_gM1, ↓u_gL, ↓u_gL0, ↓u_oNo, ↓u_oSome, ↓u_gSl, ↓u_cYes, ↓u_on1, ↓u_on2, ↓u_dInt, ↓u_dInt0, ↓u_gLc, ↓u_gLcM, ↓u_gLc2, ↓u_sNever, ↓u_iEnS, ↓u_iEnL, ↓u_iEnumD, ↓u_iZipD, ↓u_zipS, ↓u_zipL, ↓u_iSeq, ↓u_iRange1, ↓u_iRange2, ↓u_sWhile, ↓u_iRange3, ↓u_on3, ↓u_sFor, ↓u_dMax2, ↓u_dMin2, ↓u_gDct0, ↓u_gVar0, ↓u_sSet0, ↓u_nName0, ↓u_gVar1, ↓u_sSet1, ↓u_nName1, ↓u_gVar2, ↓u_sSet2, ↓u_nName2, ↓u_gVar3, ↓u_sSet3, ↓u_nName3, ↓u_gVar4, ↓u_sSet4, ↓u_nName4, ↓u_gVar5, ↓u_sSet5, ↓u_nName5, ↓u_gVar6, ↓u_sSet6, ↓u_nName6, ↓u_gVar7, ↓u_sSet7, ↓u_nName7, ↓u_gVar8, ↓u_sSet8, ↓u_nName8, ↓u_gVar9, ↓u_sSet9, ↓u_nName9, ↓u_gVar10, ↓u_sSet10, ↓u_nName10, ↓u_gVar11, ↓u_sSet11, ↓u_nName11, ↓u_gVar12, ↓u_sSet12, ↓u_nName12, ↓u_gVar13, ↓u_sSet13, ↓u_nName13, ↓u_gVar14, ↓u_sSet14, ↓u_nName14, ↓u_gVar15, ↓u_sSet15, ↓u_nName15, ↓u_gVar16, ↓u_sSet16, ↓u_nName16, ↓u_gVar17, ↓u_sSet17, ↓u_nName17, ↓dToInt_int, ↓dToInt_bl, ↓dListU_lst, ↓dListU_tup, ↓dListU_str, ↓dListUM_lst, ↓dListUM_tup, ↓dListUM_str, ↓dTuple_lst, ↓dTuple_tup, ↓dIn_lst, ↓dIn_tup, ↓dSl_str, ↓dSl_lst, ↓dSl_tup, ↓dAdd_int, ↓dAdd_str, ↓dAdd_lst, ↓dAdd_tup, ↓dMul_int, ↓dMul_str, ↓dMul_lst, ↓dIx_lst, ↓dIx_ro, ↓dIx_tup, ↓dIx_str, ↓onSome_some, ↓dLen_lst, ↓dLen_tup, ↓dLen_str, ↓dLen_ro, ↓dLen_dct, ↓items_str, ↓items_lst, ↓items_tup, ↓items_ro, ↓dAll_lst, ↓dAny_lst, ↓dSum_lst, ↓dIsi_ty, ↓dIsi_tup, ↓dIn_str, ↓onSeq_lst, ↓onSeq_tup, ↓dIs_bb, ↓dStrI_i, ↓dIsW_bb, ↓dIsW_ib, ↓dIsW_sb, ↓dIsW_nb, ↓dIsW_lb, ↓dIsW_tb, ↓dIsW_db, ↓dIsW_nn, ↓dIsW_in, ↓dIsW_sn, ↓dIsW_ln, ↓dIsW_tn, ↓dEq_ii, ↓dEq_ss, ↓dNe_ii, ↓dNe_ss, ↓dEq_nil, ↓dNe_nil, ↓dEq_bb, ↓dNe_bb, List.append_nil, List.nil_append, List.cons_append, startD, List.map_cons, List.map_nil, List.length_cons, List.length_nil, Nat.sub_self, List.replicate_zero, List.replicate_succ, List.set_cons_zero, List.set_cons_succ, List.getElem?_cons_zero, List.getElem?_cons_succ, atI_lit, vw_int, vw_str, vw_bl, vw_non, vw_lst, vw_tup, vw_dct, vw_ro, vw_obj, vw_cls, Nat.reduceAdd, Nat.reduceSub, Int.reduceToNat, Int.reduceNeg, Int.reducePow, Int.reduceAdd, Int.reduceSub, Int.reduceMul, ixN_lit, decide_eq_true_eq, decide_eq_false_iff_not, if_true, if_false, Bool.false_eq_true, Bool.not_true, Bool.not_false, Nat.reduceLT, Nat.reduceLeDiff, Int.reduceLT, Int.reduceLE, true_and, and_true, and_self, ite_true, ite_false, kind_int, kind_bl, kind_non, kind_str, kind_lst, kind_tup, kind_dct, clsAll_lt, all_lt, any_lt_l, any_lt_t, any_lt_s, any_lt_i, any_lt_b, any_lt_n, any_lt_d, kc_int, kc_bool, kc_str, kc_list, kc_tuple, kc_dict, isiT, String.reduceBEq, Bool.or_false, Bool.or_true, Bool.false_or, Bool.true_or, Bool.and_false, Bool.false_and, Bool.and_true, Bool.true_and, wipeD, Bool.not_eq_true, Bool.not_eq_false, Bool.not_eq_eq_eq_not, Bool.not_not, Bool.false_bne, Bool.true_bne, dJoin, onSome_some, sizeLine_eq, Mu.put_same, put_put, Nat.zero_le, decide_true, decide_false, flt_litc, fld_str, fld_int, fld_bl, fld_non, List.all_cons, List.all_nil, reduceCtorEq, strOk_of, eqd_int, eqd_str, eqd_bl, eqd_lst0, eqd_lst1, eqd_lst2, eqd_lst3, eqd_tup0, eqd_tup1, eqd_tup2, eqd_tup3, flt_bl, flt_non]
    rw [Int.zero_add, Int.toNat_natCast]
    refine ⟨⟨by omega, by omega⟩, ?_⟩
    have hok : ∀ {q : Rq}, q.Good w → q.ok (rowOf w (i : Nat)).length := fun g => by rw [rowOf_len]; exact g.ho
    refine lc_Tm (xs := List.range w) (fun (j : Nat) => D.int (0 + (j : Nat))) (fun j => .str (rw_ [decide ((i : Int) / 2 ^ (w - 1 - j) % 2 = 1)])) (fun _ _ _ => trivial) (by rw [List.length_range, sizeLine_eq]; omega) (fun a ha j hj c yes hy => ?_) ?_
    · have hj := List.mem_range.mp hj
      simp only [↓reduceIte, ↓u_sNx, ↓u_sSeq, ↓u_nx, ↓u_rt, ↓u_bk, ↓u_ct, ↓u_sBreak, ↓u_sCont, ↓u_sDrop, ↓u_sRet, ↓u_sRetN, ↓u_sIf, ↓u_sAsg, ↓u_gC, ↓u_aNil, ↓u_aCons, ↓u_gTup, ↓u_gLst, ↓u_gLstM, ↓u_gBin, ↓u_cVal, ↓u_onBl, ↓u_onInt, ↓u_onStr, ↓u_gChain, ↓u_cAnd, ↓u_cOr, ↓u_cNot, ↓u_gAnd, ↓u_gOr, ↓u_gNot, ↓u_gIf, ↓u_gNeg, ↓u_nNil, ↓u_nCons, ↓u_nTup, ↓u_nSub, ↓u_gCB, ↓u_gCall, ↓u_gM0, ↓u_gM1, ↓u_gL, ↓u_gL0, ↓u_oNo, ↓u_oSome, ↓u_gSl, ↓u_cYes, ↓u_on1, ↓u_on2, ↓u_dInt, ↓u_dInt0, ↓u_gLc, ↓u_gLcM, ↓u_gLc2, ↓u_sNever, ↓u_iEnS, ↓u_iEnL, ↓u_iEnumD, ↓u_iZipD, ↓u_zipS, ↓u_zipL, ↓u_iSeq, ↓u_iRange1, ↓u_iRange2, ↓u_sWhile, ↓u_iRange3, ↓u_on3, ↓u_sFor, ↓u_dMax2, ↓u_dMin2, ↓u_gDct0, ↓u_gVar0, ↓u_sSet0, ↓u_nName0, ↓u_gVar1, ↓u_sSet1, ↓u_nName1, ↓u_gVar2, ↓u_sSet2, ↓u_nName2, ↓u_gVar3, ↓u_sSet3, ↓u_nName3, ↓u_gVar4, ↓u_sSet4, ↓u_nName4, ↓u_gVar5, ↓u_sSet5, ↓u_nName5, ↓u_gVar6, ↓u_sSet6, ↓u_nName6, ↓u_gVar7, ↓u_sSet7, ↓u_nName7, ↓u_gVar8, ↓u_sSet8, ↓u_nName8, ↓u_gVar9, ↓u_sSet9, ↓u_nName9, ↓u_gVar10, ↓u_sSet10, ↓u_nName10, ↓u_gVar11, ↓u_sSet11, ↓u_nName11, ↓u_gVar12, ↓u_sSet12, ↓u_nName12, ↓u_gVar13, ↓u_sSet13, ↓u_nName13, ↓u_gVar14, ↓u_sSet14, ↓u_nName14, ↓u_gVar15, ↓u_sSet15, ↓u_nName15, ↓u_gVar16, ↓u_sSet16, ↓u_nName16, ↓u_gVar17, ↓u_sSet17, ↓u_nName17, ↓dToInt_int, ↓dToInt_bl, ↓dListU_lst, ↓dListU_tup, ↓dListU_str, ↓dListUM_lst, ↓dListUM_tup, ↓dListUM_str, ↓dTuple_lst, ↓dTuple_tup, ↓dIn_lst, ↓dIn_tup, ↓dSl_str, ↓dSl_lst, ↓dSl_tup, ↓dAdd_int, ↓dAdd_str, ↓dAdd_lst, ↓dAdd_tup, ↓dMul_int, ↓dMul_str, ↓dMul_lst, ↓dIx_lst, ↓dIx_ro, ↓dIx_tup, ↓dIx_str, ↓onSome_some, ↓dLen_lst, ↓dLen_tup, ↓dLen_str, ↓dLen_ro, ↓dLen_dct, ↓items_str, ↓items_lst, ↓items_tup, ↓items_ro, ↓dAll_lst, ↓dAny_lst, ↓dSum_lst, ↓dIsi_ty, ↓dIsi_tup, ↓dIn_str, ↓onSeq_lst, ↓onSeq_tup, ↓dIs_bb, ↓dStrI_i, ↓dIsW_bb, ↓dIsW_ib, ↓dIsW_sb, ↓dIsW_nb, ↓dIsW_lb, ↓dIsW_tb, ↓dIsW_db, ↓dIsW_nn, ↓dIsW_in, ↓dIsW_sn, ↓dIsW_ln, ↓dIsW_tn, ↓dEq_ii, ↓dEq_ss, ↓dNe_ii, ↓dNe_ss, ↓dEq_nil, ↓dNe_nil, ↓dEq_bb, ↓dNe_bb, List.append_nil, List.nil_append, List.cons_append, startD, List.map_cons, List.map_nil, List.length_cons, List.length_nil, Nat.sub_self, List.replicate_zero, List.replicate_succ, List.set_cons_zero, List.set_cons_succ, List.getElem?_cons_zero, List.getElem?_cons_succ, atI_lit, vw_int, vw_str, vw_bl, vw_non, vw_lst, vw_tup, vw_dct, vw_ro, vw_obj, vw_cls, Nat.reduceAdd, Nat.reduceSub, Int.reduceToNat, Int.reduceNeg, Int.reducePow, Int.reduceAdd, Int.reduceSub, Int.reduceMul, ixN_lit, decide_eq_true_eq, decide_eq_false_iff_not, if_true, if_false, Bool.false_eq_true, Bool.not_true, Bool.not_false, Nat.reduceLT, Nat.reduceLeDiff, Int.reduceLT, Int.reduceLE, true_and, and_true, and_self, ite_true, ite_false, kind_int, kind_bl, kind_non, kind_str, kind_lst, kind_tup, kind_dct, clsAll_lt, all_lt, any_lt_l, any_lt_t, any_lt_s, any_lt_i, any_lt_b, any_lt_n, any_lt_d, kc_int, kc_bool, kc_str, kc_list, kc_tuple, kc_dict, isiT, String.reduceBEq, Bool.or_false, Bool.or_true, Bool.false_or, Bool.true_or, Bool.and_false, Bool.false_and, Bool.and_true, Bool.true_and, wipeD, Bool.not_eq_true, Bool.not_eq_false, Bool.not_eq_eq_eq_not, Bool.not_not, Bool.false_bne, Bool.true_bne, dJoin, onSome_some, sizeLine_eq, Mu.put_same, put_put, Nat.zero_le, decide_true, decide_false, flt_litc, fld_str, fld_int, fld_bl, fld_non, List.all_cons, List.all_nil, reduceCtorEq, strOk_of, eqd_int, eqd_str, eqd_bl, eqd_lst0, eqd_lst1, eqd_lst2, eqd_lst3, eqd_tup0, eqd_tup1, eqd_tup2, eqd_tup3, flt_bl, flt_non]
      rw [Int.zero_add, show ((w : Int) - 1 - (j : Nat)).toNat = w - 1 - j by omega, bit_row (by omega)]
      refine ⟨by omega, by decide, ?_⟩
      rw [rw_ov]
      by_cases hb : (i : Int) / 2 ^ (w - 1 - j) % 2 = 1
      · rw [if_pos hb]
        rw [decide_eq_true hb] at hy
        exact hy
      · rw [if_neg hb]
        rw [decide_eq_false hb] at hy
        exact hy
    · have e1 : ((List.range w).map fun (j : Nat) => D.str (rw_ [decide ((i : Int) / 2 ^ (w - 1 - j) % 2 = 1)])) = (rowOf w (i : Nat)).map fun b => D.str (rw_ [b]) := by
        unfold rowOf
        rw [List.map_map]; rfl
      rw [e1]
      simp only [↓reduceIte, ↓u_sNx, ↓u_sSeq, ↓u_nx, ↓u_rt, ↓u_bk, ↓u_ct, ↓u_sBreak, ↓u_sCont, ↓u_sDrop, ↓u_sRet, ↓u_sRetN, ↓u_sIf, ↓u_sAsg, ↓u_gC, ↓u_aNil, ↓u_aCons, ↓u_gTup, ↓u_gLst, ↓u_gLstM, ↓u_gBin, ↓u_cVal, ↓u_onBl, ↓u_onInt, ↓u_onStr, ↓u_gChain, ↓u_cAnd, ↓u_cOr, ↓u_cNot, ↓u_gAnd, ↓u_gOr, ↓u_gNot, ↓u_gIf, ↓u_gNeg, ↓u_nNil, ↓u_nCons, ↓u_nTup, ↓u_nSub, ↓u_gCB, ↓u_gCall, ↓u_gM0, ↓u_gM1, ↓u_gL, ↓u_gL0, ↓u_oNo, ↓u_oSome, ↓u_gSl, ↓u_cYes, ↓u_on1, ↓u_on2, ↓u_dInt, ↓u_dInt0, ↓u_gLc, ↓u_gLcM, ↓u_gLc2, ↓u_sNever, ↓u_iEnS, ↓u_iEnL, ↓u_iEnumD, ↓u_iZipD, ↓u_zipS, ↓u_zipL, ↓u_iSeq, ↓u_iRange1, ↓u_iRange2, ↓u_sWhile, ↓u_iRange3, ↓u_on3, ↓u_sFor, ↓u_dMax2, ↓u_dMin2, ↓u_gDct0, ↓u_gVar0, ↓u_sSet0, ↓u_nName0, ↓u_gVar1, ↓u_sSet1, ↓u_nName1, ↓u_gVar2, ↓u_sSet2, ↓u_nName2, ↓u_gVar3, ↓u_sSet3, ↓u_nName3, ↓u_gVar4, ↓u_sSet4, ↓u_nName4, ↓u_gVar5, ↓u_sSet5, ↓u_nName5, ↓u_gVar6, ↓u_sSet6, ↓u_nName6, ↓u_gVar7, ↓u_sSet7, ↓u_nName7, ↓u_gVar8, ↓u_sSet8, ↓u_nName8, ↓u_gVar9, ↓u_sSet9, ↓u_nName9, ↓u_gVar10, ↓u_sSet10, ↓u_nName10, ↓u_gVar11, ↓u_sSet11, ↓u_nName11, ↓u_gVar12, ↓u_sSet12, ↓u_nName12, ↓u_gVar13, ↓u_sSet13, ↓u_nName13, ↓u_gVar14, ↓u_sSet14, ↓u_nName14, ↓u_gVar15, ↓u_sSet15, ↓u_nName15, ↓u_gVar16, ↓u_sSet16, ↓u_nName16, ↓u_gVar17, ↓u_sSet17, ↓u_nName17, ↓dToInt_int, ↓dToInt_bl, ↓dListU_lst, ↓dListU_tup, ↓dListU_str, ↓dListUM_lst, ↓dListUM_tup, ↓dListUM_str, ↓dTuple_lst, ↓dTuple_tup, ↓dIn_lst, ↓dIn_tup, ↓dSl_str, ↓dSl_lst, ↓dSl_tup, ↓dAdd_int, ↓dAdd_str, ↓dAdd_lst, ↓dAdd_tup, ↓dMul_int, ↓dMul_str, ↓dMul_lst, ↓dIx_lst, ↓dIx_ro, ↓dIx_tup, ↓dIx_str, ↓onSome_some, ↓dLen_lst, ↓dLen_tup, ↓dLen_str, ↓dLen_ro, ↓dLen_dct, ↓items_str, ↓items_lst, ↓items_tup, ↓items_ro, ↓dAll_lst, ↓dAny_lst, ↓dSum_lst, ↓dIsi_ty, ↓dIsi_tup, ↓dIn_str, ↓onSeq_lst, ↓onSeq_tup, ↓dIs_bb, ↓dStrI_i, ↓dIsW_bb, ↓dIsW_ib, ↓dIsW_sb, ↓dIsW_nb, ↓dIsW_lb, ↓dIsW_tb, ↓dIsW_db, ↓dIsW_nn, ↓dIsW_in, ↓dIsW_sn, ↓dIsW_ln, ↓dIsW_tn, ↓dEq_ii, ↓dEq_ss, ↓dNe_ii, ↓dNe_ss, ↓dEq_nil, ↓dNe_nil, ↓dEq_bb, ↓dNe_bb, List.append_nil, List.nil_append, List.cons_append, startD, List.map_cons, List.map_nil, List.length_cons, List.length_nil, Nat.sub_self, List.replicate_zero, List.replicate_succ, List.set_cons_zero, List.set_cons_succ, List.getElem?_cons_zero, List.getElem?_cons_succ, atI_lit, vw_int, vw_str, vw_bl, vw_non, vw_lst, vw_tup, vw_dct, vw_ro, vw_obj, vw_cls, Nat.reduceAdd, Nat.reduceSub, Int.reduceToNat, Int.reduceNeg, Int.reducePow, Int.reduceAdd, Int.reduceSub, Int.reduceMul, ixN_lit, decide_eq_true_eq, decide_eq_false_iff_not, if_true, if_false, Bool.false_eq_true, Bool.not_true, Bool.not_false, Nat.reduceLT, Nat.reduceLeDiff, Int.reduceLT, Int.reduceLE, true_and, and_true, and_self, ite_true, ite_false, kind_int, kind_bl, kind_non, kind_str, kind_lst, kind_tup, kind_dct, clsAll_lt, all_lt, any_lt_l, any_lt_t, any_lt_s, any_lt_i, any_lt_b, any_lt_n, any_lt_d, kc_int, kc_bool, kc_str, kc_list, kc_tuple, kc_dict, isiT, String.reduceBEq, Bool.or_false, Bool.or_true, Bool.false_or, Bool.true_or, Bool.and_false, Bool.false_and, Bool.and_true, Bool.true_and, wipeD, Bool.not_eq_true, Bool.not_eq_false, Bool.not_eq_eq_eq_not, Bool.not_not, Bool.false_bne, Bool.true_bne, dJoin, onSome_some, sizeLine_eq, Mu.put_same, put_put, Nat.zero_le, decide_true, decide_false, flt_litc, fld_str, fld_int, fld_bl, fld_non, List.all_cons, List.all_nil, reduceCtorEq, strOk_of, eqd_int, eqd_str, eqd_bl, eqd_lst0, eqd_lst1, eqd_lst2, eqd_lst3, eqd_tup0, eqd_tup1, eqd_tup2, eqd_tup3, flt_bl, flt_non]
      rw [sts_rows, onSome_some, sum_rows, join_rows]
      refine ⟨?_, ⟨p, _, rfl, gp.dp, hok gp, by rw [rowOf_len]; omega, ⟨q, _, rfl, gq.dp, hok gq, by rw [rowOf_len]; omega, ?_⟩⟩⟩
      · rw [List.length_map, rowOf_len]
        show w + w * 0 ≤ _
        omega
      simp only [↓reduceIte, ↓u_sNx, ↓u_sSeq, ↓u_nx, ↓u_rt, ↓u_bk, ↓u_ct, ↓u_sBreak, ↓u_sCont, ↓u_sDrop, ↓u_sRet, ↓u_sRetN, ↓u_sIf, ↓u_sAsg, ↓u_gC, ↓u_aNil, ↓u_aCons, ↓u_gTup, ↓u_gLst, ↓u_gLstM, ↓u_gBin, ↓u_cVal, ↓u_onBl, ↓u_onInt, ↓u_onStr, ↓u_gChain, ↓u_cAnd, ↓u_cOr, ↓u_cNot, ↓u_gAnd, ↓u_gOr, ↓u_gNot, ↓u_gIf, ↓u_gNeg, ↓u_nNil, ↓u_nCons, ↓u_nTup, ↓u_nSub, ↓u_gCB, ↓u_gCall, ↓u_gM0, ↓u_gM1, ↓u_gL, ↓u_gL0, ↓u_oNo, ↓u_oSome, ↓u_gSl, ↓u_cYes, ↓u_on1, ↓u_on2, ↓u_dInt, ↓u_dInt0, ↓u_gLc, ↓u_gLcM, ↓u_gLc2, ↓u_sNever, ↓u_iEnS, ↓u_iEnL, ↓u_iEnumD, ↓u_iZipD, ↓u_zipS, ↓u_zipL, ↓u_iSeq, ↓u_iRange1, ↓u_iRange2, ↓u_sWhile, ↓u_iRange3, ↓u_on3, ↓u_sFor, ↓u_dMax2, ↓u_dMin2, ↓u_gDct0, ↓u_gVar0, ↓u_sSet0, ↓u_nName0, ↓u_gVar1, ↓u_sSet1, ↓u_nName1, ↓u_gVar2, ↓u_sSet2, ↓u_nName2, ↓u_gVar3, ↓u_sSet3, ↓u_nName3, ↓u_gVar4, ↓u_sSet4, ↓u_nName4, ↓u_gVar5, ↓u_sSet5, ↓u_nName5, ↓u_gVar6, ↓u_sSet6, ↓u_nName6, ↓u_gVar7, ↓u_sSet7, ↓u_nName7, ↓u_gVar8, ↓u_sSet8, ↓u_nName8, ↓u_gVar9, ↓u_sSet9, ↓u_nName9, ↓u_gVar10, ↓u_sSet10, ↓u_nName10, ↓u_gVar11, ↓u_sSet11, ↓u_nName11, ↓u_gVar12, ↓u_sSet12, ↓u_nName12, ↓u_gVar13, ↓u_sSet13, ↓u_nName13, ↓u_gVar14, ↓u_sSet14, ↓u_nName14, ↓u_gVar15, ↓u_sSet15, ↓u_nName15, ↓u_gVar16, ↓u_sSet16, ↓u_nName16, ↓u_gVar17, ↓u_sSet17, ↓u_nName17, ↓dToInt_int, ↓dToInt_bl, ↓dListU_lst, ↓dListU_tup, ↓dListU_str, ↓dListUM_lst, ↓dListUM_tup, ↓dListUM_str, ↓dTuple_lst, ↓dTuple_tup, ↓dIn_lst, ↓dIn_tup, ↓dSl_str, ↓dSl_lst, ↓dSl_tup, ↓dAdd_int, ↓dAdd_str, ↓dAdd_lst, ↓dAdd_tup, ↓dMul_int, ↓dMul_str, ↓dMul_lst, ↓dIx_lst, ↓dIx_ro, ↓dIx_tup, ↓dIx_str, ↓onSome_some, ↓dLen_lst, ↓dLen_tup, ↓dLen_str, ↓dLen_ro, ↓dLen_dct, ↓items_str, ↓items_lst, ↓items_tup, ↓items_ro, ↓dAll_lst, ↓dAny_lst, ↓dSum_lst, ↓dIsi_ty, ↓dIsi_tup, ↓dIn_str, ↓onSeq_lst, ↓onSeq_tup, ↓dIs_bb, ↓dStrI_i, ↓dIsW_bb, ↓dIsW_ib, ↓dIsW_sb, ↓dIsW_nb, ↓dIsW_lb, ↓dIsW_tb, ↓dIsW_db, ↓dIsW_nn, ↓dIsW_in, ↓dIsW_sn, ↓dIsW_ln, ↓dIsW_tn, ↓dEq_ii, ↓dEq_ss, ↓dNe_ii, ↓dNe_ss, ↓dEq_nil, ↓dNe_nil, ↓dEq_bb, ↓dNe_bb, List.append_nil, List.nil_append, List.cons_append, startD, List.map_cons, List.map_nil, List.length_cons, List.length_nil, Nat.sub_self, List.replicate_zero, List.replicate_succ, List.set_cons_zero, List.set_cons_succ, List.getElem?_cons_zero, List.getElem?_cons_succ, atI_lit, vw_int, vw_str, vw_bl, vw_non, vw_lst, vw_tup, vw_dct, vw_ro, vw_obj, vw_cls, Nat.reduceAdd, Nat.reduceSub, Int.reduceToNat, Int.reduceNeg, Int.reducePow, Int.reduceAdd, Int.reduceSub, Int.reduceMul, ixN_lit, decide_eq_true_eq, decide_eq_false_iff_not, if_true, if_false, Bool.false_eq_true, Bool.not_true, Bool.not_false, Nat.reduceLT, Nat.reduceLeDiff, Int.reduceLT, Int.reduceLE, true_and, and_true, and_self, ite_true, ite_false, kind_int, kind_bl, kind_non, kind_str, kind_lst, kind_tup, kind_dct, clsAll_lt, all_lt, any_lt_l, any_lt_t, any_lt_s, any_lt_i, any_lt_b, any_lt_n, any_lt_d, kc_int, kc_bool, kc_str, kc_list, kc_tuple, kc_dict, isiT, String.reduceBEq, Bool.or_false, Bool.or_true, Bool.false_or, Bool.true_or, Bool.and_false, Bool.false_and, Bool.and_true, Bool.true_and, wipeD, Bool.not_eq_true, Bool.not_eq_false, Bool.not_eq_eq_eq_not, Bool.not_not, Bool.false_bne, Bool.true_bne, dJoin, onSome_some, sizeLine_eq, Mu.put_same, put_put, Nat.zero_le, decide_true, decide_false, flt_litc, fld_str, fld_int, fld_bl, fld_non, List.all_cons, List.all_nil, reduceCtorEq, strOk_of, eqd_int, eqd_str, eqd_bl, eqd_lst0, eqd_lst1, eqd_lst2, eqd_lst3, eqd_tup0, eqd_tup1, eqd_tup2, eqd_tup3, flt_bl, flt_non]
      refine iteI (fun hc => ?_) fun hc => ?_
      · rw [difD_at hall hi (by simpa using hc)] at h; exact h
      · refine hN _ _ ⟨rfl, fun j hj => ?_, _, _, rfl⟩
        by_cases e : j < i
        · exact hall j e
        · obtain rfl : j = i := by omega
          simpa using hc
  · rintro ρ m' ⟨rfl, hall, x, y, rfl⟩
    rw [range_len] at hall
    rw [difD_no hall] at h
    exact h
end
end Nd

namespace Nd
open PySem L2 PyProof.Rows PySem.Spec
theorem mu_pp {m : Mu} {a : Addr} {x y : Option Cl} : (m.put a x).put a y = m.put a y := by
  funext b
  unfold Mu.put
  by_cases h : b = a
  · rw [if_pos h, if_pos h]
  · rw [if_neg h, if_neg h, if_neg h]
/-- one of two texts -/
theorem two_at {x y : Str} {i : Int} {P : D → Prop} (i0 : 0 ≤ i) (i1 : i < 2) (h1 : P (.str x)) (h2 : P (.str y)) : onSome (atI [D.str x, D.str y] i) P := by
  refine onSome_at i0 i1 fun d hd => ?_
  rcases List.mem_cons.mp hd with z | z
  · rw [z]; exact h1
  · rw [List.mem_singleton.mp z]; exact h2
def S__law_request (r : Nat) : Spec := fun ds m Q E => ∃ (a : Addr) (n : Nat) (hs : List Nat) (deep : Nat), ds = [.cel a, .lst (hs.map fun (i : Nat) => D.int i), .int (deep : Nat)] ∧ m a = some (.box n) ∧ 1 ≤ deep ∧ deep ≤ r ∧ deep ≤ 6 ∧ 1 ≤ hs.length ∧ hs.length ≤ 100 ∧ n + 4 * 2 ^ deep < 4000000 ∧
  ∀ (q : Rq) (n2 : Nat), n2 + 4 ≤ n + 4 * 2 ^ deep → q.depth ≤ deep → q.size + 1 ≤ 2 ^ deep → (∀ i ∈ q.holes, i ∈ hs) → Q q.d (m.put a (some (.box n2)))
section
variable {P : Program} {w : World} {K : PySem.W.Frag} {mg : Str → Option Value} {base : Heap} {k : Nat} {f : Addr} {fd : FuncData}
def g__law_request (S : Spec) : GS :=
  (sSeq (sSet 3 (gIf (cVal (gBin dGt (gVar 2) (gC (.int 1)))) (gCall S__law_take [] (aCons (gVar 0) (aCons (gC (.int 9)) aNil))) (gC (.int 9))))
  (sSeq (sIf (cVal (gBin dLt (gVar 3) (gC (.int 2)))) (sRet (gTup (aCons (gC (.str "not")) (aCons (gCall S [] (aCons (gVar 0) (aCons (gVar 1) (aCons (gBin dSub (gVar 2) (gC (.int 1))) aNil)))) aNil)))) sNx)
  (sSeq (sIf (cVal (gBin dLt (gVar 3) (gC (.int 7)))) (sSeq (sSet 4 (gCall S [] (aCons (gVar 0) (aCons (gVar 1) (aCons (gBin dSub (gVar 2) (gC (.int 1))) aNil)))))
  (sRet (gTup (aCons (gBin dIx (gLst (aCons (gC (.str "and")) (aCons (gC (.str "or")) aNil))) (gBin dMod (gVar 3) (gC (.int 2)))) (aCons (gVar 4) (aCons (gCall S [] (aCons (gVar 0) (aCons (gVar 1) (aCons (gBin dSub (gVar 2) (gC (.int 1))) aNil)))) aNil)))))) sNx)
  (sSeq (sIf (cVal (gBin dEq (gCall S__law_take [] (aCons (gVar 0) (aCons (gC (.int 9)) aNil))) (gC (.int 0)))) (sRet (gTup (aCons (gBin dIx (gLst (aCons (gC (.str "all")) (aCons (gC (.str "none")) aNil))) (gCall S__law_take [] (aCons (gVar 0) (aCons (gC (.int 2)) aNil)))) aNil))) sNx)
  (sRet (gTup (aCons (gBin dIx (gLst (aCons (gC (.str "open")) (aCons (gC (.str "closed")) aNil))) (gCall S__law_take [] (aCons (gVar 0) (aCons (gC (.int 2)) aNil)))) (aCons (gBin dIx (gVar 1) (gCall S__law_take [] (aCons (gVar 0) (aCons (gCB dLen (aCons (gVar 1) aNil)) aNil)))) aNil))))))))
theorem lift__law_request (r : Nat) (F : FnG P w K mg base k f fd ["box", "holes", "deep"] (wpS ["box", "holes", "deep"] ["box", "holes", "deep", "way", "one"] (g__law_request (RS S__law_request r)))) : FnG P w K mg base k f fd ["box", "holes", "deep"] (S__law_request r) := F.imp fun ds m Q E h => by
  obtain ⟨a, n, hs, deep, rfl, hm, d1, d2, d6, h1, h2, hn, q⟩ := h
  refine ⟨rfl, ?_⟩
  simp only [g__law_request, ↓reduceIte, ↓u_sNx, ↓u_sSeq, ↓u_nx, ↓u_rt, ↓u_bk, ↓u_ct, ↓u_sBreak, ↓u_sCont, ↓u_sDrop, ↓u_sRet, ↓u_sRetN, ↓u_sIf, ↓u_sAsg, ↓u_gC, ↓u_aNil, ↓u_aCons, ↓u_gTup, ↓u_gLst, ↓u_gLstM, ↓u_gBin, ↓u_cVal, ↓u_onBl, ↓u_onInt, ↓u_onStr, ↓u_gChain, ↓u_cAnd, ↓u_cOr, ↓u_cNot, ↓u_gAnd, ↓u_gOr, ↓u_gNot, ↓u_gIf, ↓u_gNeg, ↓u_nNil, ↓u_nCons, ↓u_nTup, ↓u_nSub, ↓u_gCB, ↓u_gCall, ↓u_gM0, ↓u_gM1, ↓u_gL, ↓u_gL0, ↓u_oNo, ↓u_oSome, ↓u_gSl, ↓u_cYes, ↓u_on1, ↓u_on2, ↓u_dInt, ↓u_dInt0, ↓u_gLc, ↓u_gLcM, ↓u_gLc2, ↓u_sNever, ↓u_iEnS, ↓u_iEnL, ↓u_iEnumD, ↓u_iZipD, ↓u_zipS, ↓u_zipL, ↓u_iSeq, ↓u_iRange1, ↓u_iRange2, ↓u_sWhile, ↓u_iRange3, ↓u_on3, ↓u_sFor, ↓u_dMax2, ↓u_dMin2, ↓u_gDct0, ↓u_gVar0, ↓u_sSet0, ↓u_nName0, ↓u_gVar1, ↓u_sSet1, ↓u_nName1, ↓u_gVar2, ↓u_sSet2, ↓u_nName2, ↓u_gVar3, ↓u_sSet3, ↓u_nName3, ↓u_gVar4, ↓u_sSet4, ↓u_nName4, ↓u_gVar5, ↓u_sSet5, ↓u_nName5, ↓u_gVar6, ↓u_sSet6, ↓u_nName6, ↓u_gVar7, ↓u_sSet7, ↓u_nName7, ↓u_gVar8, ↓u_sSet8, ↓u_nName8, ↓u_gVar9, ↓u_sSet9, ↓u_nName9, ↓u_gVar10, ↓u_sSet10, ↓u_nName10, ↓u_gVar11, ↓u_sSet11, ↓u_nName11, ↓u_gVar12, ↓u_sSet12, ↓u_nName12, ↓u_gVar13, ↓u_sSet13, ↓u_nName13, ↓u_gVar14, ↓u_sSet14, ↓u_nName14, ↓u_gVar15, ↓u_sSet15, ↓u_nName15, ↓u_gVar16, ↓u_sSet16, ↓u_nName16, ↓u_gVar17, ↓u_sSet17, ↓u_nName17, ↓dToInt_int, ↓dToInt_bl, ↓dListU_lst, ↓dListU_tup, ↓dListU_str, ↓dListUM_lst, ↓dListUM_tup, ↓dListUM_str, ↓dTuple_lst, ↓dTuple_tup, ↓dIn_lst, ↓dIn_tup, ↓dSl_str, ↓dSl_lst, ↓dSl_tup, ↓dAdd_int, ↓dAdd_str, ↓dAdd_lst, ↓dAdd_tup, ↓dMul_int, ↓dMul_str, ↓dMul_lst, ↓dIx_lst, ↓dIx_ro, ↓dIx_tup, ↓dIx_str, ↓onSome_some, ↓dLen_lst, ↓dLen_tup, ↓dLen_str, ↓dLen_ro, ↓dLen_dct, ↓items_str, ↓items_lst, ↓items_tup, ↓items_ro, ↓dAll_lst, ↓dAny_lst, ↓dSum_lst, ↓dIsi_ty, ↓dIsi_tup, ↓dIn_str, ↓onSeq_lst, ↓onSeq_tup, ↓dIs_bb, ↓dStrI_i, ↓dIsW_bb, ↓dIsW_ib, ↓dIsW_sb, ↓dIsW_nb, ↓dIsW_lb, ↓dIsW_tb, ↓dIsW_db, ↓dIsW_nn, ↓dIsW_in, ↓dIsW_sn, ↓dIsW_ln, ↓dIsW_tn, ↓dEq_ii, ↓dEq_ss, ↓dNe_ii, ↓dNe_ss, ↓dEq_nil, ↓dNe_nil, ↓dEq_bb, ↓dNe_bb, List.append_nil, List.nil_append, List.cons_append, startD, List.map_cons, List.map_nil, List.length_cons, List.length_nil, Nat.sub_self, List.replicate_zero, List.replicate_succ, List.set_cons_zero, List.set_cons_succ, List.getElem?_cons_zero, List.getElem?_cons_succ, atI_lit, vw_int, vw_str, vw_bl, vw_non, vw_lst, vw_tup, vw_dct, vw_ro, vw_obj, vw_cls, Nat.reduceAdd, Nat.reduceSub, Int.reduceToNat, Int.reduceNeg, Int.reducePow, Int.reduceAdd, Int.reduceSub, Int.reduceMul, ixN_lit, decide_eq_true_eq, decide_eq_false_iff_not, if_true, if_false, Bool.false_eq_true, Bool.not_true, Bool.not_false, Nat.reduceLT, Nat.reduceLeDiff, Int.reduceLT, Int.reduceLE, true_and, and_true, and_self, ite_true, ite_false, kind_int, kind_bl, kind_non, kind_str, kind_lst, kind_tup, kind_dct, clsAll_lt, all_lt, any_lt_l, any_lt_t, any_lt_s, any_lt_i, any_lt_b, any_lt_n, any_lt_d, kc_int, kc_bool, kc_str, kc_list, kc_tuple, kc_dict, isiT, String.reduceBEq, Bool.or_false, Bool.or_true, Bool.false_or, Bool.true_or, Bool.and_false, Bool.false_and, Bool.and_true, Bool.true_and, wipeD, Bool.not_eq_true, Bool.not_eq_false, Bool.not_eq_eq_eq_not, Bool.not_not, Bool.false_bne, Bool.true_bne, dJoin, onSome_some, sizeLine_eq, Mu.put_same, put_put, Nat.zero_le, decide_true, decide_false, flt_litc, fld_str, fld_int, fld_bl, fld_non, List.all_cons, List.all_nil, reduceCtorEq, strOk_of, eqd_int, eqd_str, eqd_bl, eqd_lst0, eqd_lst1, eqd_lst2, eqd_lst3, eqd_tup0, eqd_tup1, eqd_tup2, eqd_tup3, flt_bl, flt_non, List.length_map]
  have p2 : 2 ≤ 2 ^ deep := by
    obtain ⟨j, rfl⟩ : ∃ j, deep = j + 1 := ⟨deep - 1, by omega⟩
    have : 1 ≤ 2 ^ j := Nat.one_le_two_pow
    rw [Nat.pow_succ]; omega
  have leaf : ∀ n0, n0 ≤ n + 1 → S__law_take [D.cel a, D.int 9] (m.put a (some (.box n0)))
      (fun x m1 =>
        dEq x (D.int 0) m1 fun d m2 =>
          onBl d fun b =>
            if b = true then
              S__law_take [D.cel a, D.int 2] m2
                (fun y m2 =>
                  dIx (D.lst [D.str (Str.ofString "all"), D.str (Str.ofString "none")]) y m2 fun d m1 =>
                    Q (D.tup [d]) m1)
                fun y m2 => E y m2
            else
              S__law_take [D.cel a, D.int 2] m2
                (fun y m2 =>
                  dIx (D.lst [D.str (Str.ofString "open"), D.str (Str.ofString "closed")]) y m2 fun d m1 =>
                    S__law_take [D.cel a, D.int ((hs.length : Nat) : Int)] m1
                      (fun y m2 => dIx (D.lst (hs.map fun (i : Nat) => D.int i)) y m2 fun d_1 m1 => Q (D.tup [d, d_1]) m1) fun y m2 => E y m2)
                fun y m2 => E y m2)
      fun y m2 => E y m2 := fun n0 hn0 => by
    refine take_ok Mu.put_same (by omega) (by omega) (by omega) fun r r0 r1 => ?_
    simp only [↓reduceIte, ↓u_sNx, ↓u_sSeq, ↓u_nx, ↓u_rt, ↓u_bk, ↓u_ct, ↓u_sBreak, ↓u_sCont, ↓u_sDrop, ↓u_sRet, ↓u_sRetN, ↓u_sIf, ↓u_sAsg, ↓u_gC, ↓u_aNil, ↓u_aCons, ↓u_gTup, ↓u_gLst, ↓u_gLstM, ↓u_gBin, ↓u_cVal, ↓u_onBl, ↓u_onInt, ↓u_onStr, ↓u_gChain, ↓u_cAnd, ↓u_cOr, ↓u_cNot, ↓u_gAnd, ↓u_gOr, ↓u_gNot, ↓u_gIf, ↓u_gNeg, ↓u_nNil, ↓u_nCons, ↓u_nTup, ↓u_nSub, ↓u_gCB, ↓u_gCall, ↓u_gM0, ↓u_gM1, ↓u_gL, ↓u_gL0, ↓u_oNo, ↓u_oSome, ↓u_gSl, ↓u_cYes, ↓u_on1, ↓u_on2, ↓u_dInt, ↓u_dInt0, ↓u_gLc, ↓u_gLcM, ↓u_gLc2, ↓u_sNever, ↓u_iEnS, ↓u_iEnL, ↓u_iEnumD, ↓u_iZipD, ↓u_zipS, ↓u_zipL, ↓u_iSeq, ↓u_iRange1, ↓u_iRange2, ↓u_sWhile, ↓u_iRange3, ↓u_on3, ↓u_sFor, ↓u_dMax2, ↓u_dMin2, ↓u_gDct0, ↓u_gVar0, ↓u_sSet0, ↓u_nName0, ↓u_gVar1, ↓u_sSet1, ↓u_nName1, ↓u_gVar2, ↓u_sSet2, ↓u_nName2, ↓u_gVar3, ↓u_sSet3, ↓u_nName3, ↓u_gVar4, ↓u_sSet4, ↓u_nName4, ↓u_gVar5, ↓u_sSet5, ↓u_nName5, ↓u_gVar6, ↓u_sSet6, ↓u_nName6, ↓u_gVar7, ↓u_sSet7, ↓u_nName7, ↓u_gVar8, ↓u_sSet8, ↓u_nName8, ↓u_gVar9, ↓u_sSet9, ↓u_nName9, ↓u_gVar10, ↓u_sSet10, ↓u_nName10, ↓u_gVar11, ↓u_sSet11, ↓u_nName11, ↓u_gVar12, ↓u_sSet12, ↓u_nName12, ↓u_gVar13, ↓u_sSet13, ↓u_nName13, ↓u_gVar14, ↓u_sSet14, ↓u_nName14, ↓u_gVar15, ↓u_sSet15, ↓u_nName15, ↓u_gVar16, ↓u_sSet16, ↓u_nName16, ↓u_gVar17, ↓u_sSet17, ↓u_nName17, ↓dToInt_int, ↓dToInt_bl, ↓dListU_lst, ↓dListU_tup, ↓dListU_str, ↓dListUM_lst, ↓dListUM_tup, ↓dListUM_str, ↓dTuple_lst, ↓dTuple_tup, ↓dIn_lst, ↓dIn_tup, ↓dSl_str, ↓dSl_lst, ↓dSl_tup, ↓dAdd_int, ↓dAdd_str, ↓dAdd_lst, ↓dAdd_tup, ↓dMul_int, ↓dMul_str, ↓dMul_lst, ↓dIx_lst, ↓dIx_ro, ↓dIx_tup, ↓dIx_str, ↓onSome_some, ↓dLen_lst, ↓dLen_tup, ↓dLen_str, ↓dLen_ro, ↓dLen_dct, ↓items_str, ↓items_lst, ↓items_tup, ↓items_ro, ↓dAll_lst, ↓dAny_lst, ↓dSum_lst, ↓dIsi_ty, ↓dIsi_tup, ↓dIn_str, ↓onSeq_lst, ↓onSeq_tup, ↓dIs_bb, ↓dStrI_i, ↓dIsW_bb, ↓dIsW_ib, ↓dIsW_sb, ↓dIsW_nb, ↓dIsW_lb, ↓dIsW_tb, ↓dIsW_db, ↓dIsW_nn, ↓dIsW_in, ↓dIsW_sn, ↓dIsW_ln, ↓dIsW_tn, ↓dEq_ii, ↓dEq_ss, ↓dNe_ii, ↓dNe_ss, ↓dEq_nil, ↓dNe_nil, ↓dEq_bb, ↓dNe_bb, List.append_nil, List.nil_append, List.cons_append, startD, List.map_cons, List.map_nil, List.length_cons, List.length_nil, Nat.sub_self, List.replicate_zero, List.replicate_succ, List.set_cons_zero, List.set_cons_succ, List.getElem?_cons_zero, List.getElem?_cons_succ, atI_lit, vw_int, vw_str, vw_bl, vw_non, vw_lst, vw_tup, vw_dct, vw_ro, vw_obj, vw_cls, Nat.reduceAdd, Nat.reduceSub, Int.reduceToNat, Int.reduceNeg, Int.reducePow, Int.reduceAdd, Int.reduceSub, Int.reduceMul, ixN_lit, decide_eq_true_eq, decide_eq_false_iff_not, if_true, if_false, Bool.false_eq_true, Bool.not_true, Bool.not_false, Nat.reduceLT, Nat.reduceLeDiff, Int.reduceLT, Int.reduceLE, true_and, and_true, and_self, ite_true, ite_false, kind_int, kind_bl, kind_non, kind_str, kind_lst, kind_tup, kind_dct, clsAll_lt, all_lt, any_lt_l, any_lt_t, any_lt_s, any_lt_i, any_lt_b, any_lt_n, any_lt_d, kc_int, kc_bool, kc_str, kc_list, kc_tuple, kc_dict, isiT, String.reduceBEq, Bool.or_false, Bool.or_true, Bool.false_or, Bool.true_or, Bool.and_false, Bool.false_and, Bool.and_true, Bool.true_and, wipeD, Bool.not_eq_true, Bool.not_eq_false, Bool.not_eq_eq_eq_not, Bool.not_not, Bool.false_bne, Bool.true_bne, dJoin, onSome_some, sizeLine_eq, Mu.put_same, put_put, Nat.zero_le, decide_true, decide_false, flt_litc, fld_str, fld_int, fld_bl, fld_non, List.all_cons, List.all_nil, reduceCtorEq, strOk_of, eqd_int, eqd_str, eqd_bl, eqd_lst0, eqd_lst1, eqd_lst2, eqd_lst3, eqd_tup0, eqd_tup1, eqd_tup2, eqd_tup3, flt_bl, flt_non]
    refine ⟨flt_int (by omega) (by omega), ?_⟩
    refine iteI (fun hr => ?_) fun hr => ?_
    · refine take_ok Mu.put_same (by omega) (by omega) (by omega) fun r r0 r1 => ?_
      simp only [mu_pp]
      rw [dIx_lst]
      refine two_at r0 r1 ?_ ?_
      · exact q .all _ (by omega) (by simp [Rq.depth]; omega) (by simp [Rq.size]; omega) (by simp [Rq.holes])
      · exact q .non _ (by omega) (by simp [Rq.depth]; omega) (by simp [Rq.size]; omega) (by simp [Rq.holes])
    · refine take_ok Mu.put_same (by omega) (by omega) (by omega) fun r r0 r1 => ?_
      simp only [mu_pp]
      rw [dIx_lst]
      have go : ∀ (f : Nat → Rq) (t : D), (∀ i, (f i).d = .tup [t, .int (i : Nat)] ∧ (f i).depth = 1 ∧ (f i).size = 1 ∧ (f i).holes = [i]) → ∀ n0, n0 ≤ n + 3 → S__law_take [D.cel a, D.int ((hs.length : Nat) : Int)] (m.put a (some (.box n0)))
                      (fun y m2 => dIx (D.lst (hs.map fun (i : Nat) => D.int i)) y m2 fun d_1 m1 => Q (D.tup [t, d_1]) m1) fun y m2 => E y m2 := fun f t hf n0 h0 => by
        refine take_ok Mu.put_same (by omega) (by omega) (by omega) fun r r0 r1 => ?_
        simp only [mu_pp]
        rw [dIx_lst]
        refine onSome_at r0 (by rw [List.length_map]; omega) fun d2 hd2 => ?_
        obtain ⟨i, hi, rfl⟩ := List.mem_map.mp hd2
        obtain ⟨e1, e2, e3, e4⟩ := hf i
        rw [← e1]
        exact q _ _ (by omega) (by omega) (by omega) (by rw [e4]; intro j hj; rw [List.mem_singleton.mp hj]; exact hi)
      refine two_at r0 r1 ?_ ?_
      · exact go .opn _ (fun i => ⟨rfl, rfl, rfl, rfl⟩) _ (by omega)
      · exact go .cls _ (fun i => ⟨rfl, rfl, rfl, rfl⟩) _ (by omega)
  have go : ∀ (r : Nat) (n0 : Nat) (Q2 : D → Mu → Prop) (E2 : XD → Mu → Prop), deep ≤ r + 1 → 1 < deep → n0 + 4 ≤ n + 1 + 4 * 2 ^ (deep - 1) →
      (∀ (q : Rq) (n2 : Nat), n2 + 4 ≤ n0 + 4 * 2 ^ (deep - 1) → q.depth + 1 ≤ deep → q.size + 1 ≤ 2 ^ (deep - 1) → (∀ i ∈ q.holes, i ∈ hs) → Q2 q.d (m.put a (some (.box n2)))) →
      RS S__law_request (r + 1) [D.cel a, D.lst (hs.map fun (i : Nat) => D.int i), D.int ((deep : Int) - 1)] (m.put a (some (.box n0))) Q2 E2 := fun r n0 Q2 E2 hr hd h3 h4 => by
    have e2 : 2 ^ deep = 2 ^ (deep - 1) * 2 := by rw [← Nat.pow_succ]; congr 1; omega
    refine ⟨a, n0, hs, deep - 1, by rw [show ((deep : Int) - 1) = ((deep - 1 : Nat) : Int) by omega], Mu.put_same, by omega, by omega, by omega, h1, h2, by omega, fun q n2 h5 h6 h7 h8 => ?_⟩
    rw [mu_pp]
    exact h4 q n2 h5 (by omega) h7 h8
  refine iteI (fun hd => ?_) fun hd => ?_
  · refine take_ok hm (by omega) (by omega) (by omega) fun w r0 r1 => ?_
    simp only [↓reduceIte, ↓u_sNx, ↓u_sSeq, ↓u_nx, ↓u_rt, ↓u_bk, ↓u_ct, ↓u_sBreak, ↓u_sCont, ↓u_sDrop, ↓u_sRet, ↓u_sRetN, ↓u_sIf, ↓u_sAsg, ↓u_gC, ↓u_aNil, ↓u_aCons, ↓u_gTup, ↓u_gLst, ↓u_gLstM, ↓u_gBin, ↓u_cVal, ↓u_onBl, ↓u_onInt, ↓u_onStr, ↓u_gChain, ↓u_cAnd, ↓u_cOr, ↓u_cNot, ↓u_gAnd, ↓u_gOr, ↓u_gNot, ↓u_gIf, ↓u_gNeg, ↓u_nNil, ↓u_nCons, ↓u_nTup, ↓u_nSub, ↓u_gCB, ↓u_gCall, ↓u_gM0, ↓u_gM1, ↓u_gL, ↓u_gL0, ↓u_oNo, ↓u_oSome, ↓u_gSl, ↓u_cYes, ↓u_on1, ↓u_on2, ↓u_dInt, ↓u_dInt0, ↓u_gLc, ↓u_gLcM, ↓u_gLc2, ↓u_sNever, ↓u_iEnS, ↓u_iEnL, ↓u_iEnumD, ↓u_iZipD, ↓u_zipS, ↓u_zipL, ↓u_iSeq, ↓u_iRange1, ↓u_iRange2, ↓u_sWhile, ↓u_iRange3, ↓u_on3, ↓u_sFor, ↓u_dMax2, ↓u_dMin2, ↓u_gDct0, ↓u_gVar0, ↓u_sSet0, ↓u_nName0, ↓u_gVar1, ↓u_sSet1, ↓u_nName1, ↓u_gVar2, ↓u_sSet2, ↓u_nName2, ↓u_gVar3, ↓u_sSet3, ↓u_nName3, ↓u_gVar4, ↓u_sSet4, ↓u_nName4, ↓u_gVar5, ↓u_sSet5, ↓u_nName5, ↓u_gVar6, ↓u_sSet6, ↓u_nName6, ↓u_gVar7, ↓u_sSet7, ↓u_nName7, ↓u_gVar8, ↓u_sSet8, ↓u_nName8, ↓u_gVar9, ↓u_sSet9, ↓u_nName9, ↓u_gVar10, ↓u_sSet10, ↓u_nName10, ↓u_gVar11, ↓u_sSet11, ↓u_nName11, ↓u_gVar12, ↓u_sSet12, ↓u_nName12, ↓u_gVar13, ↓u_sSet13, ↓u_nName13, ↓u_gVar14, ↓u_sSet14, ↓u_nName14, ↓u_gVar15, ↓u_sSet15, ↓u_nName15, ↓u_gVar16, ↓u_sSet16, ↓u_nName16, ↓u_gVar17, ↓u_sSet17, ↓u_nName17, ↓dToInt_int, ↓dToInt_bl, ↓dListU_lst, ↓dListU_tup, ↓dListU_str, ↓dListUM_lst, ↓dListUM_tup, ↓dListUM_str, ↓dTuple_lst, ↓dTuple_tup, ↓dIn_lst, ↓dIn_tup, ↓dSl_str, ↓dSl_lst, ↓dSl_tup, ↓dAdd_int, ↓dAdd_str, ↓dAdd_lst, ↓dAdd_tup, ↓dMul_int, ↓dMul_str, ↓dMul_lst, ↓dIx_lst, ↓dIx_ro, ↓dIx_tup, ↓dIx_str, ↓onSome_some, ↓dLen_lst, ↓dLen_tup, ↓dLen_str, ↓dLen_ro, ↓dLen_dct, ↓items_str, ↓items_lst, ↓items_tup, ↓items_ro, ↓dAll_lst, ↓dAny_lst, ↓dSum_lst, ↓dIsi_ty, ↓dIsi_tup, ↓dIn_str, ↓onSeq_lst, ↓onSeq_tup, ↓dIs_bb, ↓dStrI_i, ↓dIsW_bb, ↓dIsW_ib, ↓dIsW_sb, ↓dIsW_nb, ↓dIsW_lb, ↓dIsW_tb, ↓dIsW_db, ↓dIsW_nn, ↓dIsW_in, ↓dIsW_sn, ↓dIsW_ln, ↓dIsW_tn, ↓dEq_ii, ↓dEq_ss, ↓dNe_ii, ↓dNe_ss, ↓dEq_nil, ↓dNe_nil, ↓dEq_bb, ↓dNe_bb, List.append_nil, List.nil_append, List.cons_append, startD, List.map_cons, List.map_nil, List.length_cons, List.length_nil, Nat.sub_self, List.replicate_zero, List.replicate_succ, List.set_cons_zero, List.set_cons_succ, List.getElem?_cons_zero, List.getElem?_cons_succ, atI_lit, vw_int, vw_str, vw_bl, vw_non, vw_lst, vw_tup, vw_dct, vw_ro, vw_obj, vw_cls, Nat.reduceAdd, Nat.reduceSub, Int.reduceToNat, Int.reduceNeg, Int.reducePow, Int.reduceAdd, Int.reduceSub, Int.reduceMul, ixN_lit, decide_eq_true_eq, decide_eq_false_iff_not, if_true, if_false, Bool.false_eq_true, Bool.not_true, Bool.not_false, Nat.reduceLT, Nat.reduceLeDiff, Int.reduceLT, Int.reduceLE, true_and, and_true, and_self, ite_true, ite_false, kind_int, kind_bl, kind_non, kind_str, kind_lst, kind_tup, kind_dct, clsAll_lt, all_lt, any_lt_l, any_lt_t, any_lt_s, any_lt_i, any_lt_b, any_lt_n, any_lt_d, kc_int, kc_bool, kc_str, kc_list, kc_tuple, kc_dict, isiT, String.reduceBEq, Bool.or_false, Bool.or_true, Bool.false_or, Bool.true_or, Bool.and_false, Bool.false_and, Bool.and_true, Bool.true_and, wipeD, Bool.not_eq_true, Bool.not_eq_false, Bool.not_eq_eq_eq_not, Bool.not_not, Bool.false_bne, Bool.true_bne, dJoin, onSome_some, sizeLine_eq, Mu.put_same, put_put, Nat.zero_le, decide_true, decide_false, flt_litc, fld_str, fld_int, fld_bl, fld_non, List.all_cons, List.all_nil, reduceCtorEq, strOk_of, eqd_int, eqd_str, eqd_bl, eqd_lst0, eqd_lst1, eqd_lst2, eqd_lst3, eqd_tup0, eqd_tup1, eqd_tup2, eqd_tup3, flt_bl, flt_non]
    have e2 : 2 ^ deep = 2 ^ (deep - 1) * 2 := by rw [← Nat.pow_succ]; congr 1; omega
    have p1 : 1 ≤ 2 ^ (deep - 1) := Nat.one_le_two_pow
    obtain ⟨r, rfl⟩ : ∃ j, r = j + 1 := ⟨r - 1, by omega⟩
    refine iteI (fun hw => ?_) fun hw => iteI (fun hw2 => ?_) fun hw2 => ?_
    · refine go _ _ _ _ (by omega) (by omega) (by omega) fun p n2 h3 h4 h5 h6 => ?_
      exact q (.not p) _ (by omega) (by simp only [Rq.depth]; omega) (by simp only [Rq.size]; omega) h6
    · refine go _ _ _ _ (by omega) (by omega) (by omega) fun p n2 h3 h4 h5 h6 => ?_
      have hh : ∀ {p1 p2 : Rq}, (∀ i ∈ p1.holes, i ∈ hs) → (∀ i ∈ p2.holes, i ∈ hs) → ∀ i ∈ p1.holes ++ p2.holes, i ∈ hs := fun h1 h2 i hi => (List.mem_append.mp hi).elim (h1 i) (h2 i)
      refine two_at (Int.emod_nonneg _ (by decide)) (Int.emod_lt_of_pos _ (by decide)) ?_ ?_
      · refine go _ _ _ _ (by omega) (by omega) (by omega) fun p2 n3 h3 h4 h5 h7 => ?_
        exact q (.and p p2) _ (by omega) (by simp only [Rq.depth]; omega) (by simp only [Rq.size]; omega) (hh h6 h7)
      · refine go _ _ _ _ (by omega) (by omega) (by omega) fun p2 n3 h3 h4 h5 h7 => ?_
        exact q (.or p p2) _ (by omega) (by simp only [Rq.depth]; omega) (by simp only [Rq.size]; omega) (hh h6 h7)
    · exact leaf _ (by omega)
  · have := leaf n (by omega)
    rwa [put_self hm] at this
end
end Nd

namespace Nd
open PySem L2 PyProof.Rows PySem.Spec
theorem c3a (x y z : D) : cutD [x, y, z] none (some 1) = [x] := rfl
theorem c3b (x y z : D) : cutD [x, y, z] (some 2) none = [z] := rfl
theorem c3c (x y z : D) : cutD [x, y, z] none (some 2) = [x, y] := rfl
theorem c3d (x y z : D) : cutD [x, y, z] (some 3) none = [] := rfl
theorem c2a (x y : D) : cutD [x, y] none (some 1) = [x] := rfl
theorem c2b (x y : D) : cutD [x, y] (some 2) none = [] := rfl
def S__law_leaf_bent (r : Nat) : Spec := fun ds m Q E => ∃ (a : Addr) (n : Nat) (hs : List Nat) (p : Rq), ds = [.cel a, p.d, .lst (hs.map fun (i : Nat) => D.int i)] ∧ m a = some (.box n) ∧ p.depth ≤ r ∧ p.depth ≤ 10 ∧ (∀ i ∈ p.holes, i ∈ hs) ∧ 1 ≤ hs.length ∧ hs.length ≤ 100 ∧ n + 10 * p.depth < 4000000 ∧
  ∀ (q : Rq) (n2 : Nat), n2 ≤ n + 10 * p.depth → q.depth ≤ p.depth → q.size ≤ p.size → (∀ i ∈ q.holes, i ∈ hs) → Q q.d (m.put a (some (.box n2)))
def S__law_holes (r : Nat) : Spec := fun _ _ _ _ => False
section
variable {P : Program} {w : World} {K : PySem.W.Frag} {mg : Str → Option Value} {base : Heap} {k : Nat} {f : Addr} {fd : FuncData}
def g__law_holes (S : Spec) : GS :=
  (sSeq (sIf (cOr (cVal (gBin dEq (gBin dIx (gVar 0) (gC (.int 0))) (gC (.str "open")))) (cVal (gBin dEq (gBin dIx (gVar 0) (gC (.int 0))) (gC (.str "closed"))))) (sRet (gLst (aCons (gBin dIx (gVar 0) (gC (.int 1))) aNil))) sNx)
  (sSeq (sSet 1 (gLstM aNil))
  (sSeq (sFor (iSeq (gCall S__law_parts [] (aCons (gVar 0) aNil))) (nName 2) (sDrop (gL dExtend (gVar 1) (aCons (gCall S [] (aCons (gVar 2) aNil)) aNil))))
  (sRet (gVar 1)))))
theorem lift__law_holes (r : Nat) (F : FnG P w K mg base k f fd ["request"] (wpS ["request"] ["request", "found", "part"] (g__law_holes (RS S__law_holes r)))) : FnG P w K mg base k f fd ["request"] (S__law_holes r) := F.imp fun ds m Q E h => by
  exact h.elim
def g__law_leaf_bent (S : Spec) : GS :=
  (sSeq (sIf (cVal (gBin (dIn false) (gBin dIx (gVar 1) (gC (.int 0))) (gTup (aCons (gC (.str "open")) (aCons (gC (.str "closed")) (aCons (gC (.str "all")) (aCons (gC (.str "none")) aNil))))))) (sRet (gBin dIx (gLst (aCons (gTup (aCons (gC (.str "open")) (aCons (gBin dIx (gVar 2) (gCall S__law_take [] (aCons (gVar 0) (aCons (gCB dLen (aCons (gVar 2) aNil)) aNil)))) aNil))) (aCons (gTup (aCons (gC (.str "closed")) (aCons (gBin dIx (gVar 2) (gC (.int 0))) aNil))) (aCons (gTup (aCons (gC (.str "all")) aNil)) aNil)))) (gCall S__law_take [] (aCons (gVar 0) (aCons (gC (.int 3)) aNil))))) sNx)
  (sSeq (sSet 3 (gBin dAdd (gC (.int 1)) (gCall S__law_take [] (aCons (gVar 0) (aCons (gBin dSub (gCB dLen (aCons (gVar 1) aNil)) (gC (.int 1))) aNil)))))
  (sRet (gBin dAdd (gBin dAdd (gSl (gVar 1) oNo (oSome (gVar 3))) (gTup (aCons (gCall S [] (aCons (gVar 0) (aCons (gBin dIx (gVar 1) (gVar 3)) (aCons (gVar 2) aNil)))) aNil))) (gSl (gVar 1) (oSome (gBin dAdd (gVar 3) (gC (.int 1)))) oNo)))))
theorem lift__law_leaf_bent (r : Nat) (F : FnG P w K mg base k f fd ["box", "request", "holes"] (wpS ["box", "request", "holes"] ["box", "request", "holes", "at"] (g__law_leaf_bent (RS S__law_leaf_bent r)))) : FnG P w K mg base k f fd ["box", "request", "holes"] (S__law_leaf_bent r) := F.imp fun ds m Q E h => by
  obtain ⟨a, n, hs, p, rfl, hm, d1, d2, hp, h1, h2, hn, q⟩ := h
  refine ⟨rfl, ?_⟩
  obtain ⟨r, rfl⟩ : ∃ j, r = j + 1 := ⟨r - 1, by have := p.depth1; omega⟩
  have leaf : p.depth = 1 → p.size = 1 → S__law_take [D.cel a, D.int (hs.length : Nat)] m (fun y m2 => dIx (D.lst (hs.map fun (i : Nat) => D.int i)) y m2 fun d m1 => onSome (hs.map fun (i : Nat) => D.int i)[0]? fun d_1 => S__law_take [D.cel a, D.int 3] m1
      (fun y m2 => dIx (D.lst [D.tup [D.str (Str.ofString "open"), d], D.tup [D.str (Str.ofString "closed"), d_1], D.tup [D.str (Str.ofString "all")]]) y m2 Q) fun y m2 => E y m2) (fun y m2 => E y m2) := fun e1 e2 => by
    refine take_ok hm (by omega) (by omega) (by omega) fun r r0 r1 => ?_
    simp only [↓reduceIte, ↓u_sNx, ↓u_sSeq, ↓u_nx, ↓u_rt, ↓u_bk, ↓u_ct, ↓u_sBreak, ↓u_sCont, ↓u_sDrop, ↓u_sRet, ↓u_sRetN, ↓u_sIf, ↓u_sAsg, ↓u_gC, ↓u_aNil, ↓u_aCons, ↓u_gTup, ↓u_gLst, ↓u_gLstM, ↓u_gBin, ↓u_cVal, ↓u_onBl, ↓u_onInt, ↓u_onStr, ↓u_gChain, ↓u_cAnd, ↓u_cOr, ↓u_cNot, ↓u_gAnd, ↓u_gOr, ↓u_gNot, ↓u_gIf, ↓u_gNeg, ↓u_nNil, ↓u_nCons, ↓u_nTup, ↓u_nSub, ↓u_gCB, ↓u_gCall, ↓u_gM0, ↓u_gM1, ↓u_gL, ↓u_gL0, ↓u_oNo, ↓u_oSome, ↓u_gSl, ↓u_cYes, ↓u_on1, ↓u_on2, ↓u_dInt, ↓u_dInt0, ↓u_gLc, ↓u_gLcM, ↓u_gLc2, ↓u_sNever, ↓u_iEnS, ↓u_iEnL, ↓u_iEnumD, ↓u_iZipD, ↓u_zipS, ↓u_zipL, ↓u_iSeq, ↓u_iRange1, ↓u_iRange2, ↓u_sWhile, ↓u_iRange3, ↓u_on3, ↓u_sFor, ↓u_dMax2, ↓u_dMin2, ↓u_gDct0, ↓u_gVar0, ↓u_sSet0, ↓u_nName0, ↓u_gVar1, ↓u_sSet1, ↓u_nName1, ↓u_gVar2, ↓u_sSet2, ↓u_nName2, ↓u_gVar3, ↓u_sSet3, ↓u_nName3, ↓u_gVar4, ↓u_sSet4, ↓u_nName4, ↓u_gVar5, ↓u_sSet5, ↓u_nName5, ↓u_gVar6, ↓u_sSet6, ↓u_nName6, ↓u_gVar7, ↓u_sSet7, ↓u_nName7, ↓u_gVar8, ↓u_sSet8, ↓u_nName8, ↓u_gVar9, ↓u_sSet9, ↓u_nName9, ↓u_gVar10, ↓u_sSet10, ↓u_nName10, ↓u_gVar11, ↓u_sSet11, ↓u_nName11, ↓u_gVar12, ↓u_sSet12, ↓u_nName12, ↓u_gVar13, ↓u_sSet13, ↓u_nName13, ↓u_gVar14, ↓u_sSet14, ↓u_nName14, ↓u_gVar15, ↓u_sSet15, ↓u_nName15, ↓u_gVar16, ↓u_sSet16, ↓u_nName16, ↓u_gVar17, ↓u_sSet17, ↓u_nName17, ↓dToInt_int, ↓dToInt_bl, ↓dListU_lst, ↓dListU_tup, ↓dListU_str, ↓dListUM_lst, ↓dListUM_tup, ↓dListUM_str, ↓dTuple_lst, ↓dTuple_tup, ↓dIn_lst, ↓dIn_tup, ↓dSl_str, ↓dSl_lst, ↓dSl_tup, ↓dAdd_int, ↓dAdd_str, ↓dAdd_lst, ↓dAdd_tup, ↓dMul_int, ↓dMul_str, ↓dMul_lst, ↓dIx_lst, ↓dIx_ro, ↓dIx_tup, ↓dIx_str, ↓onSome_some, ↓dLen_lst, ↓dLen_tup, ↓dLen_str, ↓dLen_ro, ↓dLen_dct, ↓items_str, ↓items_lst, ↓items_tup, ↓items_ro, ↓dAll_lst, ↓dAny_lst, ↓dSum_lst, ↓dIsi_ty, ↓dIsi_tup, ↓dIn_str, ↓onSeq_lst, ↓onSeq_tup, ↓dIs_bb, ↓dStrI_i, ↓dIsW_bb, ↓dIsW_ib, ↓dIsW_sb, ↓dIsW_nb, ↓dIsW_lb, ↓dIsW_tb, ↓dIsW_db, ↓dIsW_nn, ↓dIsW_in, ↓dIsW_sn, ↓dIsW_ln, ↓dIsW_tn, ↓dEq_ii, ↓dEq_ss, ↓dNe_ii, ↓dNe_ss, ↓dEq_nil, ↓dNe_nil, ↓dEq_bb, ↓dNe_bb, List.append_nil, List.nil_append, List.cons_append, startD, List.map_cons, List.map_nil, List.length_cons, List.length_nil, Nat.sub_self, List.replicate_zero, List.replicate_succ, List.set_cons_zero, List.set_cons_succ, List.getElem?_cons_zero, List.getElem?_cons_succ, atI_lit, vw_int, vw_str, vw_bl, vw_non, vw_lst, vw_tup, vw_dct, vw_ro, vw_obj, vw_cls, Nat.reduceAdd, Nat.reduceSub, Int.reduceToNat, Int.reduceNeg, Int.reducePow, Int.reduceAdd, Int.reduceSub, Int.reduceMul, ixN_lit, decide_eq_true_eq, decide_eq_false_iff_not, if_true, if_false, Bool.false_eq_true, Bool.not_true, Bool.not_false, Nat.reduceLT, Nat.reduceLeDiff, Int.reduceLT, Int.reduceLE, true_and, and_true, and_self, ite_true, ite_false, kind_int, kind_bl, kind_non, kind_str, kind_lst, kind_tup, kind_dct, clsAll_lt, all_lt, any_lt_l, any_lt_t, any_lt_s, any_lt_i, any_lt_b, any_lt_n, any_lt_d, kc_int, kc_bool, kc_str, kc_list, kc_tuple, kc_dict, isiT, String.reduceBEq, Bool.or_false, Bool.or_true, Bool.false_or, Bool.true_or, Bool.and_false, Bool.false_and, Bool.and_true, Bool.true_and, wipeD, Bool.not_eq_true, Bool.not_eq_false, Bool.not_eq_eq_eq_not, Bool.not_not, Bool.false_bne, Bool.true_bne, dJoin, onSome_some, sizeLine_eq, Mu.put_same, put_put, Nat.zero_le, decide_true, decide_false, flt_litc, fld_str, fld_int, fld_bl, fld_non, List.all_cons, List.all_nil, reduceCtorEq, strOk_of, eqd_int, eqd_str, eqd_bl, eqd_lst0, eqd_lst1, eqd_lst2, eqd_lst3, eqd_tup0, eqd_tup1, eqd_tup2, eqd_tup3, flt_bl, flt_non]
    refine onSome_at r0 (by rw [List.length_map]; omega) fun d2 hd2 => ?_
    obtain ⟨i, hi, rfl⟩ := List.mem_map.mp hd2
    rw [List.getElem?_map, List.getElem?_eq_getElem (by omega), Option.map_some, onSome_some]
    refine take_ok Mu.put_same (by omega) (by omega) (by omega) fun r r0 r1 => ?_
    simp only [↓reduceIte, ↓u_sNx, ↓u_sSeq, ↓u_nx, ↓u_rt, ↓u_bk, ↓u_ct, ↓u_sBreak, ↓u_sCont, ↓u_sDrop, ↓u_sRet, ↓u_sRetN, ↓u_sIf, ↓u_sAsg, ↓u_gC, ↓u_aNil, ↓u_aCons, ↓u_gTup, ↓u_gLst, ↓u_gLstM, ↓u_gBin, ↓u_cVal, ↓u_onBl, ↓u_onInt, ↓u_onStr, ↓u_gChain, ↓u_cAnd, ↓u_cOr, ↓u_cNot, ↓u_gAnd, ↓u_gOr, ↓u_gNot, ↓u_gIf, ↓u_gNeg, ↓u_nNil, ↓u_nCons, ↓u_nTup, ↓u_nSub, ↓u_gCB, ↓u_gCall, ↓u_gM0, ↓u_gM1, ↓u_gL, ↓u_gL0, ↓u_oNo, ↓u_oSome, ↓u_gSl, ↓u_cYes, ↓u_on1, ↓u_on2, ↓u_dInt, ↓u_dInt0, ↓u_gLc, ↓u_gLcM, ↓u_gLc2, ↓u_sNever, ↓u_iEnS, ↓u_iEnL, ↓u_iEnumD, ↓u_iZipD, ↓u_zipS, ↓u_zipL, ↓u_iSeq, ↓u_iRange1, ↓u_iRange2, ↓u_sWhile, ↓u_iRange3, ↓u_on3, ↓u_sFor, ↓u_dMax2, ↓u_dMin2, ↓u_gDct0, ↓u_gVar0, ↓u_sSet0, ↓u_nName0, ↓u_gVar1, ↓u_sSet1, ↓u_nName1, ↓u_gVar2, ↓u_sSet2, ↓u_nName2, ↓u_gVar3, ↓u_sSet3, ↓u_nName3, ↓u_gVar4, ↓u_sSet4, ↓u_nName4, ↓u_gVar5, ↓u_sSet5, ↓u_nName5, ↓u_gVar6, ↓u_sSet6, ↓u_nName6, ↓u_gVar7, ↓u_sSet7, ↓u_nName7, ↓u_gVar8, ↓u_sSet8, ↓u_nName8, ↓u_gVar9, ↓u_sSet9, ↓u_nName9, ↓u_gVar10, ↓u_sSet10, ↓u_nName10, ↓u_gVar11, ↓u_sSet11, ↓u_nName11, ↓u_gVar12, ↓u_sSet12, ↓u_nName12, ↓u_gVar13, ↓u_sSet13, ↓u_nName13, ↓u_gVar14, ↓u_sSet14, ↓u_nName14, ↓u_gVar15, ↓u_sSet15, ↓u_nName15, ↓u_gVar16, ↓u_sSet16, ↓u_nName16, ↓u_gVar17, ↓u_sSet17, ↓u_nName17, ↓dToInt_int, ↓dToInt_bl, ↓dListU_lst, ↓dListU_tup, ↓dListU_str, ↓dListUM_lst, ↓dListUM_tup, ↓dListUM_str, ↓dTuple_lst, ↓dTuple_tup, ↓dIn_lst, ↓dIn_tup, ↓dSl_str, ↓dSl_lst, ↓dSl_tup, ↓dAdd_int, ↓dAdd_str, ↓dAdd_lst, ↓dAdd_tup, ↓dMul_int, ↓dMul_str, ↓dMul_lst, ↓dIx_lst, ↓dIx_ro, ↓dIx_tup, ↓dIx_str, ↓onSome_some, ↓dLen_lst, ↓dLen_tup, ↓dLen_str, ↓dLen_ro, ↓dLen_dct, ↓items_str, ↓items_lst, ↓items_tup, ↓items_ro, ↓dAll_lst, ↓dAny_lst, ↓dSum_lst, ↓dIsi_ty, ↓dIsi_tup, ↓dIn_str, ↓onSeq_lst, ↓onSeq_tup, ↓dIs_bb, ↓dStrI_i, ↓dIsW_bb, ↓dIsW_ib, ↓dIsW_sb, ↓dIsW_nb, ↓dIsW_lb, ↓dIsW_tb, ↓dIsW_db, ↓dIsW_nn, ↓dIsW_in, ↓dIsW_sn, ↓dIsW_ln, ↓dIsW_tn, ↓dEq_ii, ↓dEq_ss, ↓dNe_ii, ↓dNe_ss, ↓dEq_nil, ↓dNe_nil, ↓dEq_bb, ↓dNe_bb, List.append_nil, List.nil_append, List.cons_append, startD, List.map_cons, List.map_nil, List.length_cons, List.length_nil, Nat.sub_self, List.replicate_zero, List.replicate_succ, List.set_cons_zero, List.set_cons_succ, List.getElem?_cons_zero, List.getElem?_cons_succ, atI_lit, vw_int, vw_str, vw_bl, vw_non, vw_lst, vw_tup, vw_dct, vw_ro, vw_obj, vw_cls, Nat.reduceAdd, Nat.reduceSub, Int.reduceToNat, Int.reduceNeg, Int.reducePow, Int.reduceAdd, Int.reduceSub, Int.reduceMul, ixN_lit, decide_eq_true_eq, decide_eq_false_iff_not, if_true, if_false, Bool.false_eq_true, Bool.not_true, Bool.not_false, Nat.reduceLT, Nat.reduceLeDiff, Int.reduceLT, Int.reduceLE, true_and, and_true, and_self, ite_true, ite_false, kind_int, kind_bl, kind_non, kind_str, kind_lst, kind_tup, kind_dct, clsAll_lt, all_lt, any_lt_l, any_lt_t, any_lt_s, any_lt_i, any_lt_b, any_lt_n, any_lt_d, kc_int, kc_bool, kc_str, kc_list, kc_tuple, kc_dict, isiT, String.reduceBEq, Bool.or_false, Bool.or_true, Bool.false_or, Bool.true_or, Bool.and_false, Bool.false_and, Bool.and_true, Bool.true_and, wipeD, Bool.not_eq_true, Bool.not_eq_false, Bool.not_eq_eq_eq_not, Bool.not_not, Bool.false_bne, Bool.true_bne, dJoin, onSome_some, sizeLine_eq, Mu.put_same, put_put, Nat.zero_le, decide_true, decide_false, flt_litc, fld_str, fld_int, fld_bl, fld_non, List.all_cons, List.all_nil, reduceCtorEq, strOk_of, eqd_int, eqd_str, eqd_bl, eqd_lst0, eqd_lst1, eqd_lst2, eqd_lst3, eqd_tup0, eqd_tup1, eqd_tup2, eqd_tup3, flt_bl, flt_non, mu_pp]
    refine onSome_at r0 r1 fun d2 hd2 => ?_
    simp only [List.mem_cons, List.not_mem_nil, or_false] at hd2
    rcases hd2 with rfl | rfl | rfl
    · exact q (.opn i) _ (by omega) (by rw [e1]; exact Nat.le_refl _) (by rw [e2]; exact Nat.le_refl _) (by simpa [Rq.holes] using hi)
    · exact q (.cls hs[0]) _ (by omega) (by rw [e1]; exact Nat.le_refl _) (by rw [e2]; exact Nat.le_refl _) (by simp [Rq.holes])
    · exact q .all _ (by omega) (by rw [e1]; exact Nat.le_refl _) (by rw [e2]; exact Nat.le_refl _) (by simp [Rq.holes])
  cases p <;> (simp only [Rq.d, g__law_leaf_bent, ↓reduceIte, ↓u_sNx, ↓u_sSeq, ↓u_nx, ↓u_rt, ↓u_bk, ↓u_ct, ↓u_sBreak, ↓u_sCont, ↓u_sDrop, ↓u_sRet, ↓u_sRetN, ↓u_sIf, ↓u_sAsg, ↓u_gC, ↓u_aNil, ↓u_aCons, ↓u_gTup, ↓u_gLst, ↓u_gLstM, ↓u_gBin, ↓u_cVal, ↓u_onBl, ↓u_onInt, ↓u_onStr, ↓u_gChain, ↓u_cAnd, ↓u_cOr, ↓u_cNot, ↓u_gAnd, ↓u_gOr, ↓u_gNot, ↓u_gIf, ↓u_gNeg, ↓u_nNil, ↓u_nCons, ↓u_nTup, ↓u_nSub, ↓u_gCB, ↓u_gCall, ↓u_gM0, ↓u_gM1, ↓u_gL, ↓u_gL0, ↓u_oNo, ↓u_oSome, ↓u_gSl, ↓u_cYes, ↓u_on1, ↓u_on2, ↓u_dInt, ↓u_dInt0, ↓u_gLc, ↓u_gLcM, ↓u_gLc2, ↓u_sNever, ↓u_iEnS, ↓u_iEnL, ↓u_iEnumD, ↓u_iZipD, ↓u_zipS, ↓u_zipL, ↓u_iSeq, ↓u_iRange1, ↓u_iRange2, ↓u_sWhile, ↓u_iRange3, ↓u_on3, ↓u_sFor, ↓u_dMax2, ↓u_dMin2, ↓u_gDct0, ↓u_gVar0, ↓u_sSet0, ↓u_nName0, ↓u_gVar1, ↓u_sSet1, ↓u_nName1, ↓u_gVar2, ↓u_sSet2, ↓u_nName2, ↓u_gVar3, ↓u_sSet3, ↓u_nName3, ↓u_gVar4, ↓u_sSet4, ↓u_nName4, ↓u_gVar5, ↓u_sSet5, ↓u_nName5, ↓u_gVar6, ↓u_sSet6, ↓u_nName6, ↓u_gVar7, ↓u_sSet7, ↓u_nName7, ↓u_gVar8, ↓u_sSet8, ↓u_nName8, ↓u_gVar9, ↓u_sSet9, ↓u_nName9, ↓u_gVar10, ↓u_sSet10, ↓u_nName10, ↓u_gVar11, ↓u_sSet11, ↓u_nName11, ↓u_gVar12, ↓u_sSet12, ↓u_nName12, ↓u_gVar13, ↓u_sSet13, ↓u_nName13, ↓u_gVar14, ↓u_sSet14, ↓u_nName14, ↓u_gVar15, ↓u_sSet15, ↓u_nName15, ↓u_gVar16, ↓u_sSet16, ↓u_nName16, ↓u_gVar17, ↓u_sSet17, ↓u_nName17, ↓dToInt_int, ↓dToInt_bl, ↓dListU_lst, ↓dListU_tup, ↓dListU_str, ↓dListUM_lst, ↓dListUM_tup, ↓dListUM_str, ↓dTuple_lst, ↓dTuple_tup, ↓dIn_lst, ↓dIn_tup, ↓dSl_str, ↓dSl_lst, ↓dSl_tup, ↓dAdd_int, ↓dAdd_str, ↓dAdd_lst, ↓dAdd_tup, ↓dMul_int, ↓dMul_str, ↓dMul_lst, ↓dIx_lst, ↓dIx_ro, ↓dIx_tup, ↓dIx_str, ↓onSome_some, ↓dLen_lst, ↓dLen_tup, ↓dLen_str, ↓dLen_ro, ↓dLen_dct, ↓items_str, ↓items_lst, ↓items_tup, ↓items_ro, ↓dAll_lst, ↓dAny_lst, ↓dSum_lst, ↓dIsi_ty, ↓dIsi_tup, ↓dIn_str, ↓onSeq_lst, ↓onSeq_tup, ↓dIs_bb, ↓dStrI_i, ↓dIsW_bb, ↓dIsW_ib, ↓dIsW_sb, ↓dIsW_nb, ↓dIsW_lb, ↓dIsW_tb, ↓dIsW_db, ↓dIsW_nn, ↓dIsW_in, ↓dIsW_sn, ↓dIsW_ln, ↓dIsW_tn, ↓dEq_ii, ↓dEq_ss, ↓dNe_ii, ↓dNe_ss, ↓dEq_nil, ↓dNe_nil, ↓dEq_bb, ↓dNe_bb, List.append_nil, List.nil_append, List.cons_append, startD, List.map_cons, List.map_nil, List.length_cons, List.length_nil, Nat.sub_self, List.replicate_zero, List.replicate_succ, List.set_cons_zero, List.set_cons_succ, List.getElem?_cons_zero, List.getElem?_cons_succ, atI_lit, vw_int, vw_str, vw_bl, vw_non, vw_lst, vw_tup, vw_dct, vw_ro, vw_obj, vw_cls, Nat.reduceAdd, Nat.reduceSub, Int.reduceToNat, Int.reduceNeg, Int.reducePow, Int.reduceAdd, Int.reduceSub, Int.reduceMul, ixN_lit, decide_eq_true_eq, decide_eq_false_iff_not, if_true, if_false, Bool.false_eq_true, Bool.not_true, Bool.not_false, Nat.reduceLT, Nat.reduceLeDiff, Int.reduceLT, Int.reduceLE, true_and, and_true, and_self, ite_true, ite_false, kind_int, kind_bl, kind_non, kind_str, kind_lst, kind_tup, kind_dct, clsAll_lt, all_lt, any_lt_l, any_lt_t, any_lt_s, any_lt_i, any_lt_b, any_lt_n, any_lt_d, kc_int, kc_bool, kc_str, kc_list, kc_tuple, kc_dict, isiT, String.reduceBEq, Bool.or_false, Bool.or_true, Bool.false_or, Bool.true_or, Bool.and_false, Bool.false_and, Bool.and_true, Bool.true_and, wipeD, Bool.not_eq_true, Bool.not_eq_false, Bool.not_eq_eq_eq_not, Bool.not_not, Bool.false_bne, Bool.true_bne, dJoin, onSome_some, sizeLine_eq, Mu.put_same, put_put, Nat.zero_le, decide_true, decide_false, flt_litc, fld_str, fld_int, fld_bl, fld_non, List.all_cons, List.all_nil, reduceCtorEq, strOk_of, eqd_int, eqd_str, eqd_bl, eqd_lst0, eqd_lst1, eqd_lst2, eqd_lst3, eqd_tup0, eqd_tup1, eqd_tup2, eqd_tup3, flt_bl, flt_non, wq_open_closed, wq_open_all, wq_open_none, wq_open_and, wq_open_or, wq_open_not, wi_open_0, wi_open_1, wi_open_2, wi_open_3, wq_closed_open, wq_closed_all, wq_closed_none, wq_closed_and, wq_closed_or, wq_closed_not, wi_closed_0, wi_closed_1, wi_closed_2, wi_closed_3, wq_all_open, wq_all_closed, wq_all_none, wq_all_and, wq_all_or, wq_all_not, wi_all_0, wi_all_1, wi_all_2, wi_all_3, wq_none_open, wq_none_closed, wq_none_all, wq_none_and, wq_none_or, wq_none_not, wi_none_0, wi_none_1, wi_none_2, wi_none_3, wq_and_open, wq_and_closed, wq_and_all, wq_and_none, wq_and_or, wq_and_not, wi_and_0, wi_and_1, wi_and_2, wi_and_3, wq_or_open, wq_or_closed, wq_or_all, wq_or_none, wq_or_and, wq_or_not, wi_or_0, wi_or_1, wi_or_2, wi_or_3, wq_not_open, wq_not_closed, wq_not_all, wq_not_none, wq_not_and, wq_not_or, wi_not_0, wi_not_1, wi_not_2, wi_not_3, List.length_map]; try exact leaf rfl rfl)
  all_goals
    refine take_ok hm (by decide) (by decide) (by omega) fun t t0 t1 => ?_
    simp only [↓reduceIte, ↓u_sNx, ↓u_sSeq, ↓u_nx, ↓u_rt, ↓u_bk, ↓u_ct, ↓u_sBreak, ↓u_sCont, ↓u_sDrop, ↓u_sRet, ↓u_sRetN, ↓u_sIf, ↓u_sAsg, ↓u_gC, ↓u_aNil, ↓u_aCons, ↓u_gTup, ↓u_gLst, ↓u_gLstM, ↓u_gBin, ↓u_cVal, ↓u_onBl, ↓u_onInt, ↓u_onStr, ↓u_gChain, ↓u_cAnd, ↓u_cOr, ↓u_cNot, ↓u_gAnd, ↓u_gOr, ↓u_gNot, ↓u_gIf, ↓u_gNeg, ↓u_nNil, ↓u_nCons, ↓u_nTup, ↓u_nSub, ↓u_gCB, ↓u_gCall, ↓u_gM0, ↓u_gM1, ↓u_gL, ↓u_gL0, ↓u_oNo, ↓u_oSome, ↓u_gSl, ↓u_cYes, ↓u_on1, ↓u_on2, ↓u_dInt, ↓u_dInt0, ↓u_gLc, ↓u_gLcM, ↓u_gLc2, ↓u_sNever, ↓u_iEnS, ↓u_iEnL, ↓u_iEnumD, ↓u_iZipD, ↓u_zipS, ↓u_zipL, ↓u_iSeq, ↓u_iRange1, ↓u_iRange2, ↓u_sWhile, ↓u_iRange3, ↓u_on3, ↓u_sFor, ↓u_dMax2, ↓u_dMin2, ↓u_gDct0, ↓u_gVar0, ↓u_sSet0, ↓u_nName0, ↓u_gVar1, ↓u_sSet1, ↓u_nName1, ↓u_gVar2, ↓u_sSet2, ↓u_nName2, ↓u_gVar3, ↓u_sSet3, ↓u_nName3, ↓u_gVar4, ↓u_sSet4, ↓u_nName4, ↓u_gVar5, ↓u_sSet5, ↓u_nName5, ↓u_gVar6, ↓u_sSet6, ↓u_nName6, ↓u_gVar7, ↓u_sSet7, ↓u_nName7, ↓u_gVar8, ↓u_sSet8, ↓u_nName8, ↓u_gVar9, ↓u_sSet9, ↓u_nName9, ↓u_gVar10, ↓u_sSet10, ↓u_nName10, ↓u_gVar11, ↓u_sSet11, ↓u_nName11, ↓u_gVar12, ↓u_sSet12, ↓u_nName12, ↓u_gVar13, ↓u_sSet13, ↓u_nName13, ↓u_gVar14, ↓u_sSet14, ↓u_nName14, ↓u_gVar15, ↓u_sSet15, ↓u_nName15, ↓u_gVar16, ↓u_sSet16, ↓u_nName16, ↓u_gVar17, ↓u_sSet17, ↓u_nName17, ↓dToInt_int, ↓dToInt_bl, ↓dListU_lst, ↓dListU_tup, ↓dListU_str, ↓dListUM_lst, ↓dListUM_tup, ↓dListUM_str, ↓dTuple_lst, ↓dTuple_tup, ↓dIn_lst, ↓dIn_tup, ↓dSl_str, ↓dSl_lst, ↓dSl_tup, ↓dAdd_int, ↓dAdd_str, ↓dAdd_lst, ↓dAdd_tup, ↓dMul_int, ↓dMul_str, ↓dMul_lst, ↓dIx_lst, ↓dIx_ro, ↓dIx_tup, ↓dIx_str, ↓onSome_some, ↓dLen_lst, ↓dLen_tup, ↓dLen_str, ↓dLen_ro, ↓dLen_dct, ↓items_str, ↓items_lst, ↓items_tup, ↓items_ro, ↓dAll_lst, ↓dAny_lst, ↓dSum_lst, ↓dIsi_ty, ↓dIsi_tup, ↓dIn_str, ↓onSeq_lst, ↓onSeq_tup, ↓dIs_bb, ↓dStrI_i, ↓dIsW_bb, ↓dIsW_ib, ↓dIsW_sb, ↓dIsW_nb, ↓dIsW_lb, ↓dIsW_tb, ↓dIsW_db, ↓dIsW_nn, ↓dIsW_in, ↓dIsW_sn, ↓dIsW_ln, ↓dIsW_tn, ↓dEq_ii, ↓dEq_ss, ↓dNe_ii, ↓dNe_ss, ↓dEq_nil, ↓dNe_nil, ↓dEq_bb, ↓dNe_bb, List.append_nil, List.nil_append, List.cons_append, startD, List.map_cons, List.map_nil, List.length_cons, List.length_nil, Nat.sub_self, List.replicate_zero, List.replicate_succ, List.set_cons_zero, List.set_cons_succ, List.getElem?_cons_zero, List.getElem?_cons_succ, atI_lit, vw_int, vw_str, vw_bl, vw_non, vw_lst, vw_tup, vw_dct, vw_ro, vw_obj, vw_cls, Nat.reduceAdd, Nat.reduceSub, Int.reduceToNat, Int.reduceNeg, Int.reducePow, Int.reduceAdd, Int.reduceSub, Int.reduceMul, ixN_lit, decide_eq_true_eq, decide_eq_false_iff_not, if_true, if_false, Bool.false_eq_true, Bool.not_true, Bool.not_false, Nat.reduceLT, Nat.reduceLeDiff, Int.reduceLT, Int.reduceLE, true_and, and_true, and_self, ite_true, ite_false, kind_int, kind_bl, kind_non, kind_str, kind_lst, kind_tup, kind_dct, clsAll_lt, all_lt, any_lt_l, any_lt_t, any_lt_s, any_lt_i, any_lt_b, any_lt_n, any_lt_d, kc_int, kc_bool, kc_str, kc_list, kc_tuple, kc_dict, isiT, String.reduceBEq, Bool.or_false, Bool.or_true, Bool.false_or, Bool.true_or, Bool.and_false, Bool.false_and, Bool.and_true, Bool.true_and, wipeD, Bool.not_eq_true, Bool.not_eq_false, Bool.not_eq_eq_eq_not, Bool.not_not, Bool.false_bne, Bool.true_bne, dJoin, onSome_some, sizeLine_eq, Mu.put_same, put_put, Nat.zero_le, decide_true, decide_false, flt_litc, fld_str, fld_int, fld_bl, fld_non, List.all_cons, List.all_nil, reduceCtorEq, strOk_of, eqd_int, eqd_str, eqd_bl, eqd_lst0, eqd_lst1, eqd_lst2, eqd_lst3, eqd_tup0, eqd_tup1, eqd_tup2, eqd_tup3, flt_bl, flt_non]
  · rename_i x y
    simp only [Rq.depth] at d1 d2 hn q
    simp only [Rq.size] at q
    have ha : ∀ i ∈ x.holes, i ∈ hs := fun i hi => hp i (by simp [Rq.holes, hi])
    have hb : ∀ i ∈ y.holes, i ∈ hs := fun i hi => hp i (by simp [Rq.holes, hi])
    have ht : t = 0 ∨ t = 1 := by omega
    rcases ht with rfl | rfl
    · simp only [↓reduceIte, ↓u_sNx, ↓u_sSeq, ↓u_nx, ↓u_rt, ↓u_bk, ↓u_ct, ↓u_sBreak, ↓u_sCont, ↓u_sDrop, ↓u_sRet, ↓u_sRetN, ↓u_sIf, ↓u_sAsg, ↓u_gC, ↓u_aNil, ↓u_aCons, ↓u_gTup, ↓u_gLst, ↓u_gLstM, ↓u_gBin, ↓u_cVal, ↓u_onBl, ↓u_onInt, ↓u_onStr, ↓u_gChain, ↓u_cAnd, ↓u_cOr, ↓u_cNot, ↓u_gAnd, ↓u_gOr, ↓u_gNot, ↓u_gIf, ↓u_gNeg, ↓u_nNil, ↓u_nCons, ↓u_nTup, ↓u_nSub, ↓u_gCB, ↓u_gCall, ↓u_gM0, ↓u_gM1, ↓u_gL, ↓u_gL0, ↓u_oNo, ↓u_oSome, ↓u_gSl, ↓u_cYes, ↓u_on1, ↓u_on2, ↓u_dInt, ↓u_dInt0, ↓u_gLc, ↓u_gLcM, ↓u_gLc2, ↓u_sNever, ↓u_iEnS, ↓u_iEnL, ↓u_iEnumD, ↓u_iZipD, ↓u_zipS, ↓u_zipL, ↓u_iSeq, ↓u_iRange1, ↓u_iRange2, ↓u_sWhile, ↓u_iRange3, ↓u_on3, ↓u_sFor, ↓u_dMax2, ↓u_dMin2, ↓u_gDct0, ↓u_gVar0, ↓u_sSet0, ↓u_nName0, ↓u_gVar1, ↓u_sSet1, ↓u_nName1, ↓u_gVar2, ↓u_sSet2, ↓u_nName2, ↓u_gVar3, ↓u_sSet3, ↓u_nName3, ↓u_gVar4, ↓u_sSet4, ↓u_nName4, ↓u_gVar5, ↓u_sSet5, ↓u_nName5, ↓u_gVar6, ↓u_sSet6, ↓u_nName6, ↓u_gVar7, ↓u_sSet7, ↓u_nName7, ↓u_gVar8, ↓u_sSet8, ↓u_nName8, ↓u_gVar9, ↓u_sSet9, ↓u_nName9, ↓u_gVar10, ↓u_sSet10, ↓u_nName10, ↓u_gVar11, ↓u_sSet11, ↓u_nName11, ↓u_gVar12, ↓u_sSet12, ↓u_nName12, ↓u_gVar13, ↓u_sSet13, ↓u_nName13, ↓u_gVar14, ↓u_sSet14, ↓u_nName14, ↓u_gVar15, ↓u_sSet15, ↓u_nName15, ↓u_gVar16, ↓u_sSet16, ↓u_nName16, ↓u_gVar17, ↓u_sSet17, ↓u_nName17, ↓dToInt_int, ↓dToInt_bl, ↓dListU_lst, ↓dListU_tup, ↓dListU_str, ↓dListUM_lst, ↓dListUM_tup, ↓dListUM_str, ↓dTuple_lst, ↓dTuple_tup, ↓dIn_lst, ↓dIn_tup, ↓dSl_str, ↓dSl_lst, ↓dSl_tup, ↓dAdd_int, ↓dAdd_str, ↓dAdd_lst, ↓dAdd_tup, ↓dMul_int, ↓dMul_str, ↓dMul_lst, ↓dIx_lst, ↓dIx_ro, ↓dIx_tup, ↓dIx_str, ↓onSome_some, ↓dLen_lst, ↓dLen_tup, ↓dLen_str, ↓dLen_ro, ↓dLen_dct, ↓items_str, ↓items_lst, ↓items_tup, ↓items_ro, ↓dAll_lst, ↓dAny_lst, ↓dSum_lst, ↓dIsi_ty, ↓dIsi_tup, ↓dIn_str, ↓onSeq_lst, ↓onSeq_tup, ↓dIs_bb, ↓dStrI_i, ↓dIsW_bb, ↓dIsW_ib, ↓dIsW_sb, ↓dIsW_nb, ↓dIsW_lb, ↓dIsW_tb, ↓dIsW_db, ↓dIsW_nn, ↓dIsW_in, ↓dIsW_sn, ↓dIsW_ln, ↓dIsW_tn, ↓dEq_ii, ↓dEq_ss, ↓dNe_ii, ↓dNe_ss, ↓dEq_nil, ↓dNe_nil, ↓dEq_bb, ↓dNe_bb, List.append_nil, List.nil_append, List.cons_append, startD, List.map_cons, List.map_nil, List.length_cons, List.length_nil, Nat.sub_self, List.replicate_zero, List.replicate_succ, List.set_cons_zero, List.set_cons_succ, List.getElem?_cons_zero, List.getElem?_cons_succ, atI_lit, vw_int, vw_str, vw_bl, vw_non, vw_lst, vw_tup, vw_dct, vw_ro, vw_obj, vw_cls, Nat.reduceAdd, Nat.reduceSub, Int.reduceToNat, Int.reduceNeg, Int.reducePow, Int.reduceAdd, Int.reduceSub, Int.reduceMul, ixN_lit, decide_eq_true_eq, decide_eq_false_iff_not, if_true, if_false, Bool.false_eq_true, Bool.not_true, Bool.not_false, Nat.reduceLT, Nat.reduceLeDiff, Int.reduceLT, Int.reduceLE, true_and, and_true, and_self, ite_true, ite_false, kind_int, kind_bl, kind_non, kind_str, kind_lst, kind_tup, kind_dct, clsAll_lt, all_lt, any_lt_l, any_lt_t, any_lt_s, any_lt_i, any_lt_b, any_lt_n, any_lt_d, kc_int, kc_bool, kc_str, kc_list, kc_tuple, kc_dict, isiT, String.reduceBEq, Bool.or_false, Bool.or_true, Bool.false_or, Bool.true_or, Bool.and_false, Bool.false_and, Bool.and_true, Bool.true_and, wipeD, Bool.not_eq_true, Bool.not_eq_false, Bool.not_eq_eq_eq_not, Bool.not_not, Bool.false_bne, Bool.true_bne, dJoin, onSome_some, sizeLine_eq, Mu.put_same, put_put, Nat.zero_le, decide_true, decide_false, flt_litc, fld_str, fld_int, fld_bl, fld_non, List.all_cons, List.all_nil, reduceCtorEq, strOk_of, eqd_int, eqd_str, eqd_bl, eqd_lst0, eqd_lst1, eqd_lst2, eqd_lst3, eqd_tup0, eqd_tup1, eqd_tup2, eqd_tup3, flt_bl, flt_non]
      refine ⟨a, _, hs, x, rfl, Mu.put_same, by omega, by omega, ha, h1, h2, by omega, fun q2 n2 g1 g2 g3 g4 => ?_⟩
      simp only [↓reduceIte, ↓u_sNx, ↓u_sSeq, ↓u_nx, ↓u_rt, ↓u_bk, ↓u_ct, ↓u_sBreak, ↓u_sCont, ↓u_sDrop, ↓u_sRet, ↓u_sRetN, ↓u_sIf, ↓u_sAsg, ↓u_gC, ↓u_aNil, ↓u_aCons, ↓u_gTup, ↓u_gLst, ↓u_gLstM, ↓u_gBin, ↓u_cVal, ↓u_onBl, ↓u_onInt, ↓u_onStr, ↓u_gChain, ↓u_cAnd, ↓u_cOr, ↓u_cNot, ↓u_gAnd, ↓u_gOr, ↓u_gNot, ↓u_gIf, ↓u_gNeg, ↓u_nNil, ↓u_nCons, ↓u_nTup, ↓u_nSub, ↓u_gCB, ↓u_gCall, ↓u_gM0, ↓u_gM1, ↓u_gL, ↓u_gL0, ↓u_oNo, ↓u_oSome, ↓u_gSl, ↓u_cYes, ↓u_on1, ↓u_on2, ↓u_dInt, ↓u_dInt0, ↓u_gLc, ↓u_gLcM, ↓u_gLc2, ↓u_sNever, ↓u_iEnS, ↓u_iEnL, ↓u_iEnumD, ↓u_iZipD, ↓u_zipS, ↓u_zipL, ↓u_iSeq, ↓u_iRange1, ↓u_iRange2, ↓u_sWhile, ↓u_iRange3, ↓u_on3, ↓u_sFor, ↓u_dMax2, ↓u_dMin2, ↓u_gDct0, ↓u_gVar0, ↓u_sSet0, ↓u_nName0, ↓u_gVar1, ↓u_sSet1, ↓u_nName1, ↓u_gVar2, ↓u_sSet2, ↓u_nName2, ↓u_gVar3, ↓u_sSet3, ↓u_nName3, ↓u_gVar4, ↓u_sSet4, ↓u_nName4, ↓u_gVar5, ↓u_sSet5, ↓u_nName5, ↓u_gVar6, ↓u_sSet6, ↓u_nName6, ↓u_gVar7, ↓u_sSet7, ↓u_nName7, ↓u_gVar8, ↓u_sSet8, ↓u_nName8, ↓u_gVar9, ↓u_sSet9, ↓u_nName9, ↓u_gVar10, ↓u_sSet10, ↓u_nName10, ↓u_gVar11, ↓u_sSet11, ↓u_nName11, ↓u_gVar12, ↓u_sSet12, ↓u_nName12, ↓u_gVar13, ↓u_sSet13, ↓u_nName13, ↓u_gVar14, ↓u_sSet14, ↓u_nName14, ↓u_gVar15, ↓u_sSet15, ↓u_nName15, ↓u_gVar16, ↓u_sSet16, ↓u_nName16, ↓u_gVar17, ↓u_sSet17, ↓u_nName17, ↓dToInt_int, ↓dToInt_bl, ↓dListU_lst, ↓dListU_tup, ↓dListU_str, ↓dListUM_lst, ↓dListUM_tup, ↓dListUM_str, ↓dTuple_lst, ↓dTuple_tup, ↓dIn_lst, ↓dIn_tup, ↓dSl_str, ↓dSl_lst, ↓dSl_tup, ↓dAdd_int, ↓dAdd_str, ↓dAdd_lst, ↓dAdd_tup, ↓dMul_int, ↓dMul_str, ↓dMul_lst, ↓dIx_lst, ↓dIx_ro, ↓dIx_tup, ↓dIx_str, ↓onSome_some, ↓dLen_lst, ↓dLen_tup, ↓dLen_str, ↓dLen_ro, ↓dLen_dct, ↓items_str, ↓items_lst, ↓items_tup, ↓items_ro, ↓dAll_lst, ↓dAny_lst, ↓dSum_lst, ↓dIsi_ty, ↓dIsi_tup, ↓dIn_str, ↓onSeq_lst, ↓onSeq_tup, ↓dIs_bb, ↓dStrI_i, ↓dIsW_bb, ↓dIsW_ib, ↓dIsW_sb, ↓dIsW_nb, ↓dIsW_lb, ↓dIsW_tb, ↓dIsW_db, ↓dIsW_nn, ↓dIsW_in, ↓dIsW_sn, ↓dIsW_ln, ↓dIsW_tn, ↓dEq_ii, ↓dEq_ss, ↓dNe_ii, ↓dNe_ss, ↓dEq_nil, ↓dNe_nil, ↓dEq_bb, ↓dNe_bb, List.append_nil, List.nil_append, List.cons_append, startD, List.map_cons, List.map_nil, List.length_cons, List.length_nil, Nat.sub_self, List.replicate_zero, List.replicate_succ, List.set_cons_zero, List.set_cons_succ, List.getElem?_cons_zero, List.getElem?_cons_succ, atI_lit, vw_int, vw_str, vw_bl, vw_non, vw_lst, vw_tup, vw_dct, vw_ro, vw_obj, vw_cls, Nat.reduceAdd, Nat.reduceSub, Int.reduceToNat, Int.reduceNeg, Int.reducePow, Int.reduceAdd, Int.reduceSub, Int.reduceMul, ixN_lit, decide_eq_true_eq, decide_eq_false_iff_not, if_true, if_false, Bool.false_eq_true, Bool.not_true, Bool.not_false, Nat.reduceLT, Nat.reduceLeDiff, Int.reduceLT, Int.reduceLE, true_and, and_true, and_self, ite_true, ite_false, kind_int, kind_bl, kind_non, kind_str, kind_lst, kind_tup, kind_dct, clsAll_lt, all_lt, any_lt_l, any_lt_t, any_lt_s, any_lt_i, any_lt_b, any_lt_n, any_lt_d, kc_int, kc_bool, kc_str, kc_list, kc_tuple, kc_dict, isiT, String.reduceBEq, Bool.or_false, Bool.or_true, Bool.false_or, Bool.true_or, Bool.and_false, Bool.false_and, Bool.and_true, Bool.true_and, wipeD, Bool.not_eq_true, Bool.not_eq_false, Bool.not_eq_eq_eq_not, Bool.not_not, Bool.false_bne, Bool.true_bne, dJoin, onSome_some, sizeLine_eq, Mu.put_same, put_put, Nat.zero_le, decide_true, decide_false, flt_litc, fld_str, fld_int, fld_bl, fld_non, List.all_cons, List.all_nil, reduceCtorEq, strOk_of, eqd_int, eqd_str, eqd_bl, eqd_lst0, eqd_lst1, eqd_lst2, eqd_lst3, eqd_tup0, eqd_tup1, eqd_tup2, eqd_tup3, flt_bl, flt_non, c3a, c3b, c3c, c3d, mu_pp]
      exact q (.and q2 y) _ (by omega) (by simp only [Rq.depth]; omega) (by simp only [Rq.size]; omega) (fun i hi => (List.mem_append.mp hi).elim (g4 i) (hb i))
    · simp only [↓reduceIte, ↓u_sNx, ↓u_sSeq, ↓u_nx, ↓u_rt, ↓u_bk, ↓u_ct, ↓u_sBreak, ↓u_sCont, ↓u_sDrop, ↓u_sRet, ↓u_sRetN, ↓u_sIf, ↓u_sAsg, ↓u_gC, ↓u_aNil, ↓u_aCons, ↓u_gTup, ↓u_gLst, ↓u_gLstM, ↓u_gBin, ↓u_cVal, ↓u_onBl, ↓u_onInt, ↓u_onStr, ↓u_gChain, ↓u_cAnd, ↓u_cOr, ↓u_cNot, ↓u_gAnd, ↓u_gOr, ↓u_gNot, ↓u_gIf, ↓u_gNeg, ↓u_nNil, ↓u_nCons, ↓u_nTup, ↓u_nSub, ↓u_gCB, ↓u_gCall, ↓u_gM0, ↓u_gM1, ↓u_gL, ↓u_gL0, ↓u_oNo, ↓u_oSome, ↓u_gSl, ↓u_cYes, ↓u_on1, ↓u_on2, ↓u_dInt, ↓u_dInt0, ↓u_gLc, ↓u_gLcM, ↓u_gLc2, ↓u_sNever, ↓u_iEnS, ↓u_iEnL, ↓u_iEnumD, ↓u_iZipD, ↓u_zipS, ↓u_zipL, ↓u_iSeq, ↓u_iRange1, ↓u_iRange2, ↓u_sWhile, ↓u_iRange3, ↓u_on3, ↓u_sFor, ↓u_dMax2, ↓u_dMin2, ↓u_gDct0, ↓u_gVar0, ↓u_sSet0, ↓u_nName0, ↓u_gVar1, ↓u_sSet1, ↓u_nName1, ↓u_gVar2, ↓u_sSet2, ↓u_nName2, ↓u_gVar3, ↓u_sSet3, ↓u_nName3, ↓u_gVar4, ↓u_sSet4, ↓u_nName4, ↓u_gVar5, ↓u_sSet5, ↓u_nName5, ↓u_gVar6, ↓u_sSet6, ↓u_nName6, ↓u_gVar7, ↓u_sSet7, ↓u_nName7, ↓u_gVar8, ↓u_sSet8, ↓u_nName8, ↓u_gVar9, ↓u_sSet9, ↓u_nName9, ↓u_gVar10, ↓u_sSet10, ↓u_nName10, ↓u_gVar11, ↓u_sSet11, ↓u_nName11, ↓u_gVar12, ↓u_sSet12, ↓u_nName12, ↓u_gVar13, ↓u_sSet13, ↓u_nName13, ↓u_gVar14, ↓u_sSet14, ↓u_nName14, ↓u_gVar15, ↓u_sSet15, ↓u_nName15, ↓u_gVar16, ↓u_sSet16, ↓u_nName16, ↓u_gVar17, ↓u_sSet17, ↓u_nName17, ↓dToInt_int, ↓dToInt_bl, ↓dListU_lst, ↓dListU_tup, ↓dListU_str, ↓dListUM_lst, ↓dListUM_tup, ↓dListUM_str, ↓dTuple_lst, ↓dTuple_tup, ↓dIn_lst, ↓dIn_tup, ↓dSl_str, ↓dSl_lst, ↓dSl_tup, ↓dAdd_int, ↓dAdd_str, ↓dAdd_lst, ↓dAdd_tup, ↓dMul_int, ↓dMul_str, ↓dMul_lst, ↓dIx_lst, ↓dIx_ro, ↓dIx_tup, ↓dIx_str, ↓onSome_some, ↓dLen_lst, ↓dLen_tup, ↓dLen_str, ↓dLen_ro, ↓dLen_dct, ↓items_str, ↓items_lst, ↓items_tup, ↓items_ro, ↓dAll_lst, ↓dAny_lst, ↓dSum_lst, ↓dIsi_ty, ↓dIsi_tup, ↓dIn_str, ↓onSeq_lst, ↓onSeq_tup, ↓dIs_bb, ↓dStrI_i, ↓dIsW_bb, ↓dIsW_ib, ↓dIsW_sb, ↓dIsW_nb, ↓dIsW_lb, ↓dIsW_tb, ↓dIsW_db, ↓dIsW_nn, ↓dIsW_in, ↓dIsW_sn, ↓dIsW_ln, ↓dIsW_tn, ↓dEq_ii, ↓dEq_ss, ↓dNe_ii, ↓dNe_ss, ↓dEq_nil, ↓dNe_nil, ↓dEq_bb, ↓dNe_bb, List.append_nil, List.nil_append, List.cons_append, startD, List.map_cons, List.map_nil, List.length_cons, List.length_nil, Nat.sub_self, List.replicate_zero, List.replicate_succ, List.set_cons_zero, List.set_cons_succ, List.getElem?_cons_zero, List.getElem?_cons_succ, atI_lit, vw_int, vw_str, vw_bl, vw_non, vw_lst, vw_tup, vw_dct, vw_ro, vw_obj, vw_cls, Nat.reduceAdd, Nat.reduceSub, Int.reduceToNat, Int.reduceNeg, Int.reducePow, Int.reduceAdd, Int.reduceSub, Int.reduceMul, ixN_lit, decide_eq_true_eq, decide_eq_false_iff_not, if_true, if_false, Bool.false_eq_true, Bool.not_true, Bool.not_false, Nat.reduceLT, Nat.reduceLeDiff, Int.reduceLT, Int.reduceLE, true_and, and_true, and_self, ite_true, ite_false, kind_int, kind_bl, kind_non, kind_str, kind_lst, kind_tup, kind_dct, clsAll_lt, all_lt, any_lt_l, any_lt_t, any_lt_s, any_lt_i, any_lt_b, any_lt_n, any_lt_d, kc_int, kc_bool, kc_str, kc_list, kc_tuple, kc_dict, isiT, String.reduceBEq, Bool.or_false, Bool.or_true, Bool.false_or, Bool.true_or, Bool.and_false, Bool.false_and, Bool.and_true, Bool.true_and, wipeD, Bool.not_eq_true, Bool.not_eq_false, Bool.not_eq_eq_eq_not, Bool.not_not, Bool.false_bne, Bool.true_bne, dJoin, onSome_some, sizeLine_eq, Mu.put_same, put_put, Nat.zero_le, decide_true, decide_false, flt_litc, fld_str, fld_int, fld_bl, fld_non, List.all_cons, List.all_nil, reduceCtorEq, strOk_of, eqd_int, eqd_str, eqd_bl, eqd_lst0, eqd_lst1, eqd_lst2, eqd_lst3, eqd_tup0, eqd_tup1, eqd_tup2, eqd_tup3, flt_bl, flt_non]
      refine ⟨a, _, hs, y, rfl, Mu.put_same, by omega, by omega, hb, h1, h2, by omega, fun q2 n2 g1 g2 g3 g4 => ?_⟩
      simp only [↓reduceIte, ↓u_sNx, ↓u_sSeq, ↓u_nx, ↓u_rt, ↓u_bk, ↓u_ct, ↓u_sBreak, ↓u_sCont, ↓u_sDrop, ↓u_sRet, ↓u_sRetN, ↓u_sIf, ↓u_sAsg, ↓u_gC, ↓u_aNil, ↓u_aCons, ↓u_gTup, ↓u_gLst, ↓u_gLstM, ↓u_gBin, ↓u_cVal, ↓u_onBl, ↓u_onInt, ↓u_onStr, ↓u_gChain, ↓u_cAnd, ↓u_cOr, ↓u_cNot, ↓u_gAnd, ↓u_gOr, ↓u_gNot, ↓u_gIf, ↓u_gNeg, ↓u_nNil, ↓u_nCons, ↓u_nTup, ↓u_nSub, ↓u_gCB, ↓u_gCall, ↓u_gM0, ↓u_gM1, ↓u_gL, ↓u_gL0, ↓u_oNo, ↓u_oSome, ↓u_gSl, ↓u_cYes, ↓u_on1, ↓u_on2, ↓u_dInt, ↓u_dInt0, ↓u_gLc, ↓u_gLcM, ↓u_gLc2, ↓u_sNever, ↓u_iEnS, ↓u_iEnL, ↓u_iEnumD, ↓u_iZipD, ↓u_zipS, ↓u_zipL, ↓u_iSeq, ↓u_iRange1, ↓u_iRange2, ↓u_sWhile, ↓u_iRange3, ↓u_on3, ↓u_sFor, ↓u_dMax2, ↓u_dMin2, ↓u_gDct0, ↓u_gVar0, ↓u_sSet0, ↓u_nName0, ↓u_gVar1, ↓u_sSet1, ↓u_nName1, ↓u_gVar2, ↓u_sSet2, ↓u_nName2, ↓u_gVar3, ↓u_sSet3, ↓u_nName3, ↓u_gVar4, ↓u_sSet4, ↓u_nName4, ↓u_gVar5, ↓u_sSet5, ↓u_nName5, ↓u_gVar6, ↓u_sSet6, ↓u_nName6, ↓u_gVar7, ↓u_sSet7, ↓u_nName7, ↓u_gVar8, ↓u_sSet8, ↓u_nName8, ↓u_gVar9, ↓u_sSet9, ↓u_nName9, ↓u_gVar10, ↓u_sSet10, ↓u_nName10, ↓u_gVar11, ↓u_sSet11, ↓u_nName11, ↓u_gVar12, ↓u_sSet12, ↓u_nName12, ↓u_gVar13, ↓u_sSet13, ↓u_nName13, ↓u_gVar14, ↓u_sSet14, ↓u_nName14, ↓u_gVar15, ↓u_sSet15, ↓u_nName15, ↓u_gVar16, ↓u_sSet16, ↓u_nName16, ↓u_gVar17, ↓u_sSet17, ↓u_nName17, ↓dToInt_int, ↓dToInt_bl, ↓dListU_lst, ↓dListU_tup, ↓dListU_str, ↓dListUM_lst, ↓dListUM_tup, ↓dListUM_str, ↓dTuple_lst, ↓dTuple_tup, ↓dIn_lst, ↓dIn_tup, ↓dSl_str, ↓dSl_lst, ↓dSl_tup, ↓dAdd_int, ↓dAdd_str, ↓dAdd_lst, ↓dAdd_tup, ↓dMul_int, ↓dMul_str, ↓dMul_lst, ↓dIx_lst, ↓dIx_ro, ↓dIx_tup, ↓dIx_str, ↓onSome_some, ↓dLen_lst, ↓dLen_tup, ↓dLen_str, ↓dLen_ro, ↓dLen_dct, ↓items_str, ↓items_lst, ↓items_tup, ↓items_ro, ↓dAll_lst, ↓dAny_lst, ↓dSum_lst, ↓dIsi_ty, ↓dIsi_tup, ↓dIn_str, ↓onSeq_lst, ↓onSeq_tup, ↓dIs_bb, ↓dStrI_i, ↓dIsW_bb, ↓dIsW_ib, ↓dIsW_sb, ↓dIsW_nb, ↓dIsW_lb, ↓dIsW_tb, ↓dIsW_db, ↓dIsW_nn, ↓dIsW_in, ↓dIsW_sn, ↓dIsW_ln, ↓dIsW_tn, ↓dEq_ii, ↓dEq_ss, ↓dNe_ii, ↓dNe_ss, ↓dEq_nil, ↓dNe_nil, ↓dEq_bb, ↓dNe_bb, List.append_nil, List.nil_append, List.cons_append, startD, List.map_cons, List.map_nil, List.length_cons, List.length_nil, Nat.sub_self, List.replicate_zero, List.replicate_succ, List.set_cons_zero, List.set_cons_succ, List.getElem?_cons_zero, List.getElem?_cons_succ, atI_lit, vw_int, vw_str, vw_bl, vw_non, vw_lst, vw_tup, vw_dct, vw_ro, vw_obj, vw_cls, Nat.reduceAdd, Nat.reduceSub, Int.reduceToNat, Int.reduceNeg, Int.reducePow, Int.reduceAdd, Int.reduceSub, Int.reduceMul, ixN_lit, decide_eq_true_eq, decide_eq_false_iff_not, if_true, if_false, Bool.false_eq_true, Bool.not_true, Bool.not_false, Nat.reduceLT, Nat.reduceLeDiff, Int.reduceLT, Int.reduceLE, true_and, and_true, and_self, ite_true, ite_false, kind_int, kind_bl, kind_non, kind_str, kind_lst, kind_tup, kind_dct, clsAll_lt, all_lt, any_lt_l, any_lt_t, any_lt_s, any_lt_i, any_lt_b, any_lt_n, any_lt_d, kc_int, kc_bool, kc_str, kc_list, kc_tuple, kc_dict, isiT, String.reduceBEq, Bool.or_false, Bool.or_true, Bool.false_or, Bool.true_or, Bool.and_false, Bool.false_and, Bool.and_true, Bool.true_and, wipeD, Bool.not_eq_true, Bool.not_eq_false, Bool.not_eq_eq_eq_not, Bool.not_not, Bool.false_bne, Bool.true_bne, dJoin, onSome_some, sizeLine_eq, Mu.put_same, put_put, Nat.zero_le, decide_true, decide_false, flt_litc, fld_str, fld_int, fld_bl, fld_non, List.all_cons, List.all_nil, reduceCtorEq, strOk_of, eqd_int, eqd_str, eqd_bl, eqd_lst0, eqd_lst1, eqd_lst2, eqd_lst3, eqd_tup0, eqd_tup1, eqd_tup2, eqd_tup3, flt_bl, flt_non, c3a, c3b, c3c, c3d, mu_pp]
      exact q (.and x q2) _ (by omega) (by simp only [Rq.depth]; omega) (by simp only [Rq.size]; omega) (fun i hi => (List.mem_append.mp hi).elim (ha i) (g4 i))
  · rename_i x y
    simp only [Rq.depth] at d1 d2 hn q
    simp only [Rq.size] at q
    have ha : ∀ i ∈ x.holes, i ∈ hs := fun i hi => hp i (by simp [Rq.holes, hi])
    have hb : ∀ i ∈ y.holes, i ∈ hs := fun i hi => hp i (by simp [Rq.holes, hi])
    have ht : t = 0 ∨ t = 1 := by omega
    rcases ht with rfl | rfl
    · simp only [↓reduceIte, ↓u_sNx, ↓u_sSeq, ↓u_nx, ↓u_rt, ↓u_bk, ↓u_ct, ↓u_sBreak, ↓u_sCont, ↓u_sDrop, ↓u_sRet, ↓u_sRetN, ↓u_sIf, ↓u_sAsg, ↓u_gC, ↓u_aNil, ↓u_aCons, ↓u_gTup, ↓u_gLst, ↓u_gLstM, ↓u_gBin, ↓u_cVal, ↓u_onBl, ↓u_onInt, ↓u_onStr, ↓u_gChain, ↓u_cAnd, ↓u_cOr, ↓u_cNot, ↓u_gAnd, ↓u_gOr, ↓u_gNot, ↓u_gIf, ↓u_gNeg, ↓u_nNil, ↓u_nCons, ↓u_nTup, ↓u_nSub, ↓u_gCB, ↓u_gCall, ↓u_gM0, ↓u_gM1, ↓u_gL, ↓u_gL0, ↓u_oNo, ↓u_oSome, ↓u_gSl, ↓u_cYes, ↓u_on1, ↓u_on2, ↓u_dInt, ↓u_dInt0, ↓u_gLc, ↓u_gLcM, ↓u_gLc2, ↓u_sNever, ↓u_iEnS, ↓u_iEnL, ↓u_iEnumD, ↓u_iZipD, ↓u_zipS, ↓u_zipL, ↓u_iSeq, ↓u_iRange1, ↓u_iRange2, ↓u_sWhile, ↓u_iRange3, ↓u_on3, ↓u_sFor, ↓u_dMax2, ↓u_dMin2, ↓u_gDct0, ↓u_gVar0, ↓u_sSet0, ↓u_nName0, ↓u_gVar1, ↓u_sSet1, ↓u_nName1, ↓u_gVar2, ↓u_sSet2, ↓u_nName2, ↓u_gVar3, ↓u_sSet3, ↓u_nName3, ↓u_gVar4, ↓u_sSet4, ↓u_nName4, ↓u_gVar5, ↓u_sSet5, ↓u_nName5, ↓u_gVar6, ↓u_sSet6, ↓u_nName6, ↓u_gVar7, ↓u_sSet7, ↓u_nName7, ↓u_gVar8, ↓u_sSet8, ↓u_nName8, ↓u_gVar9, ↓u_sSet9, ↓u_nName9, ↓u_gVar10, ↓u_sSet10, ↓u_nName10, ↓u_gVar11, ↓u_sSet11, ↓u_nName11, ↓u_gVar12, ↓u_sSet12, ↓u_nName12, ↓u_gVar13, ↓u_sSet13, ↓u_nName13, ↓u_gVar14, ↓u_sSet14, ↓u_nName14, ↓u_gVar15, ↓u_sSet15, ↓u_nName15, ↓u_gVar16, ↓u_sSet16, ↓u_nName16, ↓u_gVar17, ↓u_sSet17, ↓u_nName17, ↓dToInt_int, ↓dToInt_bl, ↓dListU_lst, ↓dListU_tup, ↓dListU_str, ↓dListUM_lst, ↓dListUM_tup, ↓dListUM_str, ↓dTuple_lst, ↓dTuple_tup, ↓dIn_lst, ↓dIn_tup, ↓dSl_str, ↓dSl_lst, ↓dSl_tup, ↓dAdd_int, ↓dAdd_str, ↓dAdd_lst, ↓dAdd_tup, ↓dMul_int, ↓dMul_str, ↓dMul_lst, ↓dIx_lst, ↓dIx_ro, ↓dIx_tup, ↓dIx_str, ↓onSome_some, ↓dLen_lst, ↓dLen_tup, ↓dLen_str, ↓dLen_ro, ↓dLen_dct, ↓items_str, ↓items_lst, ↓items_tup, ↓items_ro, ↓dAll_lst, ↓dAny_lst, ↓dSum_lst, ↓dIsi_ty, ↓dIsi_tup, ↓dIn_str, ↓onSeq_lst, ↓onSeq_tup, ↓dIs_bb, ↓dStrI_i, ↓dIsW_bb, ↓dIsW_ib, ↓dIsW_sb, ↓dIsW_nb, ↓dIsW_lb, ↓dIsW_tb, ↓dIsW_db, ↓dIsW_nn, ↓dIsW_in, ↓dIsW_sn, ↓dIsW_ln, ↓dIsW_tn, ↓dEq_ii, ↓dEq_ss, ↓dNe_ii, ↓dNe_ss, ↓dEq_nil, ↓dNe_nil, ↓dEq_bb, ↓dNe_bb, List.append_nil, List.nil_append, List.cons_append, startD, List.map_cons, List.map_nil, List.length_cons, List.length_nil, Nat.sub_self, List.replicate_zero, List.replicate_succ, List.set_cons_zero, List.set_cons_succ, List.getElem?_cons_zero, List.getElem?_cons_succ, atI_lit, vw_int, vw_str, vw_bl, vw_non, vw_lst, vw_tup, vw_dct, vw_ro, vw_obj, vw_cls, Nat.reduceAdd, Nat.reduceSub, Int.reduceToNat, Int.reduceNeg, Int.reducePow, Int.reduceAdd, Int.reduceSub, Int.reduceMul, ixN_lit, decide_eq_true_eq, decide_eq_false_iff_not, if_true, if_false, Bool.false_eq_true, Bool.not_true, Bool.not_false, Nat.reduceLT, Nat.reduceLeDiff, Int.reduceLT, Int.reduceLE, true_and, and_true, and_self, ite_true, ite_false, kind_int, kind_bl, kind_non, kind_str, kind_lst, kind_tup, kind_dct, clsAll_lt, all_lt, any_lt_l, any_lt_t, any_lt_s, any_lt_i, any_lt_b, any_lt_n, any_lt_d, kc_int, kc_bool, kc_str, kc_list, kc_tuple, kc_dict, isiT, String.reduceBEq, Bool.or_false, Bool.or_true, Bool.false_or, Bool.true_or, Bool.and_false, Bool.false_and, Bool.and_true, Bool.true_and, wipeD, Bool.not_eq_true, Bool.not_eq_false, Bool.not_eq_eq_eq_not, Bool.not_not, Bool.false_bne, Bool.true_bne, dJoin, onSome_some, sizeLine_eq, Mu.put_same, put_put, Nat.zero_le, decide_true, decide_false, flt_litc, fld_str, fld_int, fld_bl, fld_non, List.all_cons, List.all_nil, reduceCtorEq, strOk_of, eqd_int, eqd_str, eqd_bl, eqd_lst0, eqd_lst1, eqd_lst2, eqd_lst3, eqd_tup0, eqd_tup1, eqd_tup2, eqd_tup3, flt_bl, flt_non]
      refine ⟨a, _, hs, x, rfl, Mu.put_same, by omega, by omega, ha, h1, h2, by omega, fun q2 n2 g1 g2 g3 g4 => ?_⟩
      simp only [↓reduceIte, ↓u_sNx, ↓u_sSeq, ↓u_nx, ↓u_rt, ↓u_bk, ↓u_ct, ↓u_sBreak, ↓u_sCont, ↓u_sDrop, ↓u_sRet, ↓u_sRetN, ↓u_sIf, ↓u_sAsg, ↓u_gC, ↓u_aNil, ↓u_aCons, ↓u_gTup, ↓u_gLst, ↓u_gLstM, ↓u_gBin, ↓u_cVal, ↓u_onBl, ↓u_onInt, ↓u_onStr, ↓u_gChain, ↓u_cAnd, ↓u_cOr, ↓u_cNot, ↓u_gAnd, ↓u_gOr, ↓u_gNot, ↓u_gIf, ↓u_gNeg, ↓u_nNil, ↓u_nCons, ↓u_nTup, ↓u_nSub, ↓u_gCB, ↓u_gCall, ↓u_gM0, ↓u_gM1, ↓u_gL, ↓u_gL0, ↓u_oNo, ↓u_oSome, ↓u_gSl, ↓u_cYes, ↓u_on1, ↓u_on2, ↓u_dInt, ↓u_dInt0, ↓u_gLc, ↓u_gLcM, ↓u_gLc2, ↓u_sNever, ↓u_iEnS, ↓u_iEnL, ↓u_iEnumD, ↓u_iZipD, ↓u_zipS, ↓u_zipL, ↓u_iSeq, ↓u_iRange1, ↓u_iRange2, ↓u_sWhile, ↓u_iRange3, ↓u_on3, ↓u_sFor, ↓u_dMax2, ↓u_dMin2, ↓u_gDct0, ↓u_gVar0, ↓u_sSet0, ↓u_nName0, ↓u_gVar1, ↓u_sSet1, ↓u_nName1, ↓u_gVar2, ↓u_sSet2, ↓u_nName2, ↓u_gVar3, ↓u_sSet3, ↓u_nName3, ↓u_gVar4, ↓u_sSet4, ↓u_nName4, ↓u_gVar5, ↓u_sSet5, ↓u_nName5, ↓u_gVar6, ↓u_sSet6, ↓u_nName6, ↓u_gVar7, ↓u_sSet7, ↓u_nName7, ↓u_gVar8, ↓u_sSet8, ↓u_nName8, ↓u_gVar9, ↓u_sSet9, ↓u_nName9, ↓u_gVar10, ↓u_sSet10, ↓u_nName10, ↓u_gVar11, ↓u_sSet11, ↓u_nName11, ↓u_gVar12, ↓u_sSet12, ↓u_nName12, ↓u_gVar13, ↓u_sSet13, ↓u_nName13, ↓u_gVar14, ↓u_sSet14, ↓u_nName14, ↓u_gVar15, ↓u_sSet15, ↓u_nName15, ↓u_gVar16, ↓u_sSet16, ↓u_nName16, ↓u_gVar17, ↓u_sSet17, ↓u_nName17, ↓dToInt_int, ↓dToInt_bl, ↓dListU_lst, ↓dListU_tup, ↓dListU_str, ↓dListUM_lst, ↓dListUM_tup, ↓dListUM_str, ↓dTuple_lst, ↓dTuple_tup, ↓dIn_lst, ↓dIn_tup, ↓dSl_str, ↓dSl_lst, ↓dSl_tup, ↓dAdd_int, ↓dAdd_str, ↓dAdd_lst, ↓dAdd_tup, ↓dMul_int, ↓dMul_str, ↓dMul_lst, ↓dIx_lst, ↓dIx_ro, ↓dIx_tup, ↓dIx_str, ↓onSome_some, ↓dLen_lst, ↓dLen_tup, ↓dLen_str, ↓dLen_ro, ↓dLen_dct, ↓items_str, ↓items_lst, ↓items_tup, ↓items_ro, ↓dAll_lst, ↓dAny_lst, ↓dSum_lst, ↓dIsi_ty, ↓dIsi_tup, ↓dIn_str, ↓onSeq_lst, ↓onSeq_tup, ↓dIs_bb, ↓dStrI_i, ↓dIsW_bb, ↓dIsW_ib, ↓dIsW_sb, ↓dIsW_nb, ↓dIsW_lb, ↓dIsW_tb, ↓dIsW_db, ↓dIsW_nn, ↓dIsW_in, ↓dIsW_sn, ↓dIsW_ln, ↓dIsW_tn, ↓dEq_ii, ↓dEq_ss, ↓dNe_ii, ↓dNe_ss, ↓dEq_nil, ↓dNe_nil, ↓dEq_bb, ↓dNe_bb, List.append_nil, List.nil_append, List.cons_append, startD, List.map_cons, List.map_nil, List.length_cons, List.length_nil, Nat.sub_self, List.replicate_zero, List.replicate_succ, List.set_cons_zero, List.set_cons_succ, List.getElem?_cons_zero, List.getElem?_cons_succ, atI_lit, vw_int, vw_str, vw_bl, vw_non, vw_lst, vw_tup, vw_dct, vw_ro, vw_obj, vw_cls, Nat.reduceAdd, Nat.reduceSub, Int.reduceToNat, Int.reduceNeg, Int.reducePow, Int.reduceAdd, Int.reduceSub, Int.reduceMul, ixN_lit, decide_eq_true_eq, decide_eq_false_iff_not, if_true, if_false, Bool.false_eq_true, Bool.not_true, Bool.not_false, Nat.reduceLT, Nat.reduceLeDiff, Int.reduceLT, Int.reduceLE, true_and, and_true, and_self, ite_true, ite_false, kind_int, kind_bl, kind_non, kind_str, kind_lst, kind_tup, kind_dct, clsAll_lt, all_lt, any_lt_l, any_lt_t, any_lt_s, any_lt_i, any_lt_b, any_lt_n, any_lt_d, kc_int, kc_bool, kc_str, kc_list, kc_tuple, kc_dict, isiT, String.reduceBEq, Bool.or_false, Bool.or_true, Bool.false_or, Bool.true_or, Bool.and_false, Bool.false_and, Bool.and_true, Bool.true_and, wipeD, Bool.not_eq_true, Bool.not_eq_false, Bool.not_eq_eq_eq_not, Bool.not_not, Bool.false_bne, Bool.true_bne, dJoin, onSome_some, sizeLine_eq, Mu.put_same, put_put, Nat.zero_le, decide_true, decide_false, flt_litc, fld_str, fld_int, fld_bl, fld_non, List.all_cons, List.all_nil, reduceCtorEq, strOk_of, eqd_int, eqd_str, eqd_bl, eqd_lst0, eqd_lst1, eqd_lst2, eqd_lst3, eqd_tup0, eqd_tup1, eqd_tup2, eqd_tup3, flt_bl, flt_non, c3a, c3b, c3c, c3d, mu_pp]
      exact q (.or q2 y) _ (by omega) (by simp only [Rq.depth]; omega) (by simp only [Rq.size]; omega) (fun i hi => (List.mem_append.mp hi).elim (g4 i) (hb i))
    · simp only [↓reduceIte, ↓u_sNx, ↓u_sSeq, ↓u_nx, ↓u_rt, ↓u_bk, ↓u_ct, ↓u_sBreak, ↓u_sCont, ↓u_sDrop, ↓u_sRet, ↓u_sRetN, ↓u_sIf, ↓u_sAsg, ↓u_gC, ↓u_aNil, ↓u_aCons, ↓u_gTup, ↓u_gLst, ↓u_gLstM, ↓u_gBin, ↓u_cVal, ↓u_onBl, ↓u_onInt, ↓u_onStr, ↓u_gChain, ↓u_cAnd, ↓u_cOr, ↓u_cNot, ↓u_gAnd, ↓u_gOr, ↓u_gNot, ↓u_gIf, ↓u_gNeg, ↓u_nNil, ↓u_nCons, ↓u_nTup, ↓u_nSub, ↓u_gCB, ↓u_gCall, ↓u_gM0, ↓u_gM1, ↓u_gL, ↓u_gL0, ↓u_oNo, ↓u_oSome, ↓u_gSl, ↓u_cYes, ↓u_on1, ↓u_on2, ↓u_dInt, ↓u_dInt0, ↓u_gLc, ↓u_gLcM, ↓u_gLc2, ↓u_sNever, ↓u_iEnS, ↓u_iEnL, ↓u_iEnumD, ↓u_iZipD, ↓u_zipS, ↓u_zipL, ↓u_iSeq, ↓u_iRange1, ↓u_iRange2, ↓u_sWhile, ↓u_iRange3, ↓u_on3, ↓u_sFor, ↓u_dMax2, ↓u_dMin2, ↓u_gDct0, ↓u_gVar0, ↓u_sSet0, ↓u_nName0, ↓u_gVar1, ↓u_sSet1, ↓u_nName1, ↓u_gVar2, ↓u_sSet2, ↓u_nName2, ↓u_gVar3, ↓u_sSet3, ↓u_nName3, ↓u_gVar4, ↓u_sSet4, ↓u_nName4, ↓u_gVar5, ↓u_sSet5, ↓u_nName5, ↓u_gVar6, ↓u_sSet6, ↓u_nName6, ↓u_gVar7, ↓u_sSet7, ↓u_nName7, ↓u_gVar8, ↓u_sSet8, ↓u_nName8, ↓u_gVar9, ↓u_sSet9, ↓u_nName9, ↓u_gVar10, ↓u_sSet10, ↓u_nName10, ↓u_gVar11, ↓u_sSet11, ↓u_nName11, ↓u_gVar12, ↓u_sSet12, ↓u_nName12, ↓u_gVar13, ↓u_sSet13, ↓u_nName13, ↓u_gVar14, ↓u_sSet14, ↓u_nName14, ↓u_gVar15, ↓u_sSet15, ↓u_nName15, ↓u_gVar16, ↓u_sSet16, ↓u_nName16, ↓u_gVar17, ↓u_sSet17, ↓u_nName17, ↓dToInt_int, ↓dToInt_bl, ↓dListU_lst, ↓dListU_tup, ↓dListU_str, ↓dListUM_lst, ↓dListUM_tup, ↓dListUM_str, ↓dTuple_lst, ↓dTuple_tup, ↓dIn_lst, ↓dIn_tup, ↓dSl_str, ↓dSl_lst, ↓dSl_tup, ↓dAdd_int, ↓dAdd_str, ↓dAdd_lst, ↓dAdd_tup, ↓dMul_int, ↓dMul_str, ↓dMul_lst, ↓dIx_lst, ↓dIx_ro, ↓dIx_tup, ↓dIx_str, ↓onSome_some, ↓dLen_lst, ↓dLen_tup, ↓dLen_str, ↓dLen_ro, ↓dLen_dct, ↓items_str, ↓items_lst, ↓items_tup, ↓items_ro, ↓dAll_lst, ↓dAny_lst, ↓dSum_lst, ↓dIsi_ty, ↓dIsi_tup, ↓dIn_str, ↓onSeq_lst, ↓onSeq_tup, ↓dIs_bb, ↓dStrI_i, ↓dIsW_bb, ↓dIsW_ib, ↓dIsW_sb, ↓dIsW_nb, ↓dIsW_lb, ↓dIsW_tb, ↓dIsW_db, ↓dIsW_nn, ↓dIsW_in, ↓dIsW_sn, ↓dIsW_ln, ↓dIsW_tn, ↓dEq_ii, ↓dEq_ss, ↓dNe_ii, ↓dNe_ss, ↓dEq_nil, ↓dNe_nil, ↓dEq_bb, ↓dNe_bb, List.append_nil, List.nil_append, List.cons_append, startD, List.map_cons, List.map_nil, List.length_cons, List.length_nil, Nat.sub_self, List.replicate_zero, List.replicate_succ, List.set_cons_zero, List.set_cons_succ, List.getElem?_cons_zero, List.getElem?_cons_succ, atI_lit, vw_int, vw_str, vw_bl, vw_non, vw_lst, vw_tup, vw_dct, vw_ro, vw_obj, vw_cls, Nat.reduceAdd, Nat.reduceSub, Int.reduceToNat, Int.reduceNeg, Int.reducePow, Int.reduceAdd, Int.reduceSub, Int.reduceMul, ixN_lit, decide_eq_true_eq, decide_eq_false_iff_not, if_true, if_false, Bool.false_eq_true, Bool.not_true, Bool.not_false, Nat.reduceLT, Nat.reduceLeDiff, Int.reduceLT, Int.reduceLE, true_and, and_true, and_self, ite_true, ite_false, kind_int, kind_bl, kind_non, kind_str, kind_lst, kind_tup, kind_dct, clsAll_lt, all_lt, any_lt_l, any_lt_t, any_lt_s, any_lt_i, any_lt_b, any_lt_n, any_lt_d, kc_int, kc_bool, kc_str, kc_list, kc_tuple, kc_dict, isiT, String.reduceBEq, Bool.or_false, Bool.or_true, Bool.false_or, Bool.true_or, Bool.and_false, Bool.false_and, Bool.and_true, Bool.true_and, wipeD, Bool.not_eq_true, Bool.not_eq_false, Bool.not_eq_eq_eq_not, Bool.not_not, Bool.false_bne, Bool.true_bne, dJoin, onSome_some, sizeLine_eq, Mu.put_same, put_put, Nat.zero_le, decide_true, decide_false, flt_litc, fld_str, fld_int, fld_bl, fld_non, List.all_cons, List.all_nil, reduceCtorEq, strOk_of, eqd_int, eqd_str, eqd_bl, eqd_lst0, eqd_lst1, eqd_lst2, eqd_lst3, eqd_tup0, eqd_tup1, eqd_tup2, eqd_tup3, flt_bl, flt_non]
      refine ⟨a, _, hs, y, rfl, Mu.put_same, by omega, by omega, hb, h1, h2, by omega, fun q2 n2 g1 g2 g3 g4 => ?_⟩
      simp only [↓reduceIte, ↓u_sNx, ↓u_sSeq, ↓u_nx, ↓u_rt, ↓u_bk, ↓u_ct, ↓u_sBreak, ↓u_sCont, ↓u_sDrop, ↓u_sRet, ↓u_sRetN, ↓u_sIf, ↓u_sAsg, ↓u_gC, ↓u_aNil, ↓u_aCons, ↓u_gTup, ↓u_gLst, ↓u_gLstM, ↓u_gBin, ↓u_cVal, ↓u_onBl, ↓u_onInt, ↓u_onStr, ↓u_gChain, ↓u_cAnd, ↓u_cOr, ↓u_cNot, ↓u_gAnd, ↓u_gOr, ↓u_gNot, ↓u_gIf, ↓u_gNeg, ↓u_nNil, ↓u_nCons, ↓u_nTup, ↓u_nSub, ↓u_gCB, ↓u_gCall, ↓u_gM0, ↓u_gM1, ↓u_gL, ↓u_gL0, ↓u_oNo, ↓u_oSome, ↓u_gSl, ↓u_cYes, ↓u_on1, ↓u_on2, ↓u_dInt, ↓u_dInt0, ↓u_gLc, ↓u_gLcM, ↓u_gLc2, ↓u_sNever, ↓u_iEnS, ↓u_iEnL, ↓u_iEnumD, ↓u_iZipD, ↓u_zipS, ↓u_zipL, ↓u_iSeq, ↓u_iRange1, ↓u_iRange2, ↓u_sWhile, ↓u_iRange3, ↓u_on3, ↓u_sFor, ↓u_dMax2, ↓u_dMin2, ↓u_gDct0, ↓u_gVar0, ↓u_sSet0, ↓u_nName0, ↓u_gVar1, ↓u_sSet1, ↓u_nName1, ↓u_gVar2, ↓u_sSet2, ↓u_nName2, ↓u_gVar3, ↓u_sSet3, ↓u_nName3, ↓u_gVar4, ↓u_sSet4, ↓u_nName4, ↓u_gVar5, ↓u_sSet5, ↓u_nName5, ↓u_gVar6, ↓u_sSet6, ↓u_nName6, ↓u_gVar7, ↓u_sSet7, ↓u_nName7, ↓u_gVar8, ↓u_sSet8, ↓u_nName8, ↓u_gVar9, ↓u_sSet9, ↓u_nName9, ↓u_gVar10, ↓u_sSet10, ↓u_nName10, ↓u_gVar11, ↓u_sSet11, ↓u_nName11, ↓u_gVar12, ↓u_sSet12, ↓u_nName12, ↓u_gVar13, ↓u_sSet13, ↓u_nName13, ↓u_gVar14, ↓u_sSet14, ↓u_nName14, ↓u_gVar15, ↓u_sSet15, ↓u_nName15, ↓u_gVar16, ↓u_sSet16, ↓u_nName16, ↓u_gVar17, ↓u_sSet17, ↓u_nName17, ↓dToInt_int, ↓dToInt_bl, ↓dListU_lst, ↓dListU_tup, ↓dListU_str, ↓dListUM_lst, ↓dListUM_tup, ↓dListUM_str, ↓dTuple_lst, ↓dTuple_tup, ↓dIn_lst, ↓dIn_tup, ↓dSl_str, ↓dSl_lst, ↓dSl_tup, ↓dAdd_int, ↓dAdd_str, ↓dAdd_lst, ↓dAdd_tup, ↓dMul_int, ↓dMul_str, ↓dMul_lst, ↓dIx_lst, ↓dIx_ro, ↓dIx_tup, ↓dIx_str, ↓onSome_some, ↓dLen_lst, ↓dLen_tup, ↓dLen_str, ↓dLen_ro, ↓dLen_dct, ↓items_str, ↓items_lst, ↓items_tup, ↓items_ro, ↓dAll_lst, ↓dAny_lst, ↓dSum_lst, ↓dIsi_ty, ↓dIsi_tup, ↓dIn_str, ↓onSeq_lst, ↓onSeq_tup, ↓dIs_bb, ↓dStrI_i, ↓dIsW_bb, ↓dIsW_ib, ↓dIsW_sb, ↓dIsW_nb, ↓dIsW_lb, ↓dIsW_tb, ↓dIsW_db, ↓dIsW_nn, ↓dIsW_in, ↓dIsW_sn, ↓dIsW_ln, ↓dIsW_tn, ↓dEq_ii, ↓dEq_ss, ↓dNe_ii, ↓dNe_ss, ↓dEq_nil, ↓dNe_nil, ↓dEq_bb, ↓dNe_bb, List.append_nil, List.nil_append, List.cons_append, startD, List.map_cons, List.map_nil, List.length_cons, List.length_nil, Nat.sub_self, List.replicate_zero, List.replicate_succ, List.set_cons_zero, List.set_cons_succ, List.getElem?_cons_zero, List.getElem?_cons_succ, atI_lit, vw_int, vw_str, vw_bl, vw_non, vw_lst, vw_tup, vw_dct, vw_ro, vw_obj, vw_cls, Nat.reduceAdd, Nat.reduceSub, Int.reduceToNat, Int.reduceNeg, Int.reducePow, Int.reduceAdd, Int.reduceSub, Int.reduceMul, ixN_lit, decide_eq_true_eq, decide_eq_false_iff_not, if_true, if_false, Bool.false_eq_true, Bool.not_true, Bool.not_false, Nat.reduceLT, Nat.reduceLeDiff, Int.reduceLT, Int.reduceLE, true_and, and_true, and_self, ite_true, ite_false, kind_int, kind_bl, kind_non, kind_str, kind_lst, kind_tup, kind_dct, clsAll_lt, all_lt, any_lt_l, any_lt_t, any_lt_s, any_lt_i, any_lt_b, any_lt_n, any_lt_d, kc_int, kc_bool, kc_str, kc_list, kc_tuple, kc_dict, isiT, String.reduceBEq, Bool.or_false, Bool.or_true, Bool.false_or, Bool.true_or, Bool.and_false, Bool.false_and, Bool.and_true, Bool.true_and, wipeD, Bool.not_eq_true, Bool.not_eq_false, Bool.not_eq_eq_eq_not, Bool.not_not, Bool.false_bne, Bool.true_bne, dJoin, onSome_some, sizeLine_eq, Mu.put_same, put_put, Nat.zero_le, decide_true, decide_false, flt_litc, fld_str, fld_int, fld_bl, fld_non, List.all_cons, List.all_nil, reduceCtorEq, strOk_of, eqd_int, eqd_str, eqd_bl, eqd_lst0, eqd_lst1, eqd_lst2, eqd_lst3, eqd_tup0, eqd_tup1, eqd_tup2, eqd_tup3, flt_bl, flt_non, c3a, c3b, c3c, c3d, mu_pp]
      exact q (.or x q2) _ (by omega) (by simp only [Rq.depth]; omega) (by simp only [Rq.size]; omega) (fun i hi => (List.mem_append.mp hi).elim (ha i) (g4 i))
  · rename_i x
    simp only [Rq.depth] at d1 d2 hn q
    simp only [Rq.size] at q
    have ha : ∀ i ∈ x.holes, i ∈ hs := fun i hi => hp i (by simp [Rq.holes, hi])
    obtain rfl : t = 0 := by omega
    simp only [↓reduceIte, ↓u_sNx, ↓u_sSeq, ↓u_nx, ↓u_rt, ↓u_bk, ↓u_ct, ↓u_sBreak, ↓u_sCont, ↓u_sDrop, ↓u_sRet, ↓u_sRetN, ↓u_sIf, ↓u_sAsg, ↓u_gC, ↓u_aNil, ↓u_aCons, ↓u_gTup, ↓u_gLst, ↓u_gLstM, ↓u_gBin, ↓u_cVal, ↓u_onBl, ↓u_onInt, ↓u_onStr, ↓u_gChain, ↓u_cAnd, ↓u_cOr, ↓u_cNot, ↓u_gAnd, ↓u_gOr, ↓u_gNot, ↓u_gIf, ↓u_gNeg, ↓u_nNil, ↓u_nCons, ↓u_nTup, ↓u_nSub, ↓u_gCB, ↓u_gCall, ↓u_gM0, ↓u_gM1, ↓u_gL, ↓u_gL0, ↓u_oNo, ↓u_oSome, ↓u_gSl, ↓u_cYes, ↓u_on1, ↓u_on2, ↓u_dInt, ↓u_dInt0, ↓u_gLc, ↓u_gLcM, ↓u_gLc2, ↓u_sNever, ↓u_iEnS, ↓u_iEnL, ↓u_iEnumD, ↓u_iZipD, ↓u_zipS, ↓u_zipL, ↓u_iSeq, ↓u_iRange1, ↓u_iRange2, ↓u_sWhile, ↓u_iRange3, ↓u_on3, ↓u_sFor, ↓u_dMax2, ↓u_dMin2, ↓u_gDct0, ↓u_gVar0, ↓u_sSet0, ↓u_nName0, ↓u_gVar1, ↓u_sSet1, ↓u_nName1, ↓u_gVar2, ↓u_sSet2, ↓u_nName2, ↓u_gVar3, ↓u_sSet3, ↓u_nName3, ↓u_gVar4, ↓u_sSet4, ↓u_nName4, ↓u_gVar5, ↓u_sSet5, ↓u_nName5, ↓u_gVar6, ↓u_sSet6, ↓u_nName6, ↓u_gVar7, ↓u_sSet7, ↓u_nName7, ↓u_gVar8, ↓u_sSet8, ↓u_nName8, ↓u_gVar9, ↓u_sSet9, ↓u_nName9, ↓u_gVar10, ↓u_sSet10, ↓u_nName10, ↓u_gVar11, ↓u_sSet11, ↓u_nName11, ↓u_gVar12, ↓u_sSet12, ↓u_nName12, ↓u_gVar13, ↓u_sSet13, ↓u_nName13, ↓u_gVar14, ↓u_sSet14, ↓u_nName14, ↓u_gVar15, ↓u_sSet15, ↓u_nName15, ↓u_gVar16, ↓u_sSet16, ↓u_nName16, ↓u_gVar17, ↓u_sSet17, ↓u_nName17, ↓dToInt_int, ↓dToInt_bl, ↓dListU_lst, ↓dListU_tup, ↓dListU_str, ↓dListUM_lst, ↓dListUM_tup, ↓dListUM_str, ↓dTuple_lst, ↓dTuple_tup, ↓dIn_lst, ↓dIn_tup, ↓dSl_str, ↓dSl_lst, ↓dSl_tup, ↓dAdd_int, ↓dAdd_str, ↓dAdd_lst, ↓dAdd_tup, ↓dMul_int, ↓dMul_str, ↓dMul_lst, ↓dIx_lst, ↓dIx_ro, ↓dIx_tup, ↓dIx_str, ↓onSome_some, ↓dLen_lst, ↓dLen_tup, ↓dLen_str, ↓dLen_ro, ↓dLen_dct, ↓items_str, ↓items_lst, ↓items_tup, ↓items_ro, ↓dAll_lst, ↓dAny_lst, ↓dSum_lst, ↓dIsi_ty, ↓dIsi_tup, ↓dIn_str, ↓onSeq_lst, ↓onSeq_tup, ↓dIs_bb, ↓dStrI_i, ↓dIsW_bb, ↓dIsW_ib, ↓dIsW_sb, ↓dIsW_nb, ↓dIsW_lb, ↓dIsW_tb, ↓dIsW_db, ↓dIsW_nn, ↓dIsW_in, ↓dIsW_sn, ↓dIsW_ln, ↓dIsW_tn, ↓dEq_ii, ↓dEq_ss, ↓dNe_ii, ↓dNe_ss, ↓dEq_nil, ↓dNe_nil, ↓dEq_bb, ↓dNe_bb, List.append_nil, List.nil_append, List.cons_append, startD, List.map_cons, List.map_nil, List.length_cons, List.length_nil, Nat.sub_self, List.replicate_zero, List.replicate_succ, List.set_cons_zero, List.set_cons_succ, List.getElem?_cons_zero, List.getElem?_cons_succ, atI_lit, vw_int, vw_str, vw_bl, vw_non, vw_lst, vw_tup, vw_dct, vw_ro, vw_obj, vw_cls, Nat.reduceAdd, Nat.reduceSub, Int.reduceToNat, Int.reduceNeg, Int.reducePow, Int.reduceAdd, Int.reduceSub, Int.reduceMul, ixN_lit, decide_eq_true_eq, decide_eq_false_iff_not, if_true, if_false, Bool.false_eq_true, Bool.not_true, Bool.not_false, Nat.reduceLT, Nat.reduceLeDiff, Int.reduceLT, Int.reduceLE, true_and, and_true, and_self, ite_true, ite_false, kind_int, kind_bl, kind_non, kind_str, kind_lst, kind_tup, kind_dct, clsAll_lt, all_lt, any_lt_l, any_lt_t, any_lt_s, any_lt_i, any_lt_b, any_lt_n, any_lt_d, kc_int, kc_bool, kc_str, kc_list, kc_tuple, kc_dict, isiT, String.reduceBEq, Bool.or_false, Bool.or_true, Bool.false_or, Bool.true_or, Bool.and_false, Bool.false_and, Bool.and_true, Bool.true_and, wipeD, Bool.not_eq_true, Bool.not_eq_false, Bool.not_eq_eq_eq_not, Bool.not_not, Bool.false_bne, Bool.true_bne, dJoin, onSome_some, sizeLine_eq, Mu.put_same, put_put, Nat.zero_le, decide_true, decide_false, flt_litc, fld_str, fld_int, fld_bl, fld_non, List.all_cons, List.all_nil, reduceCtorEq, strOk_of, eqd_int, eqd_str, eqd_bl, eqd_lst0, eqd_lst1, eqd_lst2, eqd_lst3, eqd_tup0, eqd_tup1, eqd_tup2, eqd_tup3, flt_bl, flt_non]
    refine ⟨a, _, hs, x, rfl, Mu.put_same, by omega, by omega, ha, h1, h2, by omega, fun q2 n2 g1 g2 g3 g4 => ?_⟩
    simp only [↓reduceIte, ↓u_sNx, ↓u_sSeq, ↓u_nx, ↓u_rt, ↓u_bk, ↓u_ct, ↓u_sBreak, ↓u_sCont, ↓u_sDrop, ↓u_sRet, ↓u_sRetN, ↓u_sIf, ↓u_sAsg, ↓u_gC, ↓u_aNil, ↓u_aCons, ↓u_gTup, ↓u_gLst, ↓u_gLstM, ↓u_gBin, ↓u_cVal, ↓u_onBl, ↓u_onInt, ↓u_onStr, ↓u_gChain, ↓u_cAnd, ↓u_cOr, ↓u_cNot, ↓u_gAnd, ↓u_gOr, ↓u_gNot, ↓u_gIf, ↓u_gNeg, ↓u_nNil, ↓u_nCons, ↓u_nTup, ↓u_nSub, ↓u_gCB, ↓u_gCall, ↓u_gM0, ↓u_gM1, ↓u_gL, ↓u_gL0, ↓u_oNo, ↓u_oSome, ↓u_gSl, ↓u_cYes, ↓u_on1, ↓u_on2, ↓u_dInt, ↓u_dInt0, ↓u_gLc, ↓u_gLcM, ↓u_gLc2, ↓u_sNever, ↓u_iEnS, ↓u_iEnL, ↓u_iEnumD, ↓u_iZipD, ↓u_zipS, ↓u_zipL, ↓u_iSeq, ↓u_iRange1, ↓u_iRange2, ↓u_sWhile, ↓u_iRange3, ↓u_on3, ↓u_sFor, ↓u_dMax2, ↓u_dMin2, ↓u_gDct0, ↓u_gVar0, ↓u_sSet0, ↓u_nName0, ↓u_gVar1, ↓u_sSet1, ↓u_nName1, ↓u_gVar2, ↓u_sSet2, ↓u_nName2, ↓u_gVar3, ↓u_sSet3, ↓u_nName3, ↓u_gVar4, ↓u_sSet4, ↓u_nName4, ↓u_gVar5, ↓u_sSet5, ↓u_nName5, ↓u_gVar6, ↓u_sSet6, ↓u_nName6, ↓u_gVar7, ↓u_sSet7, ↓u_nName7, ↓u_gVar8, ↓u_sSet8, ↓u_nName8, ↓u_gVar9, ↓u_sSet9, ↓u_nName9, ↓u_gVar10, ↓u_sSet10, ↓u_nName10, ↓u_gVar11, ↓u_sSet11, ↓u_nName11, ↓u_gVar12, ↓u_sSet12, ↓u_nName12, ↓u_gVar13, ↓u_sSet13, ↓u_nName13, ↓u_gVar14, ↓u_sSet14, ↓u_nName14, ↓u_gVar15, ↓u_sSet15, ↓u_nName15, ↓u_gVar16, ↓u_sSet16, ↓u_nName16, ↓u_gVar17, ↓u_sSet17, ↓u_nName17, ↓dToInt_int, ↓dToInt_bl, ↓dListU_lst, ↓dListU_tup, ↓dListU_str, ↓dListUM_lst, ↓dListUM_tup, ↓dListUM_str, ↓dTuple_lst, ↓dTuple_tup, ↓dIn_lst, ↓dIn_tup, ↓dSl_str, ↓dSl_lst, ↓dSl_tup, ↓dAdd_int, ↓dAdd_str, ↓dAdd_lst, ↓dAdd_tup, ↓dMul_int, ↓dMul_str, ↓dMul_lst, ↓dIx_lst, ↓dIx_ro, ↓dIx_tup, ↓dIx_str, ↓onSome_some, ↓dLen_lst, ↓dLen_tup, ↓dLen_str, ↓dLen_ro, ↓dLen_dct, ↓items_str, ↓items_lst, ↓items_tup, ↓items_ro, ↓dAll_lst, ↓dAny_lst, ↓dSum_lst, ↓dIsi_ty, ↓dIsi_tup, ↓dIn_str, ↓onSeq_lst, ↓onSeq_tup, ↓dIs_bb, ↓dStrI_i, ↓dIsW_bb, ↓dIsW_ib, ↓dIsW_sb, ↓dIsW_nb, ↓dIsW_lb, ↓dIsW_tb, ↓dIsW_db, ↓dIsW_nn, ↓dIsW_in, ↓dIsW_sn, ↓dIsW_ln, ↓dIsW_tn, ↓dEq_ii, ↓dEq_ss, ↓dNe_ii, ↓dNe_ss, ↓dEq_nil, ↓dNe_nil, ↓dEq_bb, ↓dNe_bb, List.append_nil, List.nil_append, List.cons_append, startD, List.map_cons, List.map_nil, List.length_cons, List.length_nil, Nat.sub_self, List.replicate_zero, List.replicate_succ, List.set_cons_zero, List.set_cons_succ, List.getElem?_cons_zero, List.getElem?_cons_succ, atI_lit, vw_int, vw_str, vw_bl, vw_non, vw_lst, vw_tup, vw_dct, vw_ro, vw_obj, vw_cls, Nat.reduceAdd, Nat.reduceSub, Int.reduceToNat, Int.reduceNeg, Int.reducePow, Int.reduceAdd, Int.reduceSub, Int.reduceMul, ixN_lit, decide_eq_true_eq, decide_eq_false_iff_not, if_true, if_false, Bool.false_eq_true, Bool.not_true, Bool.not_false, Nat.reduceLT, Nat.reduceLeDiff, Int.reduceLT, Int.reduceLE, true_and, and_true, and_self, ite_true, ite_false, kind_int, kind_bl, kind_non, kind_str, kind_lst, kind_tup, kind_dct, clsAll_lt, all_lt, any_lt_l, any_lt_t, any_lt_s, any_lt_i, any_lt_b, any_lt_n, any_lt_d, kc_int, kc_bool, kc_str, kc_list, kc_tuple, kc_dict, isiT, String.reduceBEq, Bool.or_false, Bool.or_true, Bool.false_or, Bool.true_or, Bool.and_false, Bool.false_and, Bool.and_true, Bool.true_and, wipeD, Bool.not_eq_true, Bool.not_eq_false, Bool.not_eq_eq_eq_not, Bool.not_not, Bool.false_bne, Bool.true_bne, dJoin, onSome_some, sizeLine_eq, Mu.put_same, put_put, Nat.zero_le, decide_true, decide_false, flt_litc, fld_str, fld_int, fld_bl, fld_non, List.all_cons, List.all_nil, reduceCtorEq, strOk_of, eqd_int, eqd_str, eqd_bl, eqd_lst0, eqd_lst1, eqd_lst2, eqd_lst3, eqd_tup0, eqd_tup1, eqd_tup2, eqd_tup3, flt_bl, flt_non, c2a, c2b, mu_pp]
    exact q (.not q2) _ (by omega) (by simp only [Rq.depth]; omega) (by simp only [Rq.size]; omega) g4
end
end Nd

namespace Nd
open PySem L2 PyProof.Rows PySem.Spec
/-! the plain law -/
theorem num_ex : ∀ (w j : Nat), j < 2 ^ w → ∃ bs : List Bool, bs.length = w ∧ numB bs = (j : Int)
  | 0, j, h => ⟨[], rfl, by simp at h; subst h; rfl⟩
  | w + 1, j, h => by
    have e : 2 ^ (w + 1) = 2 ^ w + 2 ^ w := by rw [Nat.pow_succ]; omega
    by_cases hj : j < 2 ^ w
    · obtain ⟨bs, h1, h2⟩ := num_ex w j hj
      exact ⟨false :: bs, by simp [h1], by rw [numB_cons, h2]; simp⟩
    · obtain ⟨bs, h1, h2⟩ := num_ex w (j - 2 ^ w) (by omega)
      refine ⟨true :: bs, by simp [h1], ?_⟩
      rw [numB_cons, h2, h1, if_pos rfl]
      have : ((2 ^ w : Nat) : Int) = (2 : Int) ^ w := by push_cast; rfl
      rw [← this]
      omega
theorem numB_rowOf {w j : Nat} (h : j < 2 ^ w) : numB (rowOf w (j : Nat)) = (j : Int) := by
  obtain ⟨bs, h1, h2⟩ := num_ex w j h
  rw [← h2]
  subst h1
  rw [rowOf_num]
theorem numB_rep_f : ∀ w : Nat, numB (List.replicate w false) = 0
  | 0 => rfl
  | w + 1 => by rw [List.replicate_succ, numB_cons, numB_rep_f w]; rfl
theorem numB_rep_t : ∀ w : Nat, numB (List.replicate w true) = 2 ^ w - 1
  | 0 => rfl
  | w + 1 => by
    rw [List.replicate_succ, numB_cons, numB_rep_t w, if_pos rfl, List.length_replicate, Int.pow_succ]
    omega
theorem rowOf_0 (w : Nat) : rowOf w ((0 : Nat) : Int) = List.replicate w false := by
  have := rowOf_num (List.replicate w false)
  rw [List.length_replicate, numB_rep_f] at this
  exact this
theorem rowOf_top (w : Nat) : rowOf w ((2 ^ w - 1 : Nat) : Int) = List.replicate w true := by
  have := rowOf_num (List.replicate w true)
  rw [List.length_replicate, numB_rep_t] at this
  have p : 0 < 2 ^ w := Nat.two_pow_pos w
  rw [← this]
  congr 1
  rw [Int.natCast_sub (by omega)]
  push_cast
  rfl
theorem difD_self (q : Rq) (w : Nat) : difD q q w = .non := difD_no fun _ _ => rfl
theorem difD_all (w : Nat) : difD .all .non w = .str (rw_ (List.replicate w false)) := by
  rw [← rowOf_0]
  exact difD_at (fun j hj => absurd hj (by omega)) (Nat.two_pow_pos w) (by simp [Rq.hd])
theorem difD_or (p q : Rq) (w : Nat) : difD p q w = .non ∨ ∃ bs : List Bool, bs.length = w ∧ difD p q w = .str (rw_ bs) := by
  unfold difD
  cases (List.range (2 ^ w)).find? (fun k => p.hd (rowOf w (k : Nat)) != q.hd (rowOf w (k : Nat))) with
  | none => exact .inl rfl
  | some k => exact .inr ⟨_, rowOf_len _ _, rfl⟩
/-- the open hole of the last place, and those of the first i -/
def lastQ (w : Nat) : Nat → Rq
  | 0 => .opn (w - 1)
  | i + 1 => .and (.opn i) (lastQ w i)
theorem lastQ_depth (w : Nat) : ∀ i, (lastQ w i).depth = i + 1
  | 0 => rfl
  | i + 1 => by simp only [lastQ, Rq.depth, lastQ_depth w i]; omega
theorem lastQ_size (w : Nat) : ∀ i, (lastQ w i).size = 2 * i + 1
  | 0 => rfl
  | i + 1 => by simp only [lastQ, Rq.size, lastQ_size w i]; omega
theorem lastQ_ok (w : Nat) (hw : 1 ≤ w) : ∀ i, i < w → (lastQ w i).ok w
  | 0, _ => fun j hj => by simp [lastQ, Rq.holes] at hj; omega
  | i + 1, h => fun j hj => by
    simp only [lastQ, Rq.holes, List.mem_append, List.mem_singleton] at hj
    rcases hj with rfl | hj
    · omega
    · exact lastQ_ok w hw i (by omega) j hj
theorem lastQ_hd (w : Nat) (bs : List Bool) : ∀ i, (lastQ w i).hd bs = true ↔ (∀ j < i, bs[j]?.getD false = true) ∧ bs[w - 1]?.getD false = true
  | 0 => by simp [lastQ, Rq.hd]
  | i + 1 => by
    simp only [lastQ, Rq.hd, Bool.and_eq_true, lastQ_hd w bs i]
    constructor
    · rintro ⟨h1, h2, h3⟩
      refine ⟨fun j hj => ?_, h3⟩
      by_cases e : j = i
      · rw [e]; exact h1
      · exact h2 j (by omega)
    · rintro ⟨h1, h2⟩
      exact ⟨h1 i (by omega), fun j hj => h1 j (by omega), h2⟩
theorem lastQ_all {w : Nat} (hw : 1 ≤ w) {bs : List Bool} (hl : bs.length = w) : (lastQ w (w - 1)).hd bs = true ↔ bs = List.replicate w true := by
  rw [lastQ_hd]
  constructor
  · rintro ⟨h1, h2⟩
    refine List.eq_replicate_iff.mpr ⟨hl, fun b hb => ?_⟩
    obtain ⟨i, hi, rfl⟩ := List.mem_iff_getElem.mp hb
    have : bs[i]?.getD false = true := by
      by_cases e : i = w - 1
      · rw [e]; exact h2
      · exact h1 i (by omega)
    rwa [List.getElem?_eq_getElem hi] at this
  · rintro rfl
    refine ⟨fun j hj => ?_, ?_⟩
    · rw [List.getElem?_replicate_of_lt (by omega)]; rfl
    · rw [List.getElem?_replicate_of_lt (by omega)]; rfl
theorem difD_last {w : Nat} (hw : 1 ≤ w) : difD (lastQ w (w - 1)) .non w = .str (rw_ (List.replicate w true)) := by
  have p : 0 < 2 ^ w := Nat.two_pow_pos w
  rw [← rowOf_top]
  refine difD_at (fun j hj => ?_) (by omega) ?_
  · have hn : ¬ (lastQ w (w - 1)).hd (rowOf w (j : Nat)) = true := fun h => by
      rw [lastQ_all hw (rowOf_len _ _)] at h
      have h2 := numB_rowOf (w := w) (j := j) (by omega)
      rw [h, numB_rep_t] at h2
      have : ((2 ^ w : Nat) : Int) = (2 : Int) ^ w := by push_cast; rfl
      omega
    simpa [Rq.hd] using hn
  · rw [rowOf_top, (lastQ_all hw (List.length_replicate ..)).mpr rfl]
    simp [Rq.hd]
def g_law : GS :=
  (sSeq (sFor (iRange1 (aCons (gCB dMax2 (aCons (gC (.int 2)) (aCons (gCB dMin2 (aCons (gC (.int 6)) (aCons (gCB dLen (aCons (gVar 0) aNil)) aNil))) aNil))) aNil)) (nName 1) (sSeq (sSet 2 (gCall S__law_box [] (aCons (gCall S__law_cell [] (aCons (gVar 0) (aCons (gVar 1) aNil))) aNil)))
  (sSeq (sSet 3 (gBin dIx (gLst (aCons (gBin dAdd (gC (.int 1)) (gCall S__law_take [] (aCons (gVar 2) (aCons (gC (.int 7)) aNil)))) (aCons (gBin dAdd (gC (.int 1)) (gCall S__law_take [] (aCons (gVar 2) (aCons (gC (.int 5)) aNil)))) (aCons (gBin dAdd (gC (.int 8)) (gBin dMul (gCall S__law_take [] (aCons (gVar 2) (aCons (gC (.int 3)) aNil))) (gCB dToInt (aCons (gBin dEq (gVar 1) (gC (.int 0))) aNil)))) aNil)))) (gCall S__law_take [] (aCons (gVar 2) (aCons (gC (.int 3)) aNil)))))
  (sSeq (sSet 4 (gLc (iRange1 (aCons (gC (.int 5)) aNil)) (nName 10) cYes (gCall S__law_take [] (aCons (gVar 2) (aCons (gVar 3) aNil))) [10]))
  (sSeq (sSet 5 (gCall (S__law_request 5) [] (aCons (gVar 2) (aCons (gVar 4) (aCons (gBin dAdd (gC (.int 1)) (gCall S__law_take [] (aCons (gVar 2) (aCons (gC (.int 4)) aNil)))) aNil)))))
  (sSeq (sFor (iSeq (gLst (aCons (gCall (S__law_leaf_bent 5) [] (aCons (gVar 2) (aCons (gVar 5) (aCons (gVar 4) aNil)))) (aCons (gCall (S__law_request 5) [] (aCons (gVar 2) (aCons (gVar 4) (aCons (gBin dAdd (gC (.int 1)) (gCall S__law_take [] (aCons (gVar 2) (aCons (gC (.int 4)) aNil)))) aNil)))) (aCons (gTup (aCons (gC (.str "not")) (aCons (gVar 5) aNil))) aNil))))) (nName 6) (sSeq (sSet 9 (gCall S__law_due [] (aCons (gVar 5) (aCons (gVar 6) (aCons (gVar 3) aNil)))))
  (sIf (cNot (cVal (gCall S__law_even [] (aCons (gLst (aCons (gCall S_difference [] (aCons (gVar 5) (aCons (gVar 6) (aCons (gVar 3) aNil)))) (aCons (gCall S_difference [] (aCons (gVar 6) (aCons (gVar 5) (aCons (gVar 3) aNil)))) aNil))) (aCons (gLst (aCons (gVar 9) (aCons (gVar 9) aNil))) aNil))))) (sRet (gC (.bl false))) sNx)))
  (sSeq (sIf (cOr (cVal (gBin (dIsW true) (gCall S_difference [] (aCons (gVar 5) (aCons (gVar 5) (aCons (gVar 3) aNil)))) (gC .non))) (cVal (gBin dNe (gCall S_difference [] (aCons (gTup (aCons (gC (.str "all")) aNil)) (aCons (gTup (aCons (gC (.str "none")) aNil)) (aCons (gVar 3) aNil)))) (gBin dMul (gC (.str "o")) (gVar 3))))) (sRet (gC (.bl false))) sNx)
  (sSeq (sSet 7 (gTup (aCons (gC (.str "open")) (aCons (gBin dSub (gVar 3) (gC (.int 1))) aNil))))
  (sSeq (sFor (iRange1 (aCons (gBin dSub (gVar 3) (gC (.int 1))) aNil)) (nName 8) (sSet 7 (gTup (aCons (gC (.str "and")) (aCons (gTup (aCons (gC (.str "open")) (aCons (gVar 8) aNil))) (aCons (gVar 7) aNil))))))
  (sIf (cVal (gBin dNe (gCall S_difference [] (aCons (gVar 7) (aCons (gTup (aCons (gC (.str "none")) aNil)) (aCons (gVar 3) aNil)))) (gBin dMul (gC (.str "v")) (gVar 3)))) (sRet (gC (.bl false))) sNx))))))))))
  (sRet (gC (.bl true))))
def S_law : Spec := wpS ["script"] ["script", "k", "box", "width", "holes", "one", "other", "last", "hole", "due", "at"] g_law
theorem law_holds : LawS S_law 63 := fun ns hns => by
  refine ⟨rfl, ?_⟩
  simp only [g_law, ↓reduceIte, ↓u_sNx, ↓u_sSeq, ↓u_nx, ↓u_rt, ↓u_bk, ↓u_ct, ↓u_sBreak, ↓u_sCont, ↓u_sDrop, ↓u_sRet, ↓u_sRetN, ↓u_sIf, ↓u_sAsg, ↓u_gC, ↓u_aNil, ↓u_aCons, ↓u_gTup, ↓u_gLst, ↓u_gLstM, ↓u_gBin, ↓u_cVal, ↓u_onBl, ↓u_onInt, ↓u_onStr, ↓u_gChain, ↓u_cAnd, ↓u_cOr, ↓u_cNot, ↓u_gAnd, ↓u_gOr, ↓u_gNot, ↓u_gIf, ↓u_gNeg, ↓u_nNil, ↓u_nCons, ↓u_nTup, ↓u_nSub, ↓u_gCB, ↓u_gCall, ↓u_gM0, ↓u_gM1, ↓u_gL, ↓u_gL0, ↓u_oNo, ↓u_oSome, ↓u_gSl, ↓u_cYes, ↓u_on1, ↓u_on2, ↓u_dInt, ↓u_dInt0, ↓u_gLc, ↓u_gLcM, ↓u_gLc2, ↓u_sNever, ↓u_iEnS, ↓u_iEnL, ↓u_iEnumD, ↓u_iZipD, ↓u_zipS, ↓u_zipL, ↓u_iSeq, ↓u_iRange1, ↓u_iRange2, ↓u_sWhile, ↓u_iRange3, ↓u_on3, ↓u_sFor, ↓u_dMax2, ↓u_dMin2, ↓u_gDct0, ↓u_gVar0, ↓u_sSet0, ↓u_nName0, ↓u_gVar1, ↓u_sSet1, ↓u_nName1, ↓u_gVar2, ↓u_sSet2, ↓u_nName2, ↓u_gVar3, ↓u_sSet3, ↓u_nName3, ↓u_gVar4, ↓u_sSet4, ↓u_nName4, ↓u_gVar5, ↓u_sSet5, ↓u_nName5, ↓u_gVar6, ↓u_sSet6, ↓u_nName6, ↓u_gVar7, ↓u_sSet7, ↓u_nName7, ↓u_gVar8, ↓u_sSet8, ↓u_nName8, ↓u_gVar9, ↓u_sSet9, ↓u_nName9, ↓u_gVar10, ↓u_sSet10, ↓u_nName10, ↓u_gVar11, ↓u_sSet11, ↓u_nName11, ↓u_gVar12, ↓u_sSet12, ↓u_nName12, ↓u_gVar13, ↓u_sSet13, ↓u_nName13, ↓u_gVar14, ↓u_sSet14, ↓u_nName14, ↓u_gVar15, ↓u_sSet15, ↓u_nName15, ↓u_gVar16, ↓u_sSet16, ↓u_nName16, ↓u_gVar17, ↓u_sSet17, ↓u_nName17, ↓dToInt_int, ↓dToInt_bl, ↓dListU_lst, ↓dListU_tup, ↓dListU_str, ↓dListUM_lst, ↓dListUM_tup, ↓dListUM_str, ↓dTuple_lst, ↓dTuple_tup, ↓dIn_lst, ↓dIn_tup, ↓dSl_str, ↓dSl_lst, ↓dSl_tup, ↓dAdd_int, ↓dAdd_str, ↓dAdd_lst, ↓dAdd_tup, ↓dMul_int, ↓dMul_str, ↓dMul_lst, ↓dIx_lst, ↓dIx_ro, ↓dIx_tup, ↓dIx_str, ↓onSome_some, ↓dLen_lst, ↓dLen_tup, ↓dLen_str, ↓dLen_ro, ↓dLen_dct, ↓items_str, ↓items_lst, ↓items_tup, ↓items_ro, ↓dAll_lst, ↓dAny_lst, ↓dSum_lst, ↓dIsi_ty, ↓dIsi_tup, ↓dIn_str, ↓onSeq_lst, ↓onSeq_tup, ↓dIs_bb, ↓dStrI_i, ↓dIsW_bb, ↓dIsW_ib, ↓dIsW_sb, ↓dIsW_nb, ↓dIsW_lb, ↓dIsW_tb, ↓dIsW_db, ↓dIsW_nn, ↓dIsW_in, ↓dIsW_sn, ↓dIsW_ln, ↓dIsW_tn, ↓dEq_ii, ↓dEq_ss, ↓dNe_ii, ↓dNe_ss, ↓dEq_nil, ↓dNe_nil, ↓dEq_bb, ↓dNe_bb, List.append_nil, List.nil_append, List.cons_append, startD, List.map_cons, List.map_nil, List.length_cons, List.length_nil, Nat.sub_self, List.replicate_zero, List.replicate_succ, List.set_cons_zero, List.set_cons_succ, List.getElem?_cons_zero, List.getElem?_cons_succ, atI_lit, vw_int, vw_str, vw_bl, vw_non, vw_lst, vw_tup, vw_dct, vw_ro, vw_obj, vw_cls, Nat.reduceAdd, Nat.reduceSub, Int.reduceToNat, Int.reduceNeg, Int.reducePow, Int.reduceAdd, Int.reduceSub, Int.reduceMul, ixN_lit, decide_eq_true_eq, decide_eq_false_iff_not, if_true, if_false, Bool.false_eq_true, Bool.not_true, Bool.not_false, Nat.reduceLT, Nat.reduceLeDiff, Int.reduceLT, Int.reduceLE, true_and, and_true, and_self, ite_true, ite_false, kind_int, kind_bl, kind_non, kind_str, kind_lst, kind_tup, kind_dct, clsAll_lt, all_lt, any_lt_l, any_lt_t, any_lt_s, any_lt_i, any_lt_b, any_lt_n, any_lt_d, kc_int, kc_bool, kc_str, kc_list, kc_tuple, kc_dict, isiT, String.reduceBEq, Bool.or_false, Bool.or_true, Bool.false_or, Bool.true_or, Bool.and_false, Bool.false_and, Bool.and_true, Bool.true_and, wipeD, Bool.not_eq_true, Bool.not_eq_false, Bool.not_eq_eq_eq_not, Bool.not_not, Bool.false_bne, Bool.true_bne, dJoin, onSome_some, sizeLine_eq, Mu.put_same, put_put, Nat.zero_le, decide_true, decide_false, flt_litc, fld_str, fld_int, fld_bl, fld_non, List.all_cons, List.all_nil, reduceCtorEq, strOk_of, eqd_int, eqd_str, eqd_bl, eqd_lst0, eqd_lst1, eqd_lst2, eqd_lst3, eqd_tup0, eqd_tup1, eqd_tup2, eqd_tup3, flt_bl, flt_non]
  obtain ⟨b1, b2⟩ := top_k 6 (ns.map D.int).length (by decide)
  simp only [Int.cast_ofNat_Int] at b1 b2
  generalize (if (if ((ns.map D.int).length : Int) < 6 then ((ns.map D.int).length : Int) else 6) > 2 then (if ((ns.map D.int).length : Int) < 6 then ((ns.map D.int).length : Int) else 6) else 2) = top at *
  refine ⟨⟨by omega, by omega⟩, for_inv (fun _ ρ _ => ∃ x1 x2 x3 x4 x5 x6 x7 x8 x9 x10, ρ = [some (.ro (ns.map D.int)), x1, x2, x3, x4, x5, x6, x7, x8, x9, x10]) ⟨none, none, none, none, none, none, none, none, none, none, rfl⟩ (fun _ _ _ _ => trivial) ?_ ?_⟩
  rotate_left
  · rintro ρ m ⟨x1, x2, x3, x4, x5, x6, x7, x8, x9, x10, rfl⟩
    simp only [↓reduceIte, ↓u_sNx, ↓u_sSeq, ↓u_nx, ↓u_rt, ↓u_bk, ↓u_ct, ↓u_sBreak, ↓u_sCont, ↓u_sDrop, ↓u_sRet, ↓u_sRetN, ↓u_sIf, ↓u_sAsg, ↓u_gC, ↓u_aNil, ↓u_aCons, ↓u_gTup, ↓u_gLst, ↓u_gLstM, ↓u_gBin, ↓u_cVal, ↓u_onBl, ↓u_onInt, ↓u_onStr, ↓u_gChain, ↓u_cAnd, ↓u_cOr, ↓u_cNot, ↓u_gAnd, ↓u_gOr, ↓u_gNot, ↓u_gIf, ↓u_gNeg, ↓u_nNil, ↓u_nCons, ↓u_nTup, ↓u_nSub, ↓u_gCB, ↓u_gCall, ↓u_gM0, ↓u_gM1, ↓u_gL, ↓u_gL0, ↓u_oNo, ↓u_oSome, ↓u_gSl, ↓u_cYes, ↓u_on1, ↓u_on2, ↓u_dInt, ↓u_dInt0, ↓u_gLc, ↓u_gLcM, ↓u_gLc2, ↓u_sNever, ↓u_iEnS, ↓u_iEnL, ↓u_iEnumD, ↓u_iZipD, ↓u_zipS, ↓u_zipL, ↓u_iSeq, ↓u_iRange1, ↓u_iRange2, ↓u_sWhile, ↓u_iRange3, ↓u_on3, ↓u_sFor, ↓u_dMax2, ↓u_dMin2, ↓u_gDct0, ↓u_gVar0, ↓u_sSet0, ↓u_nName0, ↓u_gVar1, ↓u_sSet1, ↓u_nName1, ↓u_gVar2, ↓u_sSet2, ↓u_nName2, ↓u_gVar3, ↓u_sSet3, ↓u_nName3, ↓u_gVar4, ↓u_sSet4, ↓u_nName4, ↓u_gVar5, ↓u_sSet5, ↓u_nName5, ↓u_gVar6, ↓u_sSet6, ↓u_nName6, ↓u_gVar7, ↓u_sSet7, ↓u_nName7, ↓u_gVar8, ↓u_sSet8, ↓u_nName8, ↓u_gVar9, ↓u_sSet9, ↓u_nName9, ↓u_gVar10, ↓u_sSet10, ↓u_nName10, ↓u_gVar11, ↓u_sSet11, ↓u_nName11, ↓u_gVar12, ↓u_sSet12, ↓u_nName12, ↓u_gVar13, ↓u_sSet13, ↓u_nName13, ↓u_gVar14, ↓u_sSet14, ↓u_nName14, ↓u_gVar15, ↓u_sSet15, ↓u_nName15, ↓u_gVar16, ↓u_sSet16, ↓u_nName16, ↓u_gVar17, ↓u_sSet17, ↓u_nName17, ↓dToInt_int, ↓dToInt_bl, ↓dListU_lst, ↓dListU_tup, ↓dListU_str, ↓dListUM_lst, ↓dListUM_tup, ↓dListUM_str, ↓dTuple_lst, ↓dTuple_tup, ↓dIn_lst, ↓dIn_tup, ↓dSl_str, ↓dSl_lst, ↓dSl_tup, ↓dAdd_int, ↓dAdd_str, ↓dAdd_lst, ↓dAdd_tup, ↓dMul_int, ↓dMul_str, ↓dMul_lst, ↓dIx_lst, ↓dIx_ro, ↓dIx_tup, ↓dIx_str, ↓onSome_some, ↓dLen_lst, ↓dLen_tup, ↓dLen_str, ↓dLen_ro, ↓dLen_dct, ↓items_str, ↓items_lst, ↓items_tup, ↓items_ro, ↓dAll_lst, ↓dAny_lst, ↓dSum_lst, ↓dIsi_ty, ↓dIsi_tup, ↓dIn_str, ↓onSeq_lst, ↓onSeq_tup, ↓dIs_bb, ↓dStrI_i, ↓dIsW_bb, ↓dIsW_ib, ↓dIsW_sb, ↓dIsW_nb, ↓dIsW_lb, ↓dIsW_tb, ↓dIsW_db, ↓dIsW_nn, ↓dIsW_in, ↓dIsW_sn, ↓dIsW_ln, ↓dIsW_tn, ↓dEq_ii, ↓dEq_ss, ↓dNe_ii, ↓dNe_ss, ↓dEq_nil, ↓dNe_nil, ↓dEq_bb, ↓dNe_bb, List.append_nil, List.nil_append, List.cons_append, startD, List.map_cons, List.map_nil, List.length_cons, List.length_nil, Nat.sub_self, List.replicate_zero, List.replicate_succ, List.set_cons_zero, List.set_cons_succ, List.getElem?_cons_zero, List.getElem?_cons_succ, atI_lit, vw_int, vw_str, vw_bl, vw_non, vw_lst, vw_tup, vw_dct, vw_ro, vw_obj, vw_cls, Nat.reduceAdd, Nat.reduceSub, Int.reduceToNat, Int.reduceNeg, Int.reducePow, Int.reduceAdd, Int.reduceSub, Int.reduceMul, ixN_lit, decide_eq_true_eq, decide_eq_false_iff_not, if_true, if_false, Bool.false_eq_true, Bool.not_true, Bool.not_false, Nat.reduceLT, Nat.reduceLeDiff, Int.reduceLT, Int.reduceLE, true_and, and_true, and_self, ite_true, ite_false, kind_int, kind_bl, kind_non, kind_str, kind_lst, kind_tup, kind_dct, clsAll_lt, all_lt, any_lt_l, any_lt_t, any_lt_s, any_lt_i, any_lt_b, any_lt_n, any_lt_d, kc_int, kc_bool, kc_str, kc_list, kc_tuple, kc_dict, isiT, String.reduceBEq, Bool.or_false, Bool.or_true, Bool.false_or, Bool.true_or, Bool.and_false, Bool.false_and, Bool.and_true, Bool.true_and, wipeD, Bool.not_eq_true, Bool.not_eq_false, Bool.not_eq_eq_eq_not, Bool.not_not, Bool.false_bne, Bool.true_bne, dJoin, onSome_some, sizeLine_eq, Mu.put_same, put_put, Nat.zero_le, decide_true, decide_false, flt_litc, fld_str, fld_int, fld_bl, fld_non, List.all_cons, List.all_nil, reduceCtorEq, strOk_of, eqd_int, eqd_str, eqd_bl, eqd_lst0, eqd_lst1, eqd_lst2, eqd_lst3, eqd_tup0, eqd_tup1, eqd_tup2, eqd_tup3, flt_bl, flt_non]
  rintro k d ρ m N hd ⟨x1, x2, x3, x4, x5, x6, x7, x8, x9, x10, rfl⟩ hN
  obtain ⟨j, hj⟩ := range_at hd
  subst hj
  simp only [↓reduceIte, ↓u_sNx, ↓u_sSeq, ↓u_nx, ↓u_rt, ↓u_bk, ↓u_ct, ↓u_sBreak, ↓u_sCont, ↓u_sDrop, ↓u_sRet, ↓u_sRetN, ↓u_sIf, ↓u_sAsg, ↓u_gC, ↓u_aNil, ↓u_aCons, ↓u_gTup, ↓u_gLst, ↓u_gLstM, ↓u_gBin, ↓u_cVal, ↓u_onBl, ↓u_onInt, ↓u_onStr, ↓u_gChain, ↓u_cAnd, ↓u_cOr, ↓u_cNot, ↓u_gAnd, ↓u_gOr, ↓u_gNot, ↓u_gIf, ↓u_gNeg, ↓u_nNil, ↓u_nCons, ↓u_nTup, ↓u_nSub, ↓u_gCB, ↓u_gCall, ↓u_gM0, ↓u_gM1, ↓u_gL, ↓u_gL0, ↓u_oNo, ↓u_oSome, ↓u_gSl, ↓u_cYes, ↓u_on1, ↓u_on2, ↓u_dInt, ↓u_dInt0, ↓u_gLc, ↓u_gLcM, ↓u_gLc2, ↓u_sNever, ↓u_iEnS, ↓u_iEnL, ↓u_iEnumD, ↓u_iZipD, ↓u_zipS, ↓u_zipL, ↓u_iSeq, ↓u_iRange1, ↓u_iRange2, ↓u_sWhile, ↓u_iRange3, ↓u_on3, ↓u_sFor, ↓u_dMax2, ↓u_dMin2, ↓u_gDct0, ↓u_gVar0, ↓u_sSet0, ↓u_nName0, ↓u_gVar1, ↓u_sSet1, ↓u_nName1, ↓u_gVar2, ↓u_sSet2, ↓u_nName2, ↓u_gVar3, ↓u_sSet3, ↓u_nName3, ↓u_gVar4, ↓u_sSet4, ↓u_nName4, ↓u_gVar5, ↓u_sSet5, ↓u_nName5, ↓u_gVar6, ↓u_sSet6, ↓u_nName6, ↓u_gVar7, ↓u_sSet7, ↓u_nName7, ↓u_gVar8, ↓u_sSet8, ↓u_nName8, ↓u_gVar9, ↓u_sSet9, ↓u_nName9, ↓u_gVar10, ↓u_sSet10, ↓u_nName10, ↓u_gVar11, ↓u_sSet11, ↓u_nName11, ↓u_gVar12, ↓u_sSet12, ↓u_nName12, ↓u_gVar13, ↓u_sSet13, ↓u_nName13, ↓u_gVar14, ↓u_sSet14, ↓u_nName14, ↓u_gVar15, ↓u_sSet15, ↓u_nName15, ↓u_gVar16, ↓u_sSet16, ↓u_nName16, ↓u_gVar17, ↓u_sSet17, ↓u_nName17, ↓dToInt_int, ↓dToInt_bl, ↓dListU_lst, ↓dListU_tup, ↓dListU_str, ↓dListUM_lst, ↓dListUM_tup, ↓dListUM_str, ↓dTuple_lst, ↓dTuple_tup, ↓dIn_lst, ↓dIn_tup, ↓dSl_str, ↓dSl_lst, ↓dSl_tup, ↓dAdd_int, ↓dAdd_str, ↓dAdd_lst, ↓dAdd_tup, ↓dMul_int, ↓dMul_str, ↓dMul_lst, ↓dIx_lst, ↓dIx_ro, ↓dIx_tup, ↓dIx_str, ↓onSome_some, ↓dLen_lst, ↓dLen_tup, ↓dLen_str, ↓dLen_ro, ↓dLen_dct, ↓items_str, ↓items_lst, ↓items_tup, ↓items_ro, ↓dAll_lst, ↓dAny_lst, ↓dSum_lst, ↓dIsi_ty, ↓dIsi_tup, ↓dIn_str, ↓onSeq_lst, ↓onSeq_tup, ↓dIs_bb, ↓dStrI_i, ↓dIsW_bb, ↓dIsW_ib, ↓dIsW_sb, ↓dIsW_nb, ↓dIsW_lb, ↓dIsW_tb, ↓dIsW_db, ↓dIsW_nn, ↓dIsW_in, ↓dIsW_sn, ↓dIsW_ln, ↓dIsW_tn, ↓dEq_ii, ↓dEq_ss, ↓dNe_ii, ↓dNe_ss, ↓dEq_nil, ↓dNe_nil, ↓dEq_bb, ↓dNe_bb, List.append_nil, List.nil_append, List.cons_append, startD, List.map_cons, List.map_nil, List.length_cons, List.length_nil, Nat.sub_self, List.replicate_zero, List.replicate_succ, List.set_cons_zero, List.set_cons_succ, List.getElem?_cons_zero, List.getElem?_cons_succ, atI_lit, vw_int, vw_str, vw_bl, vw_non, vw_lst, vw_tup, vw_dct, vw_ro, vw_obj, vw_cls, Nat.reduceAdd, Nat.reduceSub, Int.reduceToNat, Int.reduceNeg, Int.reducePow, Int.reduceAdd, Int.reduceSub, Int.reduceMul, ixN_lit, decide_eq_true_eq, decide_eq_false_iff_not, if_true, if_false, Bool.false_eq_true, Bool.not_true, Bool.not_false, Nat.reduceLT, Nat.reduceLeDiff, Int.reduceLT, Int.reduceLE, true_and, and_true, and_self, ite_true, ite_false, kind_int, kind_bl, kind_non, kind_str, kind_lst, kind_tup, kind_dct, clsAll_lt, all_lt, any_lt_l, any_lt_t, any_lt_s, any_lt_i, any_lt_b, any_lt_n, any_lt_d, kc_int, kc_bool, kc_str, kc_list, kc_tuple, kc_dict, isiT, String.reduceBEq, Bool.or_false, Bool.or_true, Bool.false_or, Bool.true_or, Bool.and_false, Bool.false_and, Bool.and_true, Bool.true_and, wipeD, Bool.not_eq_true, Bool.not_eq_false, Bool.not_eq_eq_eq_not, Bool.not_not, Bool.false_bne, Bool.true_bne, dJoin, onSome_some, sizeLine_eq, Mu.put_same, put_put, Nat.zero_le, decide_true, decide_false, flt_litc, fld_str, fld_int, fld_bl, fld_non, List.all_cons, List.all_nil, reduceCtorEq, strOk_of, eqd_int, eqd_str, eqd_bl, eqd_lst0, eqd_lst1, eqd_lst2, eqd_lst3, eqd_tup0, eqd_tup1, eqd_tup2, eqd_tup3, flt_bl, flt_non]
  refine ⟨ns, _, rfl, by omega, by omega, fun c => ⟨c, rfl, fun a ha => ?_⟩⟩
  simp only [↓reduceIte, ↓u_sNx, ↓u_sSeq, ↓u_nx, ↓u_rt, ↓u_bk, ↓u_ct, ↓u_sBreak, ↓u_sCont, ↓u_sDrop, ↓u_sRet, ↓u_sRetN, ↓u_sIf, ↓u_sAsg, ↓u_gC, ↓u_aNil, ↓u_aCons, ↓u_gTup, ↓u_gLst, ↓u_gLstM, ↓u_gBin, ↓u_cVal, ↓u_onBl, ↓u_onInt, ↓u_onStr, ↓u_gChain, ↓u_cAnd, ↓u_cOr, ↓u_cNot, ↓u_gAnd, ↓u_gOr, ↓u_gNot, ↓u_gIf, ↓u_gNeg, ↓u_nNil, ↓u_nCons, ↓u_nTup, ↓u_nSub, ↓u_gCB, ↓u_gCall, ↓u_gM0, ↓u_gM1, ↓u_gL, ↓u_gL0, ↓u_oNo, ↓u_oSome, ↓u_gSl, ↓u_cYes, ↓u_on1, ↓u_on2, ↓u_dInt, ↓u_dInt0, ↓u_gLc, ↓u_gLcM, ↓u_gLc2, ↓u_sNever, ↓u_iEnS, ↓u_iEnL, ↓u_iEnumD, ↓u_iZipD, ↓u_zipS, ↓u_zipL, ↓u_iSeq, ↓u_iRange1, ↓u_iRange2, ↓u_sWhile, ↓u_iRange3, ↓u_on3, ↓u_sFor, ↓u_dMax2, ↓u_dMin2, ↓u_gDct0, ↓u_gVar0, ↓u_sSet0, ↓u_nName0, ↓u_gVar1, ↓u_sSet1, ↓u_nName1, ↓u_gVar2, ↓u_sSet2, ↓u_nName2, ↓u_gVar3, ↓u_sSet3, ↓u_nName3, ↓u_gVar4, ↓u_sSet4, ↓u_nName4, ↓u_gVar5, ↓u_sSet5, ↓u_nName5, ↓u_gVar6, ↓u_sSet6, ↓u_nName6, ↓u_gVar7, ↓u_sSet7, ↓u_nName7, ↓u_gVar8, ↓u_sSet8, ↓u_nName8, ↓u_gVar9, ↓u_sSet9, ↓u_nName9, ↓u_gVar10, ↓u_sSet10, ↓u_nName10, ↓u_gVar11, ↓u_sSet11, ↓u_nName11, ↓u_gVar12, ↓u_sSet12, ↓u_nName12, ↓u_gVar13, ↓u_sSet13, ↓u_nName13, ↓u_gVar14, ↓u_sSet14, ↓u_nName14, ↓u_gVar15, ↓u_sSet15, ↓u_nName15, ↓u_gVar16, ↓u_sSet16, ↓u_nName16, ↓u_gVar17, ↓u_sSet17, ↓u_nName17, ↓dToInt_int, ↓dToInt_bl, ↓dListU_lst, ↓dListU_tup, ↓dListU_str, ↓dListUM_lst, ↓dListUM_tup, ↓dListUM_str, ↓dTuple_lst, ↓dTuple_tup, ↓dIn_lst, ↓dIn_tup, ↓dSl_str, ↓dSl_lst, ↓dSl_tup, ↓dAdd_int, ↓dAdd_str, ↓dAdd_lst, ↓dAdd_tup, ↓dMul_int, ↓dMul_str, ↓dMul_lst, ↓dIx_lst, ↓dIx_ro, ↓dIx_tup, ↓dIx_str, ↓onSome_some, ↓dLen_lst, ↓dLen_tup, ↓dLen_str, ↓dLen_ro, ↓dLen_dct, ↓items_str, ↓items_lst, ↓items_tup, ↓items_ro, ↓dAll_lst, ↓dAny_lst, ↓dSum_lst, ↓dIsi_ty, ↓dIsi_tup, ↓dIn_str, ↓onSeq_lst, ↓onSeq_tup, ↓dIs_bb, ↓dStrI_i, ↓dIsW_bb, ↓dIsW_ib, ↓dIsW_sb, ↓dIsW_nb, ↓dIsW_lb, ↓dIsW_tb, ↓dIsW_db, ↓dIsW_nn, ↓dIsW_in, ↓dIsW_sn, ↓dIsW_ln, ↓dIsW_tn, ↓dEq_ii, ↓dEq_ss, ↓dNe_ii, ↓dNe_ss, ↓dEq_nil, ↓dNe_nil, ↓dEq_bb, ↓dNe_bb, List.append_nil, List.nil_append, List.cons_append, startD, List.map_cons, List.map_nil, List.length_cons, List.length_nil, Nat.sub_self, List.replicate_zero, List.replicate_succ, List.set_cons_zero, List.set_cons_succ, List.getElem?_cons_zero, List.getElem?_cons_succ, atI_lit, vw_int, vw_str, vw_bl, vw_non, vw_lst, vw_tup, vw_dct, vw_ro, vw_obj, vw_cls, Nat.reduceAdd, Nat.reduceSub, Int.reduceToNat, Int.reduceNeg, Int.reducePow, Int.reduceAdd, Int.reduceSub, Int.reduceMul, ixN_lit, decide_eq_true_eq, decide_eq_false_iff_not, if_true, if_false, Bool.false_eq_true, Bool.not_true, Bool.not_false, Nat.reduceLT, Nat.reduceLeDiff, Int.reduceLT, Int.reduceLE, true_and, and_true, and_self, ite_true, ite_false, kind_int, kind_bl, kind_non, kind_str, kind_lst, kind_tup, kind_dct, clsAll_lt, all_lt, any_lt_l, any_lt_t, any_lt_s, any_lt_i, any_lt_b, any_lt_n, any_lt_d, kc_int, kc_bool, kc_str, kc_list, kc_tuple, kc_dict, isiT, String.reduceBEq, Bool.or_false, Bool.or_true, Bool.false_or, Bool.true_or, Bool.and_false, Bool.false_and, Bool.and_true, Bool.true_and, wipeD, Bool.not_eq_true, Bool.not_eq_false, Bool.not_eq_eq_eq_not, Bool.not_not, Bool.false_bne, Bool.true_bne, dJoin, onSome_some, sizeLine_eq, Mu.put_same, put_put, Nat.zero_le, decide_true, decide_false, flt_litc, fld_str, fld_int, fld_bl, fld_non, List.all_cons, List.all_nil, reduceCtorEq, strOk_of, eqd_int, eqd_str, eqd_bl, eqd_lst0, eqd_lst1, eqd_lst2, eqd_lst3, eqd_tup0, eqd_tup1, eqd_tup2, eqd_tup3, flt_bl, flt_non]
  refine take_ok Mu.put_same (by decide) (by decide) (by omega) fun r1 p1 q1 => ?_
  simp only [↓reduceIte, ↓u_sNx, ↓u_sSeq, ↓u_nx, ↓u_rt, ↓u_bk, ↓u_ct, ↓u_sBreak, ↓u_sCont, ↓u_sDrop, ↓u_sRet, ↓u_sRetN, ↓u_sIf, ↓u_sAsg, ↓u_gC, ↓u_aNil, ↓u_aCons, ↓u_gTup, ↓u_gLst, ↓u_gLstM, ↓u_gBin, ↓u_cVal, ↓u_onBl, ↓u_onInt, ↓u_onStr, ↓u_gChain, ↓u_cAnd, ↓u_cOr, ↓u_cNot, ↓u_gAnd, ↓u_gOr, ↓u_gNot, ↓u_gIf, ↓u_gNeg, ↓u_nNil, ↓u_nCons, ↓u_nTup, ↓u_nSub, ↓u_gCB, ↓u_gCall, ↓u_gM0, ↓u_gM1, ↓u_gL, ↓u_gL0, ↓u_oNo, ↓u_oSome, ↓u_gSl, ↓u_cYes, ↓u_on1, ↓u_on2, ↓u_dInt, ↓u_dInt0, ↓u_gLc, ↓u_gLcM, ↓u_gLc2, ↓u_sNever, ↓u_iEnS, ↓u_iEnL, ↓u_iEnumD, ↓u_iZipD, ↓u_zipS, ↓u_zipL, ↓u_iSeq, ↓u_iRange1, ↓u_iRange2, ↓u_sWhile, ↓u_iRange3, ↓u_on3, ↓u_sFor, ↓u_dMax2, ↓u_dMin2, ↓u_gDct0, ↓u_gVar0, ↓u_sSet0, ↓u_nName0, ↓u_gVar1, ↓u_sSet1, ↓u_nName1, ↓u_gVar2, ↓u_sSet2, ↓u_nName2, ↓u_gVar3, ↓u_sSet3, ↓u_nName3, ↓u_gVar4, ↓u_sSet4, ↓u_nName4, ↓u_gVar5, ↓u_sSet5, ↓u_nName5, ↓u_gVar6, ↓u_sSet6, ↓u_nName6, ↓u_gVar7, ↓u_sSet7, ↓u_nName7, ↓u_gVar8, ↓u_sSet8, ↓u_nName8, ↓u_gVar9, ↓u_sSet9, ↓u_nName9, ↓u_gVar10, ↓u_sSet10, ↓u_nName10, ↓u_gVar11, ↓u_sSet11, ↓u_nName11, ↓u_gVar12, ↓u_sSet12, ↓u_nName12, ↓u_gVar13, ↓u_sSet13, ↓u_nName13, ↓u_gVar14, ↓u_sSet14, ↓u_nName14, ↓u_gVar15, ↓u_sSet15, ↓u_nName15, ↓u_gVar16, ↓u_sSet16, ↓u_nName16, ↓u_gVar17, ↓u_sSet17, ↓u_nName17, ↓dToInt_int, ↓dToInt_bl, ↓dListU_lst, ↓dListU_tup, ↓dListU_str, ↓dListUM_lst, ↓dListUM_tup, ↓dListUM_str, ↓dTuple_lst, ↓dTuple_tup, ↓dIn_lst, ↓dIn_tup, ↓dSl_str, ↓dSl_lst, ↓dSl_tup, ↓dAdd_int, ↓dAdd_str, ↓dAdd_lst, ↓dAdd_tup, ↓dMul_int, ↓dMul_str, ↓dMul_lst, ↓dIx_lst, ↓dIx_ro, ↓dIx_tup, ↓dIx_str, ↓onSome_some, ↓dLen_lst, ↓dLen_tup, ↓dLen_str, ↓dLen_ro, ↓dLen_dct, ↓items_str, ↓items_lst, ↓items_tup, ↓items_ro, ↓dAll_lst, ↓dAny_lst, ↓dSum_lst, ↓dIsi_ty, ↓dIsi_tup, ↓dIn_str, ↓onSeq_lst, ↓onSeq_tup, ↓dIs_bb, ↓dStrI_i, ↓dIsW_bb, ↓dIsW_ib, ↓dIsW_sb, ↓dIsW_nb, ↓dIsW_lb, ↓dIsW_tb, ↓dIsW_db, ↓dIsW_nn, ↓dIsW_in, ↓dIsW_sn, ↓dIsW_ln, ↓dIsW_tn, ↓dEq_ii, ↓dEq_ss, ↓dNe_ii, ↓dNe_ss, ↓dEq_nil, ↓dNe_nil, ↓dEq_bb, ↓dNe_bb, List.append_nil, List.nil_append, List.cons_append, startD, List.map_cons, List.map_nil, List.length_cons, List.length_nil, Nat.sub_self, List.replicate_zero, List.replicate_succ, List.set_cons_zero, List.set_cons_succ, List.getElem?_cons_zero, List.getElem?_cons_succ, atI_lit, vw_int, vw_str, vw_bl, vw_non, vw_lst, vw_tup, vw_dct, vw_ro, vw_obj, vw_cls, Nat.reduceAdd, Nat.reduceSub, Int.reduceToNat, Int.reduceNeg, Int.reducePow, Int.reduceAdd, Int.reduceSub, Int.reduceMul, ixN_lit, decide_eq_true_eq, decide_eq_false_iff_not, if_true, if_false, Bool.false_eq_true, Bool.not_true, Bool.not_false, Nat.reduceLT, Nat.reduceLeDiff, Int.reduceLT, Int.reduceLE, true_and, and_true, and_self, ite_true, ite_false, kind_int, kind_bl, kind_non, kind_str, kind_lst, kind_tup, kind_dct, clsAll_lt, all_lt, any_lt_l, any_lt_t, any_lt_s, any_lt_i, any_lt_b, any_lt_n, any_lt_d, kc_int, kc_bool, kc_str, kc_list, kc_tuple, kc_dict, isiT, String.reduceBEq, Bool.or_false, Bool.or_true, Bool.false_or, Bool.true_or, Bool.and_false, Bool.false_and, Bool.and_true, Bool.true_and, wipeD, Bool.not_eq_true, Bool.not_eq_false, Bool.not_eq_eq_eq_not, Bool.not_not, Bool.false_bne, Bool.true_bne, dJoin, onSome_some, sizeLine_eq, Mu.put_same, put_put, Nat.zero_le, decide_true, decide_false, flt_litc, fld_str, fld_int, fld_bl, fld_non, List.all_cons, List.all_nil, reduceCtorEq, strOk_of, eqd_int, eqd_str, eqd_bl, eqd_lst0, eqd_lst1, eqd_lst2, eqd_lst3, eqd_tup0, eqd_tup1, eqd_tup2, eqd_tup3, flt_bl, flt_non, mu_pp]
  refine take_ok Mu.put_same (by decide) (by decide) (by omega) fun r2 p2 q2 => ?_
  simp only [↓reduceIte, ↓u_sNx, ↓u_sSeq, ↓u_nx, ↓u_rt, ↓u_bk, ↓u_ct, ↓u_sBreak, ↓u_sCont, ↓u_sDrop, ↓u_sRet, ↓u_sRetN, ↓u_sIf, ↓u_sAsg, ↓u_gC, ↓u_aNil, ↓u_aCons, ↓u_gTup, ↓u_gLst, ↓u_gLstM, ↓u_gBin, ↓u_cVal, ↓u_onBl, ↓u_onInt, ↓u_onStr, ↓u_gChain, ↓u_cAnd, ↓u_cOr, ↓u_cNot, ↓u_gAnd, ↓u_gOr, ↓u_gNot, ↓u_gIf, ↓u_gNeg, ↓u_nNil, ↓u_nCons, ↓u_nTup, ↓u_nSub, ↓u_gCB, ↓u_gCall, ↓u_gM0, ↓u_gM1, ↓u_gL, ↓u_gL0, ↓u_oNo, ↓u_oSome, ↓u_gSl, ↓u_cYes, ↓u_on1, ↓u_on2, ↓u_dInt, ↓u_dInt0, ↓u_gLc, ↓u_gLcM, ↓u_gLc2, ↓u_sNever, ↓u_iEnS, ↓u_iEnL, ↓u_iEnumD, ↓u_iZipD, ↓u_zipS, ↓u_zipL, ↓u_iSeq, ↓u_iRange1, ↓u_iRange2, ↓u_sWhile, ↓u_iRange3, ↓u_on3, ↓u_sFor, ↓u_dMax2, ↓u_dMin2, ↓u_gDct0, ↓u_gVar0, ↓u_sSet0, ↓u_nName0, ↓u_gVar1, ↓u_sSet1, ↓u_nName1, ↓u_gVar2, ↓u_sSet2, ↓u_nName2, ↓u_gVar3, ↓u_sSet3, ↓u_nName3, ↓u_gVar4, ↓u_sSet4, ↓u_nName4, ↓u_gVar5, ↓u_sSet5, ↓u_nName5, ↓u_gVar6, ↓u_sSet6, ↓u_nName6, ↓u_gVar7, ↓u_sSet7, ↓u_nName7, ↓u_gVar8, ↓u_sSet8, ↓u_nName8, ↓u_gVar9, ↓u_sSet9, ↓u_nName9, ↓u_gVar10, ↓u_sSet10, ↓u_nName10, ↓u_gVar11, ↓u_sSet11, ↓u_nName11, ↓u_gVar12, ↓u_sSet12, ↓u_nName12, ↓u_gVar13, ↓u_sSet13, ↓u_nName13, ↓u_gVar14, ↓u_sSet14, ↓u_nName14, ↓u_gVar15, ↓u_sSet15, ↓u_nName15, ↓u_gVar16, ↓u_sSet16, ↓u_nName16, ↓u_gVar17, ↓u_sSet17, ↓u_nName17, ↓dToInt_int, ↓dToInt_bl, ↓dListU_lst, ↓dListU_tup, ↓dListU_str, ↓dListUM_lst, ↓dListUM_tup, ↓dListUM_str, ↓dTuple_lst, ↓dTuple_tup, ↓dIn_lst, ↓dIn_tup, ↓dSl_str, ↓dSl_lst, ↓dSl_tup, ↓dAdd_int, ↓dAdd_str, ↓dAdd_lst, ↓dAdd_tup, ↓dMul_int, ↓dMul_str, ↓dMul_lst, ↓dIx_lst, ↓dIx_ro, ↓dIx_tup, ↓dIx_str, ↓onSome_some, ↓dLen_lst, ↓dLen_tup, ↓dLen_str, ↓dLen_ro, ↓dLen_dct, ↓items_str, ↓items_lst, ↓items_tup, ↓items_ro, ↓dAll_lst, ↓dAny_lst, ↓dSum_lst, ↓dIsi_ty, ↓dIsi_tup, ↓dIn_str, ↓onSeq_lst, ↓onSeq_tup, ↓dIs_bb, ↓dStrI_i, ↓dIsW_bb, ↓dIsW_ib, ↓dIsW_sb, ↓dIsW_nb, ↓dIsW_lb, ↓dIsW_tb, ↓dIsW_db, ↓dIsW_nn, ↓dIsW_in, ↓dIsW_sn, ↓dIsW_ln, ↓dIsW_tn, ↓dEq_ii, ↓dEq_ss, ↓dNe_ii, ↓dNe_ss, ↓dEq_nil, ↓dNe_nil, ↓dEq_bb, ↓dNe_bb, List.append_nil, List.nil_append, List.cons_append, startD, List.map_cons, List.map_nil, List.length_cons, List.length_nil, Nat.sub_self, List.replicate_zero, List.replicate_succ, List.set_cons_zero, List.set_cons_succ, List.getElem?_cons_zero, List.getElem?_cons_succ, atI_lit, vw_int, vw_str, vw_bl, vw_non, vw_lst, vw_tup, vw_dct, vw_ro, vw_obj, vw_cls, Nat.reduceAdd, Nat.reduceSub, Int.reduceToNat, Int.reduceNeg, Int.reducePow, Int.reduceAdd, Int.reduceSub, Int.reduceMul, ixN_lit, decide_eq_true_eq, decide_eq_false_iff_not, if_true, if_false, Bool.false_eq_true, Bool.not_true, Bool.not_false, Nat.reduceLT, Nat.reduceLeDiff, Int.reduceLT, Int.reduceLE, true_and, and_true, and_self, ite_true, ite_false, kind_int, kind_bl, kind_non, kind_str, kind_lst, kind_tup, kind_dct, clsAll_lt, all_lt, any_lt_l, any_lt_t, any_lt_s, any_lt_i, any_lt_b, any_lt_n, any_lt_d, kc_int, kc_bool, kc_str, kc_list, kc_tuple, kc_dict, isiT, String.reduceBEq, Bool.or_false, Bool.or_true, Bool.false_or, Bool.true_or, Bool.and_false, Bool.false_and, Bool.and_true, Bool.true_and, wipeD, Bool.not_eq_true, Bool.not_eq_false, Bool.not_eq_eq_eq_not, Bool.not_not, Bool.false_bne, Bool.true_bne, dJoin, onSome_some, sizeLine_eq, Mu.put_same, put_put, Nat.zero_le, decide_true, decide_false, flt_litc, fld_str, fld_int, fld_bl, fld_non, List.all_cons, List.all_nil, reduceCtorEq, strOk_of, eqd_int, eqd_str, eqd_bl, eqd_lst0, eqd_lst1, eqd_lst2, eqd_lst3, eqd_tup0, eqd_tup1, eqd_tup2, eqd_tup3, flt_bl, flt_non, mu_pp]
  refine take_ok Mu.put_same (by decide) (by decide) (by omega) fun r3 p3 q3 => ?_
  simp only [↓reduceIte, ↓u_sNx, ↓u_sSeq, ↓u_nx, ↓u_rt, ↓u_bk, ↓u_ct, ↓u_sBreak, ↓u_sCont, ↓u_sDrop, ↓u_sRet, ↓u_sRetN, ↓u_sIf, ↓u_sAsg, ↓u_gC, ↓u_aNil, ↓u_aCons, ↓u_gTup, ↓u_gLst, ↓u_gLstM, ↓u_gBin, ↓u_cVal, ↓u_onBl, ↓u_onInt, ↓u_onStr, ↓u_gChain, ↓u_cAnd, ↓u_cOr, ↓u_cNot, ↓u_gAnd, ↓u_gOr, ↓u_gNot, ↓u_gIf, ↓u_gNeg, ↓u_nNil, ↓u_nCons, ↓u_nTup, ↓u_nSub, ↓u_gCB, ↓u_gCall, ↓u_gM0, ↓u_gM1, ↓u_gL, ↓u_gL0, ↓u_oNo, ↓u_oSome, ↓u_gSl, ↓u_cYes, ↓u_on1, ↓u_on2, ↓u_dInt, ↓u_dInt0, ↓u_gLc, ↓u_gLcM, ↓u_gLc2, ↓u_sNever, ↓u_iEnS, ↓u_iEnL, ↓u_iEnumD, ↓u_iZipD, ↓u_zipS, ↓u_zipL, ↓u_iSeq, ↓u_iRange1, ↓u_iRange2, ↓u_sWhile, ↓u_iRange3, ↓u_on3, ↓u_sFor, ↓u_dMax2, ↓u_dMin2, ↓u_gDct0, ↓u_gVar0, ↓u_sSet0, ↓u_nName0, ↓u_gVar1, ↓u_sSet1, ↓u_nName1, ↓u_gVar2, ↓u_sSet2, ↓u_nName2, ↓u_gVar3, ↓u_sSet3, ↓u_nName3, ↓u_gVar4, ↓u_sSet4, ↓u_nName4, ↓u_gVar5, ↓u_sSet5, ↓u_nName5, ↓u_gVar6, ↓u_sSet6, ↓u_nName6, ↓u_gVar7, ↓u_sSet7, ↓u_nName7, ↓u_gVar8, ↓u_sSet8, ↓u_nName8, ↓u_gVar9, ↓u_sSet9, ↓u_nName9, ↓u_gVar10, ↓u_sSet10, ↓u_nName10, ↓u_gVar11, ↓u_sSet11, ↓u_nName11, ↓u_gVar12, ↓u_sSet12, ↓u_nName12, ↓u_gVar13, ↓u_sSet13, ↓u_nName13, ↓u_gVar14, ↓u_sSet14, ↓u_nName14, ↓u_gVar15, ↓u_sSet15, ↓u_nName15, ↓u_gVar16, ↓u_sSet16, ↓u_nName16, ↓u_gVar17, ↓u_sSet17, ↓u_nName17, ↓dToInt_int, ↓dToInt_bl, ↓dListU_lst, ↓dListU_tup, ↓dListU_str, ↓dListUM_lst, ↓dListUM_tup, ↓dListUM_str, ↓dTuple_lst, ↓dTuple_tup, ↓dIn_lst, ↓dIn_tup, ↓dSl_str, ↓dSl_lst, ↓dSl_tup, ↓dAdd_int, ↓dAdd_str, ↓dAdd_lst, ↓dAdd_tup, ↓dMul_int, ↓dMul_str, ↓dMul_lst, ↓dIx_lst, ↓dIx_ro, ↓dIx_tup, ↓dIx_str, ↓onSome_some, ↓dLen_lst, ↓dLen_tup, ↓dLen_str, ↓dLen_ro, ↓dLen_dct, ↓items_str, ↓items_lst, ↓items_tup, ↓items_ro, ↓dAll_lst, ↓dAny_lst, ↓dSum_lst, ↓dIsi_ty, ↓dIsi_tup, ↓dIn_str, ↓onSeq_lst, ↓onSeq_tup, ↓dIs_bb, ↓dStrI_i, ↓dIsW_bb, ↓dIsW_ib, ↓dIsW_sb, ↓dIsW_nb, ↓dIsW_lb, ↓dIsW_tb, ↓dIsW_db, ↓dIsW_nn, ↓dIsW_in, ↓dIsW_sn, ↓dIsW_ln, ↓dIsW_tn, ↓dEq_ii, ↓dEq_ss, ↓dNe_ii, ↓dNe_ss, ↓dEq_nil, ↓dNe_nil, ↓dEq_bb, ↓dNe_bb, List.append_nil, List.nil_append, List.cons_append, startD, List.map_cons, List.map_nil, List.length_cons, List.length_nil, Nat.sub_self, List.replicate_zero, List.replicate_succ, List.set_cons_zero, List.set_cons_succ, List.getElem?_cons_zero, List.getElem?_cons_succ, atI_lit, vw_int, vw_str, vw_bl, vw_non, vw_lst, vw_tup, vw_dct, vw_ro, vw_obj, vw_cls, Nat.reduceAdd, Nat.reduceSub, Int.reduceToNat, Int.reduceNeg, Int.reducePow, Int.reduceAdd, Int.reduceSub, Int.reduceMul, ixN_lit, decide_eq_true_eq, decide_eq_false_iff_not, if_true, if_false, Bool.false_eq_true, Bool.not_true, Bool.not_false, Nat.reduceLT, Nat.reduceLeDiff, Int.reduceLT, Int.reduceLE, true_and, and_true, and_self, ite_true, ite_false, kind_int, kind_bl, kind_non, kind_str, kind_lst, kind_tup, kind_dct, clsAll_lt, all_lt, any_lt_l, any_lt_t, any_lt_s, any_lt_i, any_lt_b, any_lt_n, any_lt_d, kc_int, kc_bool, kc_str, kc_list, kc_tuple, kc_dict, isiT, String.reduceBEq, Bool.or_false, Bool.or_true, Bool.false_or, Bool.true_or, Bool.and_false, Bool.false_and, Bool.and_true, Bool.true_and, wipeD, Bool.not_eq_true, Bool.not_eq_false, Bool.not_eq_eq_eq_not, Bool.not_not, Bool.false_bne, Bool.true_bne, dJoin, onSome_some, sizeLine_eq, Mu.put_same, put_put, Nat.zero_le, decide_true, decide_false, flt_litc, fld_str, fld_int, fld_bl, fld_non, List.all_cons, List.all_nil, reduceCtorEq, strOk_of, eqd_int, eqd_str, eqd_bl, eqd_lst0, eqd_lst1, eqd_lst2, eqd_lst3, eqd_tup0, eqd_tup1, eqd_tup2, eqd_tup3, flt_bl, flt_non, mu_pp]
  obtain ⟨e, e0, e1, he⟩ : ∃ e : Int, 0 ≤ e ∧ e ≤ 1 ∧ (if (0 + (k : Int)) = 0 then (1 : Int) else 0) = e := by
    by_cases h : (0 + (k : Int)) = 0
    · exact ⟨1, by omega, by omega, if_pos h⟩
    · exact ⟨0, by omega, by omega, if_neg h⟩
  rw [he]
  have hre : 0 ≤ r3 * e ∧ r3 * e ≤ 2 := by
    have : e = 0 ∨ e = 1 := by omega
    rcases this with rfl | rfl <;> omega
  refine ⟨flt_int (by omega) (by omega), by unfold CMul; omega, take_ok Mu.put_same (by decide) (by decide) (by omega) fun r4 p4 q4 => ?_⟩
  simp only [↓reduceIte, ↓u_sNx, ↓u_sSeq, ↓u_nx, ↓u_rt, ↓u_bk, ↓u_ct, ↓u_sBreak, ↓u_sCont, ↓u_sDrop, ↓u_sRet, ↓u_sRetN, ↓u_sIf, ↓u_sAsg, ↓u_gC, ↓u_aNil, ↓u_aCons, ↓u_gTup, ↓u_gLst, ↓u_gLstM, ↓u_gBin, ↓u_cVal, ↓u_onBl, ↓u_onInt, ↓u_onStr, ↓u_gChain, ↓u_cAnd, ↓u_cOr, ↓u_cNot, ↓u_gAnd, ↓u_gOr, ↓u_gNot, ↓u_gIf, ↓u_gNeg, ↓u_nNil, ↓u_nCons, ↓u_nTup, ↓u_nSub, ↓u_gCB, ↓u_gCall, ↓u_gM0, ↓u_gM1, ↓u_gL, ↓u_gL0, ↓u_oNo, ↓u_oSome, ↓u_gSl, ↓u_cYes, ↓u_on1, ↓u_on2, ↓u_dInt, ↓u_dInt0, ↓u_gLc, ↓u_gLcM, ↓u_gLc2, ↓u_sNever, ↓u_iEnS, ↓u_iEnL, ↓u_iEnumD, ↓u_iZipD, ↓u_zipS, ↓u_zipL, ↓u_iSeq, ↓u_iRange1, ↓u_iRange2, ↓u_sWhile, ↓u_iRange3, ↓u_on3, ↓u_sFor, ↓u_dMax2, ↓u_dMin2, ↓u_gDct0, ↓u_gVar0, ↓u_sSet0, ↓u_nName0, ↓u_gVar1, ↓u_sSet1, ↓u_nName1, ↓u_gVar2, ↓u_sSet2, ↓u_nName2, ↓u_gVar3, ↓u_sSet3, ↓u_nName3, ↓u_gVar4, ↓u_sSet4, ↓u_nName4, ↓u_gVar5, ↓u_sSet5, ↓u_nName5, ↓u_gVar6, ↓u_sSet6, ↓u_nName6, ↓u_gVar7, ↓u_sSet7, ↓u_nName7, ↓u_gVar8, ↓u_sSet8, ↓u_nName8, ↓u_gVar9, ↓u_sSet9, ↓u_nName9, ↓u_gVar10, ↓u_sSet10, ↓u_nName10, ↓u_gVar11, ↓u_sSet11, ↓u_nName11, ↓u_gVar12, ↓u_sSet12, ↓u_nName12, ↓u_gVar13, ↓u_sSet13, ↓u_nName13, ↓u_gVar14, ↓u_sSet14, ↓u_nName14, ↓u_gVar15, ↓u_sSet15, ↓u_nName15, ↓u_gVar16, ↓u_sSet16, ↓u_nName16, ↓u_gVar17, ↓u_sSet17, ↓u_nName17, ↓dToInt_int, ↓dToInt_bl, ↓dListU_lst, ↓dListU_tup, ↓dListU_str, ↓dListUM_lst, ↓dListUM_tup, ↓dListUM_str, ↓dTuple_lst, ↓dTuple_tup, ↓dIn_lst, ↓dIn_tup, ↓dSl_str, ↓dSl_lst, ↓dSl_tup, ↓dAdd_int, ↓dAdd_str, ↓dAdd_lst, ↓dAdd_tup, ↓dMul_int, ↓dMul_str, ↓dMul_lst, ↓dIx_lst, ↓dIx_ro, ↓dIx_tup, ↓dIx_str, ↓onSome_some, ↓dLen_lst, ↓dLen_tup, ↓dLen_str, ↓dLen_ro, ↓dLen_dct, ↓items_str, ↓items_lst, ↓items_tup, ↓items_ro, ↓dAll_lst, ↓dAny_lst, ↓dSum_lst, ↓dIsi_ty, ↓dIsi_tup, ↓dIn_str, ↓onSeq_lst, ↓onSeq_tup, ↓dIs_bb, ↓dStrI_i, ↓dIsW_bb, ↓dIsW_ib, ↓dIsW_sb, ↓dIsW_nb, ↓dIsW_lb, ↓dIsW_tb, ↓dIsW_db, ↓dIsW_nn, ↓dIsW_in, ↓dIsW_sn, ↓dIsW_ln, ↓dIsW_tn, ↓dEq_ii, ↓dEq_ss, ↓dNe_ii, ↓dNe_ss, ↓dEq_nil, ↓dNe_nil, ↓dEq_bb, ↓dNe_bb, List.append_nil, List.nil_append, List.cons_append, startD, List.map_cons, List.map_nil, List.length_cons, List.length_nil, Nat.sub_self, List.replicate_zero, List.replicate_succ, List.set_cons_zero, List.set_cons_succ, List.getElem?_cons_zero, List.getElem?_cons_succ, atI_lit, vw_int, vw_str, vw_bl, vw_non, vw_lst, vw_tup, vw_dct, vw_ro, vw_obj, vw_cls, Nat.reduceAdd, Nat.reduceSub, Int.reduceToNat, Int.reduceNeg, Int.reducePow, Int.reduceAdd, Int.reduceSub, Int.reduceMul, ixN_lit, decide_eq_true_eq, decide_eq_false_iff_not, if_true, if_false, Bool.false_eq_true, Bool.not_true, Bool.not_false, Nat.reduceLT, Nat.reduceLeDiff, Int.reduceLT, Int.reduceLE, true_and, and_true, and_self, ite_true, ite_false, kind_int, kind_bl, kind_non, kind_str, kind_lst, kind_tup, kind_dct, clsAll_lt, all_lt, any_lt_l, any_lt_t, any_lt_s, any_lt_i, any_lt_b, any_lt_n, any_lt_d, kc_int, kc_bool, kc_str, kc_list, kc_tuple, kc_dict, isiT, String.reduceBEq, Bool.or_false, Bool.or_true, Bool.false_or, Bool.true_or, Bool.and_false, Bool.false_and, Bool.and_true, Bool.true_and, wipeD, Bool.not_eq_true, Bool.not_eq_false, Bool.not_eq_eq_eq_not, Bool.not_not, Bool.false_bne, Bool.true_bne, dJoin, onSome_some, sizeLine_eq, Mu.put_same, put_put, Nat.zero_le, decide_true, decide_false, flt_litc, fld_str, fld_int, fld_bl, fld_non, List.all_cons, List.all_nil, reduceCtorEq, strOk_of, eqd_int, eqd_str, eqd_bl, eqd_lst0, eqd_lst1, eqd_lst2, eqd_lst3, eqd_tup0, eqd_tup1, eqd_tup2, eqd_tup3, flt_bl, flt_non, mu_pp]
  refine onSome_at p4 q4 fun dw hdw => ?_
  obtain ⟨w, w1, w10, rfl⟩ : ∃ w : Nat, 1 ≤ w ∧ w ≤ 10 ∧ dw = .int (w : Nat) := by
    simp only [List.mem_cons, List.not_mem_nil, or_false] at hdw
    rcases hdw with rfl | rfl | rfl
    · exact ⟨(1 + r1).toNat, by omega, by omega, by rw [Int.toNat_of_nonneg (by omega)]⟩
    · exact ⟨(1 + r2).toNat, by omega, by omega, by rw [Int.toNat_of_nonneg (by omega)]⟩
    · exact ⟨(8 + r3 * e).toNat, by omega, by omega, by rw [Int.toNat_of_nonneg (by omega)]⟩
  clear hdw hre he e0 e1
  refine ⟨⟨by decide, by decide⟩, ?_⟩
  refine lc_box 1 (fun _ y => ∃ i : Nat, i < w ∧ y = .int (i : Nat)) Mu.put_same (fun _ _ _ _ => trivial) (by rw [sizeLine_eq]; simp [rangeD]) (by simp [rangeD]) (fun a2 ha2 d hd m' n' hm' hn' hle yes hy => ?_) ?_
  · simp only [↓reduceIte, ↓u_sNx, ↓u_sSeq, ↓u_nx, ↓u_rt, ↓u_bk, ↓u_ct, ↓u_sBreak, ↓u_sCont, ↓u_sDrop, ↓u_sRet, ↓u_sRetN, ↓u_sIf, ↓u_sAsg, ↓u_gC, ↓u_aNil, ↓u_aCons, ↓u_gTup, ↓u_gLst, ↓u_gLstM, ↓u_gBin, ↓u_cVal, ↓u_onBl, ↓u_onInt, ↓u_onStr, ↓u_gChain, ↓u_cAnd, ↓u_cOr, ↓u_cNot, ↓u_gAnd, ↓u_gOr, ↓u_gNot, ↓u_gIf, ↓u_gNeg, ↓u_nNil, ↓u_nCons, ↓u_nTup, ↓u_nSub, ↓u_gCB, ↓u_gCall, ↓u_gM0, ↓u_gM1, ↓u_gL, ↓u_gL0, ↓u_oNo, ↓u_oSome, ↓u_gSl, ↓u_cYes, ↓u_on1, ↓u_on2, ↓u_dInt, ↓u_dInt0, ↓u_gLc, ↓u_gLcM, ↓u_gLc2, ↓u_sNever, ↓u_iEnS, ↓u_iEnL, ↓u_iEnumD, ↓u_iZipD, ↓u_zipS, ↓u_zipL, ↓u_iSeq, ↓u_iRange1, ↓u_iRange2, ↓u_sWhile, ↓u_iRange3, ↓u_on3, ↓u_sFor, ↓u_dMax2, ↓u_dMin2, ↓u_gDct0, ↓u_gVar0, ↓u_sSet0, ↓u_nName0, ↓u_gVar1, ↓u_sSet1, ↓u_nName1, ↓u_gVar2, ↓u_sSet2, ↓u_nName2, ↓u_gVar3, ↓u_sSet3, ↓u_nName3, ↓u_gVar4, ↓u_sSet4, ↓u_nName4, ↓u_gVar5, ↓u_sSet5, ↓u_nName5, ↓u_gVar6, ↓u_sSet6, ↓u_nName6, ↓u_gVar7, ↓u_sSet7, ↓u_nName7, ↓u_gVar8, ↓u_sSet8, ↓u_nName8, ↓u_gVar9, ↓u_sSet9, ↓u_nName9, ↓u_gVar10, ↓u_sSet10, ↓u_nName10, ↓u_gVar11, ↓u_sSet11, ↓u_nName11, ↓u_gVar12, ↓u_sSet12, ↓u_nName12, ↓u_gVar13, ↓u_sSet13, ↓u_nName13, ↓u_gVar14, ↓u_sSet14, ↓u_nName14, ↓u_gVar15, ↓u_sSet15, ↓u_nName15, ↓u_gVar16, ↓u_sSet16, ↓u_nName16, ↓u_gVar17, ↓u_sSet17, ↓u_nName17, ↓dToInt_int, ↓dToInt_bl, ↓dListU_lst, ↓dListU_tup, ↓dListU_str, ↓dListUM_lst, ↓dListUM_tup, ↓dListUM_str, ↓dTuple_lst, ↓dTuple_tup, ↓dIn_lst, ↓dIn_tup, ↓dSl_str, ↓dSl_lst, ↓dSl_tup, ↓dAdd_int, ↓dAdd_str, ↓dAdd_lst, ↓dAdd_tup, ↓dMul_int, ↓dMul_str, ↓dMul_lst, ↓dIx_lst, ↓dIx_ro, ↓dIx_tup, ↓dIx_str, ↓onSome_some, ↓dLen_lst, ↓dLen_tup, ↓dLen_str, ↓dLen_ro, ↓dLen_dct, ↓items_str, ↓items_lst, ↓items_tup, ↓items_ro, ↓dAll_lst, ↓dAny_lst, ↓dSum_lst, ↓dIsi_ty, ↓dIsi_tup, ↓dIn_str, ↓onSeq_lst, ↓onSeq_tup, ↓dIs_bb, ↓dStrI_i, ↓dIsW_bb, ↓dIsW_ib, ↓dIsW_sb, ↓dIsW_nb, ↓dIsW_lb, ↓dIsW_tb, ↓dIsW_db, ↓dIsW_nn, ↓dIsW_in, ↓dIsW_sn, ↓dIsW_ln, ↓dIsW_tn, ↓dEq_ii, ↓dEq_ss, ↓dNe_ii, ↓dNe_ss, ↓dEq_nil, ↓dNe_nil, ↓dEq_bb, ↓dNe_bb, List.append_nil, List.nil_append, List.cons_append, startD, List.map_cons, List.map_nil, List.length_cons, List.length_nil, Nat.sub_self, List.replicate_zero, List.replicate_succ, List.set_cons_zero, List.set_cons_succ, List.getElem?_cons_zero, List.getElem?_cons_succ, atI_lit, vw_int, vw_str, vw_bl, vw_non, vw_lst, vw_tup, vw_dct, vw_ro, vw_obj, vw_cls, Nat.reduceAdd, Nat.reduceSub, Int.reduceToNat, Int.reduceNeg, Int.reducePow, Int.reduceAdd, Int.reduceSub, Int.reduceMul, ixN_lit, decide_eq_true_eq, decide_eq_false_iff_not, if_true, if_false, Bool.false_eq_true, Bool.not_true, Bool.not_false, Nat.reduceLT, Nat.reduceLeDiff, Int.reduceLT, Int.reduceLE, true_and, and_true, and_self, ite_true, ite_false, kind_int, kind_bl, kind_non, kind_str, kind_lst, kind_tup, kind_dct, clsAll_lt, all_lt, any_lt_l, any_lt_t, any_lt_s, any_lt_i, any_lt_b, any_lt_n, any_lt_d, kc_int, kc_bool, kc_str, kc_list, kc_tuple, kc_dict, isiT, String.reduceBEq, Bool.or_false, Bool.or_true, Bool.false_or, Bool.true_or, Bool.and_false, Bool.false_and, Bool.and_true, Bool.true_and, wipeD, Bool.not_eq_true, Bool.not_eq_false, Bool.not_eq_eq_eq_not, Bool.not_not, Bool.false_bne, Bool.true_bne, dJoin, onSome_some, sizeLine_eq, Mu.put_same, put_put, Nat.zero_le, decide_true, decide_false, flt_litc, fld_str, fld_int, fld_bl, fld_non, List.all_cons, List.all_nil, reduceCtorEq, strOk_of, eqd_int, eqd_str, eqd_bl, eqd_lst0, eqd_lst1, eqd_lst2, eqd_lst3, eqd_tup0, eqd_tup1, eqd_tup2, eqd_tup3, flt_bl, flt_non]
    refine take_ok hn' (by omega) (by omega) (by omega) fun r r0 r1 => hy _ 1 ⟨r.toNat, by omega, by rw [Int.toNat_of_nonneg r0]⟩ (Nat.le_refl 1)
  intro hsD jh hal hjh
  rw [range_len] at hjh
  have hjh : jh ≤ 5 := by omega
  obtain ⟨hs, rfl, hlen, hlt⟩ : ∃ hs : List Nat, hsD = (hs.map fun (i : Nat) => D.int i) ∧ hs.length = 5 ∧ ∀ i ∈ hs, i < w := by
    have hl : hsD.length = 5 := by rw [hal.length, range_len]
    have hm := fun y hy => (hal.mem y hy).elim fun x hx => hx.2
    clear hal
    rw [← hl]
    clear hl hjh
    induction hsD with
    | nil => exact ⟨[], rfl, rfl, by simp⟩
    | cons x r ih =>
      obtain ⟨hs, h1, h2, h3⟩ := ih fun y hy => hm y (List.mem_cons_of_mem _ hy)
      obtain ⟨i, hi, rfl⟩ := hm x List.mem_cons_self
      exact ⟨i :: hs, by rw [h1]; rfl, by simp [h2], fun j hj => (List.mem_cons.mp hj).elim (fun e => e ▸ hi) (h3 j)⟩
  simp only [↓reduceIte, ↓u_sNx, ↓u_sSeq, ↓u_nx, ↓u_rt, ↓u_bk, ↓u_ct, ↓u_sBreak, ↓u_sCont, ↓u_sDrop, ↓u_sRet, ↓u_sRetN, ↓u_sIf, ↓u_sAsg, ↓u_gC, ↓u_aNil, ↓u_aCons, ↓u_gTup, ↓u_gLst, ↓u_gLstM, ↓u_gBin, ↓u_cVal, ↓u_onBl, ↓u_onInt, ↓u_onStr, ↓u_gChain, ↓u_cAnd, ↓u_cOr, ↓u_cNot, ↓u_gAnd, ↓u_gOr, ↓u_gNot, ↓u_gIf, ↓u_gNeg, ↓u_nNil, ↓u_nCons, ↓u_nTup, ↓u_nSub, ↓u_gCB, ↓u_gCall, ↓u_gM0, ↓u_gM1, ↓u_gL, ↓u_gL0, ↓u_oNo, ↓u_oSome, ↓u_gSl, ↓u_cYes, ↓u_on1, ↓u_on2, ↓u_dInt, ↓u_dInt0, ↓u_gLc, ↓u_gLcM, ↓u_gLc2, ↓u_sNever, ↓u_iEnS, ↓u_iEnL, ↓u_iEnumD, ↓u_iZipD, ↓u_zipS, ↓u_zipL, ↓u_iSeq, ↓u_iRange1, ↓u_iRange2, ↓u_sWhile, ↓u_iRange3, ↓u_on3, ↓u_sFor, ↓u_dMax2, ↓u_dMin2, ↓u_gDct0, ↓u_gVar0, ↓u_sSet0, ↓u_nName0, ↓u_gVar1, ↓u_sSet1, ↓u_nName1, ↓u_gVar2, ↓u_sSet2, ↓u_nName2, ↓u_gVar3, ↓u_sSet3, ↓u_nName3, ↓u_gVar4, ↓u_sSet4, ↓u_nName4, ↓u_gVar5, ↓u_sSet5, ↓u_nName5, ↓u_gVar6, ↓u_sSet6, ↓u_nName6, ↓u_gVar7, ↓u_sSet7, ↓u_nName7, ↓u_gVar8, ↓u_sSet8, ↓u_nName8, ↓u_gVar9, ↓u_sSet9, ↓u_nName9, ↓u_gVar10, ↓u_sSet10, ↓u_nName10, ↓u_gVar11, ↓u_sSet11, ↓u_nName11, ↓u_gVar12, ↓u_sSet12, ↓u_nName12, ↓u_gVar13, ↓u_sSet13, ↓u_nName13, ↓u_gVar14, ↓u_sSet14, ↓u_nName14, ↓u_gVar15, ↓u_sSet15, ↓u_nName15, ↓u_gVar16, ↓u_sSet16, ↓u_nName16, ↓u_gVar17, ↓u_sSet17, ↓u_nName17, ↓dToInt_int, ↓dToInt_bl, ↓dListU_lst, ↓dListU_tup, ↓dListU_str, ↓dListUM_lst, ↓dListUM_tup, ↓dListUM_str, ↓dTuple_lst, ↓dTuple_tup, ↓dIn_lst, ↓dIn_tup, ↓dSl_str, ↓dSl_lst, ↓dSl_tup, ↓dAdd_int, ↓dAdd_str, ↓dAdd_lst, ↓dAdd_tup, ↓dMul_int, ↓dMul_str, ↓dMul_lst, ↓dIx_lst, ↓dIx_ro, ↓dIx_tup, ↓dIx_str, ↓onSome_some, ↓dLen_lst, ↓dLen_tup, ↓dLen_str, ↓dLen_ro, ↓dLen_dct, ↓items_str, ↓items_lst, ↓items_tup, ↓items_ro, ↓dAll_lst, ↓dAny_lst, ↓dSum_lst, ↓dIsi_ty, ↓dIsi_tup, ↓dIn_str, ↓onSeq_lst, ↓onSeq_tup, ↓dIs_bb, ↓dStrI_i, ↓dIsW_bb, ↓dIsW_ib, ↓dIsW_sb, ↓dIsW_nb, ↓dIsW_lb, ↓dIsW_tb, ↓dIsW_db, ↓dIsW_nn, ↓dIsW_in, ↓dIsW_sn, ↓dIsW_ln, ↓dIsW_tn, ↓dEq_ii, ↓dEq_ss, ↓dNe_ii, ↓dNe_ss, ↓dEq_nil, ↓dNe_nil, ↓dEq_bb, ↓dNe_bb, List.append_nil, List.nil_append, List.cons_append, startD, List.map_cons, List.map_nil, List.length_cons, List.length_nil, Nat.sub_self, List.replicate_zero, List.replicate_succ, List.set_cons_zero, List.set_cons_succ, List.getElem?_cons_zero, List.getElem?_cons_succ, atI_lit, vw_int, vw_str, vw_bl, vw_non, vw_lst, vw_tup, vw_dct, vw_ro, vw_obj, vw_cls, Nat.reduceAdd, Nat.reduceSub, Int.reduceToNat, Int.reduceNeg, Int.reducePow, Int.reduceAdd, Int.reduceSub, Int.reduceMul, ixN_lit, decide_eq_true_eq, decide_eq_false_iff_not, if_true, if_false, Bool.false_eq_true, Bool.not_true, Bool.not_false, Nat.reduceLT, Nat.reduceLeDiff, Int.reduceLT, Int.reduceLE, true_and, and_true, and_self, ite_true, ite_false, kind_int, kind_bl, kind_non, kind_str, kind_lst, kind_tup, kind_dct, clsAll_lt, all_lt, any_lt_l, any_lt_t, any_lt_s, any_lt_i, any_lt_b, any_lt_n, any_lt_d, kc_int, kc_bool, kc_str, kc_list, kc_tuple, kc_dict, isiT, String.reduceBEq, Bool.or_false, Bool.or_true, Bool.false_or, Bool.true_or, Bool.and_false, Bool.false_and, Bool.and_true, Bool.true_and, wipeD, Bool.not_eq_true, Bool.not_eq_false, Bool.not_eq_eq_eq_not, Bool.not_not, Bool.false_bne, Bool.true_bne, dJoin, onSome_some, sizeLine_eq, Mu.put_same, put_put, Nat.zero_le, decide_true, decide_false, flt_litc, fld_str, fld_int, fld_bl, fld_non, List.all_cons, List.all_nil, reduceCtorEq, strOk_of, eqd_int, eqd_str, eqd_bl, eqd_lst0, eqd_lst1, eqd_lst2, eqd_lst3, eqd_tup0, eqd_tup1, eqd_tup2, eqd_tup3, flt_bl, flt_non, mu_pp]
  refine take_ok Mu.put_same (by decide) (by decide) (by omega) fun r5 p5 q5 => ?_
  simp only [↓reduceIte, ↓u_sNx, ↓u_sSeq, ↓u_nx, ↓u_rt, ↓u_bk, ↓u_ct, ↓u_sBreak, ↓u_sCont, ↓u_sDrop, ↓u_sRet, ↓u_sRetN, ↓u_sIf, ↓u_sAsg, ↓u_gC, ↓u_aNil, ↓u_aCons, ↓u_gTup, ↓u_gLst, ↓u_gLstM, ↓u_gBin, ↓u_cVal, ↓u_onBl, ↓u_onInt, ↓u_onStr, ↓u_gChain, ↓u_cAnd, ↓u_cOr, ↓u_cNot, ↓u_gAnd, ↓u_gOr, ↓u_gNot, ↓u_gIf, ↓u_gNeg, ↓u_nNil, ↓u_nCons, ↓u_nTup, ↓u_nSub, ↓u_gCB, ↓u_gCall, ↓u_gM0, ↓u_gM1, ↓u_gL, ↓u_gL0, ↓u_oNo, ↓u_oSome, ↓u_gSl, ↓u_cYes, ↓u_on1, ↓u_on2, ↓u_dInt, ↓u_dInt0, ↓u_gLc, ↓u_gLcM, ↓u_gLc2, ↓u_sNever, ↓u_iEnS, ↓u_iEnL, ↓u_iEnumD, ↓u_iZipD, ↓u_zipS, ↓u_zipL, ↓u_iSeq, ↓u_iRange1, ↓u_iRange2, ↓u_sWhile, ↓u_iRange3, ↓u_on3, ↓u_sFor, ↓u_dMax2, ↓u_dMin2, ↓u_gDct0, ↓u_gVar0, ↓u_sSet0, ↓u_nName0, ↓u_gVar1, ↓u_sSet1, ↓u_nName1, ↓u_gVar2, ↓u_sSet2, ↓u_nName2, ↓u_gVar3, ↓u_sSet3, ↓u_nName3, ↓u_gVar4, ↓u_sSet4, ↓u_nName4, ↓u_gVar5, ↓u_sSet5, ↓u_nName5, ↓u_gVar6, ↓u_sSet6, ↓u_nName6, ↓u_gVar7, ↓u_sSet7, ↓u_nName7, ↓u_gVar8, ↓u_sSet8, ↓u_nName8, ↓u_gVar9, ↓u_sSet9, ↓u_nName9, ↓u_gVar10, ↓u_sSet10, ↓u_nName10, ↓u_gVar11, ↓u_sSet11, ↓u_nName11, ↓u_gVar12, ↓u_sSet12, ↓u_nName12, ↓u_gVar13, ↓u_sSet13, ↓u_nName13, ↓u_gVar14, ↓u_sSet14, ↓u_nName14, ↓u_gVar15, ↓u_sSet15, ↓u_nName15, ↓u_gVar16, ↓u_sSet16, ↓u_nName16, ↓u_gVar17, ↓u_sSet17, ↓u_nName17, ↓dToInt_int, ↓dToInt_bl, ↓dListU_lst, ↓dListU_tup, ↓dListU_str, ↓dListUM_lst, ↓dListUM_tup, ↓dListUM_str, ↓dTuple_lst, ↓dTuple_tup, ↓dIn_lst, ↓dIn_tup, ↓dSl_str, ↓dSl_lst, ↓dSl_tup, ↓dAdd_int, ↓dAdd_str, ↓dAdd_lst, ↓dAdd_tup, ↓dMul_int, ↓dMul_str, ↓dMul_lst, ↓dIx_lst, ↓dIx_ro, ↓dIx_tup, ↓dIx_str, ↓onSome_some, ↓dLen_lst, ↓dLen_tup, ↓dLen_str, ↓dLen_ro, ↓dLen_dct, ↓items_str, ↓items_lst, ↓items_tup, ↓items_ro, ↓dAll_lst, ↓dAny_lst, ↓dSum_lst, ↓dIsi_ty, ↓dIsi_tup, ↓dIn_str, ↓onSeq_lst, ↓onSeq_tup, ↓dIs_bb, ↓dStrI_i, ↓dIsW_bb, ↓dIsW_ib, ↓dIsW_sb, ↓dIsW_nb, ↓dIsW_lb, ↓dIsW_tb, ↓dIsW_db, ↓dIsW_nn, ↓dIsW_in, ↓dIsW_sn, ↓dIsW_ln, ↓dIsW_tn, ↓dEq_ii, ↓dEq_ss, ↓dNe_ii, ↓dNe_ss, ↓dEq_nil, ↓dNe_nil, ↓dEq_bb, ↓dNe_bb, List.append_nil, List.nil_append, List.cons_append, startD, List.map_cons, List.map_nil, List.length_cons, List.length_nil, Nat.sub_self, List.replicate_zero, List.replicate_succ, List.set_cons_zero, List.set_cons_succ, List.getElem?_cons_zero, List.getElem?_cons_succ, atI_lit, vw_int, vw_str, vw_bl, vw_non, vw_lst, vw_tup, vw_dct, vw_ro, vw_obj, vw_cls, Nat.reduceAdd, Nat.reduceSub, Int.reduceToNat, Int.reduceNeg, Int.reducePow, Int.reduceAdd, Int.reduceSub, Int.reduceMul, ixN_lit, decide_eq_true_eq, decide_eq_false_iff_not, if_true, if_false, Bool.false_eq_true, Bool.not_true, Bool.not_false, Nat.reduceLT, Nat.reduceLeDiff, Int.reduceLT, Int.reduceLE, true_and, and_true, and_self, ite_true, ite_false, kind_int, kind_bl, kind_non, kind_str, kind_lst, kind_tup, kind_dct, clsAll_lt, all_lt, any_lt_l, any_lt_t, any_lt_s, any_lt_i, any_lt_b, any_lt_n, any_lt_d, kc_int, kc_bool, kc_str, kc_list, kc_tuple, kc_dict, isiT, String.reduceBEq, Bool.or_false, Bool.or_true, Bool.false_or, Bool.true_or, Bool.and_false, Bool.false_and, Bool.and_true, Bool.true_and, wipeD, Bool.not_eq_true, Bool.not_eq_false, Bool.not_eq_eq_eq_not, Bool.not_not, Bool.false_bne, Bool.true_bne, dJoin, onSome_some, sizeLine_eq, Mu.put_same, put_put, Nat.zero_le, decide_true, decide_false, flt_litc, fld_str, fld_int, fld_bl, fld_non, List.all_cons, List.all_nil, reduceCtorEq, strOk_of, eqd_int, eqd_str, eqd_bl, eqd_lst0, eqd_lst1, eqd_lst2, eqd_lst3, eqd_tup0, eqd_tup1, eqd_tup2, eqd_tup3, flt_bl, flt_non, mu_pp]
  obtain ⟨deep, hdeep⟩ : ∃ w : Nat, 1 + r5 = (w : Int) := ⟨(1 + r5).toNat, by omega⟩
  rw [hdeep]
  have pd : ∀ {d : Nat}, d ≤ 4 → 2 ^ d ≤ 16 := fun h => Nat.le_trans (Nat.pow_le_pow_right (by decide) h) (by decide)
  have pd1 := pd (d := deep) (by omega)
  refine ⟨a, _, hs, deep, rfl, Mu.put_same, by omega, by omega, by omega, by omega, by omega, by omega, fun q n2 hn2 hq1 hq2 hq3 => ?_⟩
  simp only [↓reduceIte, ↓u_sNx, ↓u_sSeq, ↓u_nx, ↓u_rt, ↓u_bk, ↓u_ct, ↓u_sBreak, ↓u_sCont, ↓u_sDrop, ↓u_sRet, ↓u_sRetN, ↓u_sIf, ↓u_sAsg, ↓u_gC, ↓u_aNil, ↓u_aCons, ↓u_gTup, ↓u_gLst, ↓u_gLstM, ↓u_gBin, ↓u_cVal, ↓u_onBl, ↓u_onInt, ↓u_onStr, ↓u_gChain, ↓u_cAnd, ↓u_cOr, ↓u_cNot, ↓u_gAnd, ↓u_gOr, ↓u_gNot, ↓u_gIf, ↓u_gNeg, ↓u_nNil, ↓u_nCons, ↓u_nTup, ↓u_nSub, ↓u_gCB, ↓u_gCall, ↓u_gM0, ↓u_gM1, ↓u_gL, ↓u_gL0, ↓u_oNo, ↓u_oSome, ↓u_gSl, ↓u_cYes, ↓u_on1, ↓u_on2, ↓u_dInt, ↓u_dInt0, ↓u_gLc, ↓u_gLcM, ↓u_gLc2, ↓u_sNever, ↓u_iEnS, ↓u_iEnL, ↓u_iEnumD, ↓u_iZipD, ↓u_zipS, ↓u_zipL, ↓u_iSeq, ↓u_iRange1, ↓u_iRange2, ↓u_sWhile, ↓u_iRange3, ↓u_on3, ↓u_sFor, ↓u_dMax2, ↓u_dMin2, ↓u_gDct0, ↓u_gVar0, ↓u_sSet0, ↓u_nName0, ↓u_gVar1, ↓u_sSet1, ↓u_nName1, ↓u_gVar2, ↓u_sSet2, ↓u_nName2, ↓u_gVar3, ↓u_sSet3, ↓u_nName3, ↓u_gVar4, ↓u_sSet4, ↓u_nName4, ↓u_gVar5, ↓u_sSet5, ↓u_nName5, ↓u_gVar6, ↓u_sSet6, ↓u_nName6, ↓u_gVar7, ↓u_sSet7, ↓u_nName7, ↓u_gVar8, ↓u_sSet8, ↓u_nName8, ↓u_gVar9, ↓u_sSet9, ↓u_nName9, ↓u_gVar10, ↓u_sSet10, ↓u_nName10, ↓u_gVar11, ↓u_sSet11, ↓u_nName11, ↓u_gVar12, ↓u_sSet12, ↓u_nName12, ↓u_gVar13, ↓u_sSet13, ↓u_nName13, ↓u_gVar14, ↓u_sSet14, ↓u_nName14, ↓u_gVar15, ↓u_sSet15, ↓u_nName15, ↓u_gVar16, ↓u_sSet16, ↓u_nName16, ↓u_gVar17, ↓u_sSet17, ↓u_nName17, ↓dToInt_int, ↓dToInt_bl, ↓dListU_lst, ↓dListU_tup, ↓dListU_str, ↓dListUM_lst, ↓dListUM_tup, ↓dListUM_str, ↓dTuple_lst, ↓dTuple_tup, ↓dIn_lst, ↓dIn_tup, ↓dSl_str, ↓dSl_lst, ↓dSl_tup, ↓dAdd_int, ↓dAdd_str, ↓dAdd_lst, ↓dAdd_tup, ↓dMul_int, ↓dMul_str, ↓dMul_lst, ↓dIx_lst, ↓dIx_ro, ↓dIx_tup, ↓dIx_str, ↓onSome_some, ↓dLen_lst, ↓dLen_tup, ↓dLen_str, ↓dLen_ro, ↓dLen_dct, ↓items_str, ↓items_lst, ↓items_tup, ↓items_ro, ↓dAll_lst, ↓dAny_lst, ↓dSum_lst, ↓dIsi_ty, ↓dIsi_tup, ↓dIn_str, ↓onSeq_lst, ↓onSeq_tup, ↓dIs_bb, ↓dStrI_i, ↓dIsW_bb, ↓dIsW_ib, ↓dIsW_sb, ↓dIsW_nb, ↓dIsW_lb, ↓dIsW_tb, ↓dIsW_db, ↓dIsW_nn, ↓dIsW_in, ↓dIsW_sn, ↓dIsW_ln, ↓dIsW_tn, ↓dEq_ii, ↓dEq_ss, ↓dNe_ii, ↓dNe_ss, ↓dEq_nil, ↓dNe_nil, ↓dEq_bb, ↓dNe_bb, List.append_nil, List.nil_append, List.cons_append, startD, List.map_cons, List.map_nil, List.length_cons, List.length_nil, Nat.sub_self, List.replicate_zero, List.replicate_succ, List.set_cons_zero, List.set_cons_succ, List.getElem?_cons_zero, List.getElem?_cons_succ, atI_lit, vw_int, vw_str, vw_bl, vw_non, vw_lst, vw_tup, vw_dct, vw_ro, vw_obj, vw_cls, Nat.reduceAdd, Nat.reduceSub, Int.reduceToNat, Int.reduceNeg, Int.reducePow, Int.reduceAdd, Int.reduceSub, Int.reduceMul, ixN_lit, decide_eq_true_eq, decide_eq_false_iff_not, if_true, if_false, Bool.false_eq_true, Bool.not_true, Bool.not_false, Nat.reduceLT, Nat.reduceLeDiff, Int.reduceLT, Int.reduceLE, true_and, and_true, and_self, ite_true, ite_false, kind_int, kind_bl, kind_non, kind_str, kind_lst, kind_tup, kind_dct, clsAll_lt, all_lt, any_lt_l, any_lt_t, any_lt_s, any_lt_i, any_lt_b, any_lt_n, any_lt_d, kc_int, kc_bool, kc_str, kc_list, kc_tuple, kc_dict, isiT, String.reduceBEq, Bool.or_false, Bool.or_true, Bool.false_or, Bool.true_or, Bool.and_false, Bool.false_and, Bool.and_true, Bool.true_and, wipeD, Bool.not_eq_true, Bool.not_eq_false, Bool.not_eq_eq_eq_not, Bool.not_not, Bool.false_bne, Bool.true_bne, dJoin, onSome_some, sizeLine_eq, Mu.put_same, put_put, Nat.zero_le, decide_true, decide_false, flt_litc, fld_str, fld_int, fld_bl, fld_non, List.all_cons, List.all_nil, reduceCtorEq, strOk_of, eqd_int, eqd_str, eqd_bl, eqd_lst0, eqd_lst1, eqd_lst2, eqd_lst3, eqd_tup0, eqd_tup1, eqd_tup2, eqd_tup3, flt_bl, flt_non, mu_pp]
  refine ⟨a, _, hs, q, rfl, Mu.put_same, by omega, by omega, hq3, by omega, by omega, by omega, fun ql n3 hn3 hl1 hl2 hl3 => ?_⟩
  simp only [↓reduceIte, ↓u_sNx, ↓u_sSeq, ↓u_nx, ↓u_rt, ↓u_bk, ↓u_ct, ↓u_sBreak, ↓u_sCont, ↓u_sDrop, ↓u_sRet, ↓u_sRetN, ↓u_sIf, ↓u_sAsg, ↓u_gC, ↓u_aNil, ↓u_aCons, ↓u_gTup, ↓u_gLst, ↓u_gLstM, ↓u_gBin, ↓u_cVal, ↓u_onBl, ↓u_onInt, ↓u_onStr, ↓u_gChain, ↓u_cAnd, ↓u_cOr, ↓u_cNot, ↓u_gAnd, ↓u_gOr, ↓u_gNot, ↓u_gIf, ↓u_gNeg, ↓u_nNil, ↓u_nCons, ↓u_nTup, ↓u_nSub, ↓u_gCB, ↓u_gCall, ↓u_gM0, ↓u_gM1, ↓u_gL, ↓u_gL0, ↓u_oNo, ↓u_oSome, ↓u_gSl, ↓u_cYes, ↓u_on1, ↓u_on2, ↓u_dInt, ↓u_dInt0, ↓u_gLc, ↓u_gLcM, ↓u_gLc2, ↓u_sNever, ↓u_iEnS, ↓u_iEnL, ↓u_iEnumD, ↓u_iZipD, ↓u_zipS, ↓u_zipL, ↓u_iSeq, ↓u_iRange1, ↓u_iRange2, ↓u_sWhile, ↓u_iRange3, ↓u_on3, ↓u_sFor, ↓u_dMax2, ↓u_dMin2, ↓u_gDct0, ↓u_gVar0, ↓u_sSet0, ↓u_nName0, ↓u_gVar1, ↓u_sSet1, ↓u_nName1, ↓u_gVar2, ↓u_sSet2, ↓u_nName2, ↓u_gVar3, ↓u_sSet3, ↓u_nName3, ↓u_gVar4, ↓u_sSet4, ↓u_nName4, ↓u_gVar5, ↓u_sSet5, ↓u_nName5, ↓u_gVar6, ↓u_sSet6, ↓u_nName6, ↓u_gVar7, ↓u_sSet7, ↓u_nName7, ↓u_gVar8, ↓u_sSet8, ↓u_nName8, ↓u_gVar9, ↓u_sSet9, ↓u_nName9, ↓u_gVar10, ↓u_sSet10, ↓u_nName10, ↓u_gVar11, ↓u_sSet11, ↓u_nName11, ↓u_gVar12, ↓u_sSet12, ↓u_nName12, ↓u_gVar13, ↓u_sSet13, ↓u_nName13, ↓u_gVar14, ↓u_sSet14, ↓u_nName14, ↓u_gVar15, ↓u_sSet15, ↓u_nName15, ↓u_gVar16, ↓u_sSet16, ↓u_nName16, ↓u_gVar17, ↓u_sSet17, ↓u_nName17, ↓dToInt_int, ↓dToInt_bl, ↓dListU_lst, ↓dListU_tup, ↓dListU_str, ↓dListUM_lst, ↓dListUM_tup, ↓dListUM_str, ↓dTuple_lst, ↓dTuple_tup, ↓dIn_lst, ↓dIn_tup, ↓dSl_str, ↓dSl_lst, ↓dSl_tup, ↓dAdd_int, ↓dAdd_str, ↓dAdd_lst, ↓dAdd_tup, ↓dMul_int, ↓dMul_str, ↓dMul_lst, ↓dIx_lst, ↓dIx_ro, ↓dIx_tup, ↓dIx_str, ↓onSome_some, ↓dLen_lst, ↓dLen_tup, ↓dLen_str, ↓dLen_ro, ↓dLen_dct, ↓items_str, ↓items_lst, ↓items_tup, ↓items_ro, ↓dAll_lst, ↓dAny_lst, ↓dSum_lst, ↓dIsi_ty, ↓dIsi_tup, ↓dIn_str, ↓onSeq_lst, ↓onSeq_tup, ↓dIs_bb, ↓dStrI_i, ↓dIsW_bb, ↓dIsW_ib, ↓dIsW_sb, ↓dIsW_nb, ↓dIsW_lb, ↓dIsW_tb, ↓dIsW_db, ↓dIsW_nn, ↓dIsW_in, ↓dIsW_sn, ↓dIsW_ln, ↓dIsW_tn, ↓dEq_ii, ↓dEq_ss, ↓dNe_ii, ↓dNe_ss, ↓dEq_nil, ↓dNe_nil, ↓dEq_bb, ↓dNe_bb, List.append_nil, List.nil_append, List.cons_append, startD, List.map_cons, List.map_nil, List.length_cons, List.length_nil, Nat.sub_self, List.replicate_zero, List.replicate_succ, List.set_cons_zero, List.set_cons_succ, List.getElem?_cons_zero, List.getElem?_cons_succ, atI_lit, vw_int, vw_str, vw_bl, vw_non, vw_lst, vw_tup, vw_dct, vw_ro, vw_obj, vw_cls, Nat.reduceAdd, Nat.reduceSub, Int.reduceToNat, Int.reduceNeg, Int.reducePow, Int.reduceAdd, Int.reduceSub, Int.reduceMul, ixN_lit, decide_eq_true_eq, decide_eq_false_iff_not, if_true, if_false, Bool.false_eq_true, Bool.not_true, Bool.not_false, Nat.reduceLT, Nat.reduceLeDiff, Int.reduceLT, Int.reduceLE, true_and, and_true, and_self, ite_true, ite_false, kind_int, kind_bl, kind_non, kind_str, kind_lst, kind_tup, kind_dct, clsAll_lt, all_lt, any_lt_l, any_lt_t, any_lt_s, any_lt_i, any_lt_b, any_lt_n, any_lt_d, kc_int, kc_bool, kc_str, kc_list, kc_tuple, kc_dict, isiT, String.reduceBEq, Bool.or_false, Bool.or_true, Bool.false_or, Bool.true_or, Bool.and_false, Bool.false_and, Bool.and_true, Bool.true_and, wipeD, Bool.not_eq_true, Bool.not_eq_false, Bool.not_eq_eq_eq_not, Bool.not_not, Bool.false_bne, Bool.true_bne, dJoin, onSome_some, sizeLine_eq, Mu.put_same, put_put, Nat.zero_le, decide_true, decide_false, flt_litc, fld_str, fld_int, fld_bl, fld_non, List.all_cons, List.all_nil, reduceCtorEq, strOk_of, eqd_int, eqd_str, eqd_bl, eqd_lst0, eqd_lst1, eqd_lst2, eqd_lst3, eqd_tup0, eqd_tup1, eqd_tup2, eqd_tup3, flt_bl, flt_non, mu_pp]
  refine take_ok Mu.put_same (by decide) (by decide) (by omega) fun r6 p6 q6 => ?_
  simp only [↓reduceIte, ↓u_sNx, ↓u_sSeq, ↓u_nx, ↓u_rt, ↓u_bk, ↓u_ct, ↓u_sBreak, ↓u_sCont, ↓u_sDrop, ↓u_sRet, ↓u_sRetN, ↓u_sIf, ↓u_sAsg, ↓u_gC, ↓u_aNil, ↓u_aCons, ↓u_gTup, ↓u_gLst, ↓u_gLstM, ↓u_gBin, ↓u_cVal, ↓u_onBl, ↓u_onInt, ↓u_onStr, ↓u_gChain, ↓u_cAnd, ↓u_cOr, ↓u_cNot, ↓u_gAnd, ↓u_gOr, ↓u_gNot, ↓u_gIf, ↓u_gNeg, ↓u_nNil, ↓u_nCons, ↓u_nTup, ↓u_nSub, ↓u_gCB, ↓u_gCall, ↓u_gM0, ↓u_gM1, ↓u_gL, ↓u_gL0, ↓u_oNo, ↓u_oSome, ↓u_gSl, ↓u_cYes, ↓u_on1, ↓u_on2, ↓u_dInt, ↓u_dInt0, ↓u_gLc, ↓u_gLcM, ↓u_gLc2, ↓u_sNever, ↓u_iEnS, ↓u_iEnL, ↓u_iEnumD, ↓u_iZipD, ↓u_zipS, ↓u_zipL, ↓u_iSeq, ↓u_iRange1, ↓u_iRange2, ↓u_sWhile, ↓u_iRange3, ↓u_on3, ↓u_sFor, ↓u_dMax2, ↓u_dMin2, ↓u_gDct0, ↓u_gVar0, ↓u_sSet0, ↓u_nName0, ↓u_gVar1, ↓u_sSet1, ↓u_nName1, ↓u_gVar2, ↓u_sSet2, ↓u_nName2, ↓u_gVar3, ↓u_sSet3, ↓u_nName3, ↓u_gVar4, ↓u_sSet4, ↓u_nName4, ↓u_gVar5, ↓u_sSet5, ↓u_nName5, ↓u_gVar6, ↓u_sSet6, ↓u_nName6, ↓u_gVar7, ↓u_sSet7, ↓u_nName7, ↓u_gVar8, ↓u_sSet8, ↓u_nName8, ↓u_gVar9, ↓u_sSet9, ↓u_nName9, ↓u_gVar10, ↓u_sSet10, ↓u_nName10, ↓u_gVar11, ↓u_sSet11, ↓u_nName11, ↓u_gVar12, ↓u_sSet12, ↓u_nName12, ↓u_gVar13, ↓u_sSet13, ↓u_nName13, ↓u_gVar14, ↓u_sSet14, ↓u_nName14, ↓u_gVar15, ↓u_sSet15, ↓u_nName15, ↓u_gVar16, ↓u_sSet16, ↓u_nName16, ↓u_gVar17, ↓u_sSet17, ↓u_nName17, ↓dToInt_int, ↓dToInt_bl, ↓dListU_lst, ↓dListU_tup, ↓dListU_str, ↓dListUM_lst, ↓dListUM_tup, ↓dListUM_str, ↓dTuple_lst, ↓dTuple_tup, ↓dIn_lst, ↓dIn_tup, ↓dSl_str, ↓dSl_lst, ↓dSl_tup, ↓dAdd_int, ↓dAdd_str, ↓dAdd_lst, ↓dAdd_tup, ↓dMul_int, ↓dMul_str, ↓dMul_lst, ↓dIx_lst, ↓dIx_ro, ↓dIx_tup, ↓dIx_str, ↓onSome_some, ↓dLen_lst, ↓dLen_tup, ↓dLen_str, ↓dLen_ro, ↓dLen_dct, ↓items_str, ↓items_lst, ↓items_tup, ↓items_ro, ↓dAll_lst, ↓dAny_lst, ↓dSum_lst, ↓dIsi_ty, ↓dIsi_tup, ↓dIn_str, ↓onSeq_lst, ↓onSeq_tup, ↓dIs_bb, ↓dStrI_i, ↓dIsW_bb, ↓dIsW_ib, ↓dIsW_sb, ↓dIsW_nb, ↓dIsW_lb, ↓dIsW_tb, ↓dIsW_db, ↓dIsW_nn, ↓dIsW_in, ↓dIsW_sn, ↓dIsW_ln, ↓dIsW_tn, ↓dEq_ii, ↓dEq_ss, ↓dNe_ii, ↓dNe_ss, ↓dEq_nil, ↓dNe_nil, ↓dEq_bb, ↓dNe_bb, List.append_nil, List.nil_append, List.cons_append, startD, List.map_cons, List.map_nil, List.length_cons, List.length_nil, Nat.sub_self, List.replicate_zero, List.replicate_succ, List.set_cons_zero, List.set_cons_succ, List.getElem?_cons_zero, List.getElem?_cons_succ, atI_lit, vw_int, vw_str, vw_bl, vw_non, vw_lst, vw_tup, vw_dct, vw_ro, vw_obj, vw_cls, Nat.reduceAdd, Nat.reduceSub, Int.reduceToNat, Int.reduceNeg, Int.reducePow, Int.reduceAdd, Int.reduceSub, Int.reduceMul, ixN_lit, decide_eq_true_eq, decide_eq_false_iff_not, if_true, if_false, Bool.false_eq_true, Bool.not_true, Bool.not_false, Nat.reduceLT, Nat.reduceLeDiff, Int.reduceLT, Int.reduceLE, true_and, and_true, and_self, ite_true, ite_false, kind_int, kind_bl, kind_non, kind_str, kind_lst, kind_tup, kind_dct, clsAll_lt, all_lt, any_lt_l, any_lt_t, any_lt_s, any_lt_i, any_lt_b, any_lt_n, any_lt_d, kc_int, kc_bool, kc_str, kc_list, kc_tuple, kc_dict, isiT, String.reduceBEq, Bool.or_false, Bool.or_true, Bool.false_or, Bool.true_or, Bool.and_false, Bool.false_and, Bool.and_true, Bool.true_and, wipeD, Bool.not_eq_true, Bool.not_eq_false, Bool.not_eq_eq_eq_not, Bool.not_not, Bool.false_bne, Bool.true_bne, dJoin, onSome_some, sizeLine_eq, Mu.put_same, put_put, Nat.zero_le, decide_true, decide_false, flt_litc, fld_str, fld_int, fld_bl, fld_non, List.all_cons, List.all_nil, reduceCtorEq, strOk_of, eqd_int, eqd_str, eqd_bl, eqd_lst0, eqd_lst1, eqd_lst2, eqd_lst3, eqd_tup0, eqd_tup1, eqd_tup2, eqd_tup3, flt_bl, flt_non, mu_pp]
  obtain ⟨deep2, hdeep2⟩ : ∃ w : Nat, 1 + r6 = (w : Int) := ⟨(1 + r6).toNat, by omega⟩
  rw [hdeep2]
  have pd2 := pd (d := deep2) (by omega)
  refine ⟨a, _, hs, deep2, rfl, Mu.put_same, by omega, by omega, by omega, by omega, by omega, by omega, fun q2 n4 hn4 hq4 hq5 hq6 => ?_⟩
  simp only [↓reduceIte, ↓u_sNx, ↓u_sSeq, ↓u_nx, ↓u_rt, ↓u_bk, ↓u_ct, ↓u_sBreak, ↓u_sCont, ↓u_sDrop, ↓u_sRet, ↓u_sRetN, ↓u_sIf, ↓u_sAsg, ↓u_gC, ↓u_aNil, ↓u_aCons, ↓u_gTup, ↓u_gLst, ↓u_gLstM, ↓u_gBin, ↓u_cVal, ↓u_onBl, ↓u_onInt, ↓u_onStr, ↓u_gChain, ↓u_cAnd, ↓u_cOr, ↓u_cNot, ↓u_gAnd, ↓u_gOr, ↓u_gNot, ↓u_gIf, ↓u_gNeg, ↓u_nNil, ↓u_nCons, ↓u_nTup, ↓u_nSub, ↓u_gCB, ↓u_gCall, ↓u_gM0, ↓u_gM1, ↓u_gL, ↓u_gL0, ↓u_oNo, ↓u_oSome, ↓u_gSl, ↓u_cYes, ↓u_on1, ↓u_on2, ↓u_dInt, ↓u_dInt0, ↓u_gLc, ↓u_gLcM, ↓u_gLc2, ↓u_sNever, ↓u_iEnS, ↓u_iEnL, ↓u_iEnumD, ↓u_iZipD, ↓u_zipS, ↓u_zipL, ↓u_iSeq, ↓u_iRange1, ↓u_iRange2, ↓u_sWhile, ↓u_iRange3, ↓u_on3, ↓u_sFor, ↓u_dMax2, ↓u_dMin2, ↓u_gDct0, ↓u_gVar0, ↓u_sSet0, ↓u_nName0, ↓u_gVar1, ↓u_sSet1, ↓u_nName1, ↓u_gVar2, ↓u_sSet2, ↓u_nName2, ↓u_gVar3, ↓u_sSet3, ↓u_nName3, ↓u_gVar4, ↓u_sSet4, ↓u_nName4, ↓u_gVar5, ↓u_sSet5, ↓u_nName5, ↓u_gVar6, ↓u_sSet6, ↓u_nName6, ↓u_gVar7, ↓u_sSet7, ↓u_nName7, ↓u_gVar8, ↓u_sSet8, ↓u_nName8, ↓u_gVar9, ↓u_sSet9, ↓u_nName9, ↓u_gVar10, ↓u_sSet10, ↓u_nName10, ↓u_gVar11, ↓u_sSet11, ↓u_nName11, ↓u_gVar12, ↓u_sSet12, ↓u_nName12, ↓u_gVar13, ↓u_sSet13, ↓u_nName13, ↓u_gVar14, ↓u_sSet14, ↓u_nName14, ↓u_gVar15, ↓u_sSet15, ↓u_nName15, ↓u_gVar16, ↓u_sSet16, ↓u_nName16, ↓u_gVar17, ↓u_sSet17, ↓u_nName17, ↓dToInt_int, ↓dToInt_bl, ↓dListU_lst, ↓dListU_tup, ↓dListU_str, ↓dListUM_lst, ↓dListUM_tup, ↓dListUM_str, ↓dTuple_lst, ↓dTuple_tup, ↓dIn_lst, ↓dIn_tup, ↓dSl_str, ↓dSl_lst, ↓dSl_tup, ↓dAdd_int, ↓dAdd_str, ↓dAdd_lst, ↓dAdd_tup, ↓dMul_int, ↓dMul_str, ↓dMul_lst, ↓dIx_lst, ↓dIx_ro, ↓dIx_tup, ↓dIx_str, ↓onSome_some, ↓dLen_lst, ↓dLen_tup, ↓dLen_str, ↓dLen_ro, ↓dLen_dct, ↓items_str, ↓items_lst, ↓items_tup, ↓items_ro, ↓dAll_lst, ↓dAny_lst, ↓dSum_lst, ↓dIsi_ty, ↓dIsi_tup, ↓dIn_str, ↓onSeq_lst, ↓onSeq_tup, ↓dIs_bb, ↓dStrI_i, ↓dIsW_bb, ↓dIsW_ib, ↓dIsW_sb, ↓dIsW_nb, ↓dIsW_lb, ↓dIsW_tb, ↓dIsW_db, ↓dIsW_nn, ↓dIsW_in, ↓dIsW_sn, ↓dIsW_ln, ↓dIsW_tn, ↓dEq_ii, ↓dEq_ss, ↓dNe_ii, ↓dNe_ss, ↓dEq_nil, ↓dNe_nil, ↓dEq_bb, ↓dNe_bb, List.append_nil, List.nil_append, List.cons_append, startD, List.map_cons, List.map_nil, List.length_cons, List.length_nil, Nat.sub_self, List.replicate_zero, List.replicate_succ, List.set_cons_zero, List.set_cons_succ, List.getElem?_cons_zero, List.getElem?_cons_succ, atI_lit, vw_int, vw_str, vw_bl, vw_non, vw_lst, vw_tup, vw_dct, vw_ro, vw_obj, vw_cls, Nat.reduceAdd, Nat.reduceSub, Int.reduceToNat, Int.reduceNeg, Int.reducePow, Int.reduceAdd, Int.reduceSub, Int.reduceMul, ixN_lit, decide_eq_true_eq, decide_eq_false_iff_not, if_true, if_false, Bool.false_eq_true, Bool.not_true, Bool.not_false, Nat.reduceLT, Nat.reduceLeDiff, Int.reduceLT, Int.reduceLE, true_and, and_true, and_self, ite_true, ite_false, kind_int, kind_bl, kind_non, kind_str, kind_lst, kind_tup, kind_dct, clsAll_lt, all_lt, any_lt_l, any_lt_t, any_lt_s, any_lt_i, any_lt_b, any_lt_n, any_lt_d, kc_int, kc_bool, kc_str, kc_list, kc_tuple, kc_dict, isiT, String.reduceBEq, Bool.or_false, Bool.or_true, Bool.false_or, Bool.true_or, Bool.and_false, Bool.false_and, Bool.and_true, Bool.true_and, wipeD, Bool.not_eq_true, Bool.not_eq_false, Bool.not_eq_eq_eq_not, Bool.not_not, Bool.false_bne, Bool.true_bne, dJoin, onSome_some, sizeLine_eq, Mu.put_same, put_put, Nat.zero_le, decide_true, decide_false, flt_litc, fld_str, fld_int, fld_bl, fld_non, List.all_cons, List.all_nil, reduceCtorEq, strOk_of, eqd_int, eqd_str, eqd_bl, eqd_lst0, eqd_lst1, eqd_lst2, eqd_lst3, eqd_tup0, eqd_tup1, eqd_tup2, eqd_tup3, flt_bl, flt_non, mu_pp]
  have g1 : q.Good w := ⟨by omega, by omega, fun i hi => hlt i (hq3 i hi)⟩
  have gall : ∀ d ∈ [ql.d, q2.d, (Rq.not q).d], ∃ p : Rq, d = p.d ∧ p.Good w := fun d hd => by
    simp only [List.mem_cons, List.not_mem_nil, or_false] at hd
    rcases hd with rfl | rfl | rfl
    · exact ⟨_, rfl, by omega, by omega, fun i hi => hlt i (hl3 i hi)⟩
    · exact ⟨_, rfl, by omega, by omega, fun i hi => hlt i (hq6 i hi)⟩
    · exact ⟨_, rfl, by simp only [Rq.depth]; omega, by simp only [Rq.size]; omega, g1.ho⟩
  refine for_inv (fun _ ρ _ => ∃ x6 x9, ρ = [some (.ro (ns.map D.int)), some (.int (0 + (k : Nat))), some (.cel a), some (.int (w : Nat)), some (.lst (hs.map fun (i : Nat) => D.int i)), some q.d, x6, x7, x8, x9, x10]) ⟨_, _, rfl⟩ (fun _ _ _ _ => trivial) ?_ ?_
  · rintro i d ρ m N hd ⟨x6, x9, rfl⟩ hN
    obtain ⟨p, rfl, gp⟩ := gall d (List.mem_of_getElem? hd)
    simp only [↓reduceIte, ↓u_sNx, ↓u_sSeq, ↓u_nx, ↓u_rt, ↓u_bk, ↓u_ct, ↓u_sBreak, ↓u_sCont, ↓u_sDrop, ↓u_sRet, ↓u_sRetN, ↓u_sIf, ↓u_sAsg, ↓u_gC, ↓u_aNil, ↓u_aCons, ↓u_gTup, ↓u_gLst, ↓u_gLstM, ↓u_gBin, ↓u_cVal, ↓u_onBl, ↓u_onInt, ↓u_onStr, ↓u_gChain, ↓u_cAnd, ↓u_cOr, ↓u_cNot, ↓u_gAnd, ↓u_gOr, ↓u_gNot, ↓u_gIf, ↓u_gNeg, ↓u_nNil, ↓u_nCons, ↓u_nTup, ↓u_nSub, ↓u_gCB, ↓u_gCall, ↓u_gM0, ↓u_gM1, ↓u_gL, ↓u_gL0, ↓u_oNo, ↓u_oSome, ↓u_gSl, ↓u_cYes, ↓u_on1, ↓u_on2, ↓u_dInt, ↓u_dInt0, ↓u_gLc, ↓u_gLcM, ↓u_gLc2, ↓u_sNever, ↓u_iEnS, ↓u_iEnL, ↓u_iEnumD, ↓u_iZipD, ↓u_zipS, ↓u_zipL, ↓u_iSeq, ↓u_iRange1, ↓u_iRange2, ↓u_sWhile, ↓u_iRange3, ↓u_on3, ↓u_sFor, ↓u_dMax2, ↓u_dMin2, ↓u_gDct0, ↓u_gVar0, ↓u_sSet0, ↓u_nName0, ↓u_gVar1, ↓u_sSet1, ↓u_nName1, ↓u_gVar2, ↓u_sSet2, ↓u_nName2, ↓u_gVar3, ↓u_sSet3, ↓u_nName3, ↓u_gVar4, ↓u_sSet4, ↓u_nName4, ↓u_gVar5, ↓u_sSet5, ↓u_nName5, ↓u_gVar6, ↓u_sSet6, ↓u_nName6, ↓u_gVar7, ↓u_sSet7, ↓u_nName7, ↓u_gVar8, ↓u_sSet8, ↓u_nName8, ↓u_gVar9, ↓u_sSet9, ↓u_nName9, ↓u_gVar10, ↓u_sSet10, ↓u_nName10, ↓u_gVar11, ↓u_sSet11, ↓u_nName11, ↓u_gVar12, ↓u_sSet12, ↓u_nName12, ↓u_gVar13, ↓u_sSet13, ↓u_nName13, ↓u_gVar14, ↓u_sSet14, ↓u_nName14, ↓u_gVar15, ↓u_sSet15, ↓u_nName15, ↓u_gVar16, ↓u_sSet16, ↓u_nName16, ↓u_gVar17, ↓u_sSet17, ↓u_nName17, ↓dToInt_int, ↓dToInt_bl, ↓dListU_lst, ↓dListU_tup, ↓dListU_str, ↓dListUM_lst, ↓dListUM_tup, ↓dListUM_str, ↓dTuple_lst, ↓dTuple_tup, ↓dIn_lst, ↓dIn_tup, ↓dSl_str, ↓dSl_lst, ↓dSl_tup, ↓dAdd_int, ↓dAdd_str, ↓dAdd_lst, ↓dAdd_tup, ↓dMul_int, ↓dMul_str, ↓dMul_lst, ↓dIx_lst, ↓dIx_ro, ↓dIx_tup, ↓dIx_str, ↓onSome_some, ↓dLen_lst, ↓dLen_tup, ↓dLen_str, ↓dLen_ro, ↓dLen_dct, ↓items_str, ↓items_lst, ↓items_tup, ↓items_ro, ↓dAll_lst, ↓dAny_lst, ↓dSum_lst, ↓dIsi_ty, ↓dIsi_tup, ↓dIn_str, ↓onSeq_lst, ↓onSeq_tup, ↓dIs_bb, ↓dStrI_i, ↓dIsW_bb, ↓dIsW_ib, ↓dIsW_sb, ↓dIsW_nb, ↓dIsW_lb, ↓dIsW_tb, ↓dIsW_db, ↓dIsW_nn, ↓dIsW_in, ↓dIsW_sn, ↓dIsW_ln, ↓dIsW_tn, ↓dEq_ii, ↓dEq_ss, ↓dNe_ii, ↓dNe_ss, ↓dEq_nil, ↓dNe_nil, ↓dEq_bb, ↓dNe_bb, List.append_nil, List.nil_append, List.cons_append, startD, List.map_cons, List.map_nil, List.length_cons, List.length_nil, Nat.sub_self, List.replicate_zero, List.replicate_succ, List.set_cons_zero, List.set_cons_succ, List.getElem?_cons_zero, List.getElem?_cons_succ, atI_lit, vw_int, vw_str, vw_bl, vw_non, vw_lst, vw_tup, vw_dct, vw_ro, vw_obj, vw_cls, Nat.reduceAdd, Nat.reduceSub, Int.reduceToNat, Int.reduceNeg, Int.reducePow, Int.reduceAdd, Int.reduceSub, Int.reduceMul, ixN_lit, decide_eq_true_eq, decide_eq_false_iff_not, if_true, if_false, Bool.false_eq_true, Bool.not_true, Bool.not_false, Nat.reduceLT, Nat.reduceLeDiff, Int.reduceLT, Int.reduceLE, true_and, and_true, and_self, ite_true, ite_false, kind_int, kind_bl, kind_non, kind_str, kind_lst, kind_tup, kind_dct, clsAll_lt, all_lt, any_lt_l, any_lt_t, any_lt_s, any_lt_i, any_lt_b, any_lt_n, any_lt_d, kc_int, kc_bool, kc_str, kc_list, kc_tuple, kc_dict, isiT, String.reduceBEq, Bool.or_false, Bool.or_true, Bool.false_or, Bool.true_or, Bool.and_false, Bool.false_and, Bool.and_true, Bool.true_and, wipeD, Bool.not_eq_true, Bool.not_eq_false, Bool.not_eq_eq_eq_not, Bool.not_not, Bool.false_bne, Bool.true_bne, dJoin, onSome_some, sizeLine_eq, Mu.put_same, put_put, Nat.zero_le, decide_true, decide_false, flt_litc, fld_str, fld_int, fld_bl, fld_non, List.all_cons, List.all_nil, reduceCtorEq, strOk_of, eqd_int, eqd_str, eqd_bl, eqd_lst0, eqd_lst1, eqd_lst2, eqd_lst3, eqd_tup0, eqd_tup1, eqd_tup2, eqd_tup3, flt_bl, flt_non]
    refine ⟨q, p, w, rfl, w1, w10, g1, gp, ?_⟩
    simp only [↓reduceIte, ↓u_sNx, ↓u_sSeq, ↓u_nx, ↓u_rt, ↓u_bk, ↓u_ct, ↓u_sBreak, ↓u_sCont, ↓u_sDrop, ↓u_sRet, ↓u_sRetN, ↓u_sIf, ↓u_sAsg, ↓u_gC, ↓u_aNil, ↓u_aCons, ↓u_gTup, ↓u_gLst, ↓u_gLstM, ↓u_gBin, ↓u_cVal, ↓u_onBl, ↓u_onInt, ↓u_onStr, ↓u_gChain, ↓u_cAnd, ↓u_cOr, ↓u_cNot, ↓u_gAnd, ↓u_gOr, ↓u_gNot, ↓u_gIf, ↓u_gNeg, ↓u_nNil, ↓u_nCons, ↓u_nTup, ↓u_nSub, ↓u_gCB, ↓u_gCall, ↓u_gM0, ↓u_gM1, ↓u_gL, ↓u_gL0, ↓u_oNo, ↓u_oSome, ↓u_gSl, ↓u_cYes, ↓u_on1, ↓u_on2, ↓u_dInt, ↓u_dInt0, ↓u_gLc, ↓u_gLcM, ↓u_gLc2, ↓u_sNever, ↓u_iEnS, ↓u_iEnL, ↓u_iEnumD, ↓u_iZipD, ↓u_zipS, ↓u_zipL, ↓u_iSeq, ↓u_iRange1, ↓u_iRange2, ↓u_sWhile, ↓u_iRange3, ↓u_on3, ↓u_sFor, ↓u_dMax2, ↓u_dMin2, ↓u_gDct0, ↓u_gVar0, ↓u_sSet0, ↓u_nName0, ↓u_gVar1, ↓u_sSet1, ↓u_nName1, ↓u_gVar2, ↓u_sSet2, ↓u_nName2, ↓u_gVar3, ↓u_sSet3, ↓u_nName3, ↓u_gVar4, ↓u_sSet4, ↓u_nName4, ↓u_gVar5, ↓u_sSet5, ↓u_nName5, ↓u_gVar6, ↓u_sSet6, ↓u_nName6, ↓u_gVar7, ↓u_sSet7, ↓u_nName7, ↓u_gVar8, ↓u_sSet8, ↓u_nName8, ↓u_gVar9, ↓u_sSet9, ↓u_nName9, ↓u_gVar10, ↓u_sSet10, ↓u_nName10, ↓u_gVar11, ↓u_sSet11, ↓u_nName11, ↓u_gVar12, ↓u_sSet12, ↓u_nName12, ↓u_gVar13, ↓u_sSet13, ↓u_nName13, ↓u_gVar14, ↓u_sSet14, ↓u_nName14, ↓u_gVar15, ↓u_sSet15, ↓u_nName15, ↓u_gVar16, ↓u_sSet16, ↓u_nName16, ↓u_gVar17, ↓u_sSet17, ↓u_nName17, ↓dToInt_int, ↓dToInt_bl, ↓dListU_lst, ↓dListU_tup, ↓dListU_str, ↓dListUM_lst, ↓dListUM_tup, ↓dListUM_str, ↓dTuple_lst, ↓dTuple_tup, ↓dIn_lst, ↓dIn_tup, ↓dSl_str, ↓dSl_lst, ↓dSl_tup, ↓dAdd_int, ↓dAdd_str, ↓dAdd_lst, ↓dAdd_tup, ↓dMul_int, ↓dMul_str, ↓dMul_lst, ↓dIx_lst, ↓dIx_ro, ↓dIx_tup, ↓dIx_str, ↓onSome_some, ↓dLen_lst, ↓dLen_tup, ↓dLen_str, ↓dLen_ro, ↓dLen_dct, ↓items_str, ↓items_lst, ↓items_tup, ↓items_ro, ↓dAll_lst, ↓dAny_lst, ↓dSum_lst, ↓dIsi_ty, ↓dIsi_tup, ↓dIn_str, ↓onSeq_lst, ↓onSeq_tup, ↓dIs_bb, ↓dStrI_i, ↓dIsW_bb, ↓dIsW_ib, ↓dIsW_sb, ↓dIsW_nb, ↓dIsW_lb, ↓dIsW_tb, ↓dIsW_db, ↓dIsW_nn, ↓dIsW_in, ↓dIsW_sn, ↓dIsW_ln, ↓dIsW_tn, ↓dEq_ii, ↓dEq_ss, ↓dNe_ii, ↓dNe_ss, ↓dEq_nil, ↓dNe_nil, ↓dEq_bb, ↓dNe_bb, List.append_nil, List.nil_append, List.cons_append, startD, List.map_cons, List.map_nil, List.length_cons, List.length_nil, Nat.sub_self, List.replicate_zero, List.replicate_succ, List.set_cons_zero, List.set_cons_succ, List.getElem?_cons_zero, List.getElem?_cons_succ, atI_lit, vw_int, vw_str, vw_bl, vw_non, vw_lst, vw_tup, vw_dct, vw_ro, vw_obj, vw_cls, Nat.reduceAdd, Nat.reduceSub, Int.reduceToNat, Int.reduceNeg, Int.reducePow, Int.reduceAdd, Int.reduceSub, Int.reduceMul, ixN_lit, decide_eq_true_eq, decide_eq_false_iff_not, if_true, if_false, Bool.false_eq_true, Bool.not_true, Bool.not_false, Nat.reduceLT, Nat.reduceLeDiff, Int.reduceLT, Int.reduceLE, true_and, and_true, and_self, ite_true, ite_false, kind_int, kind_bl, kind_non, kind_str, kind_lst, kind_tup, kind_dct, clsAll_lt, all_lt, any_lt_l, any_lt_t, any_lt_s, any_lt_i, any_lt_b, any_lt_n, any_lt_d, kc_int, kc_bool, kc_str, kc_list, kc_tuple, kc_dict, isiT, String.reduceBEq, Bool.or_false, Bool.or_true, Bool.false_or, Bool.true_or, Bool.and_false, Bool.false_and, Bool.and_true, Bool.true_and, wipeD, Bool.not_eq_true, Bool.not_eq_false, Bool.not_eq_eq_eq_not, Bool.not_not, Bool.false_bne, Bool.true_bne, dJoin, onSome_some, sizeLine_eq, Mu.put_same, put_put, Nat.zero_le, decide_true, decide_false, flt_litc, fld_str, fld_int, fld_bl, fld_non, List.all_cons, List.all_nil, reduceCtorEq, strOk_of, eqd_int, eqd_str, eqd_bl, eqd_lst0, eqd_lst1, eqd_lst2, eqd_lst3, eqd_tup0, eqd_tup1, eqd_tup2, eqd_tup3, flt_bl, flt_non]
    refine ⟨q, p, w, rfl, w1, w10, g1, gp, ⟨p, q, w, rfl, w1, w10, gp, g1, ?_⟩⟩
    simp only [↓reduceIte, ↓u_sNx, ↓u_sSeq, ↓u_nx, ↓u_rt, ↓u_bk, ↓u_ct, ↓u_sBreak, ↓u_sCont, ↓u_sDrop, ↓u_sRet, ↓u_sRetN, ↓u_sIf, ↓u_sAsg, ↓u_gC, ↓u_aNil, ↓u_aCons, ↓u_gTup, ↓u_gLst, ↓u_gLstM, ↓u_gBin, ↓u_cVal, ↓u_onBl, ↓u_onInt, ↓u_onStr, ↓u_gChain, ↓u_cAnd, ↓u_cOr, ↓u_cNot, ↓u_gAnd, ↓u_gOr, ↓u_gNot, ↓u_gIf, ↓u_gNeg, ↓u_nNil, ↓u_nCons, ↓u_nTup, ↓u_nSub, ↓u_gCB, ↓u_gCall, ↓u_gM0, ↓u_gM1, ↓u_gL, ↓u_gL0, ↓u_oNo, ↓u_oSome, ↓u_gSl, ↓u_cYes, ↓u_on1, ↓u_on2, ↓u_dInt, ↓u_dInt0, ↓u_gLc, ↓u_gLcM, ↓u_gLc2, ↓u_sNever, ↓u_iEnS, ↓u_iEnL, ↓u_iEnumD, ↓u_iZipD, ↓u_zipS, ↓u_zipL, ↓u_iSeq, ↓u_iRange1, ↓u_iRange2, ↓u_sWhile, ↓u_iRange3, ↓u_on3, ↓u_sFor, ↓u_dMax2, ↓u_dMin2, ↓u_gDct0, ↓u_gVar0, ↓u_sSet0, ↓u_nName0, ↓u_gVar1, ↓u_sSet1, ↓u_nName1, ↓u_gVar2, ↓u_sSet2, ↓u_nName2, ↓u_gVar3, ↓u_sSet3, ↓u_nName3, ↓u_gVar4, ↓u_sSet4, ↓u_nName4, ↓u_gVar5, ↓u_sSet5, ↓u_nName5, ↓u_gVar6, ↓u_sSet6, ↓u_nName6, ↓u_gVar7, ↓u_sSet7, ↓u_nName7, ↓u_gVar8, ↓u_sSet8, ↓u_nName8, ↓u_gVar9, ↓u_sSet9, ↓u_nName9, ↓u_gVar10, ↓u_sSet10, ↓u_nName10, ↓u_gVar11, ↓u_sSet11, ↓u_nName11, ↓u_gVar12, ↓u_sSet12, ↓u_nName12, ↓u_gVar13, ↓u_sSet13, ↓u_nName13, ↓u_gVar14, ↓u_sSet14, ↓u_nName14, ↓u_gVar15, ↓u_sSet15, ↓u_nName15, ↓u_gVar16, ↓u_sSet16, ↓u_nName16, ↓u_gVar17, ↓u_sSet17, ↓u_nName17, ↓dToInt_int, ↓dToInt_bl, ↓dListU_lst, ↓dListU_tup, ↓dListU_str, ↓dListUM_lst, ↓dListUM_tup, ↓dListUM_str, ↓dTuple_lst, ↓dTuple_tup, ↓dIn_lst, ↓dIn_tup, ↓dSl_str, ↓dSl_lst, ↓dSl_tup, ↓dAdd_int, ↓dAdd_str, ↓dAdd_lst, ↓dAdd_tup, ↓dMul_int, ↓dMul_str, ↓dMul_lst, ↓dIx_lst, ↓dIx_ro, ↓dIx_tup, ↓dIx_str, ↓onSome_some, ↓dLen_lst, ↓dLen_tup, ↓dLen_str, ↓dLen_ro, ↓dLen_dct, ↓items_str, ↓items_lst, ↓items_tup, ↓items_ro, ↓dAll_lst, ↓dAny_lst, ↓dSum_lst, ↓dIsi_ty, ↓dIsi_tup, ↓dIn_str, ↓onSeq_lst, ↓onSeq_tup, ↓dIs_bb, ↓dStrI_i, ↓dIsW_bb, ↓dIsW_ib, ↓dIsW_sb, ↓dIsW_nb, ↓dIsW_lb, ↓dIsW_tb, ↓dIsW_db, ↓dIsW_nn, ↓dIsW_in, ↓dIsW_sn, ↓dIsW_ln, ↓dIsW_tn, ↓dEq_ii, ↓dEq_ss, ↓dNe_ii, ↓dNe_ss, ↓dEq_nil, ↓dNe_nil, ↓dEq_bb, ↓dNe_bb, List.append_nil, List.nil_append, List.cons_append, startD, List.map_cons, List.map_nil, List.length_cons, List.length_nil, Nat.sub_self, List.replicate_zero, List.replicate_succ, List.set_cons_zero, List.set_cons_succ, List.getElem?_cons_zero, List.getElem?_cons_succ, atI_lit, vw_int, vw_str, vw_bl, vw_non, vw_lst, vw_tup, vw_dct, vw_ro, vw_obj, vw_cls, Nat.reduceAdd, Nat.reduceSub, Int.reduceToNat, Int.reduceNeg, Int.reducePow, Int.reduceAdd, Int.reduceSub, Int.reduceMul, ixN_lit, decide_eq_true_eq, decide_eq_false_iff_not, if_true, if_false, Bool.false_eq_true, Bool.not_true, Bool.not_false, Nat.reduceLT, Nat.reduceLeDiff, Int.reduceLT, Int.reduceLE, true_and, and_true, and_self, ite_true, ite_false, kind_int, kind_bl, kind_non, kind_str, kind_lst, kind_tup, kind_dct, clsAll_lt, all_lt, any_lt_l, any_lt_t, any_lt_s, any_lt_i, any_lt_b, any_lt_n, any_lt_d, kc_int, kc_bool, kc_str, kc_list, kc_tuple, kc_dict, isiT, String.reduceBEq, Bool.or_false, Bool.or_true, Bool.false_or, Bool.true_or, Bool.and_false, Bool.false_and, Bool.and_true, Bool.true_and, wipeD, Bool.not_eq_true, Bool.not_eq_false, Bool.not_eq_eq_eq_not, Bool.not_not, Bool.false_bne, Bool.true_bne, dJoin, onSome_some, sizeLine_eq, Mu.put_same, put_put, Nat.zero_le, decide_true, decide_false, flt_litc, fld_str, fld_int, fld_bl, fld_non, List.all_cons, List.all_nil, reduceCtorEq, strOk_of, eqd_int, eqd_str, eqd_bl, eqd_lst0, eqd_lst1, eqd_lst2, eqd_lst3, eqd_tup0, eqd_tup1, eqd_tup2, eqd_tup3, flt_bl, flt_non]
    rw [difD_comm p q]
    refine ⟨_, _, rfl, rfl, ?_, ?_, ?_⟩
    · rcases difD_or q p w with e | ⟨bs, _, e⟩ <;> rw [e]
      · simp only [dv6_lst, List.map_cons, List.map_nil, dvw_non]; decide
      · simp only [dv6_lst, List.map_cons, List.map_nil, dvw_str]
        exact flt_strs (zs := [rw_ bs, rw_ bs]) (by simp [rw_ok])
    · rcases difD_or q p w with e | ⟨bs, hbs, e⟩ <;> rw [e]
      · simp only [dv6_lst, List.map_cons, List.map_nil, dvw_non]; decide
      · simp only [dv6_lst, List.map_cons, List.map_nil, dvw_str, szd, szds, rw_len]
        omega
    · simp only [↓reduceIte, ↓u_sNx, ↓u_sSeq, ↓u_nx, ↓u_rt, ↓u_bk, ↓u_ct, ↓u_sBreak, ↓u_sCont, ↓u_sDrop, ↓u_sRet, ↓u_sRetN, ↓u_sIf, ↓u_sAsg, ↓u_gC, ↓u_aNil, ↓u_aCons, ↓u_gTup, ↓u_gLst, ↓u_gLstM, ↓u_gBin, ↓u_cVal, ↓u_onBl, ↓u_onInt, ↓u_onStr, ↓u_gChain, ↓u_cAnd, ↓u_cOr, ↓u_cNot, ↓u_gAnd, ↓u_gOr, ↓u_gNot, ↓u_gIf, ↓u_gNeg, ↓u_nNil, ↓u_nCons, ↓u_nTup, ↓u_nSub, ↓u_gCB, ↓u_gCall, ↓u_gM0, ↓u_gM1, ↓u_gL, ↓u_gL0, ↓u_oNo, ↓u_oSome, ↓u_gSl, ↓u_cYes, ↓u_on1, ↓u_on2, ↓u_dInt, ↓u_dInt0, ↓u_gLc, ↓u_gLcM, ↓u_gLc2, ↓u_sNever, ↓u_iEnS, ↓u_iEnL, ↓u_iEnumD, ↓u_iZipD, ↓u_zipS, ↓u_zipL, ↓u_iSeq, ↓u_iRange1, ↓u_iRange2, ↓u_sWhile, ↓u_iRange3, ↓u_on3, ↓u_sFor, ↓u_dMax2, ↓u_dMin2, ↓u_gDct0, ↓u_gVar0, ↓u_sSet0, ↓u_nName0, ↓u_gVar1, ↓u_sSet1, ↓u_nName1, ↓u_gVar2, ↓u_sSet2, ↓u_nName2, ↓u_gVar3, ↓u_sSet3, ↓u_nName3, ↓u_gVar4, ↓u_sSet4, ↓u_nName4, ↓u_gVar5, ↓u_sSet5, ↓u_nName5, ↓u_gVar6, ↓u_sSet6, ↓u_nName6, ↓u_gVar7, ↓u_sSet7, ↓u_nName7, ↓u_gVar8, ↓u_sSet8, ↓u_nName8, ↓u_gVar9, ↓u_sSet9, ↓u_nName9, ↓u_gVar10, ↓u_sSet10, ↓u_nName10, ↓u_gVar11, ↓u_sSet11, ↓u_nName11, ↓u_gVar12, ↓u_sSet12, ↓u_nName12, ↓u_gVar13, ↓u_sSet13, ↓u_nName13, ↓u_gVar14, ↓u_sSet14, ↓u_nName14, ↓u_gVar15, ↓u_sSet15, ↓u_nName15, ↓u_gVar16, ↓u_sSet16, ↓u_nName16, ↓u_gVar17, ↓u_sSet17, ↓u_nName17, ↓dToInt_int, ↓dToInt_bl, ↓dListU_lst, ↓dListU_tup, ↓dListU_str, ↓dListUM_lst, ↓dListUM_tup, ↓dListUM_str, ↓dTuple_lst, ↓dTuple_tup, ↓dIn_lst, ↓dIn_tup, ↓dSl_str, ↓dSl_lst, ↓dSl_tup, ↓dAdd_int, ↓dAdd_str, ↓dAdd_lst, ↓dAdd_tup, ↓dMul_int, ↓dMul_str, ↓dMul_lst, ↓dIx_lst, ↓dIx_ro, ↓dIx_tup, ↓dIx_str, ↓onSome_some, ↓dLen_lst, ↓dLen_tup, ↓dLen_str, ↓dLen_ro, ↓dLen_dct, ↓items_str, ↓items_lst, ↓items_tup, ↓items_ro, ↓dAll_lst, ↓dAny_lst, ↓dSum_lst, ↓dIsi_ty, ↓dIsi_tup, ↓dIn_str, ↓onSeq_lst, ↓onSeq_tup, ↓dIs_bb, ↓dStrI_i, ↓dIsW_bb, ↓dIsW_ib, ↓dIsW_sb, ↓dIsW_nb, ↓dIsW_lb, ↓dIsW_tb, ↓dIsW_db, ↓dIsW_nn, ↓dIsW_in, ↓dIsW_sn, ↓dIsW_ln, ↓dIsW_tn, ↓dEq_ii, ↓dEq_ss, ↓dNe_ii, ↓dNe_ss, ↓dEq_nil, ↓dNe_nil, ↓dEq_bb, ↓dNe_bb, List.append_nil, List.nil_append, List.cons_append, startD, List.map_cons, List.map_nil, List.length_cons, List.length_nil, Nat.sub_self, List.replicate_zero, List.replicate_succ, List.set_cons_zero, List.set_cons_succ, List.getElem?_cons_zero, List.getElem?_cons_succ, atI_lit, vw_int, vw_str, vw_bl, vw_non, vw_lst, vw_tup, vw_dct, vw_ro, vw_obj, vw_cls, Nat.reduceAdd, Nat.reduceSub, Int.reduceToNat, Int.reduceNeg, Int.reducePow, Int.reduceAdd, Int.reduceSub, Int.reduceMul, ixN_lit, decide_eq_true_eq, decide_eq_false_iff_not, if_true, if_false, Bool.false_eq_true, Bool.not_true, Bool.not_false, Nat.reduceLT, Nat.reduceLeDiff, Int.reduceLT, Int.reduceLE, true_and, and_true, and_self, ite_true, ite_false, kind_int, kind_bl, kind_non, kind_str, kind_lst, kind_tup, kind_dct, clsAll_lt, all_lt, any_lt_l, any_lt_t, any_lt_s, any_lt_i, any_lt_b, any_lt_n, any_lt_d, kc_int, kc_bool, kc_str, kc_list, kc_tuple, kc_dict, isiT, String.reduceBEq, Bool.or_false, Bool.or_true, Bool.false_or, Bool.true_or, Bool.and_false, Bool.false_and, Bool.and_true, Bool.true_and, wipeD, Bool.not_eq_true, Bool.not_eq_false, Bool.not_eq_eq_eq_not, Bool.not_not, Bool.false_bne, Bool.true_bne, dJoin, onSome_some, sizeLine_eq, Mu.put_same, put_put, Nat.zero_le, decide_true, decide_false, flt_litc, fld_str, fld_int, fld_bl, fld_non, List.all_cons, List.all_nil, reduceCtorEq, strOk_of, eqd_int, eqd_str, eqd_bl, eqd_lst0, eqd_lst1, eqd_lst2, eqd_lst3, eqd_tup0, eqd_tup1, eqd_tup2, eqd_tup3, flt_bl, flt_non]
      exact hN _ _ ⟨_, _, rfl⟩
  · rintro ρ m ⟨x6, x9, rfl⟩
    have gall : Rq.all.Good w := ⟨by decide, by decide, fun i hi => by cases hi⟩
    have gnon : Rq.non.Good w := ⟨by decide, by decide, fun i hi => by cases hi⟩
    simp only [↓reduceIte, ↓u_sNx, ↓u_sSeq, ↓u_nx, ↓u_rt, ↓u_bk, ↓u_ct, ↓u_sBreak, ↓u_sCont, ↓u_sDrop, ↓u_sRet, ↓u_sRetN, ↓u_sIf, ↓u_sAsg, ↓u_gC, ↓u_aNil, ↓u_aCons, ↓u_gTup, ↓u_gLst, ↓u_gLstM, ↓u_gBin, ↓u_cVal, ↓u_onBl, ↓u_onInt, ↓u_onStr, ↓u_gChain, ↓u_cAnd, ↓u_cOr, ↓u_cNot, ↓u_gAnd, ↓u_gOr, ↓u_gNot, ↓u_gIf, ↓u_gNeg, ↓u_nNil, ↓u_nCons, ↓u_nTup, ↓u_nSub, ↓u_gCB, ↓u_gCall, ↓u_gM0, ↓u_gM1, ↓u_gL, ↓u_gL0, ↓u_oNo, ↓u_oSome, ↓u_gSl, ↓u_cYes, ↓u_on1, ↓u_on2, ↓u_dInt, ↓u_dInt0, ↓u_gLc, ↓u_gLcM, ↓u_gLc2, ↓u_sNever, ↓u_iEnS, ↓u_iEnL, ↓u_iEnumD, ↓u_iZipD, ↓u_zipS, ↓u_zipL, ↓u_iSeq, ↓u_iRange1, ↓u_iRange2, ↓u_sWhile, ↓u_iRange3, ↓u_on3, ↓u_sFor, ↓u_dMax2, ↓u_dMin2, ↓u_gDct0, ↓u_gVar0, ↓u_sSet0, ↓u_nName0, ↓u_gVar1, ↓u_sSet1, ↓u_nName1, ↓u_gVar2, ↓u_sSet2, ↓u_nName2, ↓u_gVar3, ↓u_sSet3, ↓u_nName3, ↓u_gVar4, ↓u_sSet4, ↓u_nName4, ↓u_gVar5, ↓u_sSet5, ↓u_nName5, ↓u_gVar6, ↓u_sSet6, ↓u_nName6, ↓u_gVar7, ↓u_sSet7, ↓u_nName7, ↓u_gVar8, ↓u_sSet8, ↓u_nName8, ↓u_gVar9, ↓u_sSet9, ↓u_nName9, ↓u_gVar10, ↓u_sSet10, ↓u_nName10, ↓u_gVar11, ↓u_sSet11, ↓u_nName11, ↓u_gVar12, ↓u_sSet12, ↓u_nName12, ↓u_gVar13, ↓u_sSet13, ↓u_nName13, ↓u_gVar14, ↓u_sSet14, ↓u_nName14, ↓u_gVar15, ↓u_sSet15, ↓u_nName15, ↓u_gVar16, ↓u_sSet16, ↓u_nName16, ↓u_gVar17, ↓u_sSet17, ↓u_nName17, ↓dToInt_int, ↓dToInt_bl, ↓dListU_lst, ↓dListU_tup, ↓dListU_str, ↓dListUM_lst, ↓dListUM_tup, ↓dListUM_str, ↓dTuple_lst, ↓dTuple_tup, ↓dIn_lst, ↓dIn_tup, ↓dSl_str, ↓dSl_lst, ↓dSl_tup, ↓dAdd_int, ↓dAdd_str, ↓dAdd_lst, ↓dAdd_tup, ↓dMul_int, ↓dMul_str, ↓dMul_lst, ↓dIx_lst, ↓dIx_ro, ↓dIx_tup, ↓dIx_str, ↓onSome_some, ↓dLen_lst, ↓dLen_tup, ↓dLen_str, ↓dLen_ro, ↓dLen_dct, ↓items_str, ↓items_lst, ↓items_tup, ↓items_ro, ↓dAll_lst, ↓dAny_lst, ↓dSum_lst, ↓dIsi_ty, ↓dIsi_tup, ↓dIn_str, ↓onSeq_lst, ↓onSeq_tup, ↓dIs_bb, ↓dStrI_i, ↓dIsW_bb, ↓dIsW_ib, ↓dIsW_sb, ↓dIsW_nb, ↓dIsW_lb, ↓dIsW_tb, ↓dIsW_db, ↓dIsW_nn, ↓dIsW_in, ↓dIsW_sn, ↓dIsW_ln, ↓dIsW_tn, ↓dEq_ii, ↓dEq_ss, ↓dNe_ii, ↓dNe_ss, ↓dEq_nil, ↓dNe_nil, ↓dEq_bb, ↓dNe_bb, List.append_nil, List.nil_append, List.cons_append, startD, List.map_cons, List.map_nil, List.length_cons, List.length_nil, Nat.sub_self, List.replicate_zero, List.replicate_succ, List.set_cons_zero, List.set_cons_succ, List.getElem?_cons_zero, List.getElem?_cons_succ, atI_lit, vw_int, vw_str, vw_bl, vw_non, vw_lst, vw_tup, vw_dct, vw_ro, vw_obj, vw_cls, Nat.reduceAdd, Nat.reduceSub, Int.reduceToNat, Int.reduceNeg, Int.reducePow, Int.reduceAdd, Int.reduceSub, Int.reduceMul, ixN_lit, decide_eq_true_eq, decide_eq_false_iff_not, if_true, if_false, Bool.false_eq_true, Bool.not_true, Bool.not_false, Nat.reduceLT, Nat.reduceLeDiff, Int.reduceLT, Int.reduceLE, true_and, and_true, and_self, ite_true, ite_false, kind_int, kind_bl, kind_non, kind_str, kind_lst, kind_tup, kind_dct, clsAll_lt, all_lt, any_lt_l, any_lt_t, any_lt_s, any_lt_i, any_lt_b, any_lt_n, any_lt_d, kc_int, kc_bool, kc_str, kc_list, kc_tuple, kc_dict, isiT, String.reduceBEq, Bool.or_false, Bool.or_true, Bool.false_or, Bool.true_or, Bool.and_false, Bool.false_and, Bool.and_true, Bool.true_and, wipeD, Bool.not_eq_true, Bool.not_eq_false, Bool.not_eq_eq_eq_not, Bool.not_not, Bool.false_bne, Bool.true_bne, dJoin, onSome_some, sizeLine_eq, Mu.put_same, put_put, Nat.zero_le, decide_true, decide_false, flt_litc, fld_str, fld_int, fld_bl, fld_non, List.all_cons, List.all_nil, reduceCtorEq, strOk_of, eqd_int, eqd_str, eqd_bl, eqd_lst0, eqd_lst1, eqd_lst2, eqd_lst3, eqd_tup0, eqd_tup1, eqd_tup2, eqd_tup3, flt_bl, flt_non]
    refine ⟨q, q, w, rfl, w1, w10, g1, g1, ?_⟩
    rw [difD_self]
    simp only [↓reduceIte, ↓u_sNx, ↓u_sSeq, ↓u_nx, ↓u_rt, ↓u_bk, ↓u_ct, ↓u_sBreak, ↓u_sCont, ↓u_sDrop, ↓u_sRet, ↓u_sRetN, ↓u_sIf, ↓u_sAsg, ↓u_gC, ↓u_aNil, ↓u_aCons, ↓u_gTup, ↓u_gLst, ↓u_gLstM, ↓u_gBin, ↓u_cVal, ↓u_onBl, ↓u_onInt, ↓u_onStr, ↓u_gChain, ↓u_cAnd, ↓u_cOr, ↓u_cNot, ↓u_gAnd, ↓u_gOr, ↓u_gNot, ↓u_gIf, ↓u_gNeg, ↓u_nNil, ↓u_nCons, ↓u_nTup, ↓u_nSub, ↓u_gCB, ↓u_gCall, ↓u_gM0, ↓u_gM1, ↓u_gL, ↓u_gL0, ↓u_oNo, ↓u_oSome, ↓u_gSl, ↓u_cYes, ↓u_on1, ↓u_on2, ↓u_dInt, ↓u_dInt0, ↓u_gLc, ↓u_gLcM, ↓u_gLc2, ↓u_sNever, ↓u_iEnS, ↓u_iEnL, ↓u_iEnumD, ↓u_iZipD, ↓u_zipS, ↓u_zipL, ↓u_iSeq, ↓u_iRange1, ↓u_iRange2, ↓u_sWhile, ↓u_iRange3, ↓u_on3, ↓u_sFor, ↓u_dMax2, ↓u_dMin2, ↓u_gDct0, ↓u_gVar0, ↓u_sSet0, ↓u_nName0, ↓u_gVar1, ↓u_sSet1, ↓u_nName1, ↓u_gVar2, ↓u_sSet2, ↓u_nName2, ↓u_gVar3, ↓u_sSet3, ↓u_nName3, ↓u_gVar4, ↓u_sSet4, ↓u_nName4, ↓u_gVar5, ↓u_sSet5, ↓u_nName5, ↓u_gVar6, ↓u_sSet6, ↓u_nName6, ↓u_gVar7, ↓u_sSet7, ↓u_nName7, ↓u_gVar8, ↓u_sSet8, ↓u_nName8, ↓u_gVar9, ↓u_sSet9, ↓u_nName9, ↓u_gVar10, ↓u_sSet10, ↓u_nName10, ↓u_gVar11, ↓u_sSet11, ↓u_nName11, ↓u_gVar12, ↓u_sSet12, ↓u_nName12, ↓u_gVar13, ↓u_sSet13, ↓u_nName13, ↓u_gVar14, ↓u_sSet14, ↓u_nName14, ↓u_gVar15, ↓u_sSet15, ↓u_nName15, ↓u_gVar16, ↓u_sSet16, ↓u_nName16, ↓u_gVar17, ↓u_sSet17, ↓u_nName17, ↓dToInt_int, ↓dToInt_bl, ↓dListU_lst, ↓dListU_tup, ↓dListU_str, ↓dListUM_lst, ↓dListUM_tup, ↓dListUM_str, ↓dTuple_lst, ↓dTuple_tup, ↓dIn_lst, ↓dIn_tup, ↓dSl_str, ↓dSl_lst, ↓dSl_tup, ↓dAdd_int, ↓dAdd_str, ↓dAdd_lst, ↓dAdd_tup, ↓dMul_int, ↓dMul_str, ↓dMul_lst, ↓dIx_lst, ↓dIx_ro, ↓dIx_tup, ↓dIx_str, ↓onSome_some, ↓dLen_lst, ↓dLen_tup, ↓dLen_str, ↓dLen_ro, ↓dLen_dct, ↓items_str, ↓items_lst, ↓items_tup, ↓items_ro, ↓dAll_lst, ↓dAny_lst, ↓dSum_lst, ↓dIsi_ty, ↓dIsi_tup, ↓dIn_str, ↓onSeq_lst, ↓onSeq_tup, ↓dIs_bb, ↓dStrI_i, ↓dIsW_bb, ↓dIsW_ib, ↓dIsW_sb, ↓dIsW_nb, ↓dIsW_lb, ↓dIsW_tb, ↓dIsW_db, ↓dIsW_nn, ↓dIsW_in, ↓dIsW_sn, ↓dIsW_ln, ↓dIsW_tn, ↓dEq_ii, ↓dEq_ss, ↓dNe_ii, ↓dNe_ss, ↓dEq_nil, ↓dNe_nil, ↓dEq_bb, ↓dNe_bb, List.append_nil, List.nil_append, List.cons_append, startD, List.map_cons, List.map_nil, List.length_cons, List.length_nil, Nat.sub_self, List.replicate_zero, List.replicate_succ, List.set_cons_zero, List.set_cons_succ, List.getElem?_cons_zero, List.getElem?_cons_succ, atI_lit, vw_int, vw_str, vw_bl, vw_non, vw_lst, vw_tup, vw_dct, vw_ro, vw_obj, vw_cls, Nat.reduceAdd, Nat.reduceSub, Int.reduceToNat, Int.reduceNeg, Int.reducePow, Int.reduceAdd, Int.reduceSub, Int.reduceMul, ixN_lit, decide_eq_true_eq, decide_eq_false_iff_not, if_true, if_false, Bool.false_eq_true, Bool.not_true, Bool.not_false, Nat.reduceLT, Nat.reduceLeDiff, Int.reduceLT, Int.reduceLE, true_and, and_true, and_self, ite_true, ite_false, kind_int, kind_bl, kind_non, kind_str, kind_lst, kind_tup, kind_dct, clsAll_lt, all_lt, any_lt_l, any_lt_t, any_lt_s, any_lt_i, any_lt_b, any_lt_n, any_lt_d, kc_int, kc_bool, kc_str, kc_list, kc_tuple, kc_dict, isiT, String.reduceBEq, Bool.or_false, Bool.or_true, Bool.false_or, Bool.true_or, Bool.and_false, Bool.false_and, Bool.and_true, Bool.true_and, wipeD, Bool.not_eq_true, Bool.not_eq_false, Bool.not_eq_eq_eq_not, Bool.not_not, Bool.false_bne, Bool.true_bne, dJoin, onSome_some, sizeLine_eq, Mu.put_same, put_put, Nat.zero_le, decide_true, decide_false, flt_litc, fld_str, fld_int, fld_bl, fld_non, List.all_cons, List.all_nil, reduceCtorEq, strOk_of, eqd_int, eqd_str, eqd_bl, eqd_lst0, eqd_lst1, eqd_lst2, eqd_lst3, eqd_tup0, eqd_tup1, eqd_tup2, eqd_tup3, flt_bl, flt_non]
    refine ⟨.all, .non, w, rfl, w1, w10, gall, gnon, ?_⟩
    rw [difD_all]
    simp only [↓reduceIte, ↓u_sNx, ↓u_sSeq, ↓u_nx, ↓u_rt, ↓u_bk, ↓u_ct, ↓u_sBreak, ↓u_sCont, ↓u_sDrop, ↓u_sRet, ↓u_sRetN, ↓u_sIf, ↓u_sAsg, ↓u_gC, ↓u_aNil, ↓u_aCons, ↓u_gTup, ↓u_gLst, ↓u_gLstM, ↓u_gBin, ↓u_cVal, ↓u_onBl, ↓u_onInt, ↓u_onStr, ↓u_gChain, ↓u_cAnd, ↓u_cOr, ↓u_cNot, ↓u_gAnd, ↓u_gOr, ↓u_gNot, ↓u_gIf, ↓u_gNeg, ↓u_nNil, ↓u_nCons, ↓u_nTup, ↓u_nSub, ↓u_gCB, ↓u_gCall, ↓u_gM0, ↓u_gM1, ↓u_gL, ↓u_gL0, ↓u_oNo, ↓u_oSome, ↓u_gSl, ↓u_cYes, ↓u_on1, ↓u_on2, ↓u_dInt, ↓u_dInt0, ↓u_gLc, ↓u_gLcM, ↓u_gLc2, ↓u_sNever, ↓u_iEnS, ↓u_iEnL, ↓u_iEnumD, ↓u_iZipD, ↓u_zipS, ↓u_zipL, ↓u_iSeq, ↓u_iRange1, ↓u_iRange2, ↓u_sWhile, ↓u_iRange3, ↓u_on3, ↓u_sFor, ↓u_dMax2, ↓u_dMin2, ↓u_gDct0, ↓u_gVar0, ↓u_sSet0, ↓u_nName0, ↓u_gVar1, ↓u_sSet1, ↓u_nName1, ↓u_gVar2, ↓u_sSet2, ↓u_nName2, ↓u_gVar3, ↓u_sSet3, ↓u_nName3, ↓u_gVar4, ↓u_sSet4, ↓u_nName4, ↓u_gVar5, ↓u_sSet5, ↓u_nName5, ↓u_gVar6, ↓u_sSet6, ↓u_nName6, ↓u_gVar7, ↓u_sSet7, ↓u_nName7, ↓u_gVar8, ↓u_sSet8, ↓u_nName8, ↓u_gVar9, ↓u_sSet9, ↓u_nName9, ↓u_gVar10, ↓u_sSet10, ↓u_nName10, ↓u_gVar11, ↓u_sSet11, ↓u_nName11, ↓u_gVar12, ↓u_sSet12, ↓u_nName12, ↓u_gVar13, ↓u_sSet13, ↓u_nName13, ↓u_gVar14, ↓u_sSet14, ↓u_nName14, ↓u_gVar15, ↓u_sSet15, ↓u_nName15, ↓u_gVar16, ↓u_sSet16, ↓u_nName16, ↓u_gVar17, ↓u_sSet17, ↓u_nName17, ↓dToInt_int, ↓dToInt_bl, ↓dListU_lst, ↓dListU_tup, ↓dListU_str, ↓dListUM_lst, ↓dListUM_tup, ↓dListUM_str, ↓dTuple_lst, ↓dTuple_tup, ↓dIn_lst, ↓dIn_tup, ↓dSl_str, ↓dSl_lst, ↓dSl_tup, ↓dAdd_int, ↓dAdd_str, ↓dAdd_lst, ↓dAdd_tup, ↓dMul_int, ↓dMul_str, ↓dMul_lst, ↓dIx_lst, ↓dIx_ro, ↓dIx_tup, ↓dIx_str, ↓onSome_some, ↓dLen_lst, ↓dLen_tup, ↓dLen_str, ↓dLen_ro, ↓dLen_dct, ↓items_str, ↓items_lst, ↓items_tup, ↓items_ro, ↓dAll_lst, ↓dAny_lst, ↓dSum_lst, ↓dIsi_ty, ↓dIsi_tup, ↓dIn_str, ↓onSeq_lst, ↓onSeq_tup, ↓dIs_bb, ↓dStrI_i, ↓dIsW_bb, ↓dIsW_ib, ↓dIsW_sb, ↓dIsW_nb, ↓dIsW_lb, ↓dIsW_tb, ↓dIsW_db, ↓dIsW_nn, ↓dIsW_in, ↓dIsW_sn, ↓dIsW_ln, ↓dIsW_tn, ↓dEq_ii, ↓dEq_ss, ↓dNe_ii, ↓dNe_ss, ↓dEq_nil, ↓dNe_nil, ↓dEq_bb, ↓dNe_bb, List.append_nil, List.nil_append, List.cons_append, startD, List.map_cons, List.map_nil, List.length_cons, List.length_nil, Nat.sub_self, List.replicate_zero, List.replicate_succ, List.set_cons_zero, List.set_cons_succ, List.getElem?_cons_zero, List.getElem?_cons_succ, atI_lit, vw_int, vw_str, vw_bl, vw_non, vw_lst, vw_tup, vw_dct, vw_ro, vw_obj, vw_cls, Nat.reduceAdd, Nat.reduceSub, Int.reduceToNat, Int.reduceNeg, Int.reducePow, Int.reduceAdd, Int.reduceSub, Int.reduceMul, ixN_lit, decide_eq_true_eq, decide_eq_false_iff_not, if_true, if_false, Bool.false_eq_true, Bool.not_true, Bool.not_false, Nat.reduceLT, Nat.reduceLeDiff, Int.reduceLT, Int.reduceLE, true_and, and_true, and_self, ite_true, ite_false, kind_int, kind_bl, kind_non, kind_str, kind_lst, kind_tup, kind_dct, clsAll_lt, all_lt, any_lt_l, any_lt_t, any_lt_s, any_lt_i, any_lt_b, any_lt_n, any_lt_d, kc_int, kc_bool, kc_str, kc_list, kc_tuple, kc_dict, isiT, String.reduceBEq, Bool.or_false, Bool.or_true, Bool.false_or, Bool.true_or, Bool.and_false, Bool.false_and, Bool.and_true, Bool.true_and, wipeD, Bool.not_eq_true, Bool.not_eq_false, Bool.not_eq_eq_eq_not, Bool.not_not, Bool.false_bne, Bool.true_bne, dJoin, onSome_some, sizeLine_eq, Mu.put_same, put_put, Nat.zero_le, decide_true, decide_false, flt_litc, fld_str, fld_int, fld_bl, fld_non, List.all_cons, List.all_nil, reduceCtorEq, strOk_of, eqd_int, eqd_str, eqd_bl, eqd_lst0, eqd_lst1, eqd_lst2, eqd_lst3, eqd_tup0, eqd_tup1, eqd_tup2, eqd_tup3, flt_bl, flt_non]
    have l1 : ∀ b, (rw_ [b]).length = 1 := fun b => rfl
    rw [rw_o, mul_rw]
    refine ⟨⟨by omega, by omega, by rw [l1, Int.toNat_natCast]; omega⟩, rw_ok _, rw_ok _, ?_⟩
    rw [if_neg (fun z => z rfl)]
    refine ⟨⟨by omega, by omega⟩, for_inv (fun i ρ _ => ∃ x8, ρ = [some (.ro (ns.map D.int)), some (.int (0 + (k : Nat))), some (.cel a), some (.int (w : Nat)), some (.lst (hs.map fun (i : Nat) => D.int i)), some q.d, x6, some (lastQ w i).d, x8, x9, x10]) ⟨x8, ?_⟩ (fun _ _ _ _ => trivial) ?_ ?_⟩
    · rw [show ((w : Int) - 1) = ((w - 1 : Nat) : Int) by omega]; rfl
    · rintro i d ρ m N hd ⟨x8, rfl⟩ hN
      obtain ⟨_, rfl⟩ := range_at hd
      simp only [↓reduceIte, ↓u_sNx, ↓u_sSeq, ↓u_nx, ↓u_rt, ↓u_bk, ↓u_ct, ↓u_sBreak, ↓u_sCont, ↓u_sDrop, ↓u_sRet, ↓u_sRetN, ↓u_sIf, ↓u_sAsg, ↓u_gC, ↓u_aNil, ↓u_aCons, ↓u_gTup, ↓u_gLst, ↓u_gLstM, ↓u_gBin, ↓u_cVal, ↓u_onBl, ↓u_onInt, ↓u_onStr, ↓u_gChain, ↓u_cAnd, ↓u_cOr, ↓u_cNot, ↓u_gAnd, ↓u_gOr, ↓u_gNot, ↓u_gIf, ↓u_gNeg, ↓u_nNil, ↓u_nCons, ↓u_nTup, ↓u_nSub, ↓u_gCB, ↓u_gCall, ↓u_gM0, ↓u_gM1, ↓u_gL, ↓u_gL0, ↓u_oNo, ↓u_oSome, ↓u_gSl, ↓u_cYes, ↓u_on1, ↓u_on2, ↓u_dInt, ↓u_dInt0, ↓u_gLc, ↓u_gLcM, ↓u_gLc2, ↓u_sNever, ↓u_iEnS, ↓u_iEnL, ↓u_iEnumD, ↓u_iZipD, ↓u_zipS, ↓u_zipL, ↓u_iSeq, ↓u_iRange1, ↓u_iRange2, ↓u_sWhile, ↓u_iRange3, ↓u_on3, ↓u_sFor, ↓u_dMax2, ↓u_dMin2, ↓u_gDct0, ↓u_gVar0, ↓u_sSet0, ↓u_nName0, ↓u_gVar1, ↓u_sSet1, ↓u_nName1, ↓u_gVar2, ↓u_sSet2, ↓u_nName2, ↓u_gVar3, ↓u_sSet3, ↓u_nName3, ↓u_gVar4, ↓u_sSet4, ↓u_nName4, ↓u_gVar5, ↓u_sSet5, ↓u_nName5, ↓u_gVar6, ↓u_sSet6, ↓u_nName6, ↓u_gVar7, ↓u_sSet7, ↓u_nName7, ↓u_gVar8, ↓u_sSet8, ↓u_nName8, ↓u_gVar9, ↓u_sSet9, ↓u_nName9, ↓u_gVar10, ↓u_sSet10, ↓u_nName10, ↓u_gVar11, ↓u_sSet11, ↓u_nName11, ↓u_gVar12, ↓u_sSet12, ↓u_nName12, ↓u_gVar13, ↓u_sSet13, ↓u_nName13, ↓u_gVar14, ↓u_sSet14, ↓u_nName14, ↓u_gVar15, ↓u_sSet15, ↓u_nName15, ↓u_gVar16, ↓u_sSet16, ↓u_nName16, ↓u_gVar17, ↓u_sSet17, ↓u_nName17, ↓dToInt_int, ↓dToInt_bl, ↓dListU_lst, ↓dListU_tup, ↓dListU_str, ↓dListUM_lst, ↓dListUM_tup, ↓dListUM_str, ↓dTuple_lst, ↓dTuple_tup, ↓dIn_lst, ↓dIn_tup, ↓dSl_str, ↓dSl_lst, ↓dSl_tup, ↓dAdd_int, ↓dAdd_str, ↓dAdd_lst, ↓dAdd_tup, ↓dMul_int, ↓dMul_str, ↓dMul_lst, ↓dIx_lst, ↓dIx_ro, ↓dIx_tup, ↓dIx_str, ↓onSome_some, ↓dLen_lst, ↓dLen_tup, ↓dLen_str, ↓dLen_ro, ↓dLen_dct, ↓items_str, ↓items_lst, ↓items_tup, ↓items_ro, ↓dAll_lst, ↓dAny_lst, ↓dSum_lst, ↓dIsi_ty, ↓dIsi_tup, ↓dIn_str, ↓onSeq_lst, ↓onSeq_tup, ↓dIs_bb, ↓dStrI_i, ↓dIsW_bb, ↓dIsW_ib, ↓dIsW_sb, ↓dIsW_nb, ↓dIsW_lb, ↓dIsW_tb, ↓dIsW_db, ↓dIsW_nn, ↓dIsW_in, ↓dIsW_sn, ↓dIsW_ln, ↓dIsW_tn, ↓dEq_ii, ↓dEq_ss, ↓dNe_ii, ↓dNe_ss, ↓dEq_nil, ↓dNe_nil, ↓dEq_bb, ↓dNe_bb, List.append_nil, List.nil_append, List.cons_append, startD, List.map_cons, List.map_nil, List.length_cons, List.length_nil, Nat.sub_self, List.replicate_zero, List.replicate_succ, List.set_cons_zero, List.set_cons_succ, List.getElem?_cons_zero, List.getElem?_cons_succ, atI_lit, vw_int, vw_str, vw_bl, vw_non, vw_lst, vw_tup, vw_dct, vw_ro, vw_obj, vw_cls, Nat.reduceAdd, Nat.reduceSub, Int.reduceToNat, Int.reduceNeg, Int.reducePow, Int.reduceAdd, Int.reduceSub, Int.reduceMul, ixN_lit, decide_eq_true_eq, decide_eq_false_iff_not, if_true, if_false, Bool.false_eq_true, Bool.not_true, Bool.not_false, Nat.reduceLT, Nat.reduceLeDiff, Int.reduceLT, Int.reduceLE, true_and, and_true, and_self, ite_true, ite_false, kind_int, kind_bl, kind_non, kind_str, kind_lst, kind_tup, kind_dct, clsAll_lt, all_lt, any_lt_l, any_lt_t, any_lt_s, any_lt_i, any_lt_b, any_lt_n, any_lt_d, kc_int, kc_bool, kc_str, kc_list, kc_tuple, kc_dict, isiT, String.reduceBEq, Bool.or_false, Bool.or_true, Bool.false_or, Bool.true_or, Bool.and_false, Bool.false_and, Bool.and_true, Bool.true_and, wipeD, Bool.not_eq_true, Bool.not_eq_false, Bool.not_eq_eq_eq_not, Bool.not_not, Bool.false_bne, Bool.true_bne, dJoin, onSome_some, sizeLine_eq, Mu.put_same, put_put, Nat.zero_le, decide_true, decide_false, flt_litc, fld_str, fld_int, fld_bl, fld_non, List.all_cons, List.all_nil, reduceCtorEq, strOk_of, eqd_int, eqd_str, eqd_bl, eqd_lst0, eqd_lst1, eqd_lst2, eqd_lst3, eqd_tup0, eqd_tup1, eqd_tup2, eqd_tup3, flt_bl, flt_non]
      exact hN _ _ ⟨some (.int (0 + (i : Nat))), by rw [show (0 + ((i : Nat) : Int)) = (i : Int) by omega]; rfl⟩
    · rintro ρ m ⟨x8, rfl⟩
      rw [range_len, show ((w : Int) - 1).toNat = w - 1 by omega]
      simp only [↓reduceIte, ↓u_sNx, ↓u_sSeq, ↓u_nx, ↓u_rt, ↓u_bk, ↓u_ct, ↓u_sBreak, ↓u_sCont, ↓u_sDrop, ↓u_sRet, ↓u_sRetN, ↓u_sIf, ↓u_sAsg, ↓u_gC, ↓u_aNil, ↓u_aCons, ↓u_gTup, ↓u_gLst, ↓u_gLstM, ↓u_gBin, ↓u_cVal, ↓u_onBl, ↓u_onInt, ↓u_onStr, ↓u_gChain, ↓u_cAnd, ↓u_cOr, ↓u_cNot, ↓u_gAnd, ↓u_gOr, ↓u_gNot, ↓u_gIf, ↓u_gNeg, ↓u_nNil, ↓u_nCons, ↓u_nTup, ↓u_nSub, ↓u_gCB, ↓u_gCall, ↓u_gM0, ↓u_gM1, ↓u_gL, ↓u_gL0, ↓u_oNo, ↓u_oSome, ↓u_gSl, ↓u_cYes, ↓u_on1, ↓u_on2, ↓u_dInt, ↓u_dInt0, ↓u_gLc, ↓u_gLcM, ↓u_gLc2, ↓u_sNever, ↓u_iEnS, ↓u_iEnL, ↓u_iEnumD, ↓u_iZipD, ↓u_zipS, ↓u_zipL, ↓u_iSeq, ↓u_iRange1, ↓u_iRange2, ↓u_sWhile, ↓u_iRange3, ↓u_on3, ↓u_sFor, ↓u_dMax2, ↓u_dMin2, ↓u_gDct0, ↓u_gVar0, ↓u_sSet0, ↓u_nName0, ↓u_gVar1, ↓u_sSet1, ↓u_nName1, ↓u_gVar2, ↓u_sSet2, ↓u_nName2, ↓u_gVar3, ↓u_sSet3, ↓u_nName3, ↓u_gVar4, ↓u_sSet4, ↓u_nName4, ↓u_gVar5, ↓u_sSet5, ↓u_nName5, ↓u_gVar6, ↓u_sSet6, ↓u_nName6, ↓u_gVar7, ↓u_sSet7, ↓u_nName7, ↓u_gVar8, ↓u_sSet8, ↓u_nName8, ↓u_gVar9, ↓u_sSet9, ↓u_nName9, ↓u_gVar10, ↓u_sSet10, ↓u_nName10, ↓u_gVar11, ↓u_sSet11, ↓u_nName11, ↓u_gVar12, ↓u_sSet12, ↓u_nName12, ↓u_gVar13, ↓u_sSet13, ↓u_nName13, ↓u_gVar14, ↓u_sSet14, ↓u_nName14, ↓u_gVar15, ↓u_sSet15, ↓u_nName15, ↓u_gVar16, ↓u_sSet16, ↓u_nName16, ↓u_gVar17, ↓u_sSet17, ↓u_nName17, ↓dToInt_int, ↓dToInt_bl, ↓dListU_lst, ↓dListU_tup, ↓dListU_str, ↓dListUM_lst, ↓dListUM_tup, ↓dListUM_str, ↓dTuple_lst, ↓dTuple_tup, ↓dIn_lst, ↓dIn_tup, ↓dSl_str, ↓dSl_lst, ↓dSl_tup, ↓dAdd_int, ↓dAdd_str, ↓dAdd_lst, ↓dAdd_tup, ↓dMul_int, ↓dMul_str, ↓dMul_lst, ↓dIx_lst, ↓dIx_ro, ↓dIx_tup, ↓dIx_str, ↓onSome_some, ↓dLen_lst, ↓dLen_tup, ↓dLen_str, ↓dLen_ro, ↓dLen_dct, ↓items_str, ↓items_lst, ↓items_tup, ↓items_ro, ↓dAll_lst, ↓dAny_lst, ↓dSum_lst, ↓dIsi_ty, ↓dIsi_tup, ↓dIn_str, ↓onSeq_lst, ↓onSeq_tup, ↓dIs_bb, ↓dStrI_i, ↓dIsW_bb, ↓dIsW_ib, ↓dIsW_sb, ↓dIsW_nb, ↓dIsW_lb, ↓dIsW_tb, ↓dIsW_db, ↓dIsW_nn, ↓dIsW_in, ↓dIsW_sn, ↓dIsW_ln, ↓dIsW_tn, ↓dEq_ii, ↓dEq_ss, ↓dNe_ii, ↓dNe_ss, ↓dEq_nil, ↓dNe_nil, ↓dEq_bb, ↓dNe_bb, List.append_nil, List.nil_append, List.cons_append, startD, List.map_cons, List.map_nil, List.length_cons, List.length_nil, Nat.sub_self, List.replicate_zero, List.replicate_succ, List.set_cons_zero, List.set_cons_succ, List.getElem?_cons_zero, List.getElem?_cons_succ, atI_lit, vw_int, vw_str, vw_bl, vw_non, vw_lst, vw_tup, vw_dct, vw_ro, vw_obj, vw_cls, Nat.reduceAdd, Nat.reduceSub, Int.reduceToNat, Int.reduceNeg, Int.reducePow, Int.reduceAdd, Int.reduceSub, Int.reduceMul, ixN_lit, decide_eq_true_eq, decide_eq_false_iff_not, if_true, if_false, Bool.false_eq_true, Bool.not_true, Bool.not_false, Nat.reduceLT, Nat.reduceLeDiff, Int.reduceLT, Int.reduceLE, true_and, and_true, and_self, ite_true, ite_false, kind_int, kind_bl, kind_non, kind_str, kind_lst, kind_tup, kind_dct, clsAll_lt, all_lt, any_lt_l, any_lt_t, any_lt_s, any_lt_i, any_lt_b, any_lt_n, any_lt_d, kc_int, kc_bool, kc_str, kc_list, kc_tuple, kc_dict, isiT, String.reduceBEq, Bool.or_false, Bool.or_true, Bool.false_or, Bool.true_or, Bool.and_false, Bool.false_and, Bool.and_true, Bool.true_and, wipeD, Bool.not_eq_true, Bool.not_eq_false, Bool.not_eq_eq_eq_not, Bool.not_not, Bool.false_bne, Bool.true_bne, dJoin, onSome_some, sizeLine_eq, Mu.put_same, put_put, Nat.zero_le, decide_true, decide_false, flt_litc, fld_str, fld_int, fld_bl, fld_non, List.all_cons, List.all_nil, reduceCtorEq, strOk_of, eqd_int, eqd_str, eqd_bl, eqd_lst0, eqd_lst1, eqd_lst2, eqd_lst3, eqd_tup0, eqd_tup1, eqd_tup2, eqd_tup3, flt_bl, flt_non]
      refine ⟨lastQ w (w - 1), .non, w, rfl, w1, w10, ⟨by rw [lastQ_depth]; omega, by rw [lastQ_size]; omega, lastQ_ok w w1 _ (by omega)⟩, gnon, ?_⟩
      rw [difD_last w1]
      simp only [↓reduceIte, ↓u_sNx, ↓u_sSeq, ↓u_nx, ↓u_rt, ↓u_bk, ↓u_ct, ↓u_sBreak, ↓u_sCont, ↓u_sDrop, ↓u_sRet, ↓u_sRetN, ↓u_sIf, ↓u_sAsg, ↓u_gC, ↓u_aNil, ↓u_aCons, ↓u_gTup, ↓u_gLst, ↓u_gLstM, ↓u_gBin, ↓u_cVal, ↓u_onBl, ↓u_onInt, ↓u_onStr, ↓u_gChain, ↓u_cAnd, ↓u_cOr, ↓u_cNot, ↓u_gAnd, ↓u_gOr, ↓u_gNot, ↓u_gIf, ↓u_gNeg, ↓u_nNil, ↓u_nCons, ↓u_nTup, ↓u_nSub, ↓u_gCB, ↓u_gCall, ↓u_gM0, ↓u_gM1, ↓u_gL, ↓u_gL0, ↓u_oNo, ↓u_oSome, ↓u_gSl, ↓u_cYes, ↓u_on1, ↓u_on2, ↓u_dInt, ↓u_dInt0, ↓u_gLc, ↓u_gLcM, ↓u_gLc2, ↓u_sNever, ↓u_iEnS, ↓u_iEnL, ↓u_iEnumD, ↓u_iZipD, ↓u_zipS, ↓u_zipL, ↓u_iSeq, ↓u_iRange1, ↓u_iRange2, ↓u_sWhile, ↓u_iRange3, ↓u_on3, ↓u_sFor, ↓u_dMax2, ↓u_dMin2, ↓u_gDct0, ↓u_gVar0, ↓u_sSet0, ↓u_nName0, ↓u_gVar1, ↓u_sSet1, ↓u_nName1, ↓u_gVar2, ↓u_sSet2, ↓u_nName2, ↓u_gVar3, ↓u_sSet3, ↓u_nName3, ↓u_gVar4, ↓u_sSet4, ↓u_nName4, ↓u_gVar5, ↓u_sSet5, ↓u_nName5, ↓u_gVar6, ↓u_sSet6, ↓u_nName6, ↓u_gVar7, ↓u_sSet7, ↓u_nName7, ↓u_gVar8, ↓u_sSet8, ↓u_nName8, ↓u_gVar9, ↓u_sSet9, ↓u_nName9, ↓u_gVar10, ↓u_sSet10, ↓u_nName10, ↓u_gVar11, ↓u_sSet11, ↓u_nName11, ↓u_gVar12, ↓u_sSet12, ↓u_nName12, ↓u_gVar13, ↓u_sSet13, ↓u_nName13, ↓u_gVar14, ↓u_sSet14, ↓u_nName14, ↓u_gVar15, ↓u_sSet15, ↓u_nName15, ↓u_gVar16, ↓u_sSet16, ↓u_nName16, ↓u_gVar17, ↓u_sSet17, ↓u_nName17, ↓dToInt_int, ↓dToInt_bl, ↓dListU_lst, ↓dListU_tup, ↓dListU_str, ↓dListUM_lst, ↓dListUM_tup, ↓dListUM_str, ↓dTuple_lst, ↓dTuple_tup, ↓dIn_lst, ↓dIn_tup, ↓dSl_str, ↓dSl_lst, ↓dSl_tup, ↓dAdd_int, ↓dAdd_str, ↓dAdd_lst, ↓dAdd_tup, ↓dMul_int, ↓dMul_str, ↓dMul_lst, ↓dIx_lst, ↓dIx_ro, ↓dIx_tup, ↓dIx_str, ↓onSome_some, ↓dLen_lst, ↓dLen_tup, ↓dLen_str, ↓dLen_ro, ↓dLen_dct, ↓items_str, ↓items_lst, ↓items_tup, ↓items_ro, ↓dAll_lst, ↓dAny_lst, ↓dSum_lst, ↓dIsi_ty, ↓dIsi_tup, ↓dIn_str, ↓onSeq_lst, ↓onSeq_tup, ↓dIs_bb, ↓dStrI_i, ↓dIsW_bb, ↓dIsW_ib, ↓dIsW_sb, ↓dIsW_nb, ↓dIsW_lb, ↓dIsW_tb, ↓dIsW_db, ↓dIsW_nn, ↓dIsW_in, ↓dIsW_sn, ↓dIsW_ln, ↓dIsW_tn, ↓dEq_ii, ↓dEq_ss, ↓dNe_ii, ↓dNe_ss, ↓dEq_nil, ↓dNe_nil, ↓dEq_bb, ↓dNe_bb, List.append_nil, List.nil_append, List.cons_append, startD, List.map_cons, List.map_nil, List.length_cons, List.length_nil, Nat.sub_self, List.replicate_zero, List.replicate_succ, List.set_cons_zero, List.set_cons_succ, List.getElem?_cons_zero, List.getElem?_cons_succ, atI_lit, vw_int, vw_str, vw_bl, vw_non, vw_lst, vw_tup, vw_dct, vw_ro, vw_obj, vw_cls, Nat.reduceAdd, Nat.reduceSub, Int.reduceToNat, Int.reduceNeg, Int.reducePow, Int.reduceAdd, Int.reduceSub, Int.reduceMul, ixN_lit, decide_eq_true_eq, decide_eq_false_iff_not, if_true, if_false, Bool.false_eq_true, Bool.not_true, Bool.not_false, Nat.reduceLT, Nat.reduceLeDiff, Int.reduceLT, Int.reduceLE, true_and, and_true, and_self, ite_true, ite_false, kind_int, kind_bl, kind_non, kind_str, kind_lst, kind_tup, kind_dct, clsAll_lt, all_lt, any_lt_l, any_lt_t, any_lt_s, any_lt_i, any_lt_b, any_lt_n, any_lt_d, kc_int, kc_bool, kc_str, kc_list, kc_tuple, kc_dict, isiT, String.reduceBEq, Bool.or_false, Bool.or_true, Bool.false_or, Bool.true_or, Bool.and_false, Bool.false_and, Bool.and_true, Bool.true_and, wipeD, Bool.not_eq_true, Bool.not_eq_false, Bool.not_eq_eq_eq_not, Bool.not_not, Bool.false_bne, Bool.true_bne, dJoin, onSome_some, sizeLine_eq, Mu.put_same, put_put, Nat.zero_le, decide_true, decide_false, flt_litc, fld_str, fld_int, fld_bl, fld_non, List.all_cons, List.all_nil, reduceCtorEq, strOk_of, eqd_int, eqd_str, eqd_bl, eqd_lst0, eqd_lst1, eqd_lst2, eqd_lst3, eqd_tup0, eqd_tup1, eqd_tup2, eqd_tup3, flt_bl, flt_non]
      rw [rw_v, mul_rw]
      refine ⟨⟨by omega, by omega, by rw [l1, Int.toNat_natCast]; omega⟩, rw_ok _, rw_ok _, ?_⟩
      rw [if_neg (fun z => z rfl)]
      exact hN _ _ ⟨_, _, _, _, _, _, _, _, _, _, rfl⟩
end Nd
namespace Lk25
open PySem Nd L2 PyProof.Rows PySem.Spec
def top (i : Nat) : Stmt := PySem.Challenge.pw_needlecards_k25_the_first_row_that_parts.main.body.getD i (.Pass ⟨0, 0, 0, 0⟩)
abbrev FnP (K : PySem.W.Frag) (x : Str) (st : Stmt) (f : Addr) (fd : FuncData) : Prop := FunD K x x (defArgs st) (defBody st) (defScope st) [] [] f fd
abbrev st_is_integer : Stmt := top 6
abbrev st_need_width : Stmt := top 11
abbrev st_is_open : Stmt := top 12
abbrev st_row_of : Stmt := top 13
abbrev st_row_in : Stmt := top 14
abbrev st_parts_of : Stmt := top 22
abbrev st_size_in : Stmt := top 23
abbrev st_is_request : Stmt := top 24
abbrev st_need_request : Stmt := top 25
abbrev st_holes_in : Stmt := top 26
abbrev st_need_holes : Stmt := top 27
abbrev st_holds : Stmt := top 28
abbrev st_difference : Stmt := top 29
abbrev st__law_cell : Stmt := top 31
abbrev st__law_box : Stmt := top 32
abbrev st__law_take : Stmt := top 33
abbrev st__law_even : Stmt := top 34
abbrev st__law_request : Stmt := top 35
abbrev st__law_parts : Stmt := top 36
abbrev st__law_fits : Stmt := top 37
abbrev st__law_holes : Stmt := top 38
abbrev st__law_leaf_bent : Stmt := top 39
abbrev st__law_due : Stmt := top 40
abbrev st_law : Stmt := top 41
structure Fx (K : PySem.W.Frag) (mg : Str → Option Value) where
  n_int : mg "int" = none
  n_isinstance : mg "isinstance" = none
  n_bool : mg "bool" = none
  t_OPEN : Tok
  v_OPEN : mg "OPEN" = some (.str "v" t_OPEN)
  t_CLOSED : Tok
  v_CLOSED : mg "CLOSED" = some (.str "o" t_CLOSED)
  n_range : mg "range" = none
  n_list : mg "list" = none
  g_DOUBLE : mg "DOUBLE" = some (.ref (He.ga K "DOUBLE"))
  d_DOUBLE : ∀ m H, Dt K m H (.ref (He.ga K "DOUBLE")) (.tup [.str "and", .str "or"])
  n_sum : mg "sum" = none
  g_LEAVES : mg "LEAVES" = some (.ref (He.ga K "LEAVES"))
  d_LEAVES : ∀ m H, Dt K m H (.ref (He.ga K "LEAVES")) (.tup [.str "open", .str "closed"])
  n_len : mg "len" = none
  g_SIMPLE : mg "SIMPLE" = some (.ref (He.ga K "SIMPLE"))
  d_SIMPLE : ∀ m H, Dt K m H (.ref (He.ga K "SIMPLE")) (.tup [.str "all", .str "none"])
  n_str : mg "str" = none
  n_tuple : mg "tuple" = none
  t_WIDEST : Tok
  v_WIDEST : mg "WIDEST" = some (.int 24 t_WIDEST)
  t_MOST_PARTS : Tok
  v_MOST_PARTS : mg "MOST_PARTS" = some (.int 60 t_MOST_PARTS)
  t_DEEPEST : Tok
  v_DEEPEST : mg "DEEPEST" = some (.int 12 t_DEEPEST)
  n_all : mg "all" = none
  n_any : mg "any" = none
  t_WIDEST_JUDGED : Tok
  v_WIDEST_JUDGED : mg "WIDEST_JUDGED" = some (.int 10 t_WIDEST_JUDGED)
  n_max : mg "max" = none
  n_repr : mg "repr" = none
  n_min : mg "min" = none
  g_is_integer : mg "is_integer" = some (.ref (He.ga K "is_integer"))
  fd_is_integer : FuncData
  F_is_integer : FnP K "is_integer" st_is_integer (He.ga K "is_integer") fd_is_integer
  g_need_width : mg "need_width" = some (.ref (He.ga K "need_width"))
  fd_need_width : FuncData
  F_need_width : FnP K "need_width" st_need_width (He.ga K "need_width") fd_need_width
  g_is_open : mg "is_open" = some (.ref (He.ga K "is_open"))
  fd_is_open : FuncData
  F_is_open : FnP K "is_open" st_is_open (He.ga K "is_open") fd_is_open
  g_row_of : mg "row_of" = some (.ref (He.ga K "row_of"))
  fd_row_of : FuncData
  F_row_of : FnP K "row_of" st_row_of (He.ga K "row_of") fd_row_of
  g_row_in : mg "row_in" = some (.ref (He.ga K "row_in"))
  fd_row_in : FuncData
  F_row_in : FnP K "row_in" st_row_in (He.ga K "row_in") fd_row_in
  g_parts_of : mg "parts_of" = some (.ref (He.ga K "parts_of"))
  fd_parts_of : FuncData
  F_parts_of : FnP K "parts_of" st_parts_of (He.ga K "parts_of") fd_parts_of
  g_size_in : mg "size_in" = some (.ref (He.ga K "size_in"))
  fd_size_in : FuncData
  F_size_in : FnP K "size_in" st_size_in (He.ga K "size_in") fd_size_in
  g_is_request : mg "is_request" = some (.ref (He.ga K "is_request"))
  fd_is_request : FuncData
  F_is_request : FnP K "is_request" st_is_request (He.ga K "is_request") fd_is_request
  g_need_request : mg "need_request" = some (.ref (He.ga K "need_request"))
  fd_need_request : FuncData
  F_need_request : FnP K "need_request" st_need_request (He.ga K "need_request") fd_need_request
  g_holes_in : mg "holes_in" = some (.ref (He.ga K "holes_in"))
  fd_holes_in : FuncData
  F_holes_in : FnP K "holes_in" st_holes_in (He.ga K "holes_in") fd_holes_in
  g_need_holes : mg "need_holes" = some (.ref (He.ga K "need_holes"))
  fd_need_holes : FuncData
  F_need_holes : FnP K "need_holes" st_need_holes (He.ga K "need_holes") fd_need_holes
  g_holds : mg "holds" = some (.ref (He.ga K "holds"))
  fd_holds : FuncData
  F_holds : FnP K "holds" st_holds (He.ga K "holds") fd_holds
  g_difference : mg "difference" = some (.ref (He.ga K "difference"))
  fd_difference : FuncData
  F_difference : FnP K "difference" st_difference (He.ga K "difference") fd_difference
  g__law_cell : mg "_law_cell" = some (.ref (He.ga K "_law_cell"))
  fd__law_cell : FuncData
  F__law_cell : FnP K "_law_cell" st__law_cell (He.ga K "_law_cell") fd__law_cell
  g__law_box : mg "_law_box" = some (.ref (He.ga K "_law_box"))
  fd__law_box : FuncData
  F__law_box : FnP K "_law_box" st__law_box (He.ga K "_law_box") fd__law_box
  g__law_take : mg "_law_take" = some (.ref (He.ga K "_law_take"))
  fd__law_take : FuncData
  F__law_take : FnP K "_law_take" st__law_take (He.ga K "_law_take") fd__law_take
  g__law_even : mg "_law_even" = some (.ref (He.ga K "_law_even"))
  fd__law_even : FuncData
  F__law_even : FnP K "_law_even" st__law_even (He.ga K "_law_even") fd__law_even
  g__law_request : mg "_law_request" = some (.ref (He.ga K "_law_request"))
  fd__law_request : FuncData
  F__law_request : FnP K "_law_request" st__law_request (He.ga K "_law_request") fd__law_request
  g__law_parts : mg "_law_parts" = some (.ref (He.ga K "_law_parts"))
  fd__law_parts : FuncData
  F__law_parts : FnP K "_law_parts" st__law_parts (He.ga K "_law_parts") fd__law_parts
  g__law_fits : mg "_law_fits" = some (.ref (He.ga K "_law_fits"))
  fd__law_fits : FuncData
  F__law_fits : FnP K "_law_fits" st__law_fits (He.ga K "_law_fits") fd__law_fits
  g__law_holes : mg "_law_holes" = some (.ref (He.ga K "_law_holes"))
  fd__law_holes : FuncData
  F__law_holes : FnP K "_law_holes" st__law_holes (He.ga K "_law_holes") fd__law_holes
  g__law_leaf_bent : mg "_law_leaf_bent" = some (.ref (He.ga K "_law_leaf_bent"))
  fd__law_leaf_bent : FuncData
  F__law_leaf_bent : FnP K "_law_leaf_bent" st__law_leaf_bent (He.ga K "_law_leaf_bent") fd__law_leaf_bent
  g__law_due : mg "_law_due" = some (.ref (He.ga K "_law_due"))
  fd__law_due : FuncData
  F__law_due : FnP K "_law_due" st__law_due (He.ga K "_law_due") fd__law_due
  g_law : mg "law" = some (.ref (He.ga K "law"))
  fd_law : FuncData
  F_law : FnP K "law" st_law (He.ga K "law") fd_law
section
variable {P : Program} {w : World} {K : PySem.W.Frag} {mg : Str → Option Value} {base : Heap}
theorem sc_is_integer : FnScope ["value", "low", "high"] ["value", "low", "high"] (defScope st_is_integer) := ⟨rfl, rfl, rfl, by decide +kernel, rfl, by decide +kernel, by decide +kernel⟩
theorem b_is_integer (z : Fx K mg) : Binds K z.fd_is_integer ["value", "low", "high"] [] := z.F_is_integer.bindsN fun _ _ _ _ _ _ us hl => match us, hl with | [_, _, _], _ => rfl
theorem ok_is_integer (z : Fx K mg) : FnG P w K mg base 1 (He.ga K "is_integer") z.fd_is_integer ["value", "low", "high"] S_is_integer :=
  lift_is_integer (FnG.mk' z.F_is_integer sc_is_integer g_is_integer (fun cdv A outer s H E hG hr =>
    (dss_one (ds_ret (de_and (de_callB call_isiU cd_isi (by rfl) z.n_isinstance boot_isinstance (da_cons (dv 0) (da_cons (de_bltn (v := .ty "int") (by rfl) z.n_int boot_int rfl (fun _ _ => .cls _)) da_nil))) (de_and (de_not (de_callB call_isiU cd_isi (by rfl) z.n_isinstance boot_isinstance (da_cons (dv 0) (da_cons (de_bltn (v := .ty "bool") (by rfl) z.n_bool boot_bool rfl (fun _ _ => .cls _)) da_nil)))) (de_one (de_chain op_le od_le op_le od_le (dv 1) (dv 0) (dv 2)))))))) fun _ _ _ _ q => q)
theorem sc_need_width : FnScope ["width", "most"] ["width", "most"] (defScope st_need_width) := ⟨rfl, rfl, rfl, by decide +kernel, rfl, by decide +kernel, by decide +kernel⟩
theorem b_need_width (z : Fx K mg) : Binds K z.fd_need_width ["width", "most"] [] := z.F_need_width.bindsN fun _ _ _ _ _ _ us hl => match us, hl with | [_, _], _ => rfl
theorem ok_need_width (z : Fx K mg) : FnG P w K mg base 2 (He.ga K "need_width") z.fd_need_width ["width", "most"] S_need_width :=
  lift_need_width (FnG.mk' z.F_need_width sc_need_width g_need_width (fun cdv A outer s H E hG hr =>
    (dss_one (ds_if (dt_not (dt_val (de_call ((ok_is_integer z).mono (by decide)) hG hr (by rfl) z.g_is_integer z.F_is_integer.kp (b_is_integer z) .nil (fun _ _ => .nil) (da_cons (dv 0) (da_cons de_int (da_cons (dv 1) da_nil))))))
      (dss_one ds_never)
      dss_nil))) fun _ _ _ _ q => q)
theorem sc_is_open : FnScope ["row", "hole"] ["row", "hole"] (defScope st_is_open) := ⟨rfl, rfl, rfl, by decide +kernel, rfl, by decide +kernel, by decide +kernel⟩
theorem b_is_open (z : Fx K mg) : Binds K z.fd_is_open ["row", "hole"] [] := z.F_is_open.bindsN fun _ _ _ _ _ _ us hl => match us, hl with | [_, _], _ => rfl
theorem ok_is_open (z : Fx K mg) : FnG P w K mg base 1 (He.ga K "is_open") z.fd_is_open ["row", "hole"] S_is_open :=
  lift_is_open (FnG.mk' z.F_is_open sc_is_open g_is_open (fun cdv A outer s H E hG hr =>
    (dss_one (ds_ret (de_cmp (op_eqD (u64 hr)) od_eq (de_ix (dv 0) (dv 1)) (de_glob (v := .str "v") (by rfl) z.v_OPEN ⟨_, rfl⟩ (fun _ _ => .str _)) (by rfl))))) fun _ _ _ _ q => q)
theorem sc_row_of : FnScope ["signs", "sign"] ["signs"] (defScope st_row_of) := ⟨rfl, rfl, rfl, by decide +kernel, rfl, by decide +kernel, by decide +kernel⟩
theorem b_row_of (z : Fx K mg) : Binds K z.fd_row_of ["signs"] [] := z.F_row_of.bindsN fun _ _ _ _ _ _ us hl => match us, hl with | [_], _ => rfl
theorem ok_row_of (z : Fx K mg) : FnG P w K mg base 1 (He.ga K "row_of") z.fd_row_of ["signs"] S_row_of :=
  lift_row_of (FnG.mk' z.F_row_of sc_row_of g_row_of (fun cdv A outer s H E hG hr =>
    (dss_one (ds_ret (de_join de_str (de_lc (by rfl) sc_row_of.nd (di_seq (dv 0)) (blkOk_by (own := [("sign", 1)]) (by rfl)) (by decide) (fun _ _ _ _ _ => (dg_name sc_row_of.nd (by rfl) (by first | exact .inl rfl | exact .inr rfl))) (fun _ _ _ _ _ => dts_nil) (fun _ _ _ _ _ => (de_if (dt_val (dv 1)) (de_glob (v := .str "v") (by rfl) z.v_OPEN ⟨_, rfl⟩ (fun _ _ => .str _)) (de_glob (v := .str "o") (by rfl) z.v_CLOSED ⟨_, rfl⟩ (fun _ _ => .str _))))))))) fun _ _ _ _ q => q)
theorem sc_row_in : FnScope ["width", "number", "hole"] ["width", "number"] (defScope st_row_in) := ⟨rfl, rfl, rfl, by decide +kernel, rfl, by decide +kernel, by decide +kernel⟩
theorem b_row_in (z : Fx K mg) : Binds K z.fd_row_in ["width", "number"] [] := z.F_row_in.bindsN fun _ _ _ _ _ _ us hl => match us, hl with | [_, _], _ => rfl
theorem ok_row_in (z : Fx K mg) : FnG P w K mg base 2 (He.ga K "row_in") z.fd_row_in ["width", "number"] S_row_in :=
  lift_row_in (FnG.mk' z.F_row_in sc_row_in g_row_in (fun cdv A outer s H E hG hr =>
    (dss_one (ds_ret (de_call ((ok_row_of z).mono (by decide)) hG hr (by rfl) z.g_row_of z.F_row_of.kp (b_row_of z) .nil (fun _ _ => .nil) (da_cons (de_lc (by rfl) sc_row_in.nd (di_range1 (by rfl) z.n_range (da_cons (dv 0) da_nil)) (blkOk_by (own := [("hole", 2)]) (by rfl)) (by decide) (fun _ _ _ _ _ => (dg_name sc_row_in.nd (by rfl) (by first | exact .inl rfl | exact .inr rfl))) (fun _ _ _ _ _ => dts_nil) (fun _ _ _ _ _ => (de_cmp (op_eqD (u64 hr)) od_eq (de_bin op_and od_band (de_bin op_shr od_shr (dv 1) (de_bin op_sub od_sub (de_bin op_sub od_sub (dv 0) de_int) (dv 2))) de_int) de_int (by rfl)))) da_nil))))) fun _ _ _ _ q => q)
theorem sc_parts_of : FnScope ["request"] ["request"] (defScope st_parts_of) := ⟨rfl, rfl, rfl, by decide +kernel, rfl, by decide +kernel, by decide +kernel⟩
theorem b_parts_of (z : Fx K mg) : Binds K z.fd_parts_of ["request"] [] := z.F_parts_of.bindsN fun _ _ _ _ _ _ us hl => match us, hl with | [_], _ => rfl
theorem ok_parts_of (z : Fx K mg) : FnG P w K mg base 1 (He.ga K "parts_of") z.fd_parts_of ["request"] S_parts_of :=
  lift_parts_of (FnG.mk' z.F_parts_of sc_parts_of g_parts_of (fun cdv A outer s H E hG hr =>
    (dss_one (ds_ret (de_if (DW.dt (dw_or (dt_cmp op_inU od_in (de_ix (dv 0) de_int) (de_glob (v := .ref (He.ga K "DOUBLE")) (by rfl) z.g_DOUBLE rfl z.d_DOUBLE) (by rfl)) (dw_or1 (dt_cmp (op_eqD (u64 hr)) od_eq (de_ix (dv 0) de_int) de_str (by rfl))))) (de_callTy (call_listU (by rfl)) cd_listU (by rfl) z.n_list boot_list (da_cons (de_slice (dv 0) (do_some de_int) do_none) da_nil)) (de_lst da_nil))))) fun _ _ _ _ q => q)
theorem sc_size_in : FnScope ["value", "room", "many", "sizes", "part"] ["value", "room"] (defScope st_size_in) := ⟨rfl, rfl, rfl, by decide +kernel, rfl, by decide +kernel, by decide +kernel⟩
theorem b_size_in (z : Fx K mg) : Binds K z.fd_size_in ["value", "room"] [] := z.F_size_in.bindsN fun _ _ _ _ _ _ us hl => match us, hl with | [_, _], _ => rfl
theorem w_size_in (z : Fx K mg) {k : Nat} {S : Nd.Spec} (hk : 1 ≤ k) (R : FnG P w K mg base k (He.ga K "size_in") z.fd_size_in ["value", "room"] S) : FnG P w K mg base (k + 1) (He.ga K "size_in") z.fd_size_in ["value", "room"] (wpS ["value", "room"] ["value", "room", "many", "sizes", "part"] (g_size_in S)) :=
  FnG.mk' z.F_size_in sc_size_in (g_size_in S) (fun cdv A outer s H E hG hr =>
    (dss_cons (ds_if (DW.dt (dw_or (dt_cmp (op_eqD (u64 hr)) od_eq (dv 1) de_int (by rfl)) (dw_or (dt_not (dt_val (de_callB call_isiU cd_isi (by rfl) z.n_isinstance boot_isinstance (da_cons (dv 0) (da_cons (de_bltn (v := .ty "tuple") (by rfl) z.n_tuple boot_tuple rfl (fun _ _ => .cls _)) da_nil))))) (dw_or (dt_cmp (op_eqD (u64 hr)) od_eq (de_callB call_lenU cd_len (by rfl) z.n_len boot_len (da_cons (dv 0) da_nil)) de_int (by rfl)) (dw_or1 (dt_not (dt_val (de_callB call_isiU cd_isi (by rfl) z.n_isinstance boot_isinstance (da_cons (de_ix (dv 0) de_int) (da_cons (de_bltn (v := .ty "str") (by rfl) z.n_str boot_str rfl (fun _ _ => .cls _)) da_nil))))))))))
      (dss_one (ds_ret de_non))
      dss_nil)
      (dss_cons (ds_if (dt_cmp op_inU od_in (de_ix (dv 0) de_int) (de_glob (v := .ref (He.ga K "LEAVES")) (by rfl) z.g_LEAVES rfl z.d_LEAVES) (by rfl))
      (dss_one (ds_ret (de_if (DW.dt (dw_and (dt_cmp (op_eqD (u64 hr)) od_eq (de_callB call_lenU cd_len (by rfl) z.n_len boot_len (da_cons (dv 0) da_nil)) de_int (by rfl)) (dw_and1 (dt_val (de_call ((ok_is_integer z).mono (Nat.le_trans (by decide) hk)) hG hr (by rfl) z.g_is_integer z.F_is_integer.kp (b_is_integer z) .nil (fun _ _ => .nil) (da_cons (de_ix (dv 0) de_int) (da_cons de_int (da_cons (de_bin op_sub od_sub (de_glob (v := .int 24) (by rfl) z.v_WIDEST ⟨_, rfl⟩ (fun _ _ => .int _)) de_int) da_nil)))))))) de_int de_non)))
      dss_nil)
      (dss_cons (ds_if (dt_cmp op_inU od_in (de_ix (dv 0) de_int) (de_glob (v := .ref (He.ga K "SIMPLE")) (by rfl) z.g_SIMPLE rfl z.d_SIMPLE) (by rfl))
      (dss_one (ds_ret (de_if (dt_cmp (op_eqD (u64 hr)) od_eq (de_callB call_lenU cd_len (by rfl) z.n_len boot_len (da_cons (dv 0) da_nil)) de_int (by rfl)) de_int de_non)))
      dss_nil)
      (dss_cons (ds_set (i := 2) sc_size_in.nd (by rfl) (by first | exact .inl rfl | exact .inr rfl) (de_if (dt_cmp op_inU od_in (de_ix (dv 0) de_int) (de_glob (v := .ref (He.ga K "DOUBLE")) (by rfl) z.g_DOUBLE rfl z.d_DOUBLE) (by rfl)) de_int de_int))
      (dss_cons (ds_if (DW.dt (dw_or (DW.dt (dw_and (dt_cmp (op_neD (u64 hr)) od_ne (de_ix (dv 0) de_int) de_str (by rfl)) (dw_and1 (dt_cmp op_niU od_in (de_ix (dv 0) de_int) (de_glob (v := .ref (He.ga K "DOUBLE")) (by rfl) z.g_DOUBLE rfl z.d_DOUBLE) (by rfl))))) (dw_or1 (dt_cmp (op_neD (u64 hr)) od_ne (de_callB call_lenU cd_len (by rfl) z.n_len boot_len (da_cons (dv 0) da_nil)) (de_bin op_addU od_add de_int (dv 2)) (by rfl)))))
      (dss_one (ds_ret de_non))
      dss_nil)
      (dss_cons (ds_setLc (by rfl) sc_size_in.nd (by rfl) (by rfl) (by rfl) (di_seq (de_slice (dv 0) (do_some de_int) do_none)) (blkOk_by (own := [("part", 4)]) (by rfl)) (by decide) (fun _ _ _ _ _ => (dg_name sc_size_in.nd (by rfl) (by first | exact .inl rfl | exact .inr rfl))) (fun _ _ _ _ _ => dts_nil) (fun _ _ _ _ _ => (de_call R hG hr (by rfl) z.g_size_in z.F_size_in.kp (b_size_in z) .nil (fun _ _ => .nil) (da_cons (dv 4) (da_cons (de_bin op_sub od_sub (dv 1) de_int) da_nil)))))
      (dss_one (ds_ret (de_if (dt_cmp op_inU od_in de_non (dv 3) (by rfl)) de_non (de_bin op_addU od_add de_int (de_callB (cr_sum (by rfl)) cd_sum (by rfl) z.n_sum boot_sum (da_cons (dv 3) da_nil))))))))))))) fun _ _ _ _ q => q
theorem ok_size_in (z : Fx K mg) : ∀ r, FnG P w K mg base (2 + r) (He.ga K "size_in") z.fd_size_in ["value", "room"] (S_size_in r)
  | 0 => lift_size_in 0 (w_size_in z (Nat.le_refl 1) FnG.no)
  | r + 1 => lift_size_in (r + 1) (w_size_in z (k := 2 + r) (by omega) (ok_size_in z r))
theorem sc_is_request : FnScope ["value", "size"] ["value"] (defScope st_is_request) := ⟨rfl, rfl, rfl, by decide +kernel, rfl, by decide +kernel, by decide +kernel⟩
theorem b_is_request (z : Fx K mg) : Binds K z.fd_is_request ["value"] [] := z.F_is_request.bindsN fun _ _ _ _ _ _ us hl => match us, hl with | [_], _ => rfl
theorem ok_is_request (z : Fx K mg) : FnG P w K mg base 15 (He.ga K "is_request") z.fd_is_request ["value"] S_is_request :=
  lift_is_request (FnG.mk' z.F_is_request sc_is_request g_is_request (fun cdv A outer s H E hG hr =>
    (dss_cons (ds_set (i := 1) sc_is_request.nd (by rfl) (by first | exact .inl rfl | exact .inr rfl) (de_call ((ok_size_in z 12).mono (by decide)) hG hr (by rfl) z.g_size_in z.F_size_in.kp (b_size_in z) .nil (fun _ _ => .nil) (da_cons (dv 0) (da_cons (de_glob (v := .int 12) (by rfl) z.v_DEEPEST ⟨_, rfl⟩ (fun _ _ => .int _)) da_nil))))
      (dss_one (ds_ret (de_and (de_cmp op_nsW od_isW (dv 1) de_non (by rfl)) (de_one (de_cmp op_le od_le (dv 1) (de_glob (v := .int 60) (by rfl) z.v_MOST_PARTS ⟨_, rfl⟩ (fun _ _ => .int _)) (by rfl)))))))) fun _ _ _ _ q => q)
theorem sc_need_request : FnScope ["request"] ["request"] (defScope st_need_request) := ⟨rfl, rfl, rfl, by decide +kernel, rfl, by decide +kernel, by decide +kernel⟩
theorem b_need_request (z : Fx K mg) : Binds K z.fd_need_request ["request"] [] := z.F_need_request.bindsN fun _ _ _ _ _ _ us hl => match us, hl with | [_], _ => rfl
theorem ok_need_request (z : Fx K mg) : FnG P w K mg base 16 (He.ga K "need_request") z.fd_need_request ["request"] S_need_request :=
  lift_need_request (FnG.mk' z.F_need_request sc_need_request g_need_request (fun cdv A outer s H E hG hr =>
    (dss_one (ds_if (dt_not (dt_val (de_call ((ok_is_request z).mono (by decide)) hG hr (by rfl) z.g_is_request z.F_is_request.kp (b_is_request z) .nil (fun _ _ => .nil) (da_cons (dv 0) da_nil))))
      (dss_one ds_never)
      dss_nil))) fun _ _ _ _ q => q)
theorem sc_holes_in : FnScope ["request", "part", "hole"] ["request"] (defScope st_holes_in) := ⟨rfl, rfl, rfl, by decide +kernel, rfl, by decide +kernel, by decide +kernel⟩
theorem b_holes_in (z : Fx K mg) : Binds K z.fd_holes_in ["request"] [] := z.F_holes_in.bindsN fun _ _ _ _ _ _ us hl => match us, hl with | [_], _ => rfl
theorem w_holes_in (z : Fx K mg) {k : Nat} {S : Nd.Spec} (hk : 1 ≤ k) (R : FnG P w K mg base k (He.ga K "holes_in") z.fd_holes_in ["request"] S) : FnG P w K mg base (k + 1) (He.ga K "holes_in") z.fd_holes_in ["request"] (wpS ["request"] ["request", "part", "hole"] (g_holes_in S)) :=
  FnG.mk' z.F_holes_in sc_holes_in (g_holes_in S) (fun cdv A outer s H E hG hr =>
    (dss_cons (ds_if (dt_cmp op_inU od_in (de_ix (dv 0) de_int) (de_glob (v := .ref (He.ga K "LEAVES")) (by rfl) z.g_LEAVES rfl z.d_LEAVES) (by rfl))
      (dss_one (ds_ret (de_lst (da_cons (de_ix (dv 0) de_int) da_nil))))
      dss_nil)
      (dss_one (ds_ret (de_lc2 (ws1 := [2]) (vs1 := [2]) (by rfl) sc_holes_in.nd (di_seq (de_call ((ok_parts_of z).mono (Nat.le_trans (by decide) hk)) hG hr (by rfl) z.g_parts_of z.F_parts_of.kp (b_parts_of z) .nil (fun _ _ => .nil) (da_cons (dv 0) da_nil))) (blkOk_by (own := [("part", 1), ("hole", 2)]) (by rfl)) (by decide) (by decide) (by decide) (fun _ _ _ _ _ => (dg_name sc_holes_in.nd (by rfl) (by first | exact .inl rfl | exact .inr rfl))) (fun _ _ _ _ _ => dts_nil) (fun _ _ _ _ _ => (di_seq (de_call R hG hr (by rfl) z.g_holes_in z.F_holes_in.kp (b_holes_in z) .nil (fun _ _ => .nil) (da_cons (dv 1) da_nil)))) (fun _ _ _ _ _ => (dg_name sc_holes_in.nd (by rfl) (by first | exact .inl rfl | exact .inr rfl))) (fun _ _ _ _ _ => dts_nil) (fun _ _ _ _ _ => (dv 2))))))) fun _ _ _ _ q => q
theorem ok_holes_in (z : Fx K mg) : ∀ r, FnG P w K mg base (2 + r) (He.ga K "holes_in") z.fd_holes_in ["request"] (S_holes_in r)
  | 0 => lift_holes_in 0 (w_holes_in z (Nat.le_refl 1) FnG.no)
  | r + 1 => lift_holes_in (r + 1) (w_holes_in z (k := 2 + r) (by omega) (ok_holes_in z r))
theorem sc_need_holes : FnScope ["holes", "width", "hole"] ["holes", "width"] (defScope st_need_holes) := ⟨rfl, rfl, rfl, by decide +kernel, rfl, by decide +kernel, by decide +kernel⟩
theorem b_need_holes (z : Fx K mg) : Binds K z.fd_need_holes ["holes", "width"] [] := z.F_need_holes.bindsN fun _ _ _ _ _ _ us hl => match us, hl with | [_, _], _ => rfl
theorem ok_need_holes (z : Fx K mg) : FnG P w K mg base 1 (He.ga K "need_holes") z.fd_need_holes ["holes", "width"] S_need_holes :=
  lift_need_holes (FnG.mk' z.F_need_holes sc_need_holes g_need_holes (fun cdv A outer s H E hG hr =>
    (dss_one (ds_for (passes_of (by rfl)) (by rfl) (di_seq (dv 0)) (dg_name sc_need_holes.nd (by rfl) (by first | exact .inl rfl | exact .inr rfl)) (dss_one (ds_if (dt_cmp op_ge od_ge (dv 2) (dv 1) (by rfl))
      (dss_one ds_never)
      dss_nil))))) fun _ _ _ _ q => q)
theorem sc_holds : FnScope ["request", "row", "word", "found", "part"] ["request", "row"] (defScope st_holds) := ⟨rfl, rfl, rfl, by decide +kernel, rfl, by decide +kernel, by decide +kernel⟩
theorem b_holds (z : Fx K mg) : Binds K z.fd_holds ["request", "row"] [] := z.F_holds.bindsN fun _ _ _ _ _ _ us hl => match us, hl with | [_, _], _ => rfl
theorem w_holds (z : Fx K mg) {k : Nat} {S : Nd.Spec} (hk : 1 ≤ k) (R : FnG P w K mg base k (He.ga K "holds") z.fd_holds ["request", "row"] S) : FnG P w K mg base (k + 1) (He.ga K "holds") z.fd_holds ["request", "row"] (wpS ["request", "row"] ["request", "row", "word", "found", "part"] (g_holds S)) :=
  FnG.mk' z.F_holds sc_holds (g_holds S) (fun cdv A outer s H E hG hr =>
    (dss_cons (ds_set (i := 2) sc_holds.nd (by rfl) (by first | exact .inl rfl | exact .inr rfl) (de_ix (dv 0) de_int))
      (dss_cons (ds_if (dt_cmp op_inU od_in (dv 2) (de_glob (v := .ref (He.ga K "LEAVES")) (by rfl) z.g_LEAVES rfl z.d_LEAVES) (by rfl))
      (dss_one (ds_ret (de_cmp (op_eqD (u64 hr)) od_eq (de_call ((ok_is_open z).mono (Nat.le_trans (by decide) hk)) hG hr (by rfl) z.g_is_open z.F_is_open.kp (b_is_open z) .nil (fun _ _ => .nil) (da_cons (dv 1) (da_cons (de_ix (dv 0) de_int) da_nil))) (de_cmp (op_eqD (u64 hr)) od_eq (dv 2) de_str (by rfl)) (by rfl))))
      dss_nil)
      (dss_cons (ds_if (dt_cmp op_inU od_in (dv 2) (de_glob (v := .ref (He.ga K "SIMPLE")) (by rfl) z.g_SIMPLE rfl z.d_SIMPLE) (by rfl))
      (dss_one (ds_ret (de_cmp (op_eqD (u64 hr)) od_eq (dv 2) de_str (by rfl))))
      dss_nil)
      (dss_cons (ds_setLc (by rfl) sc_holds.nd (by rfl) (by rfl) (by rfl) (di_seq (de_call ((ok_parts_of z).mono (Nat.le_trans (by decide) hk)) hG hr (by rfl) z.g_parts_of z.F_parts_of.kp (b_parts_of z) .nil (fun _ _ => .nil) (da_cons (dv 0) da_nil))) (blkOk_by (own := [("part", 4)]) (by rfl)) (by decide) (fun _ _ _ _ _ => (dg_name sc_holds.nd (by rfl) (by first | exact .inl rfl | exact .inr rfl))) (fun _ _ _ _ _ => dts_nil) (fun _ _ _ _ _ => (de_call R hG hr (by rfl) z.g_holds z.F_holds.kp (b_holds z) .nil (fun _ _ => .nil) (da_cons (dv 4) (da_cons (dv 1) da_nil)))))
      (dss_cons (ds_if (dt_cmp (op_eqD (u64 hr)) od_eq (dv 2) de_str (by rfl))
      (dss_one (ds_ret (de_not (de_ix (dv 3) de_int))))
      dss_nil)
      (dss_one (ds_ret (de_if (dt_cmp (op_eqD (u64 hr)) od_eq (dv 2) de_str (by rfl)) (de_callB (cr_all (by rfl)) cd_all (by rfl) z.n_all boot_all (da_cons (dv 3) da_nil)) (de_callB (cr_any (by rfl)) cd_any (by rfl) z.n_any boot_any (da_cons (dv 3) da_nil))))))))))) fun _ _ _ _ q => q
theorem ok_holds (z : Fx K mg) : ∀ r, FnG P w K mg base (2 + r) (He.ga K "holds") z.fd_holds ["request", "row"] (S_holds r)
  | 0 => lift_holds 0 (w_holds z (Nat.le_refl 1) FnG.no)
  | r + 1 => lift_holds (r + 1) (w_holds z (k := 2 + r) (by omega) (ok_holds z r))
theorem sc_difference : FnScope ["request", "other", "width", "number", "row"] ["request", "other", "width"] (defScope st_difference) := ⟨rfl, rfl, rfl, by decide +kernel, rfl, by decide +kernel, by decide +kernel⟩
theorem b_difference (z : Fx K mg) : Binds K z.fd_difference ["request", "other", "width"] [] := z.F_difference.bindsN fun _ _ _ _ _ _ us hl => match us, hl with | [_, _, _], _ => rfl
theorem ok_difference (z : Fx K mg) : FnG P w K mg base 17 (He.ga K "difference") z.fd_difference ["request", "other", "width"] S_difference :=
  lift_difference (FnG.mk' z.F_difference sc_difference g_difference (fun cdv A outer s H E hG hr =>
    (dss_cons (ds_expr (de_call ((ok_need_request z).mono (by decide)) hG hr (by rfl) z.g_need_request z.F_need_request.kp (b_need_request z) .nil (fun _ _ => .nil) (da_cons (dv 0) da_nil)))
      (dss_cons (ds_expr (de_call ((ok_need_request z).mono (by decide)) hG hr (by rfl) z.g_need_request z.F_need_request.kp (b_need_request z) .nil (fun _ _ => .nil) (da_cons (dv 1) da_nil)))
      (dss_cons (ds_expr (de_call ((ok_need_width z).mono (by decide)) hG hr (by rfl) z.g_need_width z.F_need_width.kp (b_need_width z) .nil (fun _ _ => .nil) (da_cons (dv 2) (da_cons (de_glob (v := .int 10) (by rfl) z.v_WIDEST_JUDGED ⟨_, rfl⟩ (fun _ _ => .int _)) da_nil))))
      (dss_cons (ds_expr (de_call ((ok_need_holes z).mono (by decide)) hG hr (by rfl) z.g_need_holes z.F_need_holes.kp (b_need_holes z) .nil (fun _ _ => .nil) (da_cons (de_bin op_addU od_add (de_call ((ok_holes_in z 12).mono (by decide)) hG hr (by rfl) z.g_holes_in z.F_holes_in.kp (b_holes_in z) .nil (fun _ _ => .nil) (da_cons (dv 0) da_nil)) (de_call ((ok_holes_in z 12).mono (by decide)) hG hr (by rfl) z.g_holes_in z.F_holes_in.kp (b_holes_in z) .nil (fun _ _ => .nil) (da_cons (dv 1) da_nil))) (da_cons (dv 2) da_nil))))
      (dss_cons (ds_for (passes_of (by rfl)) (by rfl) (di_range1 (by rfl) z.n_range (da_cons (de_bin op_shl od_shl de_int (dv 2)) da_nil)) (dg_name sc_difference.nd (by rfl) (by first | exact .inl rfl | exact .inr rfl)) (dss_cons (ds_set (i := 4) sc_difference.nd (by rfl) (by first | exact .inl rfl | exact .inr rfl) (de_call ((ok_row_in z).mono (by decide)) hG hr (by rfl) z.g_row_in z.F_row_in.kp (b_row_in z) .nil (fun _ _ => .nil) (da_cons (dv 2) (da_cons (dv 3) da_nil))))
      (dss_one (ds_if (dt_cmp (op_neD (u64 hr)) od_ne (de_call ((ok_holds z 12).mono (by decide)) hG hr (by rfl) z.g_holds z.F_holds.kp (b_holds z) .nil (fun _ _ => .nil) (da_cons (dv 0) (da_cons (dv 4) da_nil))) (de_call ((ok_holds z 12).mono (by decide)) hG hr (by rfl) z.g_holds z.F_holds.kp (b_holds z) .nil (fun _ _ => .nil) (da_cons (dv 1) (da_cons (dv 4) da_nil))) (by rfl))
      (dss_one (ds_ret (dv 4)))
      dss_nil))))
      (dss_one (ds_ret de_non)))))))) fun _ _ _ _ q => q)
theorem sc__law_cell : FnScope ["script", "k"] ["script", "k"] (defScope st__law_cell) := ⟨rfl, rfl, rfl, by decide +kernel, rfl, by decide +kernel, by decide +kernel⟩
theorem b__law_cell (z : Fx K mg) : Binds K z.fd__law_cell ["script", "k"] [] := z.F__law_cell.bindsN fun _ _ _ _ _ _ us hl => match us, hl with | [_, _], _ => rfl
theorem ok__law_cell (z : Fx K mg) : FnG P w K mg base 1 (He.ga K "_law_cell") z.fd__law_cell ["script", "k"] S__law_cell :=
  lift__law_cell (FnG.mk' z.F__law_cell sc__law_cell (g__law_cell 104395301 61) (fun cdv A outer s H E hG hr =>
    (dss_cons (ds_if (dt_cmp op_lt od_lt (dv 1) (de_callB call_lenU cd_len (by rfl) z.n_len boot_len (da_cons (dv 0) da_nil)) (by rfl))
      (dss_one (ds_ret (de_ix (dv 0) (dv 1))))
      dss_nil)
      (dss_one (ds_ret (de_bin op_addU od_add (de_bin op_mulU od_mul de_int (dv 1)) de_int))))) fun _ _ _ _ q => q)
theorem sc__law_box : FnScope ["cell"] ["cell"] (defScope st__law_box) := ⟨rfl, rfl, rfl, by decide +kernel, rfl, by decide +kernel, by decide +kernel⟩
theorem b__law_box (z : Fx K mg) : Binds K z.fd__law_box ["cell"] [] := z.F__law_box.bindsN fun _ _ _ _ _ _ us hl => match us, hl with | [_], _ => rfl
theorem ok__law_box (z : Fx K mg) : FnG P w K mg base 1 (He.ga K "_law_box") z.fd__law_box ["cell"] S__law_box :=
  lift__law_box (FnG.mk' z.F__law_box sc__law_box g__law_box (fun cdv A outer s H E hG hr =>
    (dss_one (ds_ret (de_lstM (da_cons (de_callB (call_max2 (by rfl)) cd_max2 (by rfl) z.n_max boot_max (da_cons de_int (da_cons (de_bin op_sub od_sub (dv 0) (de_bin op_pow od_pow de_int de_int)) da_nil))) (da_cons (de_bin op_mod od_mod (dv 0) de_int) (da_cons de_int da_nil))))))) fun _ _ _ _ q => q)
theorem sc__law_take : FnScope ["box", "many", "one", "two", "digit"] ["box", "many"] (defScope st__law_take) := ⟨rfl, rfl, rfl, by decide +kernel, rfl, by decide +kernel, by decide +kernel⟩
theorem b__law_take (z : Fx K mg) : Binds K z.fd__law_take ["box", "many"] [] := z.F__law_take.bindsN fun _ _ _ _ _ _ us hl => match us, hl with | [_, _], _ => rfl
theorem ok__law_take (z : Fx K mg) : FnG P w K mg base 1 (He.ga K "_law_take") z.fd__law_take ["box", "many"] S__law_take :=
  lift__law_take (by decide) (FnG.mk' z.F__law_take sc__law_take (g__law_take 61) (fun cdv A outer s H E hG hr =>
    (dss_cons (ds_if (dt_cmp op_gt od_gt (de_ix (dv 0) de_int) de_int (by rfl))
      (dss_cons (ds_set (i := 4) sc__law_take.nd (by rfl) (by first | exact .inl rfl | exact .inr rfl) (de_bin op_mod od_mod (de_ix (dv 0) de_int) (dv 1)))
      (dss_cons (ds_asg (de_bin op_fdiv od_fdiv (de_ix (dv 0) de_int) (dv 1)) (dg_sub (dv 0) de_int))
      (dss_one (ds_ret (dv 4)))))
      dss_nil)
      (dss_cons (ds_asg (de_bin op_addU od_add (de_ix (dv 0) de_int) de_int) (dg_sub (dv 0) de_int))
      (dss_cons (ds_set (i := 2) sc__law_take.nd (by rfl) (by first | exact .inl rfl | exact .inr rfl) (de_bin op_mod od_mod (de_bin op_pow od_pow (de_bin op_addU od_add (de_bin op_addU od_add (de_ix (dv 0) de_int) (de_bin op_mulU od_mul de_int (de_ix (dv 0) de_int))) de_int) de_int) de_int))
      (dss_cons (ds_set (i := 3) sc__law_take.nd (by rfl) (by first | exact .inl rfl | exact .inr rfl) (de_bin op_mod od_mod (de_bin op_pow od_pow (de_bin op_addU od_add (de_bin op_addU od_add (de_bin op_fdiv od_fdiv (dv 2) de_int) (de_bin op_mulU od_mul (de_bin op_mulU od_mul de_int (de_ix (dv 0) de_int)) (de_ix (dv 0) de_int))) de_int) de_int) de_int))
      (dss_one (ds_ret (de_bin op_mod od_mod (de_bin op_addU od_add (de_bin op_fdiv od_fdiv (dv 2) de_int) (de_bin op_mulU od_mul de_int (de_bin op_fdiv od_fdiv (dv 3) de_int))) (dv 1))))))))) fun _ _ _ _ q => q)
theorem sc__law_even : FnScope ["told", "due"] ["told", "due"] (defScope st__law_even) := ⟨rfl, rfl, rfl, by decide +kernel, rfl, by decide +kernel, by decide +kernel⟩
theorem b__law_even (z : Fx K mg) : Binds K z.fd__law_even ["told", "due"] [] := z.F__law_even.bindsN fun _ _ _ _ _ _ us hl => match us, hl with | [_, _], _ => rfl
theorem ok__law_even (z : Fx K mg) : FnG P w K mg base 1 (He.ga K "_law_even") z.fd__law_even ["told", "due"] S__law_even :=
  lift__law_even (FnG.mk' z.F__law_even sc__law_even g__law_even (fun cdv A outer s H E hG hr =>
    (dss_one (ds_ret (de_and (de_cmp (op_eqD (u64 hr)) od_eqV (dv 0) (dv 1) (by rfl)) (de_one (de_cmp (op_eqD (u64 hr)) od_eq (de_callB (call_reprU hG (u64 hr)) cd_reprV (by rfl) z.n_repr boot_repr (da_cons (dv 0) da_nil)) (de_callB (call_reprU hG (u64 hr)) cd_reprV (by rfl) z.n_repr boot_repr (da_cons (dv 1) da_nil)) (by rfl))))))) fun _ _ _ _ q => q)
theorem sc__law_request : FnScope ["box", "holes", "deep", "way", "one"] ["box", "holes", "deep"] (defScope st__law_request) := ⟨rfl, rfl, rfl, by decide +kernel, rfl, by decide +kernel, by decide +kernel⟩
theorem b__law_request (z : Fx K mg) : Binds K z.fd__law_request ["box", "holes", "deep"] [] := z.F__law_request.bindsN fun _ _ _ _ _ _ us hl => match us, hl with | [_, _, _], _ => rfl
theorem w__law_request (z : Fx K mg) {k : Nat} {S : Nd.Spec} (hk : 1 ≤ k) (R : FnG P w K mg base k (He.ga K "_law_request") z.fd__law_request ["box", "holes", "deep"] S) : FnG P w K mg base (k + 1) (He.ga K "_law_request") z.fd__law_request ["box", "holes", "deep"] (wpS ["box", "holes", "deep"] ["box", "holes", "deep", "way", "one"] (g__law_request S)) :=
  FnG.mk' z.F__law_request sc__law_request (g__law_request S) (fun cdv A outer s H E hG hr =>
    (dss_cons (ds_set (i := 3) sc__law_request.nd (by rfl) (by first | exact .inl rfl | exact .inr rfl) (de_if (dt_cmp op_gt od_gt (dv 2) de_int (by rfl)) (de_call ((ok__law_take z).mono (Nat.le_trans (by decide) hk)) hG hr (by rfl) z.g__law_take z.F__law_take.kp (b__law_take z) .nil (fun _ _ => .nil) (da_cons (dv 0) (da_cons de_int da_nil))) de_int))
      (dss_cons (ds_if (dt_cmp op_lt od_lt (dv 3) de_int (by rfl))
      (dss_one (ds_ret (de_tup (da_cons de_str (da_cons (de_call R hG hr (by rfl) z.g__law_request z.F__law_request.kp (b__law_request z) .nil (fun _ _ => .nil) (da_cons (dv 0) (da_cons (dv 1) (da_cons (de_bin op_sub od_sub (dv 2) de_int) da_nil)))) da_nil)))))
      dss_nil)
      (dss_cons (ds_if (dt_cmp op_lt od_lt (dv 3) de_int (by rfl))
      (dss_cons (ds_set (i := 4) sc__law_request.nd (by rfl) (by first | exact .inl rfl | exact .inr rfl) (de_call R hG hr (by rfl) z.g__law_request z.F__law_request.kp (b__law_request z) .nil (fun _ _ => .nil) (da_cons (dv 0) (da_cons (dv 1) (da_cons (de_bin op_sub od_sub (dv 2) de_int) da_nil)))))
      (dss_one (ds_ret (de_tup (da_cons (de_ix (de_lst (da_cons de_str (da_cons de_str da_nil))) (de_bin op_mod od_mod (dv 3) de_int)) (da_cons (dv 4) (da_cons (de_call R hG hr (by rfl) z.g__law_request z.F__law_request.kp (b__law_request z) .nil (fun _ _ => .nil) (da_cons (dv 0) (da_cons (dv 1) (da_cons (de_bin op_sub od_sub (dv 2) de_int) da_nil)))) da_nil)))))))
      dss_nil)
      (dss_cons (ds_if (dt_cmp (op_eqD (u64 hr)) od_eq (de_call ((ok__law_take z).mono (Nat.le_trans (by decide) hk)) hG hr (by rfl) z.g__law_take z.F__law_take.kp (b__law_take z) .nil (fun _ _ => .nil) (da_cons (dv 0) (da_cons de_int da_nil))) de_int (by rfl))
      (dss_one (ds_ret (de_tup (da_cons (de_ix (de_lst (da_cons de_str (da_cons de_str da_nil))) (de_call ((ok__law_take z).mono (Nat.le_trans (by decide) hk)) hG hr (by rfl) z.g__law_take z.F__law_take.kp (b__law_take z) .nil (fun _ _ => .nil) (da_cons (dv 0) (da_cons de_int da_nil)))) da_nil))))
      dss_nil)
      (dss_one (ds_ret (de_tup (da_cons (de_ix (de_lst (da_cons de_str (da_cons de_str da_nil))) (de_call ((ok__law_take z).mono (Nat.le_trans (by decide) hk)) hG hr (by rfl) z.g__law_take z.F__law_take.kp (b__law_take z) .nil (fun _ _ => .nil) (da_cons (dv 0) (da_cons de_int da_nil)))) (da_cons (de_ix (dv 1) (de_call ((ok__law_take z).mono (Nat.le_trans (by decide) hk)) hG hr (by rfl) z.g__law_take z.F__law_take.kp (b__law_take z) .nil (fun _ _ => .nil) (da_cons (dv 0) (da_cons (de_callB call_lenU cd_len (by rfl) z.n_len boot_len (da_cons (dv 1) da_nil)) da_nil)))) da_nil)))))))))) fun _ _ _ _ q => q
theorem ok__law_request (z : Fx K mg) : ∀ r, FnG P w K mg base (2 + r) (He.ga K "_law_request") z.fd__law_request ["box", "holes", "deep"] (S__law_request r)
  | 0 => lift__law_request 0 (w__law_request z (Nat.le_refl 1) FnG.no)
  | r + 1 => lift__law_request (r + 1) (w__law_request z (k := 2 + r) (by omega) (ok__law_request z r))
theorem sc__law_parts : FnScope ["request", "part"] ["request"] (defScope st__law_parts) := ⟨rfl, rfl, rfl, by decide +kernel, rfl, by decide +kernel, by decide +kernel⟩
theorem b__law_parts (z : Fx K mg) : Binds K z.fd__law_parts ["request"] [] := z.F__law_parts.bindsN fun _ _ _ _ _ _ us hl => match us, hl with | [_], _ => rfl
theorem ok__law_parts (z : Fx K mg) : FnG P w K mg base 1 (He.ga K "_law_parts") z.fd__law_parts ["request"] S__law_parts :=
  lift__law_parts (FnG.mk' z.F__law_parts sc__law_parts g__law_parts (fun cdv A outer s H E hG hr =>
    (dss_one (ds_ret (de_lc (by rfl) sc__law_parts.nd (di_seq (de_slice (dv 0) (do_some de_int) do_none)) (blkOk_by (own := [("part", 1)]) (by rfl)) (by decide) (fun _ _ _ _ _ => (dg_name sc__law_parts.nd (by rfl) (by first | exact .inl rfl | exact .inr rfl))) (fun _ _ _ _ _ => (dts_one (dt_val (de_callB call_isiU cd_isi (by rfl) z.n_isinstance boot_isinstance (da_cons (dv 1) (da_cons (de_bltn (v := .ty "tuple") (by rfl) z.n_tuple boot_tuple rfl (fun _ _ => .cls _)) da_nil)))))) (fun _ _ _ _ _ => (dv 1)))))) fun _ _ _ _ q => q)
theorem sc__law_fits : FnScope ["request", "row", "word", "found", "part"] ["request", "row"] (defScope st__law_fits) := ⟨rfl, rfl, rfl, by decide +kernel, rfl, by decide +kernel, by decide +kernel⟩
theorem b__law_fits (z : Fx K mg) : Binds K z.fd__law_fits ["request", "row"] [] := z.F__law_fits.bindsN fun _ _ _ _ _ _ us hl => match us, hl with | [_, _], _ => rfl
theorem w__law_fits (z : Fx K mg) {k : Nat} {S : Nd.Spec} (hk : 1 ≤ k) (R : FnG P w K mg base k (He.ga K "_law_fits") z.fd__law_fits ["request", "row"] S) : FnG P w K mg base (k + 1) (He.ga K "_law_fits") z.fd__law_fits ["request", "row"] (wpS ["request", "row"] ["request", "row", "word", "found", "part"] (g__law_fits S)) :=
  FnG.mk' z.F__law_fits sc__law_fits (g__law_fits S) (fun cdv A outer s H E hG hr =>
    (dss_cons (ds_set (i := 2) sc__law_fits.nd (by rfl) (by first | exact .inl rfl | exact .inr rfl) (de_ix (dv 0) de_int))
      (dss_cons (ds_if (DW.dt (dw_or (dt_cmp (op_eqD (u64 hr)) od_eq (dv 2) de_str (by rfl)) (dw_or1 (dt_cmp (op_eqD (u64 hr)) od_eq (dv 2) de_str (by rfl)))))
      (dss_one (ds_ret (de_cmp (op_eqD (u64 hr)) od_eq (de_cmp (op_eqD (u64 hr)) od_eq (de_ix (dv 1) (de_ix (dv 0) de_int)) de_str (by rfl)) (de_cmp (op_eqD (u64 hr)) od_eq (dv 2) de_str (by rfl)) (by rfl))))
      dss_nil)
      (dss_cons (ds_if (DW.dt (dw_or (dt_cmp (op_eqD (u64 hr)) od_eq (dv 2) de_str (by rfl)) (dw_or1 (dt_cmp (op_eqD (u64 hr)) od_eq (dv 2) de_str (by rfl)))))
      (dss_one (ds_ret (de_cmp (op_eqD (u64 hr)) od_eq (dv 2) de_str (by rfl))))
      dss_nil)
      (dss_cons (ds_setLc (by rfl) sc__law_fits.nd (by rfl) (by rfl) (by rfl) (di_seq (de_call ((ok__law_parts z).mono (Nat.le_trans (by decide) hk)) hG hr (by rfl) z.g__law_parts z.F__law_parts.kp (b__law_parts z) .nil (fun _ _ => .nil) (da_cons (dv 0) da_nil))) (blkOk_by (own := [("part", 4)]) (by rfl)) (by decide) (fun _ _ _ _ _ => (dg_name sc__law_fits.nd (by rfl) (by first | exact .inl rfl | exact .inr rfl))) (fun _ _ _ _ _ => dts_nil) (fun _ _ _ _ _ => (de_call R hG hr (by rfl) z.g__law_fits z.F__law_fits.kp (b__law_fits z) .nil (fun _ _ => .nil) (da_cons (dv 4) (da_cons (dv 1) da_nil)))))
      (dss_cons (ds_if (dt_cmp (op_eqD (u64 hr)) od_eq (dv 2) de_str (by rfl))
      (dss_one (ds_ret (de_not (de_ix (dv 3) de_int))))
      dss_nil)
      (dss_one (ds_ret (de_if (dt_cmp (op_eqD (u64 hr)) od_eq (dv 2) de_str (by rfl)) (de_cmp (op_eqD (u64 hr)) od_eq (dv 3) (de_lst (da_cons de_bl (da_cons de_bl da_nil))) (by rfl)) (de_cmp op_inU od_in de_bl (dv 3) (by rfl))))))))))) fun _ _ _ _ q => q
theorem ok__law_fits (z : Fx K mg) : ∀ r, FnG P w K mg base (2 + r) (He.ga K "_law_fits") z.fd__law_fits ["request", "row"] (S__law_fits r)
  | 0 => lift__law_fits 0 (w__law_fits z (Nat.le_refl 1) FnG.no)
  | r + 1 => lift__law_fits (r + 1) (w__law_fits z (k := 2 + r) (by omega) (ok__law_fits z r))
theorem sc__law_holes : FnScope ["request", "found", "part"] ["request"] (defScope st__law_holes) := ⟨rfl, rfl, rfl, by decide +kernel, rfl, by decide +kernel, by decide +kernel⟩
theorem b__law_holes (z : Fx K mg) : Binds K z.fd__law_holes ["request"] [] := z.F__law_holes.bindsN fun _ _ _ _ _ _ us hl => match us, hl with | [_], _ => rfl
theorem w__law_holes (z : Fx K mg) {k : Nat} {S : Nd.Spec} (hk : 1 ≤ k) (R : FnG P w K mg base k (He.ga K "_law_holes") z.fd__law_holes ["request"] S) : FnG P w K mg base (k + 1) (He.ga K "_law_holes") z.fd__law_holes ["request"] (wpS ["request"] ["request", "found", "part"] (g__law_holes S)) :=
  FnG.mk' z.F__law_holes sc__law_holes (g__law_holes S) (fun cdv A outer s H E hG hr =>
    (dss_cons (ds_if (DW.dt (dw_or (dt_cmp (op_eqD (u64 hr)) od_eq (de_ix (dv 0) de_int) de_str (by rfl)) (dw_or1 (dt_cmp (op_eqD (u64 hr)) od_eq (de_ix (dv 0) de_int) de_str (by rfl)))))
      (dss_one (ds_ret (de_lst (da_cons (de_ix (dv 0) de_int) da_nil))))
      dss_nil)
      (dss_cons (ds_set (i := 1) sc__law_holes.nd (by rfl) (by first | exact .inl rfl | exact .inr rfl) (de_lstM da_nil))
      (dss_cons (ds_for (passes_of (by rfl)) (by rfl) (di_seq (de_call ((ok__law_parts z).mono (Nat.le_trans (by decide) hk)) hG hr (by rfl) z.g__law_parts z.F__law_parts.kp (b__law_parts z) .nil (fun _ _ => .nil) (da_cons (dv 0) da_nil))) (dg_name sc__law_holes.nd (by rfl) (by first | exact .inl rfl | exact .inr rfl)) (dss_one (ds_expr (de_lm lm_extend PySem.F.plainAttrs_list PySem.F.slot_list_extend PySem.F.type_list_extend mt_extend (dv 1) (da_cons (de_call R hG hr (by rfl) z.g__law_holes z.F__law_holes.kp (b__law_holes z) .nil (fun _ _ => .nil) (da_cons (dv 2) da_nil)) da_nil)))))
      (dss_one (ds_ret (dv 1))))))) fun _ _ _ _ q => q
theorem ok__law_holes (z : Fx K mg) : ∀ r, FnG P w K mg base (2 + r) (He.ga K "_law_holes") z.fd__law_holes ["request"] (S__law_holes r)
  | 0 => lift__law_holes 0 (w__law_holes z (Nat.le_refl 1) FnG.no)
  | r + 1 => lift__law_holes (r + 1) (w__law_holes z (k := 2 + r) (by omega) (ok__law_holes z r))
theorem sc__law_leaf_bent : FnScope ["box", "request", "holes", "at"] ["box", "request", "holes"] (defScope st__law_leaf_bent) := ⟨rfl, rfl, rfl, by decide +kernel, rfl, by decide +kernel, by decide +kernel⟩
theorem b__law_leaf_bent (z : Fx K mg) : Binds K z.fd__law_leaf_bent ["box", "request", "holes"] [] := z.F__law_leaf_bent.bindsN fun _ _ _ _ _ _ us hl => match us, hl with | [_, _, _], _ => rfl
theorem w__law_leaf_bent (z : Fx K mg) {k : Nat} {S : Nd.Spec} (hk : 1 ≤ k) (R : FnG P w K mg base k (He.ga K "_law_leaf_bent") z.fd__law_leaf_bent ["box", "request", "holes"] S) : FnG P w K mg base (k + 1) (He.ga K "_law_leaf_bent") z.fd__law_leaf_bent ["box", "request", "holes"] (wpS ["box", "request", "holes"] ["box", "request", "holes", "at"] (g__law_leaf_bent S)) :=
  FnG.mk' z.F__law_leaf_bent sc__law_leaf_bent (g__law_leaf_bent S) (fun cdv A outer s H E hG hr =>
    (dss_cons (ds_if (dt_cmp op_inU od_in (de_ix (dv 1) de_int) (de_tup (da_cons de_str (da_cons de_str (da_cons de_str (da_cons de_str da_nil))))) (by rfl))
      (dss_one (ds_ret (de_ix (de_lst (da_cons (de_tup (da_cons de_str (da_cons (de_ix (dv 2) (de_call ((ok__law_take z).mono (Nat.le_trans (by decide) hk)) hG hr (by rfl) z.g__law_take z.F__law_take.kp (b__law_take z) .nil (fun _ _ => .nil) (da_cons (dv 0) (da_cons (de_callB call_lenU cd_len (by rfl) z.n_len boot_len (da_cons (dv 2) da_nil)) da_nil)))) da_nil))) (da_cons (de_tup (da_cons de_str (da_cons (de_ix (dv 2) de_int) da_nil))) (da_cons (de_tup (da_cons de_str da_nil)) da_nil)))) (de_call ((ok__law_take z).mono (Nat.le_trans (by decide) hk)) hG hr (by rfl) z.g__law_take z.F__law_take.kp (b__law_take z) .nil (fun _ _ => .nil) (da_cons (dv 0) (da_cons de_int da_nil))))))
      dss_nil)
      (dss_cons (ds_set (i := 3) sc__law_leaf_bent.nd (by rfl) (by first | exact .inl rfl | exact .inr rfl) (de_bin op_addU od_add de_int (de_call ((ok__law_take z).mono (Nat.le_trans (by decide) hk)) hG hr (by rfl) z.g__law_take z.F__law_take.kp (b__law_take z) .nil (fun _ _ => .nil) (da_cons (dv 0) (da_cons (de_bin op_sub od_sub (de_callB call_lenU cd_len (by rfl) z.n_len boot_len (da_cons (dv 1) da_nil)) de_int) da_nil)))))
      (dss_one (ds_ret (de_bin op_addU od_add (de_bin op_addU od_add (de_slice (dv 1) do_none (do_some (dv 3))) (de_tup (da_cons (de_call R hG hr (by rfl) z.g__law_leaf_bent z.F__law_leaf_bent.kp (b__law_leaf_bent z) .nil (fun _ _ => .nil) (da_cons (dv 0) (da_cons (de_ix (dv 1) (dv 3)) (da_cons (dv 2) da_nil)))) da_nil))) (de_slice (dv 1) (do_some (de_bin op_addU od_add (dv 3) de_int)) do_none))))))) fun _ _ _ _ q => q
theorem ok__law_leaf_bent (z : Fx K mg) : ∀ r, FnG P w K mg base (2 + r) (He.ga K "_law_leaf_bent") z.fd__law_leaf_bent ["box", "request", "holes"] (S__law_leaf_bent r)
  | 0 => lift__law_leaf_bent 0 (w__law_leaf_bent z (Nat.le_refl 1) FnG.no)
  | r + 1 => lift__law_leaf_bent (r + 1) (w__law_leaf_bent z (k := 2 + r) (by omega) (ok__law_leaf_bent z r))
theorem sc__law_due : FnScope ["one", "other", "width", "number", "row", "hole"] ["one", "other", "width"] (defScope st__law_due) := ⟨rfl, rfl, rfl, by decide +kernel, rfl, by decide +kernel, by decide +kernel⟩
theorem b__law_due (z : Fx K mg) : Binds K z.fd__law_due ["one", "other", "width"] [] := z.F__law_due.bindsN fun _ _ _ _ _ _ us hl => match us, hl with | [_, _, _], _ => rfl
theorem ok__law_due (z : Fx K mg) : FnG P w K mg base 15 (He.ga K "_law_due") z.fd__law_due ["one", "other", "width"] S__law_due :=
  lift__law_due (FnG.mk' z.F__law_due sc__law_due g__law_due (fun cdv A outer s H E hG hr =>
    (dss_cons (ds_for (passes_of (by rfl)) (by rfl) (di_range1 (by rfl) z.n_range (da_cons (de_bin op_shl od_shl de_int (dv 2)) da_nil)) (dg_name sc__law_due.nd (by rfl) (by first | exact .inl rfl | exact .inr rfl)) (dss_cons (ds_set (i := 4) sc__law_due.nd (by rfl) (by first | exact .inl rfl | exact .inr rfl) (de_join de_str (de_lc (by rfl) sc__law_due.nd (di_range1 (by rfl) z.n_range (da_cons (dv 2) da_nil)) (blkOk_by (own := [("hole", 5)]) (by rfl)) (by decide) (fun _ _ _ _ _ => (dg_name sc__law_due.nd (by rfl) (by first | exact .inl rfl | exact .inr rfl))) (fun _ _ _ _ _ => dts_nil) (fun _ _ _ _ _ => (de_ix de_str (de_bin op_and od_band (de_bin op_shr od_shr (dv 3) (de_bin op_sub od_sub (de_bin op_sub od_sub (dv 2) de_int) (dv 5))) de_int))))))
      (dss_one (ds_if (dt_cmp (op_neD (u64 hr)) od_ne (de_call ((ok__law_fits z 12).mono (by decide)) hG hr (by rfl) z.g__law_fits z.F__law_fits.kp (b__law_fits z) .nil (fun _ _ => .nil) (da_cons (dv 0) (da_cons (dv 4) da_nil))) (de_call ((ok__law_fits z 12).mono (by decide)) hG hr (by rfl) z.g__law_fits z.F__law_fits.kp (b__law_fits z) .nil (fun _ _ => .nil) (da_cons (dv 1) (da_cons (dv 4) da_nil))) (by rfl))
      (dss_one (ds_ret (dv 4)))
      dss_nil))))
      (dss_one (ds_ret de_non)))) fun _ _ _ _ q => q)
theorem sc_law : FnScope ["script", "k", "box", "width", "holes", "one", "other", "last", "hole", "due", "at"] ["script"] (defScope st_law) := ⟨rfl, rfl, rfl, by decide +kernel, rfl, by decide +kernel, by decide +kernel⟩
theorem b_law (z : Fx K mg) : Binds K z.fd_law ["script"] [] := z.F_law.bindsN fun _ _ _ _ _ _ us hl => match us, hl with | [_], _ => rfl
theorem ok_law (z : Fx K mg) : FnG P w K mg base 18 (He.ga K "law") z.fd_law ["script"] S_law :=
  (FnG.mk' z.F_law sc_law g_law (fun cdv A outer s H E hG hr =>
    (dss_cons (ds_for (passes_of (by rfl)) (by rfl) (di_range1 (by rfl) z.n_range (da_cons (de_callB (call_max2 (by rfl)) cd_max2 (by rfl) z.n_max boot_max (da_cons de_int (da_cons (de_callB (call_min2 (by rfl)) cd_min2 (by rfl) z.n_min boot_min (da_cons de_int (da_cons (de_callB call_lenU cd_len (by rfl) z.n_len boot_len (da_cons (dv 0) da_nil)) da_nil))) da_nil))) da_nil)) (dg_name sc_law.nd (by rfl) (by first | exact .inl rfl | exact .inr rfl)) (dss_cons (ds_set (i := 2) sc_law.nd (by rfl) (by first | exact .inl rfl | exact .inr rfl) (de_call ((ok__law_box z).mono (by decide)) hG hr (by rfl) z.g__law_box z.F__law_box.kp (b__law_box z) .nil (fun _ _ => .nil) (da_cons (de_call ((ok__law_cell z).mono (by decide)) hG hr (by rfl) z.g__law_cell z.F__law_cell.kp (b__law_cell z) .nil (fun _ _ => .nil) (da_cons (dv 0) (da_cons (dv 1) da_nil))) da_nil)))
      (dss_cons (ds_set (i := 3) sc_law.nd (by rfl) (by first | exact .inl rfl | exact .inr rfl) (de_ix (de_lst (da_cons (de_bin op_addU od_add de_int (de_call ((ok__law_take z).mono (by decide)) hG hr (by rfl) z.g__law_take z.F__law_take.kp (b__law_take z) .nil (fun _ _ => .nil) (da_cons (dv 2) (da_cons de_int da_nil)))) (da_cons (de_bin op_addU od_add de_int (de_call ((ok__law_take z).mono (by decide)) hG hr (by rfl) z.g__law_take z.F__law_take.kp (b__law_take z) .nil (fun _ _ => .nil) (da_cons (dv 2) (da_cons de_int da_nil)))) (da_cons (de_bin op_addU od_add de_int (de_bin op_mulU od_mul (de_call ((ok__law_take z).mono (by decide)) hG hr (by rfl) z.g__law_take z.F__law_take.kp (b__law_take z) .nil (fun _ _ => .nil) (da_cons (dv 2) (da_cons de_int da_nil))) (de_callTy call_intU cd_int (by rfl) z.n_int boot_int (da_cons (de_cmp (op_eqD (u64 hr)) od_eq (dv 1) de_int (by rfl)) da_nil)))) da_nil)))) (de_call ((ok__law_take z).mono (by decide)) hG hr (by rfl) z.g__law_take z.F__law_take.kp (b__law_take z) .nil (fun _ _ => .nil) (da_cons (dv 2) (da_cons de_int da_nil)))))
      (dss_cons (ds_setLc (by rfl) sc_law.nd (by rfl) (by rfl) (by rfl) (di_range1 (by rfl) z.n_range (da_cons de_int da_nil)) (blkOk_by (own := [("at", 10)]) (by rfl)) (by decide) (fun _ _ _ _ _ => (dg_name sc_law.nd (by rfl) (by first | exact .inl rfl | exact .inr rfl))) (fun _ _ _ _ _ => dts_nil) (fun _ _ _ _ _ => (de_call ((ok__law_take z).mono (by decide)) hG hr (by rfl) z.g__law_take z.F__law_take.kp (b__law_take z) .nil (fun _ _ => .nil) (da_cons (dv 2) (da_cons (dv 3) da_nil)))))
      (dss_cons (ds_set (i := 5) sc_law.nd (by rfl) (by first | exact .inl rfl | exact .inr rfl) (de_call ((ok__law_request z 5).mono (by decide)) hG hr (by rfl) z.g__law_request z.F__law_request.kp (b__law_request z) .nil (fun _ _ => .nil) (da_cons (dv 2) (da_cons (dv 4) (da_cons (de_bin op_addU od_add de_int (de_call ((ok__law_take z).mono (by decide)) hG hr (by rfl) z.g__law_take z.F__law_take.kp (b__law_take z) .nil (fun _ _ => .nil) (da_cons (dv 2) (da_cons de_int da_nil)))) da_nil)))))
      (dss_cons (ds_for (passes_of (by rfl)) (by rfl) (di_seq (de_lst (da_cons (de_call ((ok__law_leaf_bent z 5).mono (by decide)) hG hr (by rfl) z.g__law_leaf_bent z.F__law_leaf_bent.kp (b__law_leaf_bent z) .nil (fun _ _ => .nil) (da_cons (dv 2) (da_cons (dv 5) (da_cons (dv 4) da_nil)))) (da_cons (de_call ((ok__law_request z 5).mono (by decide)) hG hr (by rfl) z.g__law_request z.F__law_request.kp (b__law_request z) .nil (fun _ _ => .nil) (da_cons (dv 2) (da_cons (dv 4) (da_cons (de_bin op_addU od_add de_int (de_call ((ok__law_take z).mono (by decide)) hG hr (by rfl) z.g__law_take z.F__law_take.kp (b__law_take z) .nil (fun _ _ => .nil) (da_cons (dv 2) (da_cons de_int da_nil)))) da_nil)))) (da_cons (de_tup (da_cons de_str (da_cons (dv 5) da_nil))) da_nil))))) (dg_name sc_law.nd (by rfl) (by first | exact .inl rfl | exact .inr rfl)) (dss_cons (ds_set (i := 9) sc_law.nd (by rfl) (by first | exact .inl rfl | exact .inr rfl) (de_call ((ok__law_due z).mono (by decide)) hG hr (by rfl) z.g__law_due z.F__law_due.kp (b__law_due z) .nil (fun _ _ => .nil) (da_cons (dv 5) (da_cons (dv 6) (da_cons (dv 3) da_nil)))))
      (dss_one (ds_if (dt_not (dt_val (de_call ((ok__law_even z).mono (by decide)) hG hr (by rfl) z.g__law_even z.F__law_even.kp (b__law_even z) .nil (fun _ _ => .nil) (da_cons (de_lst (da_cons (de_call ((ok_difference z).mono (by decide)) hG hr (by rfl) z.g_difference z.F_difference.kp (b_difference z) .nil (fun _ _ => .nil) (da_cons (dv 5) (da_cons (dv 6) (da_cons (dv 3) da_nil)))) (da_cons (de_call ((ok_difference z).mono (by decide)) hG hr (by rfl) z.g_difference z.F_difference.kp (b_difference z) .nil (fun _ _ => .nil) (da_cons (dv 6) (da_cons (dv 5) (da_cons (dv 3) da_nil)))) da_nil))) (da_cons (de_lst (da_cons (dv 9) (da_cons (dv 9) da_nil))) da_nil)))))
      (dss_one (ds_ret de_bl))
      dss_nil))))
      (dss_cons (ds_if (DW.dt (dw_or (dt_cmp op_nsW od_isW (de_call ((ok_difference z).mono (by decide)) hG hr (by rfl) z.g_difference z.F_difference.kp (b_difference z) .nil (fun _ _ => .nil) (da_cons (dv 5) (da_cons (dv 5) (da_cons (dv 3) da_nil)))) de_non (by rfl)) (dw_or1 (dt_cmp (op_neD (u64 hr)) od_ne (de_call ((ok_difference z).mono (by decide)) hG hr (by rfl) z.g_difference z.F_difference.kp (b_difference z) .nil (fun _ _ => .nil) (da_cons (de_tup (da_cons de_str da_nil)) (da_cons (de_tup (da_cons de_str da_nil)) (da_cons (dv 3) da_nil)))) (de_bin op_mulU od_mul de_str (dv 3)) (by rfl)))))
      (dss_one (ds_ret de_bl))
      dss_nil)
      (dss_cons (ds_set (i := 7) sc_law.nd (by rfl) (by first | exact .inl rfl | exact .inr rfl) (de_tup (da_cons de_str (da_cons (de_bin op_sub od_sub (dv 3) de_int) da_nil))))
      (dss_cons (ds_for (passes_of (by rfl)) (by rfl) (di_range1 (by rfl) z.n_range (da_cons (de_bin op_sub od_sub (dv 3) de_int) da_nil)) (dg_name sc_law.nd (by rfl) (by first | exact .inl rfl | exact .inr rfl)) (dss_one (ds_set (i := 7) sc_law.nd (by rfl) (by first | exact .inl rfl | exact .inr rfl) (de_tup (da_cons de_str (da_cons (de_tup (da_cons de_str (da_cons (dv 8) da_nil))) (da_cons (dv 7) da_nil)))))))
      (dss_one (ds_if (dt_cmp (op_neD (u64 hr)) od_ne (de_call ((ok_difference z).mono (by decide)) hG hr (by rfl) z.g_difference z.F_difference.kp (b_difference z) .nil (fun _ _ => .nil) (da_cons (dv 7) (da_cons (de_tup (da_cons de_str da_nil)) (da_cons (dv 3) da_nil)))) (de_bin op_mulU od_mul de_str (dv 3)) (by rfl))
      (dss_one (ds_ret de_bl))
      dss_nil)))))))))))
      (dss_one (ds_ret de_bl)))) fun _ _ _ _ q => q)
end
def d_is_integer : He.DefD := ⟨("is_integer", none), "is_integer", "is_integer", defArgs st_is_integer, defBody st_is_integer, defScope st_is_integer, [], []⟩
def d_need_width : He.DefD := ⟨("need_width", none), "need_width", "need_width", defArgs st_need_width, defBody st_need_width, defScope st_need_width, [], []⟩
def d_is_open : He.DefD := ⟨("is_open", none), "is_open", "is_open", defArgs st_is_open, defBody st_is_open, defScope st_is_open, [], []⟩
def d_row_of : He.DefD := ⟨("row_of", none), "row_of", "row_of", defArgs st_row_of, defBody st_row_of, defScope st_row_of, [], []⟩
def d_row_in : He.DefD := ⟨("row_in", none), "row_in", "row_in", defArgs st_row_in, defBody st_row_in, defScope st_row_in, [], []⟩
def d_parts_of : He.DefD := ⟨("parts_of", none), "parts_of", "parts_of", defArgs st_parts_of, defBody st_parts_of, defScope st_parts_of, [], []⟩
def d_size_in : He.DefD := ⟨("size_in", none), "size_in", "size_in", defArgs st_size_in, defBody st_size_in, defScope st_size_in, [], []⟩
def d_is_request : He.DefD := ⟨("is_request", none), "is_request", "is_request", defArgs st_is_request, defBody st_is_request, defScope st_is_request, [], []⟩
def d_need_request : He.DefD := ⟨("need_request", none), "need_request", "need_request", defArgs st_need_request, defBody st_need_request, defScope st_need_request, [], []⟩
def d_holes_in : He.DefD := ⟨("holes_in", none), "holes_in", "holes_in", defArgs st_holes_in, defBody st_holes_in, defScope st_holes_in, [], []⟩
def d_need_holes : He.DefD := ⟨("need_holes", none), "need_holes", "need_holes", defArgs st_need_holes, defBody st_need_holes, defScope st_need_holes, [], []⟩
def d_holds : He.DefD := ⟨("holds", none), "holds", "holds", defArgs st_holds, defBody st_holds, defScope st_holds, [], []⟩
def d_difference : He.DefD := ⟨("difference", none), "difference", "difference", defArgs st_difference, defBody st_difference, defScope st_difference, [], []⟩
def d__law_cell : He.DefD := ⟨("_law_cell", none), "_law_cell", "_law_cell", defArgs st__law_cell, defBody st__law_cell, defScope st__law_cell, [], []⟩
def d__law_box : He.DefD := ⟨("_law_box", none), "_law_box", "_law_box", defArgs st__law_box, defBody st__law_box, defScope st__law_box, [], []⟩
def d__law_take : He.DefD := ⟨("_law_take", none), "_law_take", "_law_take", defArgs st__law_take, defBody st__law_take, defScope st__law_take, [], []⟩
def d__law_even : He.DefD := ⟨("_law_even", none), "_law_even", "_law_even", defArgs st__law_even, defBody st__law_even, defScope st__law_even, [], []⟩
def d__law_request : He.DefD := ⟨("_law_request", none), "_law_request", "_law_request", defArgs st__law_request, defBody st__law_request, defScope st__law_request, [], []⟩
def d__law_parts : He.DefD := ⟨("_law_parts", none), "_law_parts", "_law_parts", defArgs st__law_parts, defBody st__law_parts, defScope st__law_parts, [], []⟩
def d__law_fits : He.DefD := ⟨("_law_fits", none), "_law_fits", "_law_fits", defArgs st__law_fits, defBody st__law_fits, defScope st__law_fits, [], []⟩
def d__law_holes : He.DefD := ⟨("_law_holes", none), "_law_holes", "_law_holes", defArgs st__law_holes, defBody st__law_holes, defScope st__law_holes, [], []⟩
def d__law_leaf_bent : He.DefD := ⟨("_law_leaf_bent", none), "_law_leaf_bent", "_law_leaf_bent", defArgs st__law_leaf_bent, defBody st__law_leaf_bent, defScope st__law_leaf_bent, [], []⟩
def d__law_due : He.DefD := ⟨("_law_due", none), "_law_due", "_law_due", defArgs st__law_due, defBody st__law_due, defScope st__law_due, [], []⟩
def d_law : He.DefD := ⟨("law", none), "law", "law", defArgs st_law, defBody st_law, defScope st_law, [], []⟩
def fn : List He.DefD := [d_is_integer, d_need_width, d_is_open, d_row_of, d_row_in, d_parts_of, d_size_in, d_is_request, d_need_request, d_holes_in, d_need_holes, d_holds, d_difference, d__law_cell, d__law_box, d__law_take, d__law_even, d__law_request, d__law_parts, d__law_fits, d__law_holes, d__law_leaf_bent, d__law_due, d_law]
def fa : List He.Fa := [.free "int", .free "isinstance", .free "bool", .str "OPEN" "v", .str "CLOSED" "o", .free "range", .free "list", .glo "DOUBLE", .free "sum", .glo "LEAVES", .free "len", .glo "SIMPLE", .free "str", .free "tuple", .int "WIDEST" 24, .int "MOST_PARTS" 60, .int "DEEPEST" 12, .free "all", .free "any", .int "WIDEST_JUDGED" 10, .free "max", .free "repr", .free "min", .glo "is_integer", .glo "need_width", .glo "is_open", .glo "row_of", .glo "row_in", .glo "parts_of", .glo "size_in", .glo "is_request", .glo "need_request", .glo "holes_in", .glo "need_holes", .glo "holds", .glo "difference", .glo "_law_cell", .glo "_law_box", .glo "_law_take", .glo "_law_even", .glo "_law_request", .glo "_law_parts", .glo "_law_fits", .glo "_law_holes", .glo "_law_leaf_bent", .glo "_law_due", .glo "law"]
abbrev R : PySem.W.OpenRow := PySem.W.OpenLaw.row PySem.Challenge.rw_needlecards_k25_the_first_row_that_parts
def exB (K : PySem.W.Frag) : Bool := He.tupB K "DOUBLE" [.str "and", .str "or"] && (He.tupB K "LEAVES" [.str "open", .str "closed"] && (He.tupB K "SIMPLE" [.str "all", .str "none"] && (true)))
abbrev hk : PySem.W.Hook := hookN 4 exB fa fn
def ob (s : PySem.W.SharedT) : Bool × He.AlD := obsNG 4 exB fa fn (HandSHeadRun.getT s)
theorem ob_eq (s : PySem.W.SharedT) : ob s = hk.obs s.abs := obsNG_eq (HandSHeadRun.getT_eq s)
theorem run (w : World) : HandSHeadRun.RunEq R (PySem.W.view R.prog [41]) hk ob 4000 [("CLOSED" : Str), ("OPEN" : Str), ("WIDEST" : Str), ("MOST_PARTS" : Str), ("DEEPEST" : Str), ("LEAVES" : Str), ("SIMPLE" : Str), ("DOUBLE" : Str), ("WIDEST_JUDGED" : Str), ("is_integer" : Str), ("need_width" : Str), ("is_open" : Str), ("row_of" : Str), ("row_in" : Str), ("parts_of" : Str), ("size_in" : Str), ("is_request" : Str), ("need_request" : Str), ("holes_in" : Str), ("need_holes" : Str), ("holds" : Str), ("difference" : Str), ("_law_cell" : Str), ("_law_box" : Str), ("_law_take" : Str), ("_law_even" : Str), ("_law_request" : Str), ("_law_parts" : Str), ("_law_fits" : Str), ("_law_holes" : Str), ("_law_leaf_bent" : Str), ("_law_due" : Str), ("CardError" : Str), ("BadHole" : Str), ("BadNumber" : Str), ("BadRequest" : Str)] w := by
  intro os
  kernel_rfl
theorem mkFx {K : PySem.W.Frag} {h : Heap} {mg : Str → Option Value} (X : K.In h) (G : h.Ns mainGlobals mg) (c0 : SaysN exB fa fn K) : Nonempty (Fx K mg) := by
  have c := c0.d
  have hx := c0.ex
  simp only [exB, Bool.and_eq_true, and_true] at hx
  obtain ⟨x0, x1, x2⟩ := hx
  obtain ⟨t_OPEN, v_OPEN⟩ := He.str_ok X G (c.fact 3 (f := .str "OPEN" "v") rfl)
  obtain ⟨t_CLOSED, v_CLOSED⟩ := He.str_ok X G (c.fact 4 (f := .str "CLOSED" "o") rfl)
  obtain ⟨t_WIDEST, v_WIDEST⟩ := He.int_ok X G (c.fact 14 (f := .int "WIDEST" 24) rfl)
  obtain ⟨t_MOST_PARTS, v_MOST_PARTS⟩ := He.int_ok X G (c.fact 15 (f := .int "MOST_PARTS" 60) rfl)
  obtain ⟨t_DEEPEST, v_DEEPEST⟩ := He.int_ok X G (c.fact 16 (f := .int "DEEPEST" 12) rfl)
  obtain ⟨t_WIDEST_JUDGED, v_WIDEST_JUDGED⟩ := He.int_ok X G (c.fact 19 (f := .int "WIDEST_JUDGED" 10) rfl)
  obtain ⟨fd_is_integer, F_is_integer⟩ := c.def_ 0 (d := d_is_integer) rfl
  obtain ⟨fd_need_width, F_need_width⟩ := c.def_ 1 (d := d_need_width) rfl
  obtain ⟨fd_is_open, F_is_open⟩ := c.def_ 2 (d := d_is_open) rfl
  obtain ⟨fd_row_of, F_row_of⟩ := c.def_ 3 (d := d_row_of) rfl
  obtain ⟨fd_row_in, F_row_in⟩ := c.def_ 4 (d := d_row_in) rfl
  obtain ⟨fd_parts_of, F_parts_of⟩ := c.def_ 5 (d := d_parts_of) rfl
  obtain ⟨fd_size_in, F_size_in⟩ := c.def_ 6 (d := d_size_in) rfl
  obtain ⟨fd_is_request, F_is_request⟩ := c.def_ 7 (d := d_is_request) rfl
  obtain ⟨fd_need_request, F_need_request⟩ := c.def_ 8 (d := d_need_request) rfl
  obtain ⟨fd_holes_in, F_holes_in⟩ := c.def_ 9 (d := d_holes_in) rfl
  obtain ⟨fd_need_holes, F_need_holes⟩ := c.def_ 10 (d := d_need_holes) rfl
  obtain ⟨fd_holds, F_holds⟩ := c.def_ 11 (d := d_holds) rfl
  obtain ⟨fd_difference, F_difference⟩ := c.def_ 12 (d := d_difference) rfl
  obtain ⟨fd__law_cell, F__law_cell⟩ := c.def_ 13 (d := d__law_cell) rfl
  obtain ⟨fd__law_box, F__law_box⟩ := c.def_ 14 (d := d__law_box) rfl
  obtain ⟨fd__law_take, F__law_take⟩ := c.def_ 15 (d := d__law_take) rfl
  obtain ⟨fd__law_even, F__law_even⟩ := c.def_ 16 (d := d__law_even) rfl
  obtain ⟨fd__law_request, F__law_request⟩ := c.def_ 17 (d := d__law_request) rfl
  obtain ⟨fd__law_parts, F__law_parts⟩ := c.def_ 18 (d := d__law_parts) rfl
  obtain ⟨fd__law_fits, F__law_fits⟩ := c.def_ 19 (d := d__law_fits) rfl
  obtain ⟨fd__law_holes, F__law_holes⟩ := c.def_ 20 (d := d__law_holes) rfl
  obtain ⟨fd__law_leaf_bent, F__law_leaf_bent⟩ := c.def_ 21 (d := d__law_leaf_bent) rfl
  obtain ⟨fd__law_due, F__law_due⟩ := c.def_ 22 (d := d__law_due) rfl
  obtain ⟨fd_law, F_law⟩ := c.def_ 23 (d := d_law) rfl
  exact ⟨{ n_int := He.free_ok X G (c.fact 0 (f := .free "int") rfl), n_isinstance := He.free_ok X G (c.fact 1 (f := .free "isinstance") rfl), n_bool := He.free_ok X G (c.fact 2 (f := .free "bool") rfl), t_OPEN := t_OPEN, v_OPEN := v_OPEN, t_CLOSED := t_CLOSED, v_CLOSED := v_CLOSED, n_range := He.free_ok X G (c.fact 5 (f := .free "range") rfl), n_list := He.free_ok X G (c.fact 6 (f := .free "list") rfl), g_DOUBLE := He.glo_ok X G (c.fact 7 (f := .glo "DOUBLE") rfl), d_DOUBLE := tup_dt x0 (fun _ _ => (.cons (.str _) (.cons (.str _) .nil))), n_sum := He.free_ok X G (c.fact 8 (f := .free "sum") rfl), g_LEAVES := He.glo_ok X G (c.fact 9 (f := .glo "LEAVES") rfl), d_LEAVES := tup_dt x1 (fun _ _ => (.cons (.str _) (.cons (.str _) .nil))), n_len := He.free_ok X G (c.fact 10 (f := .free "len") rfl), g_SIMPLE := He.glo_ok X G (c.fact 11 (f := .glo "SIMPLE") rfl), d_SIMPLE := tup_dt x2 (fun _ _ => (.cons (.str _) (.cons (.str _) .nil))), n_str := He.free_ok X G (c.fact 12 (f := .free "str") rfl), n_tuple := He.free_ok X G (c.fact 13 (f := .free "tuple") rfl), t_WIDEST := t_WIDEST, v_WIDEST := v_WIDEST, t_MOST_PARTS := t_MOST_PARTS, v_MOST_PARTS := v_MOST_PARTS, t_DEEPEST := t_DEEPEST, v_DEEPEST := v_DEEPEST, n_all := He.free_ok X G (c.fact 17 (f := .free "all") rfl), n_any := He.free_ok X G (c.fact 18 (f := .free "any") rfl), t_WIDEST_JUDGED := t_WIDEST_JUDGED, v_WIDEST_JUDGED := v_WIDEST_JUDGED, n_max := He.free_ok X G (c.fact 20 (f := .free "max") rfl), n_repr := He.free_ok X G (c.fact 21 (f := .free "repr") rfl), n_min := He.free_ok X G (c.fact 22 (f := .free "min") rfl), g_is_integer := He.glo_ok X G (c.fact 23 (f := .glo "is_integer") rfl), fd_is_integer := fd_is_integer, F_is_integer := F_is_integer, g_need_width := He.glo_ok X G (c.fact 24 (f := .glo "need_width") rfl), fd_need_width := fd_need_width, F_need_width := F_need_width, g_is_open := He.glo_ok X G (c.fact 25 (f := .glo "is_open") rfl), fd_is_open := fd_is_open, F_is_open := F_is_open, g_row_of := He.glo_ok X G (c.fact 26 (f := .glo "row_of") rfl), fd_row_of := fd_row_of, F_row_of := F_row_of, g_row_in := He.glo_ok X G (c.fact 27 (f := .glo "row_in") rfl), fd_row_in := fd_row_in, F_row_in := F_row_in, g_parts_of := He.glo_ok X G (c.fact 28 (f := .glo "parts_of") rfl), fd_parts_of := fd_parts_of, F_parts_of := F_parts_of, g_size_in := He.glo_ok X G (c.fact 29 (f := .glo "size_in") rfl), fd_size_in := fd_size_in, F_size_in := F_size_in, g_is_request := He.glo_ok X G (c.fact 30 (f := .glo "is_request") rfl), fd_is_request := fd_is_request, F_is_request := F_is_request, g_need_request := He.glo_ok X G (c.fact 31 (f := .glo "need_request") rfl), fd_need_request := fd_need_request, F_need_request := F_need_request, g_holes_in := He.glo_ok X G (c.fact 32 (f := .glo "holes_in") rfl), fd_holes_in := fd_holes_in, F_holes_in := F_holes_in, g_need_holes := He.glo_ok X G (c.fact 33 (f := .glo "need_holes") rfl), fd_need_holes := fd_need_holes, F_need_holes := F_need_holes, g_holds := He.glo_ok X G (c.fact 34 (f := .glo "holds") rfl), fd_holds := fd_holds, F_holds := F_holds, g_difference := He.glo_ok X G (c.fact 35 (f := .glo "difference") rfl), fd_difference := fd_difference, F_difference := F_difference, g__law_cell := He.glo_ok X G (c.fact 36 (f := .glo "_law_cell") rfl), fd__law_cell := fd__law_cell, F__law_cell := F__law_cell, g__law_box := He.glo_ok X G (c.fact 37 (f := .glo "_law_box") rfl), fd__law_box := fd__law_box, F__law_box := F__law_box, g__law_take := He.glo_ok X G (c.fact 38 (f := .glo "_law_take") rfl), fd__law_take := fd__law_take, F__law_take := F__law_take, g__law_even := He.glo_ok X G (c.fact 39 (f := .glo "_law_even") rfl), fd__law_even := fd__law_even, F__law_even := F__law_even, g__law_request := He.glo_ok X G (c.fact 40 (f := .glo "_law_request") rfl), fd__law_request := fd__law_request, F__law_request := F__law_request, g__law_parts := He.glo_ok X G (c.fact 41 (f := .glo "_law_parts") rfl), fd__law_parts := fd__law_parts, F__law_parts := F__law_parts, g__law_fits := He.glo_ok X G (c.fact 42 (f := .glo "_law_fits") rfl), fd__law_fits := fd__law_fits, F__law_fits := F__law_fits, g__law_holes := He.glo_ok X G (c.fact 43 (f := .glo "_law_holes") rfl), fd__law_holes := fd__law_holes, F__law_holes := F__law_holes, g__law_leaf_bent := He.glo_ok X G (c.fact 44 (f := .glo "_law_leaf_bent") rfl), fd__law_leaf_bent := fd__law_leaf_bent, F__law_leaf_bent := F__law_leaf_bent, g__law_due := He.glo_ok X G (c.fact 45 (f := .glo "_law_due") rfl), fd__law_due := fd__law_due, F__law_due := F__law_due, g_law := He.glo_ok X G (c.fact 46 (f := .glo "law") rfl), fd_law := fd_law, F_law := F_law }⟩
end Lk25
open PySem PySem.W PySem.Calls PyProof.Rows
theorem PySem.Challenge.cw_needlecards_k25_the_first_row_that_parts_holds : PySem.Challenge.rw_needlecards_k25_the_first_row_that_parts.Holds := by
  w_on; o_law
  refine HandSHeadRun.head_any (r := OpenLaw.row PySem.Challenge.rw_needlecards_k25_the_first_row_that_parts) (q := view (OpenLaw.row PySem.Challenge.rw_needlecards_k25_the_first_row_that_parts).prog [41]) (H := Lk25.hk) (ob := Lk25.ob) (M := 4000) (loose := [("CLOSED" : Str), ("OPEN" : Str), ("WIDEST" : Str), ("MOST_PARTS" : Str), ("DEEPEST" : Str), ("LEAVES" : Str), ("SIMPLE" : Str), ("DOUBLE" : Str), ("WIDEST_JUDGED" : Str), ("is_integer" : Str), ("need_width" : Str), ("is_open" : Str), ("row_of" : Str), ("row_in" : Str), ("parts_of" : Str), ("size_in" : Str), ("is_request" : Str), ("need_request" : Str), ("holes_in" : Str), ("need_holes" : Str), ("holds" : Str), ("difference" : Str), ("_law_cell" : Str), ("_law_box" : Str), ("_law_take" : Str), ("_law_even" : Str), ("_law_request" : Str), ("_law_parts" : Str), ("_law_fits" : Str), ("_law_holes" : Str), ("_law_leaf_bent" : Str), ("_law_due" : Str), ("CardError" : Str), ("BadHole" : Str), ("BadNumber" : Str), ("BadRequest" : Str)]) (d := HandSHeadRun.topDef (OpenLaw.row PySem.Challenge.rw_needlecards_k25_the_first_row_that_parts).prog 41) (kwd := []) Lk25.ob_eq
    (by kernel_rfl) (fun s => by kernel_rfl) Lk25.run (by kernel_rfl) (by kernel_rfl) (by kernel_rfl) (by rfl) (by first | assumption | decide +kernel) (by decide +kernel) ⟨rfl, rfl, rfl, rfl, rfl, by decide +kernel⟩ ?hw ?hc
  case hw => w_witness2
  case hc =>
    refine Nd.walkG (l := PySem.Challenge.rw_needlecards_k25_the_first_row_that_parts) (n := 63) (k := 18) (x := "script") rfl (by decide) (by kernel_rfl) ⟨rfl, by decide, by decide⟩ ?F
    intro w mg fa h Y G hmg0
    obtain ⟨K, KX, c⟩ := Y
    have hmg : mg ("law" : PySem.Str) = some (.ref fa) := by
      have e : (HandSHeadRun.topDef (OpenLaw.row PySem.Challenge.rw_needlecards_k25_the_first_row_that_parts).prog 41).name = ("law" : PySem.Str) := by kernel_rfl
      rw [← e]
      exact hmg0
    obtain ⟨z⟩ := Lk25.mkFx KX G c
    have e2 := hmg.symm.trans z.g_law
    cases e2
    have b := L2.FunD.bindsA (ps := ["script"]) z.F_law fun _ _ _ _ _ _ us hl => match us, hl with | [_], _ => rfl
    exact ⟨K, z.fd_law, Nd.S_law, KX, fun s v => b s [v] rfl, Nd.law_holds, fun base _ _ => Lk25.ok_law z⟩
