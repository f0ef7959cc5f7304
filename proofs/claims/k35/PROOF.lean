import PyProof.Rows.All
import Wide.All
import OpenK.AllK
import Wide.FinOn
import HandS.ForMost
import HandS.ForExc
import HandS.IsInst
import HandS.WideBits
import HandS.Lambda
import HandS.ExcInit
import HandS.ExcIs
import HandS.ExcField
import HandS.TryMany
import HandS.Property
import KE.KExcSuper
import HandS.Wide
import HandS.Style
import HandS.Deep
import HandS.TupMul
import HandS.Flow
import HandS.Iter
import HandS.Text
import HandS.StrMore
import HandS.EndBits
import KE.GoesMore
import KE.GoesZip
import KE.IntBitsLaws
import HandS.ExcSuper
import HandS.HeadWalk
import HandS.ExcOwn
import HandS.ExcValue
import HandS.EndTab
import KE.KNestM
import HandS.Dict
import PyProof.DefStmt
import KE.RegKSuper
import KE.KExcLine
import PySem.Challenge.RW_fairweather_k35_letters_wanted
set_option Elab.async false
set_option linter.all false
set_option maxRecDepth 100000
set_option maxHeartbeats 2000000
/-! Sm1: data D, the store, what stands for what (Dv, Rep, RepE), how states go on (Ext), the judgements' posts. -/
namespace Sm
open PySem PySem.Spec PyProof.Rows L2

/-! ### data -/
inductive D where
  | none
  | bool (b : Bool)
  | int (i : Int)
  | str (s : Str)
  | list (xs : List D)
  | frl (xs : List D)
  | tup (xs : List D)
  | dict (kvs : List (Key × D))
  | obj (id : Nat)
  | inst (c : Str) (fs : List (Str × D))
  | exc (c : Str) (fs : List (Str × D))
deriving Inhabited

/-- a mutable thing of the store -/
inductive Cell where
  | list (xs : List D)
  | inst (c : Str) (fs : List (Str × D))
  | tbl (q : Str)
abbrev Sto := List (Option Cell)
structure Exn where
  c : Str
  fs : List (Str × D)
inductive Out (α : Type) where
  | ok (a : α) (S : Sto)
  | exc (e : Exn) (S : Sto)
  | stuck
abbrev M (α : Type) := Sto → Out α
@[inline] def Mpure {α : Type} (a : α) : M α := fun S => .ok a S
@[inline] def Mbind {α β : Type} (m : M α) (k : α → M β) : M β := fun S => match m S with
  | .ok a S' => k a S'
  | .exc e S' => .exc e S'
  | .stuck => .stuck
instance : Monad M where
  pure := Mpure
  bind := Mbind
def Mstuck {α : Type} : M α := fun _ => .stuck
def Mraise {α : Type} (e : Exn) : M α := fun S => .exc e S
/-- a slot of a frame: nothing, a value, a list that nobody else has -/
inductive Sl where
  | un
  | val (d : D)
  | own (xs : List D)
deriving Inhabited
abbrev Env := List Sl
/-- how a block ends -/
inductive OutS where
  | nx (env : Env) (S : Sto)
  | brk (env : Env) (S : Sto)
  | ct (env : Env) (S : Sto)
  | rt (d : D) (S : Sto)
  | exc (e : Exn) (env : Env) (S : Sto)
  | stuck
abbrev MS := Env → Sto → OutS

/-! ### what stands for what -/
/-- the module's facts: the written part, the globals -/
structure Gd where
  K : PySem.W.Frag
  mg : Str → Option Value

/-- an exception that is held as a value -/
def ExcO (a : Addr) (cls : Value) (dd : Option Addr) : HO := .ext fun h => ∃ oe vs, h.get? a = some oe ∧ Zc cls dd oe ∧ oe.data = .fields vs

mutual
inductive Dv (g : Gd) (R : Hp) (ι : List Addr) : V → D → Prop
  | non : Dv g R ι .non .none
  | bl {b : Bool} : Dv g R ι (.bl b) (.bool b)
  | int {i : Int} : Dv g R ι (.int i) (.int i)
  | str {x : Str} : Dv g R ι (.str x) (.str x)
  | lst {a : Addr} {vs : List V} {ds : List D} : R a = some (.lst vs) → DvAll g R ι vs ds → Dv g R ι (.ref a) (.list ds)
  | frl {a : Addr} {vs : List V} {ds : List D} : SqL g.K R a vs → DvAll g R ι vs ds → Dv g R ι (.ref a) (.frl ds)
  | tup {a : Addr} {vs : List V} {ds : List D} : SqT g.K R a vs → DvAll g R ι vs ds → Dv g R ι (.ref a) (.tup ds)
  | dict {a : Addr} {kvs : List (Key × V)} {kds : List (Key × D)} : R a = some (.dK kvs) → DvKV g R ι kvs kds → Dv g R ι (.ref a) (.dict kds)
  | obj {a : Addr} {id : Nat} : ι[id]? = some a → Dv g R ι (.ref a) (.obj id)
  | inst {a C dx : Addr} {c : Str} {fvs : List (Str × V)} {fs : List (Str × D)} : R a = some (.ins C dx fvs) → g.mg c = some (.ref C) → DvF g R ι fvs fs → Dv g R ι (.ref a) (.inst c fs)
  | exc {a C dx : Addr} {c : Str} {fvs : List (Str × V)} {fs : List (Str × D)} : R a = some (ExcO a (.ref C) (some dx)) → R dx = some (.xd fvs) → g.mg c = some (.ref C) → DvF g R ι fvs fs → Dv g R ι (.ref a) (.exc c fs)
inductive DvAll (g : Gd) (R : Hp) (ι : List Addr) : List V → List D → Prop
  | nil : DvAll g R ι [] []
  | cons {v : V} {vs : List V} {d : D} {ds : List D} : Dv g R ι v d → DvAll g R ι vs ds → DvAll g R ι (v :: vs) (d :: ds)
inductive DvKV (g : Gd) (R : Hp) (ι : List Addr) : List (Key × V) → List (Key × D) → Prop
  | nil : DvKV g R ι [] []
  | cons {k : Key} {v : V} {vs : List (Key × V)} {d : D} {ds : List (Key × D)} : Dv g R ι v d → DvKV g R ι vs ds → DvKV g R ι ((k, v) :: vs) ((k, d) :: ds)
inductive DvF (g : Gd) (R : Hp) (ι : List Addr) : List (Str × V) → List (Str × D) → Prop
  | nil : DvF g R ι [] []
  | cons {k : Str} {v : V} {vs : List (Str × V)} {d : D} {ds : List (Str × D)} : Dv g R ι v d → DvF g R ι vs ds → DvF g R ι ((k, v) :: vs) ((k, d) :: ds)
end

section
variable {g : Gd} {R R' : Hp} {ι ι' : List Addr}
theorem rd_sub (hr : ∀ a o, R a = some o → R' a = some o) {a : Addr} {u : HO} (h : Rd R a u) : Rd R' a u := by
  rcases h with h | ⟨o, h⟩
  · exact .inl (hr _ _ h)
  · exact .inr ⟨o, hr _ _ h⟩
theorem sqL_sub {K : PySem.W.Frag} (hr : ∀ a o, R a = some o → R' a = some o) {a : Addr} {xs : List V} (h : SqL K R a xs) : SqL K R' a xs := by
  rcases h with h | h
  · exact .inl (rd_sub hr h)
  · exact .inr h
theorem sqT_sub {K : PySem.W.Frag} (hr : ∀ a o, R a = some o → R' a = some o) {a : Addr} {xs : List V} (h : SqT K R a xs) : SqT K R' a xs := by
  rcases h with h | h
  · exact .inl (rd_sub hr h)
  · exact .inr h
mutual
theorem Dv.mono (hr : ∀ a o, R a = some o → R' a = some o) (hi : ∀ (i : Nat) a, ι[i]? = some a → ι'[i]? = some a) : ∀ {v : V} {d : D}, Dv g R ι v d → Dv g R' ι' v d
  | _, _, .non => .non
  | _, _, .bl => .bl
  | _, _, .int => .int
  | _, _, .str => .str
  | _, _, .lst h t => .lst (hr _ _ h) (DvAll.mono hr hi t)
  | _, _, .frl h t => .frl (sqL_sub hr h) (DvAll.mono hr hi t)
  | _, _, .tup h t => .tup (sqT_sub hr h) (DvAll.mono hr hi t)
  | _, _, .dict h t => .dict (hr _ _ h) (DvKV.mono hr hi t)
  | _, _, .obj h => .obj (hi _ _ h)
  | _, _, .inst h m t => .inst (hr _ _ h) m (DvF.mono hr hi t)
  | _, _, .exc h h2 m t => .exc (hr _ _ h) (hr _ _ h2) m (DvF.mono hr hi t)
theorem DvAll.mono (hr : ∀ a o, R a = some o → R' a = some o) (hi : ∀ (i : Nat) a, ι[i]? = some a → ι'[i]? = some a) : ∀ {v : List V} {d : List D}, DvAll g R ι v d → DvAll g R' ι' v d
  | _, _, .nil => .nil
  | _, _, .cons h t => .cons (Dv.mono hr hi h) (DvAll.mono hr hi t)
theorem DvKV.mono (hr : ∀ a o, R a = some o → R' a = some o) (hi : ∀ (i : Nat) a, ι[i]? = some a → ι'[i]? = some a) : ∀ {v : List (Key × V)} {d : List (Key × D)}, DvKV g R ι v d → DvKV g R' ι' v d
  | _, _, .nil => .nil
  | _, _, .cons h t => .cons (Dv.mono hr hi h) (DvKV.mono hr hi t)
theorem DvF.mono (hr : ∀ a o, R a = some o → R' a = some o) (hi : ∀ (i : Nat) a, ι[i]? = some a → ι'[i]? = some a) : ∀ {v : List (Str × V)} {d : List (Str × D)}, DvF g R ι v d → DvF g R' ι' v d
  | _, _, .nil => .nil
  | _, _, .cons h t => .cons (Dv.mono hr hi h) (DvF.mono hr hi t)
end
theorem DvAll.len : ∀ {vs : List V} {ds : List D}, DvAll g R ι vs ds → vs.length = ds.length
  | _, _, .nil => rfl
  | _, _, .cons _ t => by rw [List.length_cons, List.length_cons, DvAll.len t]
theorem DvAll.get : ∀ {vs : List V} {ds : List D} {i : Nat} {d : D}, DvAll g R ι vs ds → ds[i]? = some d → ∃ v, vs[i]? = some v ∧ Dv g R ι v d
  | _, _, _, _, .nil, e => by simp at e
  | _, _, 0, _, .cons h _, e => by
    have e : some _ = some _ := e
    cases e
    exact ⟨_, rfl, h⟩
  | _, _, i + 1, _, .cons _ t, e => DvAll.get (i := i) t e
theorem DvAll.get' : ∀ {vs : List V} {ds : List D} {i : Nat} {v : V}, DvAll g R ι vs ds → vs[i]? = some v → ∃ d, ds[i]? = some d ∧ Dv g R ι v d
  | _, _, _, _, .nil, e => by simp at e
  | _, _, 0, _, .cons h _, e => by
    have e : some _ = some _ := e
    cases e
    exact ⟨_, rfl, h⟩
  | _, _, i + 1, _, .cons _ t, e => DvAll.get' (i := i) t e
theorem DvAll.app : ∀ {vs : List V} {ds : List D} {ws : List V} {es : List D}, DvAll g R ι vs ds → DvAll g R ι ws es → DvAll g R ι (vs ++ ws) (ds ++ es)
  | _, _, _, _, .nil, s => s
  | _, _, _, _, .cons h t, s => .cons h (DvAll.app t s)
theorem DvAll.snoc {vs : List V} {ds : List D} {v : V} {d : D} (h : DvAll g R ι vs ds) (x : Dv g R ι v d) : DvAll g R ι (vs ++ [v]) (ds ++ [d]) := h.app (.cons x .nil)
theorem DvAll.take : ∀ {vs : List V} {ds : List D} (n : Nat), DvAll g R ι vs ds → DvAll g R ι (vs.take n) (ds.take n)
  | _, _, 0, _ => by
    rw [List.take_zero, List.take_zero]
    exact .nil
  | _, _, _ + 1, .nil => .nil
  | _, _, n + 1, .cons h t => .cons h (DvAll.take n t)
theorem DvAll.drop : ∀ {vs : List V} {ds : List D} (n : Nat), DvAll g R ι vs ds → DvAll g R ι (vs.drop n) (ds.drop n)
  | _, _, 0, h => h
  | _, _, _ + 1, .nil => .nil
  | _, _, n + 1, .cons _ t => DvAll.drop n t
theorem DvAll.set : ∀ {vs : List V} {ds : List D} {v : V} {d : D} (i : Nat), Dv g R ι v d → DvAll g R ι vs ds → DvAll g R ι (vs.set i v) (ds.set i d)
  | _, _, _, _, _, _, .nil => .nil
  | _, _, _, _, 0, x, .cons _ t => .cons x t
  | _, _, _, _, i + 1, x, .cons h t => .cons h (DvAll.set i x t)
theorem DvAll.rev : ∀ {vs : List V} {ds : List D}, DvAll g R ι vs ds → DvAll g R ι vs.reverse ds.reverse
  | _, _, .nil => .nil
  | _, _, .cons h t => by
    rw [List.reverse_cons, List.reverse_cons]
    exact (DvAll.rev t).snoc h
theorem DvAll.rep {v : V} {d : D} (h : Dv g R ι v d) : ∀ n, DvAll g R ι (List.replicate n v) (List.replicate n d)
  | 0 => .nil
  | n + 1 => .cons h (DvAll.rep h n)
theorem DvF.look {k : Str} {d : D} : ∀ {vs : List (Str × V)} {ds : List (Str × D)}, DvF g R ι vs ds → ds.lookup k = some d → ∃ v, vs.lookup k = some v ∧ Dv g R ι v d
  | _, _, .nil, e => by cases e
  | _, _, .cons (k := k') (v := v') h t, e => by
    rw [List.lookup_cons] at e ⊢
    cases hk : k == k' with
    | true =>
      rw [hk] at e
      cases e
      exact ⟨v', by simp, h⟩
    | false =>
      rw [hk] at e
      exact DvF.look t e
theorem DvF.look0 {k : Str} : ∀ {vs : List (Str × V)} {ds : List (Str × D)}, DvF g R ι vs ds → ds.lookup k = none → vs.lookup k = none
  | _, _, .nil, _ => rfl
  | _, _, .cons (k := k') (v := v') h t, e => by
    rw [List.lookup_cons] at e ⊢
    cases hk : k == k' with
    | true =>
      rw [hk] at e
      cases e
    | false =>
      rw [hk] at e
      exact DvF.look0 t e
end

/-- what the store keeps live -/
def Lv (ι : List Addr) (S : Sto) (a : Addr) : Prop := ∃ (id : Nat) (c : Cell), ι[id]? = some a ∧ S[id]? = some (some c)
/-- P is the table of the code object of the module's def x, q the name of the lambdas in it -/
def TabIs (g : Gd) (q : Str) (P : Addr) : Prop := ∃ (x : Str) (fa c : Addr) (o oc : Obj) (fd : FuncData) (vs : Array Value), q = (x ++ ".<locals>.") ++ "<lambda>" ∧ g.mg x = some (.ref fa) ∧ g.K.lookup fa = some o ∧ o.data = .func fd ∧ fd.code = .ref c ∧ g.K.lookup c = some oc ∧ oc.data = .fields vs ∧ vs[11]? = some (.ref P)
theorem str_cancel {a b c : Str} (h : a ++ c = b ++ c) : a = b := by
  obtain ⟨a⟩ := a
  obtain ⟨b⟩ := b
  obtain ⟨c⟩ := c
  have h : (⟨a ++ c⟩ : Str) = ⟨b ++ c⟩ := h
  injection h with h
  rw [Array.append_left_inj] at h
  rw [h]
theorem TabIs.eq {g : Gd} {q : Str} {P P' : Addr} (h : TabIs g q P) (h' : TabIs g q P') : P = P' := by
  obtain ⟨x, fa, c, o, oc, fd, vs, e0, e1, e2, e3, e4, e5, e6, e7⟩ := h
  obtain ⟨x', fa', c', o', oc', fd', vs', f0, f1, f2, f3, f4, f5, f6, f7⟩ := h'
  have hx : x = x' := by
    rw [e0] at f0
    exact str_cancel (str_cancel f0)
  subst hx
  rw [e1] at f1
  cases f1
  rw [e2] at f2
  cases f2
  rw [e3] at f3
  cases f3
  rw [e4] at f4
  cases f4
  rw [e5] at f5
  cases f5
  rw [e6] at f6
  cases f6
  rw [e7] at f7
  cases f7
  rfl
def CellOk (g : Gd) (R H : Hp) (ι : List Addr) (a : Addr) : Cell → Prop
  | .list xs => ∃ vs, H a = some (.lst vs) ∧ DvAll g R ι vs xs
  | .inst c fs => ∃ C dx fvs, H a = some (.ins C dx fvs) ∧ g.mg c = some (.ref C) ∧ DvF g R ι fvs fs
  | .tbl q => TabIs g q a ∧ LamX.TabS H a q
theorem tab_upd {H : Hp} {P a : Addr} {q : Str} {o u : HO} (h : LamX.TabS H P q) (ha : H a = some u) (h1 : ∀ ps, u ≠ .tbl ps) (h2 : ∀ φ, u ≠ .ext φ) : LamX.TabS (upd H a o) P q := by
  obtain ⟨ps, e1, e2, e3⟩ := h
  refine ⟨ps, by rw [upd_ne (fun z => h1 ps (Option.some.inj (by rw [← ha, ← z, e1])))]; exact e1, e2, fun pos cv hc => ?_⟩
  obtain ⟨c, e4, e5⟩ := e3 pos cv hc
  exact ⟨c, e4, by rw [upd_ne (fun z => h2 _ (Option.some.inj (by rw [← ha, ← z]; exact e5)))]; exact e5⟩
theorem tab_new {H : Hp} {P a : Addr} {q : Str} {o : HO} (h : LamX.TabS H P q) (ha : H a = none) : LamX.TabS (upd H a o) P q := h.ext fun b u e => by
  rw [upd_ne (ne_of_none e ha)]
  exact e
structure Rep (g : Gd) (R H : Hp) (ι : List Addr) (S : Sto) : Prop where
  sub : ∀ a o, R a = some o → H a = some o
  len : ι.length = S.length
  cell : ∀ (id : Nat) a c, ι[id]? = some a → S[id]? = some (some c) → CellOk g R H ι a c ∧ R a = none
  inj : ∀ (i j : Nat) a c c', ι[i]? = some a → ι[j]? = some a → S[i]? = some (some c) → S[j]? = some (some c') → i = j

/-- how a state goes on: what is frozen stays, what nobody owns stays -/
structure Ext (R H : Hp) (O : Addr → Prop) (ι : List Addr) (R' H' : Hp) (O' : Addr → Prop) (ι' : List Addr) : Prop where
  rsub : ∀ a o, R a = some o → R' a = some o
  pre : ∀ (i : Nat) a, ι[i]? = some a → ι'[i]? = some a
  keep : ∀ a o, H a = some o → ¬ O a → H' a = some o
  fresh : ∀ a o, R' a = some o → H a ≠ none → ¬ O a → R a = some o
  own : ∀ a, O' a → O a ∨ H a = none
  there : ∀ a, H' a = none → H a = none

section
variable {R H R1 H1 R2 H2 : Hp} {O O1 O2 : Addr → Prop} {ι ι1 ι2 : List Addr}
theorem Ext.refl : Ext R H O ι R H O ι := ⟨fun _ _ h => h, fun _ _ h => h, fun _ _ h _ => h, fun _ _ h _ _ => h, fun _ h => .inl h, fun _ h => h⟩
theorem Ext.trans (a : Ext R H O ι R1 H1 O1 ι1) (b : Ext R1 H1 O1 ι1 R2 H2 O2 ι2) : Ext R H O ι R2 H2 O2 ι2 where
  rsub := fun x o h => b.rsub x o (a.rsub x o h)
  pre := fun i x h => b.pre i x (a.pre i x h)
  keep := fun x o h n => b.keep x o (a.keep x o h n) fun q => by
    rcases a.own x q with q | q
    · exact n q
    · rw [h] at q; cases q
  fresh := fun x o h n m => by
    have hx : ¬ O1 x := fun q => by
      rcases a.own x q with q | q
      · exact m q
      · exact n q
    have h1 : H1 x ≠ none := fun q => n (a.there x q)
    exact a.fresh x o (b.fresh x o h h1 hx) n m
  own := fun x h => by
    rcases b.own x h with h | h
    · exact a.own x h
    · exact .inr (a.there x h)
  there := fun x h => a.there x (b.there x h)
/-- more may be owned -/
theorem Ext.more {Oa Ob : Addr → Prop} (a : Ext R H O ι R1 H1 O1 ι1) (h : ∀ x, O x → Oa x) (h' : ∀ x, Ob x → Oa x ∨ H x = none) : Ext R H Oa ι R1 H1 Ob ι1 where
  rsub := a.rsub
  pre := a.pre
  keep := fun x o e n => a.keep x o e fun q => n (h x q)
  fresh := fun x o e n m => a.fresh x o e n fun q => m (h x q)
  own := h'
  there := a.there
end

/-- a value that is frozen, or a list that is read only now -/
def Bw (g : Gd) (R H : Hp) (ι : List Addr) (S : Sto) (v : V) (d : D) : Prop :=
  Dv g R ι v d ∨ ∃ a vs ds, v = .ref a ∧ d = .list ds ∧ H a = some (.lst vs) ∧ ¬ Lv ι S a ∧ R a = none ∧ DvAll g R ι vs ds
def VD (g : Gd) (bw : Bool) (R H : Hp) (ι : List Addr) (S : Sto) (v : V) (d : D) : Prop := match bw with
  | true => Bw g R H ι S v d
  | false => Dv g R ι v d
def BwAll (g : Gd) (R H : Hp) (ι : List Addr) (S : Sto) : List V → List D → Prop := Paired fun v d => Bw g R H ι S v d

abbrev ExtL (R H : Hp) (ι : List Addr) (S : Sto) (R' H' : Hp) (ι' : List Addr) (S' : Sto) : Prop := Ext R H (Lv ι S) ι R' H' (Lv ι' S') ι'

section
variable {g : Gd} {R H R1 H1 : Hp} {ι ι1 : List Addr} {S S1 : Sto} {v : V} {d : D} {bw : Bool}
theorem Dv.ext (h : Dv g R ι v d) (e : ExtL R H ι S R1 H1 ι1 S1) : Dv g R1 ι1 v d := h.mono e.rsub e.pre
theorem DvAll.ext {vs : List V} {ds : List D} (h : DvAll g R ι vs ds) (e : ExtL R H ι S R1 H1 ι1 S1) : DvAll g R1 ι1 vs ds := h.mono e.rsub e.pre
theorem Bw.ext (h : Bw g R H ι S v d) (e : ExtL R H ι S R1 H1 ι1 S1) : Bw g R1 H1 ι1 S1 v d := by
  rcases h with h | ⟨a, vs, ds, rfl, rfl, h, n, r, t⟩
  · exact .inl (h.ext e)
  · refine .inr ⟨a, vs, ds, rfl, rfl, e.keep _ _ h n, fun q => ?_, ?_, t.ext e⟩
    · rcases e.own a q with q | q
      · exact n q
      · rw [h] at q; cases q
    · cases q : R1 a with
      | none => rfl
      | some o =>
        have := e.fresh a o q (by rw [h]; exact fun z => by cases z) n
        rw [r] at this; cases this
theorem Bw.of (h : Dv g R ι v d) : Bw g R H ι S v d := .inl h
theorem VD.toBw (h : VD g bw R H ι S v d) : Bw g R H ι S v d := by
  cases bw with
  | true => exact h
  | false => exact .inl h
theorem BwAll.ext : ∀ {vs : List V} {ds : List D}, BwAll g R H ι S vs ds → ExtL R H ι S R1 H1 ι1 S1 → BwAll g R1 H1 ι1 S1 vs ds
  | _, _, .nil, _ => .nil
  | _, _, .cons h t, e => .cons (Bw.ext h e) (BwAll.ext t e)
theorem BwAll.of : ∀ {vs : List V} {ds : List D}, DvAll g R ι vs ds → BwAll g R H ι S vs ds
  | _, _, .nil => .nil
  | _, _, .cons h t => .cons (.inl h) (BwAll.of t)

/-! ### slots -/
def SlotOk (g : Gd) (R H : Hp) (ι : List Addr) (S : Sto) (u : Option V) : Sl → Prop
  | .un => True
  | .val d => ∃ v, u = some v ∧ Dv g R ι v d
  | .own ds => ∃ a vs, u = some (.ref a) ∧ H a = some (.lst vs) ∧ DvAll g R ι vs ds ∧ R a = none ∧ ¬ Lv ι S a
structure RepE (g : Gd) (R H : Hp) (ι : List Addr) (S : Sto) (σ : L2.St) (env : Env) : Prop where
  len : env.length = σ.length
  slot : ∀ (i : Nat) sl u, env[i]? = some sl → σ[i]? = some u → SlotOk g R H ι S u sl
  apart : ∀ (i j : Nat) xs ys a, env[i]? = some (.own xs) → env[j]? = some (.own ys) → σ[i]? = some (some (.ref a)) → σ[j]? = some (some (.ref a)) → i = j
theorem SlotOk.ext {u : Option V} {sl : Sl} (h : SlotOk g R H ι S u sl) (e : ExtL R H ι S R1 H1 ι1 S1) : SlotOk g R1 H1 ι1 S1 u sl := by
  cases sl with
  | un => trivial
  | val d =>
    obtain ⟨v, r, h⟩ := h
    exact ⟨v, r, h.ext e⟩
  | own ds =>
    obtain ⟨a, vs, r, h, t, n, l⟩ := h
    have b : Bw g R H ι S (.ref a) (.list ds) := .inr ⟨a, vs, ds, rfl, rfl, h, l, n, t⟩
    refine ⟨a, vs, r, e.keep _ _ h l, t.ext e, ?_, fun q => ?_⟩
    · cases q : R1 a with
      | none => rfl
      | some o =>
        have := e.fresh a o q (by rw [h]; exact fun z => by cases z) l
        rw [n] at this; cases this
    · rcases e.own a q with q | q
      · exact l q
      · rw [h] at q; cases q
theorem RepE.ext {σ : L2.St} {env : Env} (h : RepE g R H ι S σ env) (e : ExtL R H ι S R1 H1 ι1 S1) : RepE g R1 H1 ι1 S1 σ env :=
  ⟨h.len, fun i sl u a b => (h.slot i sl u a b).ext e, h.apart⟩
/-- what the slots own -/
def Ow (σ : L2.St) (env : Env) (a : Addr) : Prop := ∃ (i : Nat) (xs : List D), env[i]? = some (.own xs) ∧ σ[i]? = some (some (.ref a))
def Lo (ι : List Addr) (S : Sto) (σ : L2.St) (env : Env) (a : Addr) : Prop := Lv ι S a ∨ Ow σ env a
abbrev ExtS (R H : Hp) (ι : List Addr) (S : Sto) (σ : L2.St) (env : Env) (R' H' : Hp) (ι' : List Addr) (S' : Sto) (σ' : L2.St) (env' : Env) : Prop := Ext R H (Lo ι S σ env) ι R' H' (Lo ι' S' σ' env') ι'
/-- an expression's going on is a statement's -/
theorem Ext.stm {σ : L2.St} {env : Env} (e : ExtL R H ι S R1 H1 ι1 S1) : ExtS R H ι S σ env R1 H1 ι1 S1 σ env :=
  Ext.more e (fun _ h => .inl h) fun x h => by
    rcases h with h | h
    · rcases e.own x h with h | h
      · exact .inl (.inl h)
      · exact .inr h
    · exact .inl (.inr h)
end

/-! ### posts -/
/-- an exception that flies: its class, its fields -/
def ExnOk (g : Gd) (R H : Hp) (ι : List Addr) (cls : Value) (dd : Option Addr) (e : Exn) : Prop :=
  ∃ C dx fvs, cls = .ref C ∧ dd = some dx ∧ g.mg e.c = some (.ref C) ∧ R dx = some (.xd fvs) ∧ DvF g R ι fvs e.fs
/-- behind an expression (a test, arguments): rel says what its value is -/
def Post {α β : Type} (g : Gd) (W : WX) (rel : Hp → Hp → Hp → List Addr → Sto → β → α → Prop) (R H : Hp) (ι : List Addr) (S : Sto) (σ : L2.St) (out : Out α) (Q : β → Hp → Prop) : Prop :=
  match out with
  | .ok d S' => ∀ v R' ι' H', Rep g R' H' ι' S' → ExtL R H ι S R' H' ι' S' → rel H R' H' ι' S' v d → Q v H'
  | .exc e S' => ∀ cls dd R' ι' H', Rep g R' H' ι' S' → ExtL R H ι S R' H' ι' S' → ExnOk g R' H' ι' cls dd e → W cls dd σ H'
  | .stuck => False
def PostS (g : Gd) (W : WX) (R H : Hp) (ι : List Addr) (S : Sto) (σ : L2.St) (env : Env) (out : OutS) (E : Ends) : Prop :=
  match out with
  | .nx env' S' => ∀ σ' R' ι' H', Rep g R' H' ι' S' → RepE g R' H' ι' S' σ' env' → ExtS R H ι S σ env R' H' ι' S' σ' env' → E.nx σ' H'
  | .brk env' S' => ∀ σ' R' ι' H', Rep g R' H' ι' S' → RepE g R' H' ι' S' σ' env' → ExtS R H ι S σ env R' H' ι' S' σ' env' → E.bk σ' H'
  | .ct env' S' => ∀ σ' R' ι' H', Rep g R' H' ι' S' → RepE g R' H' ι' S' σ' env' → ExtS R H ι S σ env R' H' ι' S' σ' env' → E.ct σ' H'
  | .rt d S' => ∀ v R' ι' H', Rep g R' H' ι' S' → Dv g R' ι' v d → Ext R H (Lo ι S σ env) ι R' H' (Lv ι' S') ι' → E.rt v H'
  | .exc e env' S' => ∀ cls dd σ' R' ι' H', Rep g R' H' ι' S' → RepE g R' H' ι' S' σ' env' → ExnOk g R' H' ι' cls dd e → ExtS R H ι S σ env R' H' ι' S' σ' env' → W cls dd σ' H'
  | .stuck => False

abbrev relE (g : Gd) (bw : Bool) : Hp → Hp → Hp → List Addr → Sto → V → D → Prop := fun _ R' H' ι' S' v d => VD g bw R' H' ι' S' v d
abbrev relT : Hp → Hp → Hp → List Addr → Sto → Bool → Bool → Prop := fun _ _ _ _ _ b c => b = c
abbrev relA (g : Gd) : Hp → Hp → Hp → List Addr → Sto → List V → List D → Prop := fun _ R' _ ι' _ vs ds => DvAll g R' ι' vs ds
abbrev relB (g : Gd) : Hp → Hp → Hp → List Addr → Sto → List V → List D → Prop := fun _ R' H' ι' S' vs ds => BwAll g R' H' ι' S' vs ds
/-- a new list that nobody else has -/
abbrev relF (g : Gd) : Hp → Hp → Hp → List Addr → Sto → V → List D → Prop := fun H R' H' ι' S' v ds =>
  ∃ p vs, v = .ref p ∧ H p = none ∧ H' p = some (.lst vs) ∧ R' p = none ∧ ¬ Lv ι' S' p ∧ DvAll g R' ι' vs ds

/-- an expression that computes m -/
def tG {α β : Type} (g : Gd) (W : WX) (rel : Hp → Hp → Hp → List Addr → Sto → β → α → Prop) (m : Env → M α) : L2.St → Hp → (β → Hp → Prop) → Prop :=
  fun σ H Q => ∃ R ι S env, Rep g R H ι S ∧ RepE g R H ι S σ env ∧ Post g W rel R H ι S σ (m env S) Q
def tS (g : Gd) (W : WX) (m : MS) : TS := fun E σ H => ∃ R ι S env, Rep g R H ι S ∧ RepE g R H ι S σ env ∧ PostS g W R H ι S σ env (m env S) E

abbrev Cx.g (X : Cx) : Gd := ⟨X.K, X.mg⟩
/-- the judgements -/
abbrev SE (X : Cx) (W : WX) (bw : Bool) (e : Expr) (m : Env → M D) : Prop := PE X e (tG (Cx.g X) W (relE (Cx.g X) bw) m)
abbrev SF (X : Cx) (W : WX) (e : Expr) (m : Env → M (List D)) : Prop := PE X e (tG (Cx.g X) W (relF (Cx.g X)) m)
abbrev STt (X : Cx) (W : WX) (e : Expr) (m : Env → M Bool) : Prop := PT X e (tG (Cx.g X) W relT m)
abbrev SA (X : Cx) (W : WX) (es : List Expr) (m : Env → M (List D)) : Prop := PA X es (tG (Cx.g X) W (relA (Cx.g X)) m)
abbrev SB (X : Cx) (W : WX) (es : List Expr) (m : Env → M (List D)) : Prop := PA X es (tG (Cx.g X) W (relB (Cx.g X)) m)
abbrev SS (X : Cx) (W : WX) (st : Stmt) (m : MS) : Prop := PS X st (tS (Cx.g X) W m)
abbrev SSs (X : Cx) (W : WX) (st : List Stmt) (m : MS) : Prop := PSs X st (tS (Cx.g X) W m)

theorem PE.imp {X : Cx} {e : Expr} {t t' : TE} (h : PE X e t) (i : ∀ σ H Q, t' σ H Q → t σ H Q) : PE X e t' := ⟨fun pins s σ H Q I q => h.run pins s σ H Q I (i _ _ _ q)⟩
theorem PT.imp {X : Cx} {e : Expr} {t t' : TT} (h : PT X e t) (i : ∀ σ H Q, t' σ H Q → t σ H Q) : PT X e t' := ⟨fun pins s σ H Q I q => h.run pins s σ H Q I (i _ _ _ q)⟩
theorem PW.imp {X : Cx} {e : Expr} {t t' : TT} (h : PW X e t) (i : ∀ σ H Q, t' σ H Q → t σ H Q) : PW X e t' := ⟨fun w pins s σ H Q I q => h.run w pins s σ H Q I (i _ _ _ q)⟩
theorem PA.imp {X : Cx} {e : List Expr} {t t' : TA} (h : PA X e t) (i : ∀ σ H Q, t' σ H Q → t σ H Q) : PA X e t' := ⟨fun p pins s σ H Q I q => h.run p pins s σ H Q I (i _ _ _ q)⟩
theorem PS.imp {X : Cx} {e : Stmt} {t t' : TS} (h : PS X e t) (i : ∀ D σ H, t' D σ H → t D σ H) : PS X e t' := ⟨fun pins s σ H D I q => h.run pins s σ H D I (i _ _ _ q)⟩
theorem PSs.imp {X : Cx} {e : List Stmt} {t t' : TS} (h : PSs X e t) (i : ∀ D σ H, t' D σ H → t D σ H) : PSs X e t' := ⟨fun pins s σ H D I q => h.run pins s σ H D I (i _ _ _ q)⟩

section
variable {α β γ δ : Type} {g : Gd} {W : WX} {R H R1 H1 : Hp} {ι ι1 : List Addr} {S S1 : Sto} {σ : L2.St} {env : Env} {Q : δ → Hp → Prop} {Q1 : β → Hp → Prop}
/-- a relation that a later start makes no weaker -/
def Later (rel : Hp → Hp → Hp → List Addr → Sto → β → α → Prop) : Prop := ∀ (H H1 R' H' : Hp) ι' S' v d, (∀ a, H1 a = none → H a = none) → rel H1 R' H' ι' S' v d → rel H R' H' ι' S' v d
theorem later_E {g : Gd} {bw : Bool} : Later (relE g bw) := fun _ _ _ _ _ _ _ _ _ h => h
theorem later_T : Later relT := fun _ _ _ _ _ _ _ _ _ h => h
theorem later_A {g : Gd} : Later (relA g) := fun _ _ _ _ _ _ _ _ _ h => h
theorem later_B {g : Gd} : Later (relB g) := fun _ _ _ _ _ _ _ _ _ h => h
theorem later_F {g : Gd} : Later (relF g) := fun _ _ _ _ _ _ _ _ t ⟨p, vs, e, n, r⟩ => ⟨p, vs, e, t _ n, r⟩
theorem Post.shift {rel : Hp → Hp → Hp → List Addr → Sto → β → α → Prop} (hl : Later rel) {out : Out α} {Q : β → Hp → Prop} (e : ExtL R H ι S R1 H1 ι1 S1) (h : Post g W rel R H ι S σ out Q) : Post g W rel R1 H1 ι1 S1 σ out Q := by
  cases out with
  | ok d S' => exact fun v R' ι' H' r x q => h v R' ι' H' r (e.trans x) (hl _ _ _ _ _ _ _ _ e.there q)
  | exc z S' => exact fun cls dd R' ι' H' r x q => h cls dd R' ι' H' r (e.trans x) q
  | stuck => exact h
/-- the first part runs, the rest is known -/
theorem tG_then {rel : Hp → Hp → Hp → List Addr → Sto → β → α → Prop} {rel' : Hp → Hp → Hp → List Addr → Sto → δ → γ → Prop} (hl : Later rel') {ma : Env → M α} {k : α → M γ} (rep : Rep g R H ι S) (repE : RepE g R H ι S σ env)
    (post : Post g W rel' R H ι S σ ((ma env >>= k) S) Q)
    (hk : ∀ R1 H1 ι1 S1 v d, Rep g R1 H1 ι1 S1 → RepE g R1 H1 ι1 S1 σ env → ExtL R H ι S R1 H1 ι1 S1 → rel H R1 H1 ι1 S1 v d → Post g W rel' R1 H1 ι1 S1 σ (k d S1) Q → Q1 v H1) : tG g W rel ma σ H Q1 := by
  refine ⟨R, ι, S, env, rep, repE, ?_⟩
  have post : Post g W rel' R H ι S σ (Mbind (ma env) k S) Q := post
  unfold Mbind at post
  cases e : ma env S with
  | ok d S' =>
    rw [e] at post
    exact fun v R' ι' H' r x q => hk R' H' ι' S' v d r (repE.ext x) x q (Post.shift hl x post)
  | exc z S' =>
    rw [e] at post
    exact post
  | stuck =>
    rw [e] at post
    exact post
/-- the same, the rest a pure step -/
theorem tG_map {rel : Hp → Hp → Hp → List Addr → Sto → β → α → Prop} {rel' : Hp → Hp → Hp → List Addr → Sto → δ → γ → Prop} (hl : Later rel') {ma : Env → M α} {f : α → M γ} (h : tG g W rel' (fun env => ma env >>= f) σ H Q)
    (hk : ∀ R H0 H1 ι S v d, Rep g R H1 ι S → (∀ a, H1 a = none → H0 a = none) → rel H0 R H1 ι S v d → Post g W rel' R H1 ι S σ (f d S) Q → Q1 v H1) : tG g W rel ma σ H Q1 := by
  obtain ⟨R, ι, S, env, rep, repE, post⟩ := h
  exact tG_then (Q1 := Q1) hl rep repE post fun R1 H1 ι1 S1 v d r _ x q p => hk R1 H H1 ι1 S1 v d r x.there q p
end
end Sm

set_option Elab.async false
set_option linter.all false
set_option maxRecDepth 100000
set_option maxHeartbeats 2000000
/-! Sm2: expressions: names, constants, operators, tests. -/
namespace Sm
open PySem PySem.Spec PyProof.Rows L2

section
variable {g : Gd} {R H : Hp} {ι : List Addr} {S : Sto} {v : V} {d : D} {bw : Bool}
theorem VD.of (h : Dv g R ι v d) : VD g bw R H ι S v d := by
  cases bw with
  | true => exact .inl h
  | false => exact h

/-! ### a new object -/
theorem Rep.newH {p : Addr} {o : HO} (rep : Rep g R H ι S) (hp : H p = none) : Rep g R (upd H p o) ι S where
  sub := fun a u h => by
    rw [upd_ne (ne_of_none (rep.sub a u h) hp)]
    exact rep.sub a u h
  len := rep.len
  cell := fun id a c h1 h2 => by
    obtain ⟨q, n⟩ := rep.cell id a c h1 h2
    refine ⟨?_, n⟩
    cases c with
    | list xs =>
      obtain ⟨vs, h, t⟩ := q
      exact ⟨vs, by rw [upd_ne (ne_of_none h hp)]; exact h, t⟩
    | inst c fs =>
      obtain ⟨C, dx, fvs, h, m, t⟩ := q
      exact ⟨C, dx, fvs, by rw [upd_ne (ne_of_none h hp)]; exact h, m, t⟩
    | tbl s => exact ⟨q.1, tab_new q.2 hp⟩
  inj := rep.inj
theorem CellOk.subR {R' : Hp} {a : Addr} {c : Cell} (hr : ∀ a o, R a = some o → R' a = some o) (h : CellOk g R H ι a c) : CellOk g R' H ι a c := by
  cases c with
  | list xs =>
    obtain ⟨vs, h, t⟩ := h
    exact ⟨vs, h, t.mono hr fun _ _ e => e⟩
  | inst c fs =>
    obtain ⟨C, dx, fvs, h, m, t⟩ := h
    exact ⟨C, dx, fvs, h, m, t.mono hr fun _ _ e => e⟩
  | tbl s => exact h
/-- what nobody keeps is frozen -/
theorem Rep.freeze {p : Addr} {o : HO} (rep : Rep g R H ι S) (hp : H p = some o) (hR : R p = none) (hl : ¬ Lv ι S p) : Rep g (upd R p o) H ι S where
  sub := fun a u h => by
    by_cases e : a = p
    · subst e
      rw [upd_same] at h
      rw [hp]
      exact h
    · rw [upd_ne e] at h
      exact rep.sub a u h
  len := rep.len
  cell := fun id a c h1 h2 => by
    obtain ⟨q, n⟩ := rep.cell id a c h1 h2
    have e : a ≠ p := fun z => hl (z ▸ ⟨id, c, h1, h2⟩)
    refine ⟨q.subR fun b u h => ?_, by rw [upd_ne e]; exact n⟩
    rw [upd_ne (ne_of_none h hR)]
    exact h
  inj := rep.inj
theorem rsub_upd {p : Addr} {o : HO} (hR : R p = none) : ∀ a u, R a = some u → upd R p o a = some u := fun a u h => by
  rw [upd_ne (ne_of_none h hR)]
  exact h
theorem Ext.newH {O : Addr → Prop} {p : Addr} {o : HO} (hp : H p = none) : Ext R H O ι R (upd H p o) O ι where
  rsub := fun _ _ h => h
  pre := fun _ _ h => h
  keep := fun a u h _ => by
    rw [upd_ne (ne_of_none h hp)]
    exact h
  fresh := fun _ _ h _ _ => h
  own := fun _ h => .inl h
  there := fun a h => by
    by_cases e : a = p
    · subst e
      exact hp
    · rw [upd_ne e] at h
      exact h
theorem Ext.newR {O : Addr → Prop} {p : Addr} {o : HO} (rep : Rep g R H ι S) (hp : H p = none) : Ext R H O ι (upd R p o) (upd H p o) O ι where
  rsub := rsub_upd (by
    cases q : R p with
    | none => rfl
    | some u =>
      rw [rep.sub p u q] at hp
      cases hp)
  pre := fun _ _ h => h
  keep := fun a u h _ => by
    rw [upd_ne (ne_of_none h hp)]
    exact h
  fresh := fun a u h n _ => by
    by_cases e : a = p
    · subst e
      exact absurd hp n
    · rw [upd_ne e] at h
      exact h
  own := fun _ h => .inl h
  there := fun a h => by
    by_cases e : a = p
    · subst e
      exact hp
    · rw [upd_ne e] at h
      exact h
theorem Rep.noR {p : Addr} (rep : Rep g R H ι S) (hp : H p = none) : R p = none := by
  cases q : R p with
  | none => rfl
  | some u =>
    rw [rep.sub p u q] at hp
    cases hp
theorem Rep.noL {p : Addr} (rep : Rep g R H ι S) (hp : H p = none) : ¬ Lv ι S p := fun ⟨id, c, h1, h2⟩ => by
  obtain ⟨q, _⟩ := rep.cell id p c h1 h2
  cases c with
  | list xs =>
    obtain ⟨vs, h, _⟩ := q
    rw [hp] at h
    cases h
  | inst c fs =>
    obtain ⟨C, dx, fvs, h, _⟩ := q
    rw [hp] at h
    cases h
  | tbl s =>
    obtain ⟨_, ps, h, _⟩ := q
    rw [hp] at h
    cases h
theorem Rep.newR {p : Addr} {o : HO} (rep : Rep g R H ι S) (hp : H p = none) : Rep g (upd R p o) (upd H p o) ι S :=
  (rep.newH hp).freeze upd_same (rep.noR hp) (rep.noL hp)
end

def optO {γ α : Type} (o : Option γ) (k : γ → Out α) : Out α := match o with
  | some x => k x
  | none => .stuck
section
variable {α β : Type} {g : Gd} {W : WX} {rel : Hp → Hp → Hp → List Addr → Sto → β → α → Prop} {R H : Hp} {ι : List Addr} {S : Sto} {σ : L2.St} {Q : β → Hp → Prop}
theorem Post.ite {c : Prop} [Decidable c] {o : Out α} (post : Post g W rel R H ι S σ (if c then o else .stuck) Q) : c ∧ Post g W rel R H ι S σ o Q := by
  by_cases h : c
  · rw [if_pos h] at post
    exact ⟨h, post⟩
  · rw [if_neg h] at post
    exact post.elim
theorem Post.opt {γ : Type} {o : Option γ} {k : γ → Out α} (post : Post g W rel R H ι S σ (optO o k) Q) : ∃ x, o = some x ∧ Post g W rel R H ι S σ (k x) Q := by
  cases o with
  | none => exact post.elim
  | some x => exact ⟨x, rfl, post⟩
end

/-! ### the end of a pure step -/
section
variable {g : Gd} {W : WX} {R H : Hp} {ι : List Addr} {S : Sto} {σ : L2.St} {Q : VK} {v : V} {d : D} {bw : Bool}
theorem Post.val (rep : Rep g R H ι S) (h : Dv g R ι v d) (post : Post g W (relE g bw) R H ι S σ (.ok d S) Q) : Q v H := post v R ι H rep Ext.refl (VD.of h)
theorem Post.newL {vs : List V} {ds : List D} (rep : Rep g R H ι S) (h : DvAll g R ι vs ds) (post : Post g W (relE g bw) R H ι S σ (.ok (.list ds) S) Q) : ∀ p, H p = none → Q (.ref p) (upd H p (.lst vs)) := fun p hp =>
  post _ _ ι _ (rep.newR hp) (Ext.newR rep hp) (VD.of (.lst upd_same (h.mono (rsub_upd (rep.noR hp)) fun _ _ e => e)))
theorem Post.newT {vs : List V} {ds : List D} (rep : Rep g R H ι S) (h : DvAll g R ι vs ds) (post : Post g W (relE g bw) R H ι S σ (.ok (.tup ds) S) Q) : ∀ p, H p = none → Q (.ref p) (upd H p (.tup vs)) := fun p hp =>
  post _ _ ι _ (rep.newR hp) (Ext.newR rep hp) (VD.of (.tup (SqT.of upd_same) (h.mono (rsub_upd (rep.noR hp)) fun _ _ e => e)))
theorem Post.newF {vs : List V} {ds : List D} (rep : Rep g R H ι S) (h : DvAll g R ι vs ds) (post : Post g W (relF g) R H ι S σ (.ok ds S) Q) : ∀ p, H p = none → Q (.ref p) (upd H p (.lst vs)) := fun p hp =>
  post _ R ι _ (rep.newH hp) (Ext.newH hp) ⟨p, vs, rfl, hp, upd_same, rep.noR hp, rep.noL hp, h⟩
end

/-! ### names, constants -/
section
variable {X : Cx} {W : WX} {bw : Bool}
def getv (i : Nat) (env : Env) : M D := match env[i]? with
  | some (.val d) => pure d
  | _ => Mstuck
def getb (i : Nat) (env : Env) : M D := match env[i]? with
  | some (.val d) => pure d
  | some (.own xs) => pure (.list xs)
  | _ => Mstuck
theorem RepE.at {g : Gd} {R H : Hp} {ι : List Addr} {S : Sto} {σ : L2.St} {env : Env} {i : Nat} {sl : Sl} (h : RepE g R H ι S σ env) (e : env[i]? = some sl) : ∃ u, σ[i]? = some u ∧ SlotOk g R H ι S u sl := by
  have hi : i < σ.length := by
    rw [← h.len]
    exact (List.getElem?_eq_some_iff.mp e).1
  exact ⟨σ[i], List.getElem?_eq_getElem hi, h.slot i sl _ e (List.getElem?_eq_getElem hi)⟩
theorem se_var {i : Nat} {x : Str} {pos : Pos} (h : PE X (.Name x pos) (tVar i)) : SE X W bw (.Name x pos) (getv i) := PE.imp h fun σ H Q ⟨R, ι, S, env, rep, repE, post⟩ => by
  unfold getv at post
  cases e : env[i]? with
  | none =>
    rw [e] at post
    exact post.elim
  | some sl =>
    cases sl with
    | val d =>
      rw [e] at post
      obtain ⟨u, hu, v, rfl, hv⟩ := repE.at e
      exact ⟨v, hu, Post.val rep hv post⟩
    | un =>
      rw [e] at post
      exact post.elim
    | own xs =>
      rw [e] at post
      exact post.elim
theorem se_varB {i : Nat} {x : Str} {pos : Pos} (h : PE X (.Name x pos) (tVar i)) : SE X W true (.Name x pos) (getb i) := PE.imp h fun σ H Q ⟨R, ι, S, env, rep, repE, post⟩ => by
  unfold getb at post
  cases e : env[i]? with
  | none =>
    rw [e] at post
    exact post.elim
  | some sl =>
    cases sl with
    | val d =>
      rw [e] at post
      obtain ⟨u, hu, v, rfl, hv⟩ := repE.at e
      exact ⟨v, hu, Post.val rep hv post⟩
    | un =>
      rw [e] at post
      exact post.elim
    | own xs =>
      rw [e] at post
      obtain ⟨u, hu, a, vs, rfl, h1, h2, h3, h4⟩ := repE.at e
      exact ⟨.ref a, hu, post _ R ι H rep Ext.refl (.inr ⟨a, vs, xs, rfl, rfl, h1, h4, h3, h2⟩)⟩
theorem se_const {e : Expr} {v : V} {d : D} (h : PE X e (tC v)) (hd : ∀ R ι, Dv (Cx.g X) R ι v d) : SE X W bw e (fun _ => pure d) := PE.imp h fun σ H Q ⟨R, ι, S, env, rep, repE, post⟩ => Post.val rep (hd R ι) post
theorem se_int {i : Int} {j pos} : SE X W bw (.Constant (.int i) j pos) (fun _ => pure (.int i)) := se_const pe_int fun _ _ => .int
theorem se_bl {b : Bool} {j pos} : SE X W bw (.Constant (.bool b) j pos) (fun _ => pure (.bool b)) := se_const pe_bl fun _ _ => .bl
theorem se_non {j pos} : SE X W bw (.Constant .none j pos) (fun _ => pure .none) := se_const pe_non fun _ _ => .non
theorem se_str {x : Str} {j pos} : SE X W bw (.Constant (.str x) j pos) (fun _ => pure (.str x)) := se_const pe_str fun _ _ => .str
end

/-! ### operators -/
section
variable {X : Cx} {W : WX} {bw : Bool}
theorem OpR.or {f : Value → Value → Sem Value} {r r' : R2} (h : OpR X f r) (h' : OpR X f r') : OpR X f (fun x y H Q => r x y H Q ∨ r' x y H Q) := by
  intro pins s σ H x y v u Q I rx ry q
  rcases q with q | q
  · exact h pins s σ H x y v u Q I rx ry q
  · exact h' pins s σ H x y v u Q I rx ry q
/-- an operator computes gop -/
structure OpM (X : Cx) (W : WX) (f : Value → Value → Sem Value) (gop : D → D → M D) : Prop where
  ex : ∃ r : R2, OpR X f r ∧ ∀ bw R H ι S σ v u d e (Q : VK), Rep (Cx.g X) R H ι S → Bw (Cx.g X) R H ι S v d → Bw (Cx.g X) R H ι S u e → Post (Cx.g X) W (relE (Cx.g X) bw) R H ι S σ (gop d e S) Q → r v u H Q
theorem se_op {a b e : Expr} {f : Value → Value → Sem Value} {gop : D → D → M D} {ma mb : Env → M D} (ho : OpM X W f gop) (he : ∀ r : R2, OpR X f r → PE X e (tOp r (tG (Cx.g X) W (relE (Cx.g X) true) ma) (tG (Cx.g X) W (relE (Cx.g X) true) mb))) :
    SE X W bw e (fun env => ma env >>= fun x => mb env >>= fun y => gop x y) := by
  obtain ⟨r, h1, h2⟩ := ho.ex
  refine PE.imp (he r h1) fun σ H Q ⟨R, ι, S, env, rep, repE, post⟩ => ?_
  refine tG_then later_E rep repE post fun R1 H1 ι1 S1 v d rep1 repE1 x1 b1 post1 => ?_
  refine tG_then later_E rep1 repE1 post1 fun R2 H2 ι2 S2 u e rep2 repE2 x2 b2 post2 => ?_
  exact h2 _ R2 H2 ι2 S2 σ v u d e Q rep2 (Bw.ext b1 x2) b2 post2
theorem se_bin {a b : Expr} {op : Operator} {pos : Pos} {gop : D → D → M D} {ma mb : Env → M D} (ho : OpM X W (binaryOp op) gop) (ha : SE X W true a ma) (hb : SE X W true b mb) :
    SE X W bw (.BinOp a op b pos) (fun env => ma env >>= fun x => mb env >>= fun y => gop x y) := se_op (a := a) (b := b) ho fun r h => pe_op h ha hb
theorem se_cmp {a b : Expr} {op : CmpOp} {pos : Pos} {gop : D → D → M D} {ma mb : Env → M D} (ho : OpM X W (compareOp op) gop) (ha : SE X W true a ma) (hb : SE X W true b mb) (hm : behindInMarks op b = false) :
    SE X W bw (.Compare a [op] [b] pos) (fun env => ma env >>= fun x => mb env >>= fun y => gop x y) := se_op (a := a) (b := b) ho fun r h => pe_cmpR h ha hb hm

/-! ### lists and tuples by values -/
def asList (d : D) (S : Sto) : Option (List D) := match d with
  | .list xs => some xs
  | .obj id => match S[id]? with
    | some (some (.list xs)) => some xs
    | _ => none
  | _ => none
def asRead (d : D) (S : Sto) : Option (List D) := match d with
  | .frl xs => some xs
  | d => asList d S
def asTup : D → Option (List D)
  | .tup xs => some xs
  | _ => none
theorem Bw.lst {g : Gd} {R H : Hp} {ι : List Addr} {S : Sto} {v : V} {d : D} {xs : List D} (rep : Rep g R H ι S) (h : Bw g R H ι S v d) (e : asList d S = some xs) : ∃ a vs, v = .ref a ∧ H a = some (.lst vs) ∧ DvAll g R ι vs xs := by
  rcases h with h | ⟨a, vs, ds, rfl, rfl, h, _, _, t⟩
  · cases h with
    | lst h t =>
      cases e
      exact ⟨_, _, rfl, rep.sub _ _ h, t⟩
    | obj h =>
      rename_i a id
      have e : (match S[id]? with
        | some (some (.list xs)) => some xs
        | _ => none) = some xs := e
      cases hs : S[id]? with
      | none =>
        rw [hs] at e
        cases e
      | some c =>
        rw [hs] at e
        cases c with
        | none => cases e
        | some c =>
          cases c with
          | list ys =>
            cases e
            obtain ⟨⟨vs, h2, t⟩, _⟩ := rep.cell id a _ h hs
            exact ⟨a, vs, rfl, h2, t⟩
          | inst c fs => cases e
          | tbl s => cases e
    | _ => cases e
  · cases e
    exact ⟨a, vs, rfl, h, t⟩
theorem Bw.read {g : Gd} {R H : Hp} {ι : List Addr} {S : Sto} {v : V} {d : D} {xs : List D} (rep : Rep g R H ι S) (h : Bw g R H ι S v d) (e : asRead d S = some xs) : ∃ a vs, v = .ref a ∧ SqL g.K H a vs ∧ DvAll g R ι vs xs := by
  cases d with
  | frl ys =>
    cases e
    rcases h with h | ⟨a, vs, ds, rfl, e, _⟩
    · cases h with
      | frl h t => exact ⟨_, _, rfl, sqL_sub rep.sub h, t⟩
    · cases e
  | _ =>
    obtain ⟨a, vs, rfl, h, t⟩ := Bw.lst rep h e
    exact ⟨a, vs, rfl, SqL.of h, t⟩
theorem Bw.dv {g : Gd} {R H : Hp} {ι : List Addr} {S : Sto} {v : V} {d : D} (h : Bw g R H ι S v d) (e : ∀ xs, d ≠ .list xs) : Dv g R ι v d := by
  rcases h with h | ⟨a, vs, ds, rfl, rfl, _⟩
  · exact h
  · exact absurd rfl (e ds)
theorem Bw.tup {g : Gd} {R H : Hp} {ι : List Addr} {S : Sto} {v : V} {d : D} {xs : List D} (rep : Rep g R H ι S) (h : Bw g R H ι S v d) (e : asTup d = some xs) : ∃ a vs, v = .ref a ∧ SqT g.K H a vs ∧ DvAll g R ι vs xs := by
  cases d with
  | tup ys =>
    cases e
    have h2 : Dv g R ι v (.tup xs) := h.dv fun _ z => by cases z
    cases h2 with
    | tup q t => exact ⟨_, _, rfl, sqT_sub rep.sub q, t⟩
  | _ => cases e
theorem Bw.int {g : Gd} {R H : Hp} {ι : List Addr} {S : Sto} {v : V} {i : Int} (h : Bw g R H ι S v (.int i)) : v = .int i := by
  have h := h.dv fun _ z => by cases z
  cases h
  rfl
theorem Bw.str {g : Gd} {R H : Hp} {ι : List Addr} {S : Sto} {v : V} {i : Str} (h : Bw g R H ι S v (.str i)) : v = .str i := by
  have h := h.dv fun _ z => by cases z
  cases h
  rfl
theorem Bw.bl {g : Gd} {R H : Hp} {ι : List Addr} {S : Sto} {v : V} {i : Bool} (h : Bw g R H ι S v (.bool i)) : v = .bl i := by
  have h := h.dv fun _ z => by cases z
  cases h
  rfl
theorem Bw.non {g : Gd} {R H : Hp} {ι : List Addr} {S : Sto} {v : V} (h : Bw g R H ι S v .none) : v = .non := by
  have h := h.dv fun _ z => by cases z
  cases h
  rfl

/-! ### + -/
def addL (x y : D) : M D := fun S => optO (asList x S) fun xs => optO (asList y S) fun ys => if xs.length + ys.length ≤ sizeLine then .ok (.list (xs ++ ys)) S else .stuck
/-- ints, texts, lists, tuples (the left one not empty) -/
def addM (x y : D) : M D := fun S => match x, y with
  | .int i, .int j => .ok (.int (i + j)) S
  | .str a, .str b => if a.length + b.length ≤ sizeLine then .ok (.str (a ++ b)) S else .stuck
  | .tup xs, .tup ys => if xs.isEmpty = false ∧ xs.length + ys.length ≤ sizeLine then .ok (.tup (xs ++ ys)) S else .stuck
  | x, y => addL x y S
theorem op_addM : OpM X W (binaryOp .Add) addM := by
  refine ⟨_, OpR.or op_add (OpR.or op_add_str (OpR.or op_catT op_cat)), fun bw R H ι S σ v u d e Q rep hv hu post => ?_⟩
  have lists : Post (Cx.g X) W (relE (Cx.g X) bw) R H ι S σ (addL d e S) Q → rCat v u H Q := fun post => by
    obtain ⟨xs, e1, post⟩ := Post.opt post
    obtain ⟨ys, e2, post⟩ := Post.opt post
    obtain ⟨hz, post⟩ := Post.ite post
    obtain ⟨a, vs, rfl, ha, ta⟩ := hv.lst rep e1
    obtain ⟨b, ws, rfl, hb, tb⟩ := hu.lst rep e2
    exact ⟨a, b, vs, ws, rfl, rfl, ha, hb, by rw [ta.len, tb.len]; exact hz, Post.newL rep (ta.app tb) post⟩
  cases d with
  | int i =>
    cases e with
    | int j =>
      rw [hv.int, hu.int]
      exact .inl ⟨i, j, rfl, rfl, Post.val rep .int post⟩
    | _ => exact .inr (.inr (.inr (lists post)))
  | str i =>
    cases e with
    | str j =>
      rw [hv.str, hu.str]
      obtain ⟨hz, post⟩ := Post.ite post
      exact .inr (.inl ⟨i, j, rfl, rfl, hz, Post.val rep .str post⟩)
    | _ => exact .inr (.inr (.inr (lists post)))
  | tup xs =>
    cases e with
    | tup ys =>
      obtain ⟨hz, post⟩ := Post.ite post
      obtain ⟨a, vs, rfl, ha, ta⟩ := hv.tup rep rfl
      obtain ⟨b, ws, rfl, hb, tb⟩ := hu.tup rep rfl
      refine .inr (.inr (.inl ⟨a, b, vs, ws, rfl, rfl, ha, hb, fun z => ?_, by rw [ta.len, tb.len]; exact hz.2, fun z => ?_, fun _ => Post.newT rep (ta.app tb) post⟩))
      · subst z
        cases ta
        exact absurd hz.1 (by decide)
      · subst z
        cases tb
        rw [List.append_nil] at post
        have hv' := hv.dv fun _ z => by cases z
        exact Post.val rep hv' post
    | _ => exact .inr (.inr (.inr (lists post)))
  | _ => exact .inr (.inr (.inr (lists post)))
end
end Sm

set_option Elab.async false
set_option linter.all false
set_option maxRecDepth 100000
set_option maxHeartbeats 2000000
/-! Sm3: more operators, tests. -/
namespace Sm
open PySem PySem.Spec PyProof.Rows L2

section
variable {X : Cx} {W : WX} {bw : Bool}

/-! ### ints -/
def int2 (C : Int → Int → Bool) (f : Int → Int → Int) (x y : D) : M D := fun S => match x, y with
  | .int i, .int j => if C i j = true then .ok (.int (f i j)) S else .stuck
  | _, _ => .stuck
theorem op_int2 {f : Value → Value → Sem Value} {C : Int → Int → Bool} {C' : Int → Int → Prop} {h : Int → Int → Int} (ho : OpR X f (rI C' fun i j => .int (h i j))) (hc : ∀ i j, C i j = true → C' i j) : OpM X W f (int2 C h) := by
  refine ⟨_, ho, fun bw R H ι S σ v u d e Q rep hv hu post => ?_⟩
  cases d with
  | int i =>
    cases e with
    | int j =>
      obtain ⟨c, post⟩ := Post.ite post
      rw [hv.int, hu.int]
      exact ⟨i, j, rfl, rfl, hc i j c, Post.val rep .int post⟩
    | _ => exact post.elim
  | _ => exact post.elim
def cT (_ _ : Int) : Bool := true
abbrev subM : D → D → M D := int2 cT fun i j => i - j
def cDiv (_ j : Int) : Bool := decide (0 < j ∧ j.natAbs.log2 < 9000)
abbrev fdivM : D → D → M D := int2 cDiv fun i j => i / j
def cMod (_ j : Int) : Bool := decide (0 < j)
abbrev modM : D → D → M D := int2 cMod fun i j => i % j
def cPow (i j : Int) : Bool := decide (0 ≤ j ∧ j ≤ 100 ∧ Builtin.Int.intBits i ≤ 1000000)
abbrev powM : D → D → M D := int2 cPow fun i j => i ^ j.toNat
theorem op_subM : OpM X W (binaryOp .Sub) subM := op_int2 (C' := fun _ _ => True) (by
  intro pins s σ H x y v u Q I rx ry ⟨i, j, a, b, _, q⟩
  exact op_sub pins s σ H x y v u Q I rx ry ⟨i, j, a, b, q⟩) fun _ _ _ => trivial
theorem op_fdivM : OpM X W (binaryOp .FloorDiv) fdivM := op_int2 op_fdivW fun _ j c => by
  have h := of_decide_eq_true (show decide (0 < j ∧ j.natAbs.log2 < 9000) = true from c)
  exact h
theorem op_modM : OpM X W (binaryOp .Mod) modM := op_int2 op_mod fun _ _ c => of_decide_eq_true c
theorem op_powX : OpR X (binaryOp .Pow) (rI (fun i j => 0 ≤ j ∧ j ≤ 100 ∧ Builtin.Int.intBits i ≤ 1000000) fun i j => .int (i ^ j.toNat)) := opI fun i j _ _ _ _ _ hc q => pow_int hc.1 (by
  have h1 : (Builtin.Int.intBits i : Int) * j ≤ 1000000 * j := Int.mul_le_mul_of_nonneg_right (by have := hc.2.2; omega) hc.1
  have h2 := hc.2.1
  omega) q
theorem op_powM : OpM X W (binaryOp .Pow) powM := op_int2 op_powX fun i j c => by
  have h := of_decide_eq_true (show decide (0 ≤ j ∧ j ≤ 100 ∧ Builtin.Int.intBits i ≤ 1000000) = true from c)
  exact h

/-! ### * -/
def mulL (x : D) (k : Int) : M D := fun S => optO (asList x S) fun xs => if -(2 ^ 63) ≤ k ∧ k < 2 ^ 63 ∧ xs.length * k.toNat ≤ sizeLine then .ok (.list (List.replicate k.toNat xs).flatten) S else .stuck
def mulM (x y : D) : M D := fun S => match x, y with
  | .int i, .int j => if ((-(2 ^ 64) < i ∧ i < 2 ^ 64) ∨ (-(2 ^ 64) < j ∧ j < 2 ^ 64)) ∨ (Builtin.Int.intBits i ≤ 1000000 ∧ Builtin.Int.intBits j ≤ 1000000) then .ok (.int (i * j)) S else .stuck
  | x, .int k => mulL x k S
  | _, _ => .stuck
theorem DvAll.flat {g : Gd} {R : Hp} {ι : List Addr} {vs : List V} {ds : List D} (h : DvAll g R ι vs ds) : ∀ n, DvAll g R ι (List.replicate n vs).flatten (List.replicate n ds).flatten
  | 0 => .nil
  | n + 1 => by
    rw [List.replicate_succ, List.replicate_succ, List.flatten_cons, List.flatten_cons]
    exact h.app (DvAll.flat h n)
theorem op_mulM : OpM X W (binaryOp .Mult) mulM := by
  refine ⟨_, OpR.or (OpR.or op_mul L2.op_mulX) op_rep, fun bw R H ι S σ v u d e Q rep hv hu post => ?_⟩
  have lists : ∀ k, e = .int k → Post (Cx.g X) W (relE (Cx.g X) bw) R H ι S σ (mulL d k S) Q → rRep v u H Q := fun k he post => by
    obtain ⟨xs, ex, post⟩ := Post.opt post
    obtain ⟨c, post⟩ := Post.ite post
    obtain ⟨a, vs, rfl, ha, ta⟩ := hv.lst rep ex
    rw [he] at hu
    rw [hu.int]
    exact ⟨a, k, vs, rfl, rfl, ha, c.1, c.2.1, by rw [ta.len]; exact c.2.2, Post.newL rep (ta.flat k.toNat) post⟩
  cases e with
  | int j =>
    cases d with
    | int i =>
      obtain ⟨c, post⟩ := Post.ite post
      rw [hv.int, hu.int]
      rcases c with c | c
      · exact .inl (.inl ⟨i, j, rfl, rfl, c, Post.val rep .int post⟩)
      · exact .inl (.inr ⟨i, j, rfl, rfl, (by unfold CMulX; omega), Post.val rep .int post⟩)
    | _ => exact .inr (lists j rfl post)
  | _ => cases d <;> exact post.elim

/-! ### <, <=, >, >= -/
def ordM (f : Int → Int → Bool) (h : Str → Str → Bool) (x y : D) : M D := fun S => match x, y with
  | .int i, .int j => .ok (.bool (f i j)) S
  | .str a, .str b => .ok (.bool (h a b)) S
  | _, _ => .stuck
theorem op_ordM {op : Value → Value → Sem Value} {f : Int → Int → Bool} {h : Str → Str → Bool} (o1 : OpR X op (rI0 fun i j => .bl (f i j))) (o2 : OpR X op (fun x y H Q => ∃ i j, x = .str i ∧ y = .str j ∧ Q (.bl (h i j)) H)) : OpM X W op (ordM f h) := by
  refine ⟨_, OpR.or o1 o2, fun bw R H ι S σ v u d e Q rep hv hu post => ?_⟩
  cases d with
  | int i =>
    cases e with
    | int j =>
      rw [hv.int, hu.int]
      exact .inl ⟨i, j, rfl, rfl, Post.val rep .bl post⟩
    | _ => exact post.elim
  | str i =>
    cases e with
    | str j =>
      rw [hv.str, hu.str]
      exact .inr ⟨i, j, rfl, rfl, Post.val rep .bl post⟩
    | _ => exact post.elim
  | _ => exact post.elim
abbrev ltM : D → D → M D := ordM (fun i j => decide (i < j)) fun a b => decide (a.cps.toList < b.cps.toList)
abbrev leM : D → D → M D := ordM (fun i j => decide (i ≤ j)) fun a b => !decide (b.cps.toList < a.cps.toList)
abbrev gtM : D → D → M D := ordM (fun i j => decide (j < i)) fun a b => decide (b.cps.toList < a.cps.toList)
abbrev geM : D → D → M D := ordM (fun i j => decide (j ≤ i)) fun a b => !decide (a.cps.toList < b.cps.toList)
theorem op_ltM : OpM X W (compareOp .Lt) ltM := op_ordM op_lt op_lt_str
theorem op_leM : OpM X W (compareOp .LtE) leM := op_ordM op_le op_le_str
theorem op_gtM : OpM X W (compareOp .Gt) gtM := op_ordM op_gt op_gt_str
theorem op_geM : OpM X W (compareOp .GtE) geM := op_ordM op_ge op_ge_str

/-! ### data as the library's data -/
mutual
def toP : D → Option PyData
  | .none => some .none
  | .bool b => some (.bool b)
  | .int i => some (.int i)
  | .str x => some (.str x)
  | .list xs => (toPs xs).map .list
  | .frl xs => (toPs xs).map .list
  | .tup xs => (toPs xs).map .tuple
  | .dict _ => none
  | .obj _ => none
  | .inst _ _ => none
  | .exc _ _ => none
def toPs : List D → Option (List PyData)
  | [] => some []
  | d :: ds => match toP d, toPs ds with
    | some p, some ps => some (p :: ps)
    | _, _ => none
end
theorem toPs_cons {d : D} {ds : List D} {ps : List PyData} (h : toPs (d :: ds) = some ps) : ∃ q qs, ps = q :: qs ∧ toP d = some q ∧ toPs ds = some qs := by
  rw [toPs] at h
  cases h1 : toP d with
  | none =>
    rw [h1] at h
    cases h
  | some q =>
    rw [h1] at h
    cases h2 : toPs ds with
    | none =>
      rw [h2] at h
      cases h
    | some qs =>
      rw [h2] at h
      cases h
      exact ⟨q, qs, rfl, rfl, rfl⟩
section
variable {g : Gd} {R H : Hp} {ι : List Addr}
mutual
theorem Dv.dp (hr : ∀ a o, R a = some o → H a = some o) : ∀ {v : V} {d : D} {p : PyData}, Dv g R ι v d → toP d = some p → Dp g.K H v p
  | _, .none, _, .non, e => by cases e; exact .non
  | _, .bool _, _, .bl, e => by cases e; exact .bl _
  | _, .int _, _, .int, e => by cases e; exact .int _
  | _, .str _, _, .str, e => by cases e; exact .str _
  | _, .list ds, p, .lst h t, e => by
    rw [toP] at e
    cases q : toPs ds with
    | none =>
      rw [q] at e
      cases e
    | some ps =>
      rw [q] at e
      cases e
      exact .lst (SqL.of (hr _ _ h)) (DvAll.dp hr t q)
  | _, .frl ds, p, .frl h t, e => by
    rw [toP] at e
    cases q : toPs ds with
    | none =>
      rw [q] at e
      cases e
    | some ps =>
      rw [q] at e
      cases e
      exact .lst (sqL_sub hr h) (DvAll.dp hr t q)
  | _, .tup ds, p, .tup h t, e => by
    rw [toP] at e
    cases q : toPs ds with
    | none =>
      rw [q] at e
      cases e
    | some ps =>
      rw [q] at e
      cases e
      exact .tup (sqT_sub hr h) (DvAll.dp hr t q)
theorem DvAll.dp (hr : ∀ a o, R a = some o → H a = some o) : ∀ {vs : List V} {ds : List D} {ps : List PyData}, DvAll g R ι vs ds → toPs ds = some ps → DpAll g.K H vs ps
  | _, _, _, .nil, e => by
    rw [toPs] at e
    cases e
    exact .nil
  | _, _, _, .cons h t, e => by
    obtain ⟨q, qs, rfl, e1, e2⟩ := toPs_cons e
    exact .cons (Dv.dp hr h e1) (DvAll.dp hr t e2)
end
end
/-- the data that a value shows now -/
def toPS (d : D) (S : Sto) : Option PyData := match asRead d S with
  | some xs => (toPs xs).map .list
  | none => toP d
theorem Bw.dp {g : Gd} {R H : Hp} {ι : List Addr} {S : Sto} {v : V} {d : D} {p : PyData} (rep : Rep g R H ι S) (h : Bw g R H ι S v d) (e : toPS d S = some p) : Dp g.K H v p := by
  unfold toPS at e
  cases q : asRead d S with
  | some xs =>
    rw [q] at e
    obtain ⟨a, vs, rfl, hs, t⟩ := h.read rep q
    have e : (toPs xs).map .list = some p := e
    cases q2 : toPs xs with
    | none =>
      rw [q2] at e
      cases e
    | some ps =>
      rw [q2] at e
      cases e
      exact .lst hs (t.dp rep.sub q2)
  | none =>
    rw [q] at e
    exact (h.dv fun xs z => by subst z; cases q).dp rep.sub e

/-! ### ==, != -/
/-- of two flat values of which == tells without any look inside -/
def flatEq : D → D → Option Bool
  | .none, .none => some true
  | .none, .bool _ => some false
  | .none, .int _ => some false
  | .none, .str _ => some false
  | .bool a, .bool b => some (a == b)
  | .bool _, .none => some false
  | .bool _, .str _ => some false
  | .int a, .int b => some (a == b)
  | .int _, .none => some false
  | .int _, .str _ => some false
  | .str a, .str b => some (a == b)
  | .str _, .none => some false
  | .str _, .bool _ => some false
  | .str _, .int _ => some false
  | _, _ => none
theorem flatEq_ok {g : Gd} {R H : Hp} {ι : List Addr} {S : Sto} {v u : V} {d e : D} {b : Bool} (hv : Bw g R H ι S v d) (hu : Bw g R H ι S u e) (h : flatEq d e = some b) : scal v u = true ∧ decide (v = u) = b := by
  cases d <;> cases e <;> first
    | (cases h; done)
    | (simp only [flatEq, Option.some.injEq] at h
       subst h
       have hv := hv.dv fun _ z => by cases z
       have hu := hu.dv fun _ z => by cases z
       cases hv
       cases hu
       first
         | exact ⟨rfl, rfl⟩
         | exact ⟨rfl, dec_int⟩
         | exact ⟨rfl, dec_bl⟩
         | exact ⟨rfl, dec_str⟩
         | exact ⟨rfl, by simp⟩)
/-- two lists that are not of one length -/
def lenNe (x y : D) (S : Sto) : Bool := match asRead x S, asRead y S with
  | some xs, some ys => xs.length != ys.length
  | _, _ => false
theorem op_eqLen (hu : X.A.units + 64 < cLine) : OpR X (compareOp .Eq) (fun x y H Q => ∃ a b xs ys, x = .ref a ∧ y = .ref b ∧ SqL X.K H a xs ∧ SqL X.K H b ys ∧ xs.length ≠ ys.length ∧ Q (.bl false) H) := by
  intro pins s σ H x y v u Q I rx ry ⟨a, b, xs, ys, h1, h2, ha, hb, hn, q⟩
  subst h1
  subst h2
  cases rx
  cases ry
  obtain ⟨us, r1, p1, _⟩ := I.list ha
  obtain ⟨ws, r2, p2, _⟩ := I.list hb
  exact SeqAt.eq_list_lengthsAt p1.isList p2.isList (by rw [List.size_toArray, List.size_toArray, ← r1.length, ← r2.length]; simpa using hn) (by omega) ⟨.bl false, H, I, rfl, q⟩
theorem op_neLen (hu : X.A.units + 64 < cLine) : OpR X (compareOp .NotEq) (fun x y H Q => ∃ a b xs ys, x = .ref a ∧ y = .ref b ∧ SqL X.K H a xs ∧ SqL X.K H b ys ∧ xs.length ≠ ys.length ∧ Q (.bl true) H) := by
  intro pins s σ H x y v u Q I rx ry ⟨a, b, xs, ys, h1, h2, ha, hb, hn, q⟩
  subst h1
  subst h2
  cases rx
  cases ry
  obtain ⟨us, r1, p1, _⟩ := I.list ha
  obtain ⟨ws, r2, p2, _⟩ := I.list hb
  exact SeqAt.RcNeAt.lists_lengths p1.isList p2.isList (by rw [List.size_toArray, List.size_toArray, ← r1.length, ← r2.length]; simpa using hn) (by omega) X.prog X.w _ _ ⟨.bl true, H, I, rfl, q⟩
def eqG (neg : Bool) (x y : D) : M D := fun S => match flatEq x y with
  | some b => .ok (.bool (b ^^ neg)) S
  | none => if lenNe x y S = true then .ok (.bool neg) S else optO (toPS x S) fun p => optO (toPS y S) fun q => if SeqAt.shaped p = true ∧ SeqAt.shaped q = true then .ok (.bool (PyData.eqv p q ^^ neg)) S else .stuck
theorem op_eqG {neg : Bool} {f : Value → Value → Sem Value} (o1 : OpR X f (fun x y H Q => scal x y = true ∧ Q (.bl (decide (x = y) ^^ neg)) H))
    (o2 : OpR X f (fun x y H Q => ∃ d e, Dp X.K H x d ∧ Dp X.K H y e ∧ SeqAt.shaped d = true ∧ SeqAt.shaped e = true ∧ Q (.bl (PyData.eqv d e ^^ neg)) H))
    (o3 : OpR X f (fun x y H Q => ∃ a b xs ys, x = .ref a ∧ y = .ref b ∧ SqL X.K H a xs ∧ SqL X.K H b ys ∧ xs.length ≠ ys.length ∧ Q (.bl neg) H)) : OpM X W f (eqG neg) := by
  refine ⟨_, OpR.or o1 (OpR.or o2 o3), fun bw R H ι S σ v u d e Q rep hv hu post => ?_⟩
  unfold eqG at post
  cases q : flatEq d e with
  | some b =>
    rw [q] at post
    obtain ⟨h1, h2⟩ := flatEq_ok hv hu q
    exact .inl ⟨h1, by rw [h2]; exact Post.val rep .bl post⟩
  | none =>
    simp only [q] at post
    by_cases hl : lenNe d e S = true
    · rw [if_pos hl] at post
      unfold lenNe at hl
      cases e1 : asRead d S with
      | none =>
        simp only [e1] at hl
        cases hl
      | some xs =>
        cases e2 : asRead e S with
        | none =>
          simp only [e1, e2] at hl
          cases hl
        | some ys =>
          simp only [e1, e2] at hl
          obtain ⟨a, vs, rfl, ha, ta⟩ := hv.read rep e1
          obtain ⟨b, ws, rfl, hb, tb⟩ := hu.read rep e2
          exact .inr (.inr ⟨a, b, vs, ws, rfl, rfl, ha, hb, by rw [ta.len, tb.len]; simpa using hl, Post.val rep .bl post⟩)
    rw [if_neg hl] at post
    obtain ⟨p1, q1, post⟩ := Post.opt post
    obtain ⟨p2, q2, post⟩ := Post.opt post
    obtain ⟨c, post⟩ := Post.ite post
    exact .inr (.inl ⟨p1, p2, hv.dp rep q1, hu.dp rep q2, c.1, c.2, Post.val rep .bl post⟩)
abbrev eqM : D → D → M D := eqG false
abbrev neM : D → D → M D := eqG true
theorem op_eqM (hu : X.A.units + 64 < cLine) : OpM X W (compareOp .Eq) eqM := op_eqG (by
  intro pins s σ H x y v u Q I rx ry ⟨h, q⟩
  exact op_eq pins s σ H x y v u Q I rx ry ⟨h, by rw [Bool.xor_false] at q; exact q⟩) (by
  intro pins s σ H x y v u Q I rx ry ⟨d, e, h1, h2, h3, h4, q⟩
  exact op_eqD hu pins s σ H x y v u Q I rx ry ⟨d, e, h1, h2, h3, h4, by rw [Bool.xor_false] at q; exact q⟩) (op_eqLen hu)
theorem op_neM (hu : X.A.units + 64 < cLine) : OpM X W (compareOp .NotEq) neM := op_eqG (by
  intro pins s σ H x y v u Q I rx ry ⟨h, q⟩
  exact op_ne pins s σ H x y v u Q I rx ry ⟨h, by rw [Bool.xor_true] at q; exact q⟩) (by
  intro pins s σ H x y v u Q I rx ry ⟨d, e, h1, h2, h3, h4, q⟩
  exact op_neD hu pins s σ H x y v u Q I rx ry ⟨d, e, h1, h2, h3, h4, by rw [Bool.xor_true] at q; exact q⟩) (op_neLen hu)

/-! ### is, is not: None, True, False -/
def isNone : D → Bool
  | .none => true
  | _ => false
theorem Bw.isNone {g : Gd} {R H : Hp} {ι : List Addr} {S : Sto} {v : V} {d : D} (h : Bw g R H ι S v d) : decide (v = .non) = Sm.isNone d := by
  rcases h with h | ⟨a, vs, ds, rfl, rfl, _⟩
  · cases h <;> simp [Sm.isNone]
  · rfl
def isG (neg : Bool) (x y : D) : M D := fun S => match y with
  | .none => .ok (.bool (isNone x ^^ neg)) S
  | .bool b => match x with
    | .bool a => .ok (.bool (a == b ^^ neg)) S
    | _ => .stuck
  | _ => .stuck
theorem op_isG {neg : Bool} {f : Value → Value → Sem Value} (o1 : OpR X f (fun x y H Q => y = .non ∧ Q (.bl (decide (x = .non) ^^ neg)) H))
    (o2 : OpR X f (fun x y H Q => ∃ a b : Bool, x = .bl a ∧ y = .bl b ∧ Q (.bl (decide (a = b) ^^ neg)) H)) : OpM X W f (isG neg) := by
  refine ⟨_, OpR.or o1 o2, fun bw R H ι S σ v u d e Q rep hv hu post => ?_⟩
  cases e with
  | none =>
    rw [hu.non]
    exact .inl ⟨rfl, by rw [hv.isNone]; exact Post.val rep .bl post⟩
  | bool b =>
    cases d with
    | bool a =>
      rw [hv.bl, hu.bl]
      refine .inr ⟨a, b, rfl, rfl, ?_⟩
      have e : decide (a = b) = (a == b) := by cases a <;> cases b <;> rfl
      rw [e]
      exact Post.val rep .bl post
    | _ => exact post.elim
  | _ => exact post.elim
abbrev isM : D → D → M D := isG false
abbrev isNotM : D → D → M D := isG true
theorem op_isM : OpM X W (compareOp .Is) isM := op_isG (by
  intro pins s σ H x y v u Q I rx ry ⟨h, q⟩
  exact op_isN pins s σ H x y v u Q I rx ry ⟨h, by rw [Bool.xor_false] at q; exact q⟩) (by
  intro pins s σ H x y v u Q I rx ry ⟨d, e, h1, h2, q⟩
  exact op_isBl pins s σ H x y v u Q I rx ry ⟨d, e, h1, h2, by rw [Bool.xor_false] at q; exact q⟩)
theorem op_isNotM : OpM X W (compareOp .IsNot) isNotM := op_isG (by
  intro pins s σ H x y v u Q I rx ry ⟨h, q⟩
  exact op_notN pins s σ H x y v u Q I rx ry ⟨h, by rw [Bool.xor_true] at q; exact q⟩) (by
  intro pins s σ H x y v u Q I rx ry ⟨d, e, h1, h2, q⟩
  exact op_notBl pins s σ H x y v u Q I rx ry ⟨d, e, h1, h2, by rw [Bool.xor_true] at q; exact q⟩)

/-! ### in, not in: flat values in lists and tuples, one sign in a text -/
def flatD : D → Bool
  | .none => true
  | .bool _ => true
  | .int _ => true
  | .str _ => true
  | _ => false
def eqF : D → D → Bool
  | .none, .none => true
  | .bool a, .bool b => a == b
  | .bool a, .int b => (if a then 1 else 0) == b
  | .int a, .bool b => a == (if b then 1 else 0)
  | .int a, .int b => a == b
  | .str a, .str b => a == b
  | _, _ => false
theorem flat_ok {g : Gd} {R H : Hp} {ι : List Addr} {S : Sto} {v : V} {d : D} (h : Bw g R H ι S v d) (f : flatD d = true) : flatV v = true := by
  cases d <;> first
    | (cases f; done)
    | (have h := h.dv fun _ z => by cases z
       cases h
       rfl)
theorem eqF_ok {g : Gd} {R H : Hp} {ι : List Addr} {S : Sto} {v u : V} {d e : D} (hv : Bw g R H ι S v d) (hu : Bw g R H ι S u e) (f : flatD d = true) (f' : flatD e = true) : eqV v u = eqF d e := by
  cases d <;> first
    | (cases f; done)
    | (have hv := hv.dv fun _ z => by cases z
       cases hv
       cases e <;> first
         | (cases f'; done)
         | (have hu := hu.dv fun _ z => by cases z
            cases hu
            rfl))
theorem inF_ok {g : Gd} {R H : Hp} {ι : List Addr} {S : Sto} {v : V} {d : D} (hv : Bw g R H ι S v d) (f : flatD d = true) : ∀ {vs : List V} {ds : List D}, DvAll g R ι vs ds → ds.all flatD = true → vs.all flatV = true ∧ inV v vs = ds.any fun y => eqF y d
  | _, _, .nil, _ => ⟨rfl, rfl⟩
  | _, _, .cons h t, a => by
    rw [List.all_cons, Bool.and_eq_true] at a
    obtain ⟨q1, q2⟩ := inF_ok hv f t a.2
    have q3 := flat_ok (H := H) (S := S) (.inl h) a.1
    refine ⟨by rw [List.all_cons, q1, q3]; rfl, ?_⟩
    unfold inV at q2 ⊢
    rw [List.any_cons, List.any_cons, q2, eqF_ok (H := H) (S := S) (.inl h) hv a.1 f]
/-- a text's only sign -/
def sign1 (x : Str) : Option Nat := match x.cps.toList with
  | [c] => some c
  | _ => none
theorem sign1_ok {x : Str} {c : Nat} (h : sign1 x = some c) : x = ⟨#[c]⟩ := by
  obtain ⟨⟨l⟩⟩ := x
  cases l with
  | nil => cases h
  | cons a t =>
    cases t with
    | nil =>
      cases h
      rfl
    | cons b t => cases h
def asSeq (d : D) (S : Sto) : Option (List D) := match asTup d with
  | some xs => some xs
  | none => asRead d S
theorem Bw.seq {g : Gd} {R H : Hp} {ι : List Addr} {S : Sto} {v : V} {d : D} {xs : List D} (rep : Rep g R H ι S) (h : Bw g R H ι S v d) (e : asSeq d S = some xs) : ∃ a vs, v = .ref a ∧ (SqL g.K H a vs ∨ SqT g.K H a vs) ∧ DvAll g R ι vs xs := by
  unfold asSeq at e
  cases q : asTup d with
  | some ys =>
    rw [q] at e
    cases e
    obtain ⟨a, vs, rfl, ha, ta⟩ := h.tup rep q
    exact ⟨a, vs, rfl, .inr ha, ta⟩
  | none =>
    rw [q] at e
    obtain ⟨a, vs, rfl, ha, ta⟩ := h.read rep e
    exact ⟨a, vs, rfl, .inl ha, ta⟩
def inL (neg : Bool) (x y : D) : M D := fun S => optO (asSeq y S) fun xs => if flatD x = true ∧ xs.all flatD = true then .ok (.bool ((xs.any fun z => eqF z x) ^^ neg)) S else .stuck
def inG (neg : Bool) (x y : D) : M D := fun S => match x, y with
  | .str a, .str b => optO (sign1 a) fun c => .ok (.bool (decide (c ∈ b.cps.toList) ^^ neg)) S
  | x, y => inL neg x y S
theorem op_inG {neg : Bool} {f : Value → Value → Sem Value} (o1 : OpR X f (fun x y H Q => ∃ (c : Nat) (z : Str), x = .str ⟨#[c]⟩ ∧ y = .str z ∧ Q (.bl (decide (c ∈ z.cps.toList) ^^ neg)) H))
    (o2 : OpR X f (fun x y H Q => ∃ p xs, y = .ref p ∧ (SqL X.K H p xs ∨ SqT X.K H p xs) ∧ flatV x = true ∧ xs.all flatV = true ∧ Q (.bl (inV x xs ^^ neg)) H)) : OpM X W f (inG neg) := by
  refine ⟨_, OpR.or o1 o2, fun bw R H ι S σ v u d e Q rep hv hu post => ?_⟩
  have seqs : Post (Cx.g X) W (relE (Cx.g X) bw) R H ι S σ (inL neg d e S) Q → ∃ p xs, u = .ref p ∧ (SqL X.K H p xs ∨ SqT X.K H p xs) ∧ flatV v = true ∧ xs.all flatV = true ∧ Q (.bl (inV v xs ^^ neg)) H := fun post => by
    obtain ⟨xs, ex, post⟩ := Post.opt post
    obtain ⟨c, post⟩ := Post.ite post
    obtain ⟨p, vs, rfl, hp, tp⟩ := hu.seq rep ex
    obtain ⟨f1, f2⟩ := inF_ok hv c.1 tp c.2
    exact ⟨p, vs, rfl, hp, flat_ok hv c.1, f1, by rw [f2]; exact Post.val rep .bl post⟩
  cases d with
  | str a =>
    cases e with
    | str b =>
      obtain ⟨c, ec, post⟩ := Post.opt post
      rw [hv.str, hu.str, sign1_ok ec]
      exact .inl ⟨c, b, rfl, rfl, Post.val rep .bl post⟩
    | _ => exact .inr (seqs post)
  | _ => exact .inr (seqs post)
abbrev inM : D → D → M D := inG false
abbrev notInM : D → D → M D := inG true
theorem op_inM : OpM X W (compareOp .In) inM := op_inG (by
  intro pins s σ H x y v u Q I rx ry ⟨d, e, h1, h2, q⟩
  exact op_in_sign pins s σ H x y v u Q I rx ry ⟨d, e, h1, h2, by rw [Bool.xor_false] at q; exact q⟩) (by
  intro pins s σ H x y v u Q I rx ry ⟨d, e, h1, h2, h3, h4, q⟩
  exact op_in_seq pins s σ H x y v u Q I rx ry ⟨d, e, h1, h2, h3, h4, by rw [Bool.xor_false] at q; exact q⟩)
theorem op_notInM : OpM X W (compareOp .NotIn) notInM := op_inG (by
  intro pins s σ H x y v u Q I rx ry ⟨d, e, h1, h2, q⟩
  exact op_notIn_sign pins s σ H x y v u Q I rx ry ⟨d, e, h1, h2, by rw [Bool.xor_true] at q; exact q⟩) (by
  intro pins s σ H x y v u Q I rx ry ⟨d, e, h1, h2, h3, h4, q⟩
  exact op_notIn_seq pins s σ H x y v u Q I rx ry ⟨d, e, h1, h2, h3, h4, by rw [Bool.xor_true] at q; exact q⟩)
end
end Sm

set_option Elab.async false
set_option linter.all false
set_option maxRecDepth 100000
set_option maxHeartbeats 2000000
/-! Sm4: and, or, not, tests, chains; items, slices, displays; calls of built-ins. -/
namespace Sm
open PySem PySem.Spec PyProof.Rows L2

section
variable {α β γ δ : Type} {g : Gd} {W : WX} {R H R1 H1 : Hp} {ι ι1 : List Addr} {S S1 : Sto} {σ : L2.St} {env : Env} {Q : δ → Hp → Prop} {Q1 : β → Hp → Prop}
/-- as tG_then, for a step whose state is known -/
theorem Post_then {rel : Hp → Hp → Hp → List Addr → Sto → β → α → Prop} {rel' : Hp → Hp → Hp → List Addr → Sto → δ → γ → Prop} (hl : Later rel') {m : M α} {k : α → M γ} (repE : RepE g R H ι S σ env)
    (post : Post g W rel' R H ι S σ ((m >>= k) S) Q)
    (hk : ∀ R1 H1 ι1 S1 v d, Rep g R1 H1 ι1 S1 → RepE g R1 H1 ι1 S1 σ env → ExtL R H ι S R1 H1 ι1 S1 → rel H R1 H1 ι1 S1 v d → Post g W rel' R1 H1 ι1 S1 σ (k d S1) Q → Q1 v H1) : Post g W rel R H ι S σ (m S) Q1 := by
  have post : Post g W rel' R H ι S σ (Mbind m k S) Q := post
  unfold Mbind at post
  cases e : m S with
  | ok d S' =>
    rw [e] at post
    exact fun v R' ι' H' r x q => hk R' H' ι' S' v d r (repE.ext x) x q (Post.shift hl x post)
  | exc z S' =>
    rw [e] at post
    exact post
  | stuck =>
    rw [e] at post
    exact post
end

section
variable {X : Cx} {W : WX} {bw : Bool} {a b c e : Expr} {ma mb mc : Env → M D} {pos : Pos}
/-- by a truth value -/
def ifB {α : Type} (x : D) (p q : M α) : M α := match x with
  | .bool true => p
  | .bool false => q
  | _ => Mstuck
theorem ifB_post {α β : Type} {g : Gd} {rel : Hp → Hp → Hp → List Addr → Sto → β → α → Prop} {R H : Hp} {ι : List Addr} {S : Sto} {σ : L2.St} {Q : β → Hp → Prop} {d : D} {p q : M α} (post : Post g W rel R H ι S σ (ifB d p q S) Q) :
    ∃ k, d = .bool k ∧ (if k = true then Post g W rel R H ι S σ (p S) Q else Post g W rel R H ι S σ (q S) Q) := by
  cases d with
  | bool k => cases k with
    | true => exact ⟨true, rfl, post⟩
    | false => exact ⟨false, rfl, post⟩
  | _ => exact post.elim
def asB (x : D) : M Bool := match x with
  | .bool b => pure b
  | _ => Mstuck
theorem asB_post {g : Gd} {R H : Hp} {ι : List Addr} {S : Sto} {σ : L2.St} {Q : Bool → Hp → Prop} {d : D} (post : Post g W relT R H ι S σ (asB d S) Q) : ∃ k, d = .bool k ∧ Post g W relT R H ι S σ (.ok k S) Q := by
  cases d with
  | bool k => exact ⟨k, rfl, post⟩
  | _ => exact post.elim

/-! ### and, or, not as values -/
theorem se_one {op : BoolOp} (h : SE X W bw e ma) : SE X W bw (.BoolOp op [e] pos) ma := pe_one h
theorem se_and {rest : List Expr} (ha : SE X W true a ma) (hb : SE X W bw (.BoolOp .And (b :: rest) pos) mb) : SE X W bw (.BoolOp .And (a :: b :: rest) pos) (fun env => ma env >>= fun x => ifB x (mb env) (pure (.bool false))) :=
  PE.imp (pe_and ha hb) fun σ H Q ⟨R, ι, S, env, rep, repE, post⟩ => by
    refine tG_then later_E rep repE post fun R1 H1 ι1 S1 v d rep1 repE1 x1 b1 post1 => ?_
    obtain ⟨k, rfl, pk⟩ := ifB_post post1
    refine ⟨k, Bw.bl b1, ?_⟩
    cases k with
    | true =>
      rw [if_pos rfl] at pk ⊢
      exact ⟨R1, ι1, S1, env, rep1, repE1, pk⟩
    | false =>
      rw [if_neg Bool.false_ne_true] at pk ⊢
      exact Post.val rep1 .bl pk
theorem se_or {rest : List Expr} (ha : SE X W true a ma) (hb : SE X W bw (.BoolOp .Or (b :: rest) pos) mb) : SE X W bw (.BoolOp .Or (a :: b :: rest) pos) (fun env => ma env >>= fun x => ifB x (pure (.bool true)) (mb env)) :=
  PE.imp (pe_or ha hb) fun σ H Q ⟨R, ι, S, env, rep, repE, post⟩ => by
    refine tG_then later_E rep repE post fun R1 H1 ι1 S1 v d rep1 repE1 x1 b1 post1 => ?_
    obtain ⟨k, rfl, pk⟩ := ifB_post post1
    refine ⟨k, Bw.bl b1, ?_⟩
    cases k with
    | true =>
      rw [if_pos rfl] at pk ⊢
      exact Post.val rep1 .bl pk
    | false =>
      rw [if_neg Bool.false_ne_true] at pk ⊢
      exact ⟨R1, ι1, S1, env, rep1, repE1, pk⟩
def notM (x : D) : M D := match x with
  | .bool b => pure (.bool (!b))
  | _ => Mstuck
theorem se_not (ha : SE X W true a ma) : SE X W bw (.UnaryOp .Not a pos) (fun env => ma env >>= notM) :=
  PE.imp (pe_not ha) fun σ H Q ⟨R, ι, S, env, rep, repE, post⟩ => by
    refine tG_then later_E rep repE post fun R1 H1 ι1 S1 v d rep1 repE1 x1 b1 post1 => ?_
    cases d with
    | bool k => exact ⟨k, Bw.bl b1, Post.val rep1 .bl post1⟩
    | _ => exact post1.elim
def negM (x : D) : M D := match x with
  | .int i => pure (.int (-i))
  | _ => Mstuck
theorem se_neg (ha : SE X W true a ma) : SE X W bw (.UnaryOp .USub a pos) (fun env => ma env >>= negM) :=
  PE.imp (pe_un un_neg ha) fun σ H Q ⟨R, ι, S, env, rep, repE, post⟩ => by
    refine tG_then later_E rep repE post fun R1 H1 ι1 S1 v d rep1 repE1 x1 b1 post1 => ?_
    cases d with
    | int k => exact ⟨k, Bw.int b1, Post.val rep1 .int post1⟩
    | _ => exact post1.elim

/-! ### tests -/
abbrev SW (X : Cx) (W : WX) (e : Expr) (m : Env → M Bool) : Prop := PW X e (tG (Cx.g X) W relT m)
variable {ta tb : Env → M Bool}
theorem st_val (h : SE X W true e ma) (he : ∀ whole, isTrue e X.env whole = (do let v ← whole; standAt e.pos; holding [v] (truthy v)) := by intro _; rfl) : STt X W e (fun env => ma env >>= asB) :=
  PT.imp (pt_val h he) fun σ H Q ⟨R, ι, S, env, rep, repE, post⟩ => by
    refine tG_then later_T rep repE post fun R1 H1 ι1 S1 v d rep1 repE1 x1 b1 post1 => ?_
    obtain ⟨k, rfl, pk⟩ := asB_post post1
    exact ⟨k, Bw.bl b1, pk k R1 ι1 H1 rep1 Ext.refl rfl⟩
theorem st_cmp {op : CmpOp} {gop : D → D → M D} (ho : OpM X W (compareOp op) gop) (ha : SE X W true a ma) (hb : SE X W true b mb) (hm : behindInMarks op b = false) :
    STt X W (.Compare a [op] [b] pos) (fun env => ma env >>= fun x => mb env >>= fun y => gop x y >>= asB) := by
  obtain ⟨r, h1, h2⟩ := ho.ex
  refine PT.imp (pt_cmpR h1 ha hb hm) fun σ H Q ⟨R, ι, S, env, rep, repE, post⟩ => ?_
  refine tG_then later_T rep repE post fun R1 H1 ι1 S1 v d rep1 repE1 x1 b1 post1 => ?_
  refine tG_then later_T rep1 repE1 post1 fun R2 H2 ι2 S2 u e rep2 repE2 x2 b2 post2 => ?_
  refine h2 true R2 H2 ι2 S2 σ v u d e _ rep2 (Bw.ext b1 x2) b2 (Post_then later_T repE2 post2 fun R3 H3 ι3 S3 w f rep3 repE3 x3 b3 post3 => ?_)
  obtain ⟨k, rfl, pk⟩ := asB_post post3
  exact ⟨k, Bw.bl b3, pk k R3 ι3 H3 rep3 Ext.refl rfl⟩
theorem st_not (ha : STt X W a ta) : STt X W (.UnaryOp .Not a pos) (fun env => ta env >>= fun k => pure (!k)) :=
  PT.imp (pt_not ha) fun σ H Q ⟨R, ι, S, env, rep, repE, post⟩ => by
    refine tG_then later_T rep repE post fun R1 H1 ι1 S1 v d rep1 repE1 x1 b1 post1 => ?_
    obtain rfl : v = d := b1
    exact post1 (!v) R1 ι1 H1 rep1 Ext.refl rfl
theorem sw_and1 (ha : STt X W a ta) : SW X W (.BoolOp .And [a] pos) ta := pw_and1 ha
theorem sw_or1 (ha : STt X W a ta) : SW X W (.BoolOp .Or [a] pos) ta := pw_or1 ha
theorem sw_and {rest : List Expr} (ha : STt X W a ta) (hb : SW X W (.BoolOp .And (b :: rest) pos) tb) : SW X W (.BoolOp .And (a :: b :: rest) pos) (fun env => ta env >>= fun k => if k = true then tb env else pure false) :=
  PW.imp (pw_and ha hb) fun σ H Q ⟨R, ι, S, env, rep, repE, post⟩ => by
    refine tG_then later_T rep repE post fun R1 H1 ι1 S1 v d rep1 repE1 x1 b1 post1 => ?_
    obtain rfl : v = d := b1
    cases v with
    | true =>
      rw [if_pos rfl] at post1 ⊢
      exact ⟨R1, ι1, S1, env, rep1, repE1, post1⟩
    | false =>
      rw [if_neg Bool.false_ne_true] at post1 ⊢
      exact post1 false R1 ι1 H1 rep1 Ext.refl rfl
theorem sw_or {rest : List Expr} (ha : STt X W a ta) (hb : SW X W (.BoolOp .Or (b :: rest) pos) tb) : SW X W (.BoolOp .Or (a :: b :: rest) pos) (fun env => ta env >>= fun k => if k = true then pure true else tb env) :=
  PW.imp (pw_or ha hb) fun σ H Q ⟨R, ι, S, env, rep, repE, post⟩ => by
    refine tG_then later_T rep repE post fun R1 H1 ι1 S1 v d rep1 repE1 x1 b1 post1 => ?_
    obtain rfl : v = d := b1
    cases v with
    | true =>
      rw [if_pos rfl] at post1 ⊢
      exact post1 true R1 ι1 H1 rep1 Ext.refl rfl
    | false =>
      rw [if_neg Bool.false_ne_true] at post1 ⊢
      exact ⟨R1, ι1, S1, env, rep1, repE1, post1⟩
theorem sw_t (h : SW X W e ta) : STt X W e ta := PW.pt h

/-! ### a if t else b -/
theorem se_if (hc : STt X W c ta) (ha : SE X W bw a ma) (hb : SE X W bw b mb) : SE X W bw (.IfExp c a b pos) (fun env => ta env >>= fun k => if k = true then ma env else mb env) :=
  PE.imp (pe_ifExp hc ha hb) fun σ H Q ⟨R, ι, S, env, rep, repE, post⟩ => by
    refine tG_then later_E rep repE post fun R1 H1 ι1 S1 v d rep1 repE1 x1 b1 post1 => ?_
    obtain rfl : v = d := b1
    cases v with
    | true =>
      rw [if_pos rfl] at post1 ⊢
      exact ⟨R1, ι1, S1, env, rep1, repE1, post1⟩
    | false =>
      rw [if_neg Bool.false_ne_true] at post1 ⊢
      exact ⟨R1, ι1, S1, env, rep1, repE1, post1⟩

/-! ### a op b op c -/
theorem chain_core {op op' : CmpOp} {gop gop' : D → D → M D} {σ : L2.St} {H : Hp} {Q : VK} {r r' : R2} (h2 : ∀ bw R H ι S σ v u d e (Q : VK), Rep (Cx.g X) R H ι S → Bw (Cx.g X) R H ι S v d → Bw (Cx.g X) R H ι S u e → Post (Cx.g X) W (relE (Cx.g X) bw) R H ι S σ (gop d e S) Q → r v u H Q)
    (h2' : ∀ bw R H ι S σ v u d e (Q : VK), Rep (Cx.g X) R H ι S → Bw (Cx.g X) R H ι S v d → Bw (Cx.g X) R H ι S u e → Post (Cx.g X) W (relE (Cx.g X) bw) R H ι S σ (gop' d e S) Q → r' v u H Q)
    (h : tG (Cx.g X) W (relE (Cx.g X) bw) (fun env => ma env >>= fun x => mb env >>= fun y => gop x y >>= fun k => ifB k (mc env >>= fun z => gop' y z) (pure (.bool false))) σ H Q) :
    tChain r r' (tG (Cx.g X) W (relE (Cx.g X) true) ma) (tG (Cx.g X) W (relE (Cx.g X) true) mb) (tG (Cx.g X) W (relE (Cx.g X) true) mc) σ H Q := by
  obtain ⟨R, ι, S, env, rep, repE, post⟩ := h
  refine tG_then later_E rep repE post fun R1 H1 ι1 S1 v d rep1 repE1 x1 b1 post1 => ?_
  refine tG_then later_E rep1 repE1 post1 fun R2 H2 ι2 S2 u e rep2 repE2 x2 b2 post2 => ?_
  refine h2 true R2 H2 ι2 S2 σ v u d e _ rep2 (Bw.ext b1 x2) b2 (Post_then later_E repE2 post2 fun R3 H3 ι3 S3 w f rep3 repE3 x3 b3 post3 => ?_)
  obtain ⟨k, rfl, pk⟩ := ifB_post post3
  refine ⟨k, Bw.bl b3, ?_⟩
  cases k with
  | true =>
    rw [if_pos rfl] at pk ⊢
    refine tG_then later_E rep3 repE3 pk fun R4 H4 ι4 S4 w f rep4 repE4 x4 b4 post4 => ?_
    exact h2' bw R4 H4 ι4 S4 σ u w e f Q rep4 (Bw.ext b2 (x3.trans x4)) b4 post4
  | false =>
    rw [if_neg Bool.false_ne_true] at pk ⊢
    exact Post.val rep3 .bl pk
theorem se_chain {op op' : CmpOp} {gop gop' : D → D → M D} (ho : OpM X W (compareOp op) gop) (ho' : OpM X W (compareOp op') gop') (ha : SE X W true a ma) (hb : SE X W true b mb) (hc : SE X W true c mc)
    (hm : lastMarks [op, op'] [b, c] = false := by with_unfolding_all rfl) :
    SE X W bw (.Compare a [op, op'] [b, c] pos) (fun env => ma env >>= fun x => mb env >>= fun y => gop x y >>= fun k => ifB k (mc env >>= fun z => gop' y z) (pure (.bool false))) := by
  obtain ⟨r, h1, h2⟩ := ho.ex
  obtain ⟨r', h1', h2'⟩ := ho'.ex
  exact PE.imp (pe_chain h1 h1' ha hb hc hm) fun σ H Q h => chain_core (op := op) (op' := op') h2 h2' h
theorem st_chain {op op' : CmpOp} {gop gop' : D → D → M D} (ho : OpM X W (compareOp op) gop) (ho' : OpM X W (compareOp op') gop') (ha : SE X W true a ma) (hb : SE X W true b mb) (hc : SE X W true c mc)
    (hm : lastMarks [op, op'] [b, c] = false := by with_unfolding_all rfl) :
    STt X W (.Compare a [op, op'] [b, c] pos) (fun env => (ma env >>= fun x => mb env >>= fun y => gop x y >>= fun k => ifB k (mc env >>= fun z => gop' y z) (pure (.bool false))) >>= asB) := by
  obtain ⟨r, h1, h2⟩ := ho.ex
  obtain ⟨r', h1', h2'⟩ := ho'.ex
  refine PT.imp (pt_chain h1 h1' ha hb hc hm) fun σ H Q ⟨R, ι, S, env, rep, repE, post⟩ => ?_
  refine chain_core (bw := true) (op := op) (op' := op') h2 h2' ⟨R, ι, S, env, rep, repE, Post_then (env := env) later_T repE post fun R1 H1 ι1 S1 v d rep1 repE1 x1 b1 post1 => ?_⟩
  obtain ⟨k, rfl, pk⟩ := asB_post post1
  exact ⟨k, Bw.bl b1, pk k R1 ι1 H1 rep1 Ext.refl rfl⟩

/-! ### items -/
structure IxM (X : Cx) (W : WX) (gop : D → D → M D) : Prop where
  ex : ∃ r : R2, IxR X r ∧ ∀ bw R H ι S σ v u d e (Q : VK), Rep (Cx.g X) R H ι S → Bw (Cx.g X) R H ι S v d → Bw (Cx.g X) R H ι S u e → Post (Cx.g X) W (relE (Cx.g X) bw) R H ι S σ (gop d e S) Q → r v u H Q
end
end Sm

set_option Elab.async false
set_option linter.all false
set_option maxRecDepth 100000
set_option maxHeartbeats 2000000
/-! Sm5: items, slices, displays; calls of built-ins; isinstance. -/
namespace Sm
open PySem PySem.Spec PyProof.Rows L2

section
variable {g : Gd} {R H : Hp} {ι : List Addr} {S : Sto}
theorem DvAll.atI {vs : List V} {ds : List D} {i : Int} {d : D} (h : DvAll g R ι vs ds) (e : atI ds i = some d) : ∃ v, L2.atI vs i = some v ∧ Dv g R ι v d := by
  unfold L2.atI at e ⊢
  rw [h.len]
  cases q : ixN ds.length i with
  | none =>
    rw [q] at e
    cases e
  | some j =>
    rw [q] at e
    exact h.get (i := j) e
theorem DvAll.cut {vs : List V} {ds : List D} (h : DvAll g R ι vs ds) (n m : Nat) : DvAll g R ι ((vs.drop n).take m) ((ds.drop n).take m) := (h.drop n).take m
end
/-- xs[lo:hi] -/
def cutD {α : Type} (xs : List α) (lo hi : Option Int) : List α := (xs.drop (HT.sIx xs.length 0 lo)).take (HT.sIx xs.length xs.length hi - HT.sIx xs.length 0 lo)

section
variable {X : Cx} {W : WX} {bw : Bool} {a b c e : Expr} {ma mb mc : Env → M D} {pos : Pos}
/-! ### a[b] -/
def ixL (x : D) (i : Int) : M D := fun S => optO (asSeq x S) fun xs => optO (atI xs i) fun d => .ok d S
def ixM (x y : D) : M D := fun S => match y with
  | .int i => match x with
    | .str s => if s.length ≤ sizeLine then optO (atI s.cps.toList i) fun c => .ok (.str ⟨#[c]⟩) S else .stuck
    | x => ixL x i S
  | _ => .stuck
theorem se_ix (ha : SE X W true a ma) (hb : SE X W true b mb) (hs : PlainIx b) : SE X W bw (.Subscript a b pos) (fun env => ma env >>= fun x => mb env >>= fun y => ixM x y) := by
  refine PE.imp (pe_ix ix_seq ha hb hs) fun σ H Q ⟨R, ι, S, env, rep, repE, post⟩ => ?_
  refine tG_then later_E rep repE post fun R1 H1 ι1 S1 v d rep1 repE1 x1 b1 post1 => ?_
  refine tG_then later_E rep1 repE1 post1 fun R2 H2 ι2 S2 u e rep2 repE2 x2 b2 post2 => ?_
  have b1 := Bw.ext b1 x2
  cases e with
  | int i =>
    rw [Bw.int b2]
    have seq : Post (Cx.g X) W (relE (Cx.g X) bw) R2 H2 ι2 S2 σ (ixL d i S2) Q → rIx X.K v (.int i) H2 Q := fun post => by
      obtain ⟨xs, ex, post⟩ := Post.opt post
      obtain ⟨f, ef, post⟩ := Post.opt post
      obtain ⟨p, vs, rfl, hp, tp⟩ := Bw.seq rep2 b1 ex
      obtain ⟨w, hw, dw⟩ := tp.atI ef
      rcases hp with hp | hp
      · exact .inl ⟨p, vs, i, w, rfl, rfl, hp, hw, Post.val rep2 dw post⟩
      · exact .inr (.inl ⟨p, vs, i, w, rfl, rfl, hp, hw, Post.val rep2 dw post⟩)
    cases d with
    | str s =>
      obtain ⟨hz, post2⟩ := Post.ite post2
      obtain ⟨c, ec, post2⟩ := Post.opt post2
      rw [Bw.str b1]
      exact .inr (.inr ⟨s, i, c, rfl, rfl, hz, ec, Post.val rep2 .str post2⟩)
    | _ => exact seq post2
  | _ => exact post2.elim

/-! ### slices -/
def tO (g : Gd) (W : WX) (m : Env → M (Option Int)) : TO := tG g W (fun _ _ _ _ _ (v : Option Int) d => v = d) m
abbrev SO (X : Cx) (W : WX) (e : Option Expr) (m : Env → M (Option Int)) : Prop := PO X e (tO (Cx.g X) W m)
theorem PO.imp {X : Cx} {e : Option Expr} {t t' : TO} (h : PO X e t) (i : ∀ σ H Q, t' σ H Q → t σ H Q) : PO X e t' := ⟨fun pins s σ H Q I q => h.run pins s σ H Q I (i _ _ _ q)⟩
theorem so_none : SO X W none (fun _ => pure none) := PO.imp po_none fun σ H Q ⟨R, ι, S, env, rep, repE, post⟩ => post none R ι H rep Ext.refl rfl
def asI (x : D) : M (Option Int) := match x with
  | .int i => pure (some i)
  | _ => Mstuck
theorem so_some (h : SE X W true e ma) : SO X W (some e) (fun env => ma env >>= asI) := PO.imp (po_some h) fun σ H Q ⟨R, ι, S, env, rep, repE, post⟩ => by
  refine tG_then (rel' := fun _ _ _ _ _ (v : Option Int) d => v = d) (fun _ _ _ _ _ _ _ _ _ h => h) rep repE post fun R1 H1 ι1 S1 v d rep1 repE1 x1 b1 post1 => ?_
  cases d with
  | int i => exact ⟨i, Bw.int b1, post1 (some i) R1 ι1 H1 rep1 Ext.refl rfl⟩
  | _ => exact post1.elim
variable {lo hi : Option Expr} {ml mh : Env → M (Option Int)} {p2 : Pos}
/-- a list's slice: a new list -/
def slL (x : D) (l h : Option Int) : M (List D) := fun S => optO (asRead x S) fun xs => .ok (cutD xs l h) S
theorem sf_slice (ha : SE X W true a ma) (hl : SO X W lo ml) (hh : SO X W hi mh) : SF X W (.Subscript a (.Slice lo hi none p2) pos) (fun env => ma env >>= fun x => ml env >>= fun l => mh env >>= fun h => slL x l h) := by
  refine PE.imp (pe_slice sl_list ha hl hh) fun σ H Q ⟨R, ι, S, env, rep, repE, post⟩ => ?_
  refine tG_then later_F rep repE post fun R1 H1 ι1 S1 v d rep1 repE1 x1 b1 post1 => ?_
  refine tG_then later_F rep1 repE1 post1 fun R2 H2 ι2 S2 u e rep2 repE2 x2 b2 post2 => ?_
  refine tG_then later_F rep2 repE2 post2 fun R3 H3 ι3 S3 w f rep3 repE3 x3 b3 post3 => ?_
  obtain rfl : u = e := b2
  obtain rfl : w = f := b3
  obtain ⟨xs, ex, post4⟩ := Post.opt post3
  obtain ⟨p, vs, rfl, hp, tp⟩ := Bw.read rep3 (Bw.ext b1 (x2.trans x3)) ex
  refine ⟨p, vs, rfl, hp, ?_⟩
  have e : cutV vs u w = (vs.drop (HT.sIx xs.length 0 u)).take (HT.sIx xs.length xs.length w - HT.sIx xs.length 0 u) := by
    unfold cutV
    rw [tp.len]
  rw [e]
  exact Post.newF rep3 (tp.cut _ _) post4
/-- a text's, a tuple's (not the whole of it) -/
def slM (x : D) (l h : Option Int) : M D := fun S => match x with
  | .str s => if s.length ≤ sizeLine then .ok (.str (cutS s l h)) S else .stuck
  | .tup xs => if ¬ (HT.sIx xs.length 0 l = 0 ∧ HT.sIx xs.length xs.length h = xs.length) then .ok (.tup (cutD xs l h)) S else .stuck
  | x => optO (asRead x S) fun xs => .ok (.list (cutD xs l h)) S
theorem se_slice (ha : SE X W true a ma) (hl : SO X W lo ml) (hh : SO X W hi mh) : SE X W bw (.Subscript a (.Slice lo hi none p2) pos) (fun env => ma env >>= fun x => ml env >>= fun l => mh env >>= fun h => slM x l h) := by
  refine PE.imp (pe_slice (SlR.or sl_list (SlR.or sl_tup sl_str)) ha hl hh) fun σ H Q ⟨R, ι, S, env, rep, repE, post⟩ => ?_
  refine tG_then later_E rep repE post fun R1 H1 ι1 S1 v d rep1 repE1 x1 b1 post1 => ?_
  refine tG_then later_E rep1 repE1 post1 fun R2 H2 ι2 S2 u e rep2 repE2 x2 b2 post2 => ?_
  refine tG_then later_E rep2 repE2 post2 fun R3 H3 ι3 S3 w f rep3 repE3 x3 b3 post3 => ?_
  obtain rfl : u = e := b2
  obtain rfl : w = f := b3
  have bd := Bw.ext b1 (x2.trans x3)
  have lists : Post (Cx.g X) W (relE (Cx.g X) bw) R3 H3 ι3 S3 σ (optO (asRead d S3) fun xs => .ok (.list (cutD xs u w)) S3) Q → rSlL X.K v u w H3 Q := fun post => by
    obtain ⟨xs, ex, post4⟩ := Post.opt post
    obtain ⟨p, vs, rfl, hp, tp⟩ := Bw.read rep3 bd ex
    refine ⟨p, vs, rfl, hp, ?_⟩
    have e : cutV vs u w = (vs.drop (HT.sIx xs.length 0 u)).take (HT.sIx xs.length xs.length w - HT.sIx xs.length 0 u) := by
      unfold cutV
      rw [tp.len]
    rw [e]
    exact Post.newL rep3 (tp.cut _ _) post4
  cases d with
  | str s =>
    obtain ⟨hz, post4⟩ := Post.ite post3
    rw [Bw.str bd]
    exact .inr (.inr ⟨s, rfl, hz, Post.val rep3 .str post4⟩)
  | tup xs =>
    obtain ⟨hz, post4⟩ := Post.ite post3
    obtain ⟨p, vs, rfl, hp, tp⟩ := Bw.tup rep3 bd rfl
    refine .inr (.inl ⟨p, vs, rfl, hp, by rw [tp.len]; exact hz, ?_⟩)
    have e : cutV vs u w = (vs.drop (HT.sIx xs.length 0 u)).take (HT.sIx xs.length xs.length w - HT.sIx xs.length 0 u) := by
      unfold cutV
      rw [tp.len]
    rw [e]
    exact Post.newT rep3 (tp.cut _ _) post4
  | _ => exact .inl (lists post3)

/-! ### arguments, displays -/
variable {es : List Expr} {mr : Env → M (List D)}
theorem sa_nil : SA X W [] (fun _ => pure []) := PA.imp pa_nil fun σ H Q ⟨R, ι, S, env, rep, repE, post⟩ => post [] R ι H rep Ext.refl .nil
theorem sa_cons (h : SE X W false e ma) (hr : SA X W es mr) (hs : starEach (e :: es) X.env = (false, eval e X.env) :: starEach es X.env := by rfl) : SA X W (e :: es) (fun env => ma env >>= fun x => mr env >>= fun xs => pure (x :: xs)) :=
  PA.imp (pa_cons h hr hs) fun σ H Q ⟨R, ι, S, env, rep, repE, post⟩ => by
    refine tG_then later_A rep repE post fun R1 H1 ι1 S1 v d rep1 repE1 x1 b1 post1 => ?_
    refine tG_then later_A rep1 repE1 post1 fun R2 H2 ι2 S2 vs ds rep2 repE2 x2 b2 post2 => ?_
    have b1 : Dv (Cx.g X) R1 ι1 v d := b1
    exact post2 (v :: vs) R2 ι2 H2 rep2 Ext.refl (.cons (b1.ext x2) b2)
theorem sb_nil : SB X W [] (fun _ => pure []) := PA.imp pa_nil fun σ H Q ⟨R, ι, S, env, rep, repE, post⟩ => post [] R ι H rep Ext.refl .nil
theorem sb_cons (h : SE X W true e ma) (hr : SB X W es mr) (hs : starEach (e :: es) X.env = (false, eval e X.env) :: starEach es X.env := by rfl) : SB X W (e :: es) (fun env => ma env >>= fun x => mr env >>= fun xs => pure (x :: xs)) :=
  PA.imp (pa_cons h hr hs) fun σ H Q ⟨R, ι, S, env, rep, repE, post⟩ => by
    refine tG_then later_B rep repE post fun R1 H1 ι1 S1 v d rep1 repE1 x1 b1 post1 => ?_
    refine tG_then later_B rep1 repE1 post1 fun R2 H2 ι2 S2 vs ds rep2 repE2 x2 b2 post2 => ?_
    have b1 : Bw (Cx.g X) R1 H1 ι1 S1 v d := b1
    exact post2 (v :: vs) R2 ι2 H2 rep2 Ext.refl (.cons (b1.ext x2) b2)
def small (xs : List D) : M (List D) := fun S => if xs.length ≤ sizeLine then .ok xs S else .stuck
def tupM (xs : List D) : M D := fun S => if xs.length ≤ sizeLine then .ok (.tup xs) S else .stuck
def listM (xs : List D) : M D := fun S => if xs.length ≤ sizeLine then .ok (.list xs) S else .stuck
theorem se_tup {x1} (h : SA X W es mr) : SE X W bw (.Tuple es x1 pos) (fun env => mr env >>= tupM) :=
  PE.imp (pe_tup h) fun σ H Q ⟨R, ι, S, env, rep, repE, post⟩ => by
    refine tG_then later_E rep repE post fun R1 H1 ι1 S1 vs ds rep1 repE1 x1 b1 post1 => ?_
    obtain ⟨hz, post1⟩ := Post.ite post1
    have b1 : DvAll (Cx.g X) R1 ι1 vs ds := b1
    exact ⟨by rw [b1.len]; exact hz, Post.newT rep1 b1 post1⟩
theorem se_lst (h : SA X W es mr) : SE X W bw (.List es pos) (fun env => mr env >>= listM) :=
  PE.imp (pe_lst h) fun σ H Q ⟨R, ι, S, env, rep, repE, post⟩ => by
    refine tG_then later_E rep repE post fun R1 H1 ι1 S1 vs ds rep1 repE1 x1 b1 post1 => ?_
    obtain ⟨hz, post1⟩ := Post.ite post1
    have b1 : DvAll (Cx.g X) R1 ι1 vs ds := b1
    exact ⟨by rw [b1.len]; exact hz, Post.newL rep1 b1 post1⟩
theorem sf_lst (h : SA X W es mr) : SF X W (.List es pos) (fun env => mr env >>= small) :=
  PE.imp (pe_lst h) fun σ H Q ⟨R, ι, S, env, rep, repE, post⟩ => by
    refine tG_then later_F rep repE post fun R1 H1 ι1 S1 vs ds rep1 repE1 x1 b1 post1 => ?_
    obtain ⟨hz, post1⟩ := Post.ite post1
    have b1 : DvAll (Cx.g X) R1 ι1 vs ds := b1
    exact ⟨by rw [b1.len]; exact hz, Post.newF rep1 b1 post1⟩

/-! ### calls of built-ins -/
structure CallM (X : Cx) (W : WX) (f : Value) (gop : List D → M D) : Prop where
  ex : ∃ r : List V → Hp → VK → Prop, CallR X f r ∧ ∀ bw R H ι S σ vs ds (Q : VK), Rep (Cx.g X) R H ι S → BwAll (Cx.g X) R H ι S vs ds → Post (Cx.g X) W (relE (Cx.g X) bw) R H ι S σ (gop ds S) Q → r vs H Q
theorem se_callB {id : String} {x : Str} {p : Pos} {gop : List D → M D} (hc : CallM X W (.builtin id) gop) (hg : Gl X x) (hm : X.mg x = none) (hv : bootBuiltins x = some (.builtin id)) (ha : SB X W (e :: es) mr) (hn : x ≠ "__name__" := by decide) (hdb : (x == ("__debug__" : Str)) = false := by decide)
    (he : starEach (e :: es) X.env = (false, eval e X.env) :: starEach es X.env := by rfl) (hpl : (backTo pos (starEach es X.env)).any (·.1) = false := by rfl) : SE X W bw (.Call (.Name x p) (e :: es) [] pos) (fun env => mr env >>= gop) := by
  obtain ⟨r, h1, h2⟩ := hc.ex
  exact PE.imp (pe_callB h1 hg hm hv ha hn hdb he hpl) fun σ H Q ⟨R, ι, S, env, rep, repE, post⟩ =>
    tG_then later_E rep repE post fun R1 H1 ι1 S1 vs ds rep1 repE1 x1 b1 post1 => h2 bw R1 H1 ι1 S1 σ vs ds Q rep1 b1 post1
theorem se_callTy {T : String} {x : Str} {p : Pos} {gop : List D → M D} (hc : CallM X W (.type T) gop) (hg : Gl X x) (hm : X.mg x = none) (hv : bootBuiltins x = some (.type T)) (ha : SB X W (e :: es) mr) (hn : x ≠ "__name__" := by decide) (hdb : (x == ("__debug__" : Str)) = false := by decide)
    (he : starEach (e :: es) X.env = (false, eval e X.env) :: starEach es X.env := by rfl) (hpl : (backTo pos (starEach es X.env)).any (·.1) = false := by rfl) : SE X W bw (.Call (.Name x p) (e :: es) [] pos) (fun env => mr env >>= gop) := by
  obtain ⟨r, h1, h2⟩ := hc.ex
  exact PE.imp (pe_callTy h1 hg hm hv ha hn hdb he hpl) fun σ H Q ⟨R, ι, S, env, rep, repE, post⟩ =>
    tG_then later_E rep repE post fun R1 H1 ι1 S1 vs ds rep1 repE1 x1 b1 post1 => h2 bw R1 H1 ι1 S1 σ vs ds Q rep1 b1 post1
/-- of one argument -/
def one (f : D → M D) (xs : List D) : M D := match xs with
  | [d] => f d
  | _ => Mstuck
def two (f : D → D → M D) (xs : List D) : M D := match xs with
  | [d, e] => f d e
  | _ => Mstuck
theorem call_one {f : Value} {r : V → Hp → VK → Prop} {gop : D → M D} (h1 : CallR X f (fun xs H Q => ∃ x, xs = [x] ∧ r x H Q))
    (h2 : ∀ bw R H ι S σ v d (Q : VK), Rep (Cx.g X) R H ι S → Bw (Cx.g X) R H ι S v d → Post (Cx.g X) W (relE (Cx.g X) bw) R H ι S σ (gop d S) Q → r v H Q) : CallM X W f (one gop) :=
  ⟨_, h1, fun bw R H ι S σ vs ds Q rep hb post => by
    cases hb with
    | nil => exact post.elim
    | cons h t =>
      cases t with
      | nil => exact ⟨_, rfl, h2 _ _ _ _ _ _ _ _ _ rep h post⟩
      | cons _ _ => exact post.elim⟩
theorem call_two {f : Value} {r : V → V → Hp → VK → Prop} {gop : D → D → M D} (h1 : CallR X f (fun xs H Q => ∃ x y, xs = [x, y] ∧ r x y H Q))
    (h2 : ∀ bw R H ι S σ v u d e (Q : VK), Rep (Cx.g X) R H ι S → Bw (Cx.g X) R H ι S v d → Bw (Cx.g X) R H ι S u e → Post (Cx.g X) W (relE (Cx.g X) bw) R H ι S σ (gop d e S) Q → r v u H Q) : CallM X W f (two gop) :=
  ⟨_, h1, fun bw R H ι S σ vs ds Q rep hb post => by
    cases hb with
    | nil => exact post.elim
    | cons h t =>
      cases t with
      | nil => exact post.elim
      | cons h' t =>
        cases t with
        | nil => exact ⟨_, _, rfl, h2 _ _ _ _ _ _ _ _ _ _ _ rep h h' post⟩
        | cons _ _ => exact post.elim⟩
theorem CallR.imp {f : Value} {r r' : List V → Hp → VK → Prop} (h : CallR X f r) (i : ∀ xs H Q, r' xs H Q → r xs H Q) : CallR X f r' := fun pins s σ H xs us Q I r q => h pins s σ H xs us Q I r (i _ _ _ q)

def lenM (x : D) : M D := fun S => match x with
  | .str s => if s.length ≤ sizeLine then .ok (.int s.length) S else .stuck
  | x => optO (asSeq x S) fun xs => .ok (.int xs.length) S
theorem c_len : CallM X W (.builtin "len") (one lenM) := call_one (r := fun x H Q => (∃ p ys, x = .ref p ∧ (SqL X.K H p ys ∨ SqT X.K H p ys) ∧ Q (.int ys.length) H) ∨ ∃ z, x = .str z ∧ z.length ≤ sizeLine ∧ Q (.int z.length) H)
  (CallR.imp (CallR.or call_len_seq call_len_str) fun xs H Q ⟨x, e, q⟩ => by
    subst e
    rcases q with ⟨p, ys, rfl, q⟩ | ⟨z, rfl, q⟩
    · exact .inl ⟨p, ys, rfl, q⟩
    · exact .inr ⟨z, rfl, q⟩)
  fun bw R H ι S σ v d Q rep hv post => by
    have seq : Post (Cx.g X) W (relE (Cx.g X) bw) R H ι S σ (optO (asSeq d S) fun xs => .ok (.int xs.length) S) Q → ∃ p ys, v = .ref p ∧ (SqL X.K H p ys ∨ SqT X.K H p ys) ∧ Q (.int ys.length) H := fun post => by
      obtain ⟨xs, ex, post⟩ := Post.opt post
      obtain ⟨p, vs, rfl, hp, tp⟩ := hv.seq rep ex
      exact ⟨p, vs, rfl, hp, by rw [tp.len]; exact Post.val rep .int post⟩
    cases d with
    | str s =>
      obtain ⟨hz, post⟩ := Post.ite post
      rw [hv.str]
      exact .inr ⟨s, rfl, hz, Post.val rep .int post⟩
    | _ => exact .inl (seq post)
def intM (x : D) : M D := match x with
  | .int i => pure (.int i)
  | .bool b => pure (.int (if b then 1 else 0))
  | _ => Mstuck
theorem c_int : CallM X W (.type "int") (one intM) := call_one (r := fun x H Q => (∃ i, x = .int i ∧ Q (.int i) H) ∨ ∃ k, x = .bl k ∧ Q (.int (if k then 1 else 0)) H)
  (CallR.imp call_int1 fun xs H Q ⟨x, e, q⟩ => by
    subst e
    rcases q with ⟨i, rfl, q⟩ | ⟨k, rfl, q⟩
    · exact .inl ⟨i, rfl, q⟩
    · exact .inr ⟨k, rfl, q⟩)
  fun bw R H ι S σ v d Q rep hv post => by
    cases d with
    | int i => exact .inl ⟨i, hv.int, Post.val rep .int post⟩
    | bool k => exact .inr ⟨k, hv.bl, Post.val rep .int post⟩
    | _ => exact post.elim
def absM (x : D) : M D := match x with
  | .int i => pure (.int (if i < 0 then -i else i))
  | _ => Mstuck
theorem c_abs : CallM X W (.builtin "abs") (one absM) := call_one (r := fun x H Q => ∃ i, x = .int i ∧ Q (.int (if i < 0 then -i else i)) H)
  (CallR.imp call_abs fun xs H Q ⟨x, e, i, h, q⟩ => ⟨i, by rw [e, h], q⟩)
  fun bw R H ι S σ v d Q rep hv post => by
    cases d with
    | int i => exact ⟨i, hv.int, Post.val rep .int post⟩
    | _ => exact post.elim
/-- tuple(list), tuple(tuple) -/
def tupleM (x : D) : M D := fun S => match x with
  | .tup xs => .ok (.tup xs) S
  | x => optO (asRead x S) fun xs => .ok (.tup xs) S
theorem c_tuple : CallM X W (.type "tuple") (one tupleM) := call_one (r := fun x H Q => ∃ p ys, x = .ref p ∧ ((SqL X.K H p ys ∧ ∀ l, H l = none → Q (.ref l) (upd H l (.tup ys))) ∨ (SqT X.K H p ys ∧ Q (.ref p) H)))
  (CallR.imp call_tuple_of fun xs H Q ⟨x, e, p, ys, h, q⟩ => ⟨p, ys, by rw [e, h], q⟩)
  fun bw R H ι S σ v d Q rep hv post => by
    have seq : Post (Cx.g X) W (relE (Cx.g X) bw) R H ι S σ (optO (asRead d S) fun xs => .ok (.tup xs) S) Q → ∃ p ys, v = .ref p ∧ ((SqL X.K H p ys ∧ ∀ l, H l = none → Q (.ref l) (upd H l (.tup ys))) ∨ (SqT X.K H p ys ∧ Q (.ref p) H)) := fun post => by
      obtain ⟨xs, ex, post⟩ := Post.opt post
      obtain ⟨p, vs, rfl, hp, tp⟩ := hv.read rep ex
      exact ⟨p, vs, rfl, .inl ⟨hp, Post.newT rep tp post⟩⟩
    cases d with
    | tup xs =>
      obtain ⟨p, vs, rfl, hp, tp⟩ := hv.tup rep rfl
      exact ⟨p, vs, rfl, .inr ⟨hp, Post.val rep (hv.dv fun _ z => by cases z) post⟩⟩
    | _ => exact seq post
/-- list(list), list(tuple): a new list -/
def listOf (x : D) : M (List D) := fun S => optO (asSeq x S) fun xs => .ok xs S
def asInts : List D → Option (List Int)
  | [] => some []
  | .int i :: r => (asInts r).map (i :: ·)
  | _ :: _ => none
def asBools : List D → Option (List Bool)
  | [] => some []
  | .bool i :: r => (asBools r).map (i :: ·)
  | _ :: _ => none
def asStrs : List D → Option (List Str)
  | [] => some []
  | .str i :: r => (asStrs r).map (i :: ·)
  | _ :: _ => none
section
variable {g : Gd} {R : Hp} {ι : List Addr}
theorem asInts_ok : ∀ {vs : List V} {ds : List D} {ns : List Int}, DvAll g R ι vs ds → asInts ds = some ns → vs = ns.map V.int
  | _, _, _, .nil, e => by
    cases e
    rfl
  | _, _, _, .cons (d := d) h t, e => by
    cases d with
    | int i =>
      rw [asInts] at e
      cases q : asInts _ with
      | none =>
        rw [q] at e
        cases e
      | some ms =>
        rw [q] at e
        cases e
        cases h
        rw [asInts_ok t q]
        rfl
    | _ => cases e
theorem asBools_ok : ∀ {vs : List V} {ds : List D} {ns : List Bool}, DvAll g R ι vs ds → asBools ds = some ns → vs = ns.map V.bl
  | _, _, _, .nil, e => by
    cases e
    rfl
  | _, _, _, .cons (d := d) h t, e => by
    cases d with
    | bool i =>
      rw [asBools] at e
      cases q : asBools _ with
      | none =>
        rw [q] at e
        cases e
      | some ms =>
        rw [q] at e
        cases e
        cases h
        rw [asBools_ok t q]
        rfl
    | _ => cases e
theorem asStrs_ok : ∀ {vs : List V} {ds : List D} {ns : List Str}, DvAll g R ι vs ds → asStrs ds = some ns → vs = ns.map V.str
  | _, _, _, .nil, e => by
    cases e
    rfl
  | _, _, _, .cons (d := d) h t, e => by
    cases d with
    | str i =>
      rw [asStrs] at e
      cases q : asStrs _ with
      | none =>
        rw [q] at e
        cases e
      | some ms =>
        rw [q] at e
        cases e
        cases h
        rw [asStrs_ok t q]
        rfl
    | _ => cases e
theorem DvAll.strs : ∀ ys : List Str, DvAll g R ι (ys.map V.str) (ys.map D.str)
  | [] => .nil
  | _ :: ys => .cons .str (DvAll.strs ys)
theorem DvAll.ints : ∀ ys : List Int, DvAll g R ι (ys.map V.int) (ys.map D.int)
  | [] => .nil
  | _ :: ys => .cons .int (DvAll.ints ys)
end
def allM (x : D) : M D := fun S => optO (asRead x S) fun xs => optO (asBools xs) fun bs => .ok (.bool (bs.all id)) S
theorem c_all (hc : X.calm = true) : CallM X W (.builtin "all") (one allM) := call_one (r := fun x H Q => ∃ (a : Addr) (bs : List Bool), x = V.ref a ∧ SqL X.K H a (bs.map V.bl) ∧ Q (.bl (bs.all id)) H)
  (CallR.imp (cr_all hc) fun xs H Q ⟨x, e, a, bs, h, q⟩ => ⟨a, bs, by rw [e, h], q⟩)
  fun bw R H ι S σ v d Q rep hv post => by
    obtain ⟨xs, ex, post⟩ := Post.opt post
    obtain ⟨bs, eb, post⟩ := Post.opt post
    obtain ⟨p, vs, rfl, hp, tp⟩ := hv.read rep ex
    exact ⟨p, bs, rfl, by rw [← asBools_ok tp eb]; exact hp, Post.val rep .bl post⟩
def anyM (x : D) : M D := fun S => optO (asRead x S) fun xs => optO (asBools xs) fun bs => .ok (.bool (bs.any id)) S
theorem c_any (hc : X.calm = true) : CallM X W (.builtin "any") (one anyM) := call_one (r := fun x H Q => ∃ (a : Addr) (bs : List Bool), x = V.ref a ∧ SqL X.K H a (bs.map V.bl) ∧ Q (.bl (bs.any id)) H)
  (CallR.imp (cr_any hc) fun xs H Q ⟨x, e, a, bs, h, q⟩ => ⟨a, bs, by rw [e, h], q⟩)
  fun bw R H ι S σ v d Q rep hv post => by
    obtain ⟨xs, ex, post⟩ := Post.opt post
    obtain ⟨bs, eb, post⟩ := Post.opt post
    obtain ⟨p, vs, rfl, hp, tp⟩ := hv.read rep ex
    exact ⟨p, bs, rfl, by rw [← asBools_ok tp eb]; exact hp, Post.val rep .bl post⟩
def sumM (x : D) : M D := fun S => optO (asRead x S) fun xs => optO (asInts xs) fun bs => .ok (.int bs.sum) S
theorem c_sum (hc : X.calm = true) : CallM X W (.builtin "sum") (one sumM) := call_one (r := fun x H Q => ∃ (a : Addr) (ns : List Int), x = V.ref a ∧ SqL X.K H a (ns.map V.int) ∧ Q (.int ns.sum) H)
  (CallR.imp (cr_sum hc) fun xs H Q ⟨x, e, a, bs, h, q⟩ => ⟨a, bs, by rw [e, h], q⟩)
  fun bw R H ι S σ v d Q rep hv post => by
    obtain ⟨xs, ex, post⟩ := Post.opt post
    obtain ⟨bs, eb, post⟩ := Post.opt post
    obtain ⟨p, vs, rfl, hp, tp⟩ := hv.read rep ex
    exact ⟨p, bs, rfl, by rw [← asInts_ok tp eb]; exact hp, Post.val rep .int post⟩
def max2M (x y : D) : M D := match x, y with
  | .int i, .int j => pure (.int (if j > i then j else i))
  | _, _ => Mstuck
def min2M (x y : D) : M D := match x, y with
  | .int i, .int j => pure (.int (if j < i then j else i))
  | _, _ => Mstuck
theorem c_max2 (hc : X.calm = true) : CallM X W (.builtin "max") (two max2M) := call_two (r := fun x y H Q => ∃ i j, x = .int i ∧ y = .int j ∧ Q (.int (if j > i then j else i)) H)
  (CallR.imp (call_max2 hc) fun xs H Q ⟨x, y, e, i, j, h, h', q⟩ => ⟨i, j, by rw [e, h, h'], q⟩)
  fun bw R H ι S σ v u d e Q rep hv hu post => by
    cases d with
    | int i =>
      cases e with
      | int j => exact ⟨i, j, hv.int, hu.int, Post.val rep .int post⟩
      | _ => exact post.elim
    | _ => exact post.elim
theorem c_min2 (hc : X.calm = true) : CallM X W (.builtin "min") (two min2M) := call_two (r := fun x y H Q => ∃ i j, x = .int i ∧ y = .int j ∧ Q (.int (if j < i then j else i)) H)
  (CallR.imp (call_min2 hc) fun xs H Q ⟨x, y, e, i, j, h, h', q⟩ => ⟨i, j, by rw [e, h, h'], q⟩)
  fun bw R H ι S σ v u d e Q rep hv hu post => by
    cases d with
    | int i =>
      cases e with
      | int j => exact ⟨i, j, hv.int, hu.int, Post.val rep .int post⟩
      | _ => exact post.elim
    | _ => exact post.elim
end
end Sm

set_option Elab.async false
set_option linter.all false
set_option maxRecDepth 100000
set_option maxHeartbeats 2000000
/-! Sm6: statements. -/
namespace Sm
open PySem PySem.Spec PyProof.Rows L2

section
variable {g : Gd} {W : WX} {R H R1 H1 : Hp} {ι ι1 : List Addr} {S S1 : Sto} {σ σ1 : L2.St} {env env1 : Env} {E : Ends}
theorem PostS.shift {out : OutS} (e : ExtS R H ι S σ env R1 H1 ι1 S1 σ1 env1) (h : PostS g W R H ι S σ env out E) : PostS g W R1 H1 ι1 S1 σ1 env1 out E := by
  cases out with
  | nx env' S' => exact fun σ' R' ι' H' r q x => h σ' R' ι' H' r q (e.trans x)
  | brk env' S' => exact fun σ' R' ι' H' r q x => h σ' R' ι' H' r q (e.trans x)
  | ct env' S' => exact fun σ' R' ι' H' r q x => h σ' R' ι' H' r q (e.trans x)
  | rt d S' => exact fun v R' ι' H' r q x => h v R' ι' H' r q (e.trans x)
  | exc z env' S' => exact fun cls dd σ' R' ι' H' r q k x => h cls dd σ' R' ι' H' r q k (e.trans x)
  | stuck => exact h
/-- an expression, then a statement's rest -/
def bindS {α : Type} (m : Env → M α) (k : α → MS) : MS := fun env S => match m env S with
  | .ok a S' => k a env S'
  | .exc e S' => .exc e env S'
  | .stuck => .stuck
theorem tG_stm {α β : Type} {rel : Hp → Hp → Hp → List Addr → Sto → β → α → Prop} {m : Env → M α} {k : α → MS} {Q1 : β → Hp → Prop} (rep : Rep g R H ι S) (repE : RepE g R H ι S σ env) (post : PostS g W R H ι S σ env (bindS m k env S) E)
    (hk : ∀ R1 H1 ι1 S1 v d, Rep g R1 H1 ι1 S1 → RepE g R1 H1 ι1 S1 σ env → ExtL R H ι S R1 H1 ι1 S1 → rel H R1 H1 ι1 S1 v d → PostS g W R1 H1 ι1 S1 σ env (k d env S1) E → Q1 v H1) : tG g W rel m σ H Q1 := by
  refine ⟨R, ι, S, env, rep, repE, ?_⟩
  unfold bindS at post
  cases e : m env S with
  | ok d S' =>
    rw [e] at post
    exact fun v R' ι' H' r x q => hk R' H' ι' S' v d r (repE.ext x) x q (PostS.shift (Ext.stm x) post)
  | exc z S' =>
    rw [e] at post
    exact fun cls dd R' ι' H' r x q => post cls dd σ R' ι' H' r (repE.ext x) q (Ext.stm x)
  | stuck =>
    rw [e] at post
    exact post

/-! ### slots are set -/
theorem get_set {α : Type} {l : List α} {i j : Nat} {x y : α} (h : (l.set i x)[j]? = some y) : (i = j ∧ y = x ∧ i < l.length) ∨ (i ≠ j ∧ l[j]? = some y) := by
  by_cases e : i = j
  · subst e
    by_cases hi : i < l.length
    · rw [List.getElem?_set_self hi] at h
      cases h
      exact .inl ⟨rfl, rfl, hi⟩
    · rw [List.set_eq_of_length_le (by omega)] at h
      have := (List.getElem?_eq_some_iff.mp h).1
      omega
  · rw [List.getElem?_set_ne e] at h
    exact .inr ⟨e, h⟩
theorem RepE.set {i : Nat} {sl : Sl} {u : Option V} (h : RepE g R H ι S σ env) (hs : SlotOk g R H ι S u sl) (hn : ∀ xs a, sl = .own xs → u = some (.ref a) → ¬ Ow σ env a) : RepE g R H ι S (σ.set i u) (env.set i sl) where
  len := by rw [List.length_set, List.length_set]; exact h.len
  slot := fun j sl' u' e1 e2 => by
    rcases get_set e1 with ⟨rfl, rfl, _⟩ | ⟨n, e1⟩
    · rcases get_set e2 with ⟨_, rfl, _⟩ | ⟨n, _⟩
      · exact hs
      · exact absurd rfl n
    · rcases get_set e2 with ⟨rfl, _⟩ | ⟨_, e2⟩
      · exact absurd rfl n
      · exact h.slot j sl' u' e1 e2
  apart := fun j k xs ys a e1 e2 e3 e4 => by
    rcases get_set e1 with ⟨rfl, e1, _⟩ | ⟨n1, e1⟩
    · rcases get_set e2 with ⟨rfl, _⟩ | ⟨n2, e2⟩
      · rfl
      · rcases get_set e3 with ⟨_, e3, _⟩ | ⟨n, _⟩
        · rcases get_set e4 with ⟨rfl, _⟩ | ⟨_, e4⟩
          · exact absurd rfl n2
          · exact absurd ⟨k, ys, e2, e4⟩ (hn xs a e1.symm e3.symm)
        · exact absurd rfl n
    · rcases get_set e3 with ⟨rfl, _⟩ | ⟨_, e3⟩
      · exact absurd rfl n1
      · rcases get_set e2 with ⟨rfl, e2, _⟩ | ⟨n2, e2⟩
        · rcases get_set e4 with ⟨_, e4, _⟩ | ⟨n, _⟩
          · exact absurd ⟨j, xs, e1, e3⟩ (hn ys a e2.symm e4.symm)
          · exact absurd rfl n
        · rcases get_set e4 with ⟨rfl, _⟩ | ⟨_, e4⟩
          · exact absurd rfl n2
          · exact h.apart j k xs ys a e1 e2 e3 e4
theorem Ow.set_val {i : Nat} {u : Option V} {sl : Sl} {a : Addr} (hs : ∀ xs, sl ≠ .own xs) (h : Ow (σ.set i u) (env.set i sl) a) : Ow σ env a := by
  obtain ⟨j, xs, e1, e2⟩ := h
  rcases get_set e1 with ⟨rfl, e1, _⟩ | ⟨n1, e1⟩
  · exact absurd e1.symm (hs xs)
  · rcases get_set e2 with ⟨rfl, _⟩ | ⟨_, e2⟩
    · exact absurd rfl n1
    · exact ⟨j, xs, e1, e2⟩
theorem Ow.set_own {i : Nat} {p a : Addr} {ds : List D} (h : Ow (σ.set i (some (.ref p))) (env.set i (.own ds)) a) : a = p ∨ Ow σ env a := by
  obtain ⟨j, xs, e1, e2⟩ := h
  rcases get_set e2 with ⟨rfl, e2, _⟩ | ⟨n1, e2⟩
  · injection e2 with e2
    injection e2 with e2
    exact .inl e2
  · rcases get_set e1 with ⟨rfl, _⟩ | ⟨_, e1⟩
    · exact absurd rfl n1
    · exact .inr ⟨j, xs, e1, e2⟩
theorem Ext.slots (h : ∀ a, Ow σ1 env1 a → Ow σ env a ∨ H a = none) : ExtS R H ι S σ env R H ι S σ1 env1 := Ext.more (Ext.refl (O := Lv ι S)) (fun _ h => .inl h) fun x q => by
  rcases q with q | q
  · exact .inl (.inl q)
  · rcases h x q with q | q
    · exact .inl (.inr q)
    · exact .inr q
/-- a value comes into a slot -/
theorem RepE.setV {i : Nat} {v : V} {d : D} (h : RepE g R H ι S σ env) (hv : Dv g R ι v d) : RepE g R H ι S (σ.set i (some v)) (env.set i (.val d)) := h.set ⟨v, rfl, hv⟩ fun _ _ z => by cases z
theorem Ext.setV {i : Nat} {v : V} {d : D} : ExtS R H ι S σ env R H ι S (σ.set i (some v)) (env.set i (.val d)) := Ext.slots fun _ q => .inl (Ow.set_val (fun _ z => by cases z) q)
/-- a slot is forgotten -/
theorem RepE.setU {i : Nat} {u : Option V} (h : RepE g R H ι S σ env) : RepE g R H ι S (σ.set i u) (env.set i .un) := h.set trivial fun _ _ z => by cases z
theorem Ext.setU {i : Nat} {u : Option V} : ExtS R H ι S σ env R H ι S (σ.set i u) (env.set i .un) := Ext.slots fun _ q => .inl (Ow.set_val (fun _ z => by cases z) q)

/-! ### the list of a slot is frozen -/
def frz (i : Nat) (env : Env) : Env := match env[i]? with
  | some (.own xs) => env.set i (.val (.list xs))
  | _ => env
theorem set_get {α : Type} {l : List α} {i : Nat} {x : α} (h : l[i]? = some x) : l.set i x = l := by
  apply List.ext_getElem?
  intro j
  by_cases e : i = j
  · subst e
    rw [List.getElem?_set_self (List.getElem?_eq_some_iff.mp h).1, h]
  · rw [List.getElem?_set_ne e]
theorem frz_ok {i : Nat} (rep : Rep g R H ι S) (h : RepE g R H ι S σ env) : ∃ R', Rep g R' H ι S ∧ RepE g R' H ι S σ (frz i env) ∧ ExtS R H ι S σ env R' H ι S σ (frz i env) := by
  unfold frz
  cases e : env[i]? with
  | none => exact ⟨R, rep, h, Ext.refl⟩
  | some sl =>
    cases sl with
    | un => exact ⟨R, rep, h, Ext.refl⟩
    | val d => exact ⟨R, rep, h, Ext.refl⟩
    | own xs =>
      obtain ⟨u, hu, a, vs, rfl, h1, h2, h3, h4⟩ := h.at e
      have hs : ∀ b o, R b = some o → upd R a (.lst vs) b = some o := rsub_upd h3
      have hdv : Dv g (upd R a (.lst vs)) ι (.ref a) (.list xs) := .lst upd_same (h2.mono hs fun _ _ q => q)
      have hself : σ.set i (some (.ref a)) = σ := set_get hu
      have hRE : RepE g (upd R a (.lst vs)) H ι S σ (env.set i (.val (.list xs))) := by
        refine ⟨by rw [List.length_set]; exact h.len, fun j sl' u' e1 e2 => ?_, fun j k xs' ys' b e1 e2 e3 e4 => ?_⟩
        · rcases get_set e1 with ⟨rfl, rfl, _⟩ | ⟨n, e1⟩
          · rw [hu] at e2
            cases e2
            exact ⟨.ref a, rfl, hdv⟩
          · have q := h.slot j sl' u' e1 e2
            cases sl' with
            | un => trivial
            | val d =>
              obtain ⟨v, r, q⟩ := q
              exact ⟨v, r, q.mono hs fun _ _ q => q⟩
            | own ds =>
              obtain ⟨b, ws, rfl, q1, q2, q3, q4⟩ := q
              have nab : b ≠ a := fun z => by
                subst z
                exact n (h.apart i j xs ds b e e1 hu e2)
              exact ⟨b, ws, rfl, q1, q2.mono hs fun _ _ q => q, by rw [upd_ne nab]; exact q3, q4⟩
        · rcases get_set e1 with ⟨rfl, e1, _⟩ | ⟨n1, e1⟩
          · cases e1
          · rcases get_set e2 with ⟨rfl, e2, _⟩ | ⟨n2, e2⟩
            · cases e2
            · exact h.apart j k xs' ys' b e1 e2 e3 e4
      refine ⟨upd R a (.lst vs), rep.freeze h1 h3 h4, hRE, ?_⟩
      have ha : Lo ι S σ env a := .inr ⟨i, xs, e, hu⟩
      exact {
        rsub := hs
        pre := fun _ _ q => q
        keep := fun _ _ q _ => q
        fresh := fun b o q n m => by
          by_cases z : b = a
          · subst z
            exact absurd ha m
          · rw [upd_ne z] at q
            exact q
        own := fun b q => by
          rcases q with q | ⟨j, ys, e1, e2⟩
          · exact .inl (.inl q)
          · rcases get_set e1 with ⟨rfl, e1, _⟩ | ⟨_, e1⟩
            · cases e1
            · exact .inl (.inr ⟨j, ys, e1, e2⟩)
        there := fun _ q => q }
theorem tS_frz {i : Nat} {m : MS} (h : tS g W (fun env => m (frz i env)) E σ H) : tS g W m E σ H := by
  obtain ⟨R, ι, S, env, rep, repE, post⟩ := h
  obtain ⟨R', r1, r2, r3⟩ := frz_ok (i := i) rep repE
  exact ⟨R', ι, S, frz i env, r1, r2, PostS.shift r3 post⟩
end

section
variable {X : Cx} {W : WX} {bw : Bool} {e : Expr} {me : Env → M D} {pos : Pos} {st : Stmt} {rest a b : List Stmt} {m m1 m2 ma mb : MS}
/-- ahead of a block, a statement: the slot's list is frozen -/
theorem ss_frz (i : Nat) (h : SS X W st m) : SS X W st (fun env => m (frz i env)) := PS.imp h fun D σ H q => tS_frz q
theorem sss_frz (i : Nat) (h : SSs X W rest m) : SSs X W rest (fun env => m (frz i env)) := PSs.imp h fun D σ H q => tS_frz q
def seqS (m1 m2 : MS) : MS := fun env S => match m1 env S with
  | .nx env' S' => m2 env' S'
  | o => o
def skipS : MS := fun env S => .nx env S
theorem sss_nil : SSs X W [] skipS := PSs.imp pss_nil fun D σ H ⟨R, ι, S, env, rep, repE, post⟩ => post σ R ι H rep repE Ext.refl
theorem sss_cons (h1 : SS X W st m1) (h2 : SSs X W rest m2) : SSs X W (st :: rest) (seqS m1 m2) := PSs.imp (pss_cons h1 h2) fun D σ H ⟨R, ι, S, env, rep, repE, post⟩ => by
  refine ⟨R, ι, S, env, rep, repE, ?_⟩
  unfold seqS at post
  cases q : m1 env S with
  | nx env' S' =>
    rw [q] at post
    exact fun σ' R' ι' H' r1 r2 x => ⟨R', ι', S', env', r1, r2, PostS.shift x post⟩
  | brk env' S' =>
    rw [q] at post
    exact post
  | ct env' S' =>
    rw [q] at post
    exact post
  | rt d S' =>
    rw [q] at post
    exact post
  | exc z env' S' =>
    rw [q] at post
    exact post
  | stuck =>
    rw [q] at post
    exact post
theorem sss_one (h1 : SS X W st m1) : SSs X W [st] m1 := pss_one h1
theorem ss_pass : SS X W (.Pass pos) skipS := PS.imp ps_pass fun D σ H ⟨R, ι, S, env, rep, repE, post⟩ => post σ R ι H rep repE Ext.refl
theorem ss_break : SS X W (.Break pos) (fun env S => .brk env S) := PS.imp ps_break fun D σ H ⟨R, ι, S, env, rep, repE, post⟩ => post σ R ι H rep repE Ext.refl
theorem ss_continue : SS X W (.Continue pos) (fun env S => .ct env S) := PS.imp ps_continue fun D σ H ⟨R, ι, S, env, rep, repE, post⟩ => post σ R ι H rep repE Ext.refl

/-! ### a name is set -/
def setS (i : Nat) (me : Env → M D) : MS := bindS me fun d env S => .nx (env.set i (.val d)) S
theorem ss_asg {st : Stmt} {i : Nat} (h : ∀ t : TE, PE X e t → PS X st (tAsg t (gName i))) (he : SE X W false e me) : SS X W st (setS i me) :=
  PS.imp (h _ he) fun D σ H ⟨R, ι, S, env, rep, repE, post⟩ => by
    refine tG_stm rep repE post fun R1 H1 ι1 S1 v d rep1 repE1 x1 b1 post1 => ?_
    exact post1 _ R1 ι1 H1 rep1 (repE1.setV b1) Ext.setV
def setO (i : Nat) (me : Env → M (List D)) : MS := bindS me fun d env S => .nx (env.set i (.own d)) S
theorem setO_go {i : Nat} {me : Env → M (List D)} {g : Gd} {D : Ends} {σ : L2.St} {H : Hp} (h : tS g W (setO i me) D σ H) : tAsg (tG g W (relF g) me) (gName i) D σ H := by
    obtain ⟨R, ι, S, env, rep, repE, post⟩ := h
    refine ⟨R, ι, S, env, rep, repE, ?_⟩
    unfold setO bindS at post
    cases q : me env S with
    | ok ds S' =>
      rw [q] at post
      intro v R1 ι1 H1 rep1 x1 b1
      obtain ⟨p, vs, rfl, n0, h1, h2, h3, h4⟩ := b1
      have repE1 := repE.ext x1
      have hno : ¬ Ow σ env p := fun ⟨j, ys, e1, e2⟩ => by
        obtain ⟨u, hu, q⟩ := repE.at e1
        rw [e2] at hu
        cases hu
        obtain ⟨b, ws, z, q1, _⟩ := q
        cases z
        rw [n0] at q1
        cases q1
      refine post _ R1 ι1 H1 rep1 (repE1.set ⟨p, vs, rfl, h1, h4, h2, h3⟩ fun xs a _ z => by cases z; exact hno) ?_
      refine Ext.more x1 (fun _ h => .inl h) fun x hx => ?_
      rcases hx with hx | hx
      · rcases x1.own x hx with hx | hx
        · exact .inl (.inl hx)
        · exact .inr hx
      · rcases Ow.set_own hx with rfl | hx
        · exact .inr n0
        · exact .inl (.inr hx)
    | exc z S' =>
      rw [q] at post
      exact fun cls dd R' ι' H' r x q => post cls dd σ R' ι' H' r (repE.ext x) q (Ext.stm x)
    | stuck =>
      rw [q] at post
      exact post
theorem ss_asgO {st : Stmt} {i : Nat} {me : Env → M (List D)} (h : ∀ t : TE, PE X e t → PS X st (tAsg t (gName i))) (he : SF X W e me) : SS X W st (setO i me) := PS.imp (h _ he) fun D σ H q => setO_go q
/-- a new list that is frozen at once -/
def frzM (xs : List D) : M D := pure (.list xs)
theorem frz_go {me : Env → M (List D)} {g : Gd} {σ : L2.St} {H : Hp} {Q : VK} (h : tG g W (relE g bw) (fun env => me env >>= frzM) σ H Q) : tG g W (relF g) me σ H Q := by
  obtain ⟨R, ι, S, env, rep, repE, post⟩ := h
  refine ⟨R, ι, S, env, rep, repE, ?_⟩
  have post : Post g W (relE g bw) R H ι S σ (Mbind (me env) frzM S) Q := post
  unfold Mbind at post
  cases q : me env S with
  | ok ds S' =>
    rw [q] at post
    intro v R1 ι1 H1 rep1 x1 b1
    obtain ⟨p, vs, rfl, n0, h1, h2, h3, h4⟩ := b1
    have hs := rsub_upd (o := .lst vs) h2
    refine post _ (upd R1 p (.lst vs)) ι1 H1 (rep1.freeze h1 h2 h3) ?_ (VD.of (.lst upd_same (h4.mono hs fun _ _ q => q)))
    exact {
      rsub := fun a o q => hs a o (x1.rsub a o q)
      pre := x1.pre
      keep := x1.keep
      fresh := fun a o q n m => by
        by_cases z : a = p
        · subst z
          exact absurd n0 n
        · rw [upd_ne z] at q
          exact x1.fresh a o q n m
      own := x1.own
      there := x1.there }
  | exc z S' =>
    rw [q] at post
    exact post
  | stuck =>
    rw [q] at post
    exact post

theorem SF.se {me : Env → M (List D)} (h : SF X W e me) : SE X W bw e (fun env => me env >>= frzM) := PE.imp h fun σ H Q q => frz_go q
/-- .. where the statement has a reading of its own -/
theorem ss_asgO' {st : Stmt} {i : Nat} {me : Env → M (List D)} {te : TE} (h : PS X st (tAsg te (gName i))) (hi : ∀ σ H Q, tG (Cx.g X) W (relF (Cx.g X)) me σ H Q → te σ H Q) : SS X W st (setO i me) := PS.imp h fun D σ H q => hi σ H _ (setO_go q)
theorem setS_go {i : Nat} {me : Env → M D} {g : Gd} {D : Ends} {σ : L2.St} {H : Hp} (h : tS g W (setS i me) D σ H) : tAsg (tG g W (relE g false) me) (gName i) D σ H := by
  obtain ⟨R, ι, S, env, rep, repE, post⟩ := h
  refine tG_stm rep repE post fun R1 H1 ι1 S1 v d rep1 repE1 x1 b1 post1 => ?_
  exact post1 _ R1 ι1 H1 rep1 (repE1.setV b1) Ext.setV
theorem ss_asgF' {st : Stmt} {i : Nat} {me : Env → M (List D)} {te : TE} (h : PS X st (tAsg te (gName i))) (hi : ∀ σ H Q, tG (Cx.g X) W (relF (Cx.g X)) me σ H Q → te σ H Q) : SS X W st (setS i fun env => me env >>= frzM) := PS.imp h fun D σ H q => hi σ H _ (frz_go (setS_go q))

/-! ### two, three names at once -/
def par2 (i j : Nat) (m : Env → M (List D)) : MS := bindS m fun ds env S => match ds with
  | [d, e] => .nx ((env.set i (.val d)).set j (.val e)) S
  | _ => .stuck
theorem ss_par {es : List Expr} {i j : Nat} {m : Env → M (List D)} (h : ∀ t : TA, PA X es t → PS X st (tPar i j t)) (ha : SA X W es m) : SS X W st (par2 i j m) :=
  PS.imp (h _ ha) fun D σ H ⟨R, ι, S, env, rep, repE, post⟩ => by
    refine tG_stm rep repE post fun R1 H1 ι1 S1 vs ds rep1 repE1 x1 b1 post1 => ?_
    have b1 : DvAll (Cx.g X) R1 ι1 vs ds := b1
    cases b1 with
    | nil => exact post1.elim
    | cons h1 t =>
      cases t with
      | nil => exact post1.elim
      | cons h2 t =>
        cases t with
        | cons _ _ => exact post1.elim
        | nil => exact ⟨_, _, rfl, post1 _ R1 ι1 H1 rep1 ((repE1.setV h1).setV h2) (Ext.setV.trans Ext.setV)⟩
def par3 (i j l : Nat) (m : Env → M (List D)) : MS := bindS m fun ds env S => match ds with
  | [d, e, f] => .nx (((env.set i (.val d)).set j (.val e)).set l (.val f)) S
  | _ => .stuck
theorem ss_par3 {es : List Expr} {i j l : Nat} {m : Env → M (List D)} (h : ∀ t : TA, PA X es t → PS X st (tPar3 i j l t)) (ha : SA X W es m) : SS X W st (par3 i j l m) :=
  PS.imp (h _ ha) fun D σ H ⟨R, ι, S, env, rep, repE, post⟩ => by
    refine tG_stm rep repE post fun R1 H1 ι1 S1 vs ds rep1 repE1 x1 b1 post1 => ?_
    have b1 : DvAll (Cx.g X) R1 ι1 vs ds := b1
    cases b1 with
    | nil => exact post1.elim
    | cons h1 t =>
      cases t with
      | nil => exact post1.elim
      | cons h2 t =>
        cases t with
        | nil => exact post1.elim
        | cons h3 t =>
          cases t with
          | cons _ _ => exact post1.elim
          | nil => exact ⟨_, _, _, rfl, post1 _ R1 ι1 H1 rep1 (((repE1.setV h1).setV h2).setV h3) ((Ext.setV.trans Ext.setV).trans Ext.setV)⟩

/-! ### return, expressions, if -/
def retS (me : Env → M D) : MS := bindS me fun d _ S => .rt d S
theorem ss_ret (he : SE X W false e me) : SS X W (.Return (some e) pos) (retS me) := PS.imp (ps_ret he) fun D σ H ⟨R, ι, S, env, rep, repE, post⟩ => by
  refine tG_stm rep repE post fun R1 H1 ι1 S1 v d rep1 repE1 x1 b1 post1 => ?_
  exact post1 v R1 ι1 H1 rep1 b1 (Ext.more (Ext.refl (O := Lv ι1 S1)) (fun _ h => .inl h) fun _ h => .inl (.inl h))
theorem ss_retN : SS X W (.Return none pos) (fun _ S => .rt .none S) := PS.imp ps_retN fun D σ H ⟨R, ι, S, env, rep, repE, post⟩ =>
  post .non R ι H rep .non (Ext.more (Ext.refl (O := Lv ι S)) (fun _ h => .inl h) fun _ h => .inl (.inl h))
def dropS (me : Env → M D) : MS := bindS me fun _ env S => .nx env S
theorem ss_expr (he : SE X W true e me) (hs : swapsWith e none pos.line X.env = pure false := by rfl) : SS X W (.Expr e pos) (dropS me) := PS.imp (ps_expr he hs) fun D σ H ⟨R, ι, S, env, rep, repE, post⟩ => by
  refine tG_stm rep repE post fun R1 H1 ι1 S1 v d rep1 repE1 x1 b1 post1 => ?_
  exact post1 σ R1 ι1 H1 rep1 repE1 Ext.refl
def ifS (tc : Env → M Bool) (ma mb : MS) : MS := bindS tc fun k env S => if k = true then ma env S else mb env S
theorem ss_if {c : Expr} {tc : Env → M Bool} (hc : STt X W c tc) (ha : SSs X W a ma) (hb : SSs X W b mb) : SS X W (.If c a b pos) (ifS tc ma mb) := PS.imp (ps_if hc ha hb) fun D σ H ⟨R, ι, S, env, rep, repE, post⟩ => by
  refine tG_stm rep repE post fun R1 H1 ι1 S1 v d rep1 repE1 x1 b1 post1 => ?_
  obtain rfl : v = d := b1
  cases v with
  | true =>
    rw [if_pos rfl] at post1 ⊢
    exact ⟨R1, ι1, S1, env, rep1, repE1, post1⟩
  | false =>
    rw [if_neg Bool.false_ne_true] at post1 ⊢
    exact ⟨R1, ι1, S1, env, rep1, repE1, post1⟩

/-! ### for -/
/-- the slots' names forgotten -/
theorem wipe_get {σ : L2.St} {i : Nat} : ∀ {vs : List Nat}, (wipe σ vs)[i]? = if i ∈ vs ∧ i < σ.length then some none else σ[i]?
  | [] => by simp [wipe]
  | v :: vs => by
    unfold wipe
    by_cases e : v = i
    · subst e
      by_cases hv : v < σ.length
      · rw [List.getElem?_set_self (by rw [wipe_length]; exact hv), if_pos ⟨List.mem_cons_self, hv⟩]
      · rw [if_neg (fun h => hv h.2), List.getElem?_eq_none (by rw [List.length_set, wipe_length]; omega), List.getElem?_eq_none (by omega)]
    · rw [List.getElem?_set_ne e, wipe_get]
      by_cases h : i ∈ vs ∧ i < σ.length
      · rw [if_pos h, if_pos ⟨List.mem_cons_of_mem _ h.1, h.2⟩]
      · rw [if_neg h, if_neg]
        rintro ⟨h1, h2⟩
        rcases List.mem_cons.mp h1 with h1 | h1
        · exact e h1.symm
        · exact h ⟨h1, h2⟩
theorem wipe_set {σ : L2.St} {i : Nat} {u : Option V} {vs : List Nat} (h : i ∈ vs) : wipe (σ.set i u) vs = wipe σ vs := by
  apply List.ext_getElem?
  intro j
  rw [wipe_get, wipe_get, List.length_set]
  by_cases e : j ∈ vs ∧ j < σ.length
  · rw [if_pos e, if_pos e]
  · rw [if_neg e, if_neg e]
    by_cases z : i = j
    · subst z
      have hj : σ.length ≤ i := by
        by_cases q : i < σ.length
        · exact absurd ⟨h, q⟩ e
        · omega
      rw [List.getElem?_eq_none (by rw [List.length_set]; exact hj), List.getElem?_eq_none hj]
    · rw [List.getElem?_set_ne z]
/-- a target: which slots it sets -/
structure TgM (X : Cx) (tg : Expr) (is : List Nat) (f : D → Env → Option Env) : Prop where
  ex : ∃ t : TG, PG X tg t ∧ ∀ R H ι S σ env v d env' (Q : L2.St → Hp → Prop), Rep (Cx.g X) R H ι S → RepE (Cx.g X) R H ι S σ env → Dv (Cx.g X) R ι v d → f d env = some env' →
    (∀ σ', RepE (Cx.g X) R H ι S σ' env' → ExtS R H ι S σ env R H ι S σ' env' → (∀ vs, (∀ i ∈ is, i ∈ vs) → wipe σ' vs = wipe σ vs) → Q σ' H) → t v σ H Q
def tgN (i : Nat) (d : D) (env : Env) : Option Env := some (env.set i (.val d))
theorem tg_name {tg : Expr} {i : Nat} (h : PG X tg (gName i)) : TgM X tg [i] (tgN i) :=
  ⟨_, h, fun R H ι S σ env v d env' Q rep repE hv e q => by
    cases e
    exact q _ (repE.setV hv) Ext.setV fun vs hi => wipe_set (hi i (by simp))⟩
/-- names of a tuple's items -/
def tgs : List Nat → List D → Env → Option Env
  | [], [], env => some env
  | i :: is, d :: ds, env => tgs is ds (env.set i (.val d))
  | _, _, _ => none
def gNames : List Nat → TGs
  | [] => gNil
  | i :: is => gCons (gName i) (gNames is)
theorem tgs_ok {g : Gd} {Q : L2.St → Hp → Prop} {R H : Hp} {ι : List Addr} {S : Sto} : ∀ {is : List Nat} {ds : List D} {vs : List V} {σ : L2.St} {env env' : Env}, RepE g R H ι S σ env → DvAll g R ι vs ds → tgs is ds env = some env' →
    (∀ σ', RepE g R H ι S σ' env' → ExtS R H ι S σ env R H ι S σ' env' → (∀ vs, (∀ i ∈ is, i ∈ vs) → wipe σ' vs = wipe σ vs) → Q σ' H) → gNames is vs σ H Q
  | [], [], _, σ, env, env', repE, .nil, e, q => by
    cases e
    exact ⟨rfl, q σ repE Ext.refl fun _ _ => rfl⟩
  | i :: is, d :: ds, _, σ, env, env', repE, .cons h t, e, q => by
    refine ⟨_, _, rfl, ?_⟩
    have e : tgs is ds (env.set i (.val d)) = some env' := e
    exact tgs_ok (repE.setV h) t e fun σ' r x w => q σ' r (Ext.setV.trans x) fun vs hi => (w vs fun j hj => hi j (List.mem_cons_of_mem _ hj)).trans (wipe_set (hi i List.mem_cons_self))
  | [], _ :: _, _, _, _, _, _, _, e, _ => by cases e
  | _ :: _, [], _, _, _, _, _, _, e, _ => by cases e
def tgT (is : List Nat) (d : D) (env : Env) : Option Env := match asTup d with
  | some xs => tgs is xs env
  | none => none
theorem tgs_len : ∀ {is : List Nat} {ds : List D} {env env' : Env}, tgs is ds env = some env' → ds.length = is.length
  | [], [], _, _, _ => rfl
  | i :: is, d :: ds, env, env', e => by
    have e : tgs is ds (env.set i (.val d)) = some env' := e
    rw [List.length_cons, List.length_cons, tgs_len e]
  | [], _ :: _, _, _, e => by cases e
  | _ :: _, [], _, _, e => by cases e
theorem tg_tup {tg : Expr} {is : List Nat} (h : PG X tg (gTup X.K is.length (gNames is))) : TgM X tg is (tgT is) :=
  ⟨_, h, fun R H ι S σ env v d env' Q rep repE hv e q => by
    unfold tgT at e
    cases d with
    | tup xs =>
      cases hv with
      | tup h t =>
        have e : tgs is xs env = some env' := e
        exact ⟨_, _, rfl, sqT_sub rep.sub h, by rw [t.len, tgs_len e], tgs_ok repE t e q⟩
    | _ => cases e⟩
/-- the turns of a for -/
def forS (f : D → Env → Option Env) (mb : MS) : List D → MS
  | [] => fun env S => .nx env S
  | d :: ds => fun env S => match f d env with
    | none => .stuck
    | some env1 => match mb env1 S with
      | .nx env' S' => forS f mb ds env' S'
      | .ct env' S' => forS f mb ds env' S'
      | .brk env' S' => .nx env' S'
      | o => o
/-- a turn's body -/
theorem for_turn {g : Gd} {f : D → Env → Option Env} {ds : List D} {d : D} {env env1 : Env} {R H : Hp} {ι : List Addr} {S : Sto} {σ : L2.St} {E : Ends} {N : L2.St → Hp → Prop} (e : f d env = some env1) {R0 H0 : Hp} {ι0 : List Addr} {S0 : Sto} {σ0 : L2.St} {env0 : Env}
    (x0 : ExtS R0 H0 ι0 S0 σ0 env0 R H ι S σ env1)
    (hN : ∀ σ' R' ι' H' env' S', Rep g R' H' ι' S' → RepE g R' H' ι' S' σ' env' → ExtS R0 H0 ι0 S0 σ0 env0 R' H' ι' S' σ' env' → PostS g W R' H' ι' S' σ' env' (forS f mb ds env' S') E → N σ' H')
    (post : PostS g W R H ι S σ env1 (forS f mb (d :: ds) env S) E) : PostS g W R H ι S σ env1 (mb env1 S) { E with nx := N, ct := N, bk := E.nx } := by
  rw [forS] at post
  simp only [e] at post
  cases q : mb env1 S with
  | nx env' S' =>
    rw [q] at post
    exact fun σ' R' ι' H' r1 r2 x => hN σ' R' ι' H' env' S' r1 r2 (x0.trans x) (PostS.shift x post)
  | ct env' S' =>
    rw [q] at post
    exact fun σ' R' ι' H' r1 r2 x => hN σ' R' ι' H' env' S' r1 r2 (x0.trans x) (PostS.shift x post)
  | brk env' S' =>
    rw [q] at post
    exact post
  | rt d S' =>
    rw [q] at post
    exact post
  | exc z env' S' =>
    rw [q] at post
    exact post
  | stuck =>
    rw [q] at post
    exact post.elim
/-- what stands ahead of turn i -/
def ForI (g : Gd) (W : WX) (f : D → Env → Option Env) (mb : MS) (ds : List D) (E : Ends) (R0 H0 : Hp) (ι0 : List Addr) (S0 : Sto) (σ0 : L2.St) (env0 : Env) (i : Nat) (σ : L2.St) (H : Hp) : Prop :=
  ∃ R ι S env, Rep g R H ι S ∧ RepE g R H ι S σ env ∧ ExtS R0 H0 ι0 S0 σ0 env0 R H ι S σ env ∧ PostS g W R H ι S σ env (forS f mb (ds.drop i) env S) E
theorem for_step {tg : Expr} {is : List Nat} {f : D → Env → Option Env} {t : TG} {ds : List D} {E : Ends} {R0 H0 : Hp} {ι0 : List Addr} {S0 : Sto} {σ0 : L2.St} {env0 : Env} {i : Nat} {v : V} {d : D} {σ : L2.St} {H : Hp}
    (ht : ∀ R H ι S σ env v d env' (Q : L2.St → Hp → Prop), Rep (Cx.g X) R H ι S → RepE (Cx.g X) R H ι S σ env → Dv (Cx.g X) R ι v d → f d env = some env' → (∀ σ', RepE (Cx.g X) R H ι S σ' env' → ExtS R H ι S σ env R H ι S σ' env' → (∀ vs, (∀ i ∈ is, i ∈ vs) → wipe σ' vs = wipe σ vs) → Q σ' H) → t v σ H Q)
    (hd : ds[i]? = some d) (hv : Dv (Cx.g X) R0 ι0 v d) (p : ForI (Cx.g X) W f mb ds E R0 H0 ι0 S0 σ0 env0 i σ H) :
    t v σ H fun σ2 H2 => tS (Cx.g X) W mb { E with nx := ForI (Cx.g X) W f mb ds E R0 H0 ι0 S0 σ0 env0 (i + 1), ct := ForI (Cx.g X) W f mb ds E R0 H0 ι0 S0 σ0 env0 (i + 1), bk := E.nx } σ2 H2 := by
  obtain ⟨R, ι, S, env, rep, repE, x, post⟩ := p
  have hi : i < ds.length := (List.getElem?_eq_some_iff.mp hd).1
  have e0 : ds.drop i = d :: ds.drop (i + 1) := by
    rw [List.drop_eq_getElem_cons hi]
    rw [(List.getElem?_eq_some_iff.mp hd).2]
  rw [e0] at post
  cases e : f d env with
  | none =>
    rw [forS] at post
    simp only [e] at post
    exact post.elim
  | some env1 =>
    refine ht R H ι S σ env v d env1 _ rep repE (hv.mono x.rsub x.pre) e fun σ' r y _ => ?_
    exact ⟨R, ι, S, env1, rep, r, for_turn e (x.trans y) (fun σ' R' ι' H' env' S' r1 r2 z w => ⟨R', ι', S', env', r1, r2, z, w⟩) (PostS.shift y post)⟩
theorem for_end {f : D → Env → Option Env} {ds : List D} {E : Ends} {R0 H0 : Hp} {ι0 : List Addr} {S0 : Sto} {σ0 : L2.St} {env0 : Env} {n : Nat} {σ : L2.St} {H : Hp} (hn : ds.length = n) (p : ForI (Cx.g X) W f mb ds E R0 H0 ι0 S0 σ0 env0 n σ H) : E.nx σ H := by
  obtain ⟨R, ι, S, env, rep, repE, x, post⟩ := p
  rw [List.drop_of_length_le (by omega)] at post
  exact post σ R ι H rep repE Ext.refl
/-- for tg in e: a frozen list or tuple -/
def forL (f : D → Env → Option Env) (mb : MS) (me : Env → M D) : MS := bindS me fun d env S => match d with
  | .list xs => forS f mb xs env S
  | .frl xs => forS f mb xs env S
  | _ => .stuck
def forT (f : D → Env → Option Env) (mb : MS) (me : Env → M D) : MS := bindS me fun d env S => match d with
  | .tup xs => forS f mb xs env S
  | _ => .stuck
theorem ss_forL {tg : Expr} {body : List Stmt} {is : List Nat} {f : D → Env → Option Env} (hp : PassesOwn (model X.prog X.w) X.A X.env X.xe) (hc : X.calm = true) (ht : TgM X tg is f) (he : SE X W false e me) (hb : SSs X W body mb)
    (hs : ∀ x, foldedSetIterable e X.env x = pure x := by intro _; rfl) : SS X W (.For tg e body [] pos) (forL f mb me) := by
  obtain ⟨t, h1, h2⟩ := ht.ex
  refine PS.imp (ps_for hp hc (pi_list he) h1 hb hs) fun E σ H ⟨R, ι, S, env, rep, repE, post⟩ => ?_
  refine tG_stm rep repE post fun R1 H1 ι1 S1 v d rep1 repE1 x1 b1 post1 => ?_
  have go : ∀ (a : Addr) (vs : List V) (xs : List D), SqL X.K R1 a vs → DvAll (Cx.g X) R1 ι1 vs xs → v = .ref a → PostS (Cx.g X) W R1 H1 ι1 S1 σ env (forS f mb xs env S1) E →
      ∃ a, v = .ref a ∧ (∃ xs, SqL X.K H1 a xs) ∧ ∃ W' : Nat → Nat → L2.St → Hp → Prop, (∃ m, W' 0 m σ H1) ∧ ∀ i m σ H, W' i m σ H →
        ((Itl X.K a).stop i H ∧ E.nx σ H) ∨ ((Itl X.K a).go i H ∧ ∃ N : L2.St → Hp → Prop, (∀ σ' H', N σ' H' → ∃ m', m' < m ∧ W' (i + 1) m' σ' H') ∧ ∀ x H', (Itl X.K a).yld i H x H' → t x σ H' fun σ2 H2 => tS (Cx.g X) W mb { E with nx := N, ct := N, bk := E.nx } σ2 H2) := fun a vs xs ha hd hv p => by
    refine ⟨a, hv, ⟨vs, sqL_sub rep1.sub ha⟩, for_list (ForI (Cx.g X) W f mb xs E R1 H1 ι1 S1 σ env) ⟨R1, ι1, S1, env, rep1, repE1, Ext.refl, p⟩ (fun i σ' H' _ q => ?_) (fun i x σ' H' hx q => ?_) fun σ' H' q => for_end hd.len.symm q⟩
    · obtain ⟨R', ι', S', env', r1, r2, x, _⟩ := q
      exact sqL_sub r1.sub (sqL_sub x.rsub ha)
    · obtain ⟨d', hd', hv'⟩ := hd.get' hx
      exact for_step (tg := tg) h2 hd' hv' q
  cases d with
  | list xs =>
    cases b1 with
    | lst h t => exact go _ _ xs (SqL.of h) t rfl post1
  | frl xs =>
    cases b1 with
    | frl h t => exact go _ _ xs h t rfl post1
  | _ => exact post1.elim
theorem ss_forT {tg : Expr} {body : List Stmt} {is : List Nat} {f : D → Env → Option Env} (hp : PassesOwn (model X.prog X.w) X.A X.env X.xe) (hc : X.calm = true) (ht : TgM X tg is f) (he : SE X W false e me) (hb : SSs X W body mb)
    (hs : ∀ x, foldedSetIterable e X.env x = pure x := by intro _; rfl) : SS X W (.For tg e body [] pos) (forT f mb me) := by
  obtain ⟨t, h1, h2⟩ := ht.ex
  refine PS.imp (ps_for hp hc (pi_tup he) h1 hb hs) fun D σ H ⟨R, ι, S, env, rep, repE, post⟩ => ?_
  refine tG_stm rep repE post fun R1 H1 ι1 S1 v d rep1 repE1 x1 b1 post1 => ?_
  cases d with
  | tup xs =>
    cases b1 with
    | tup ha hd =>
      rename_i a vs
      refine ⟨a, rfl, ⟨vs, sqT_sub rep1.sub ha⟩, for_tup (ForI (Cx.g X) W f mb xs D R1 H1 ι1 S1 σ env) ⟨R1, ι1, S1, env, rep1, repE1, Ext.refl, post1⟩ (fun i σ' H' _ q => ?_) (fun i x σ' H' hx q => ?_) fun σ' H' q => for_end hd.len.symm q⟩
      · obtain ⟨R', ι', S', env', r1, r2, x, _⟩ := q
        exact sqT_sub r1.sub (sqT_sub x.rsub ha)
      · obtain ⟨d', hd', hv'⟩ := hd.get' hx
        exact for_step (tg := tg) h2 hd' hv' q
  | _ => exact post1.elim
/-- lo, lo + 1, .. -/
def rangeD (lo : Int) (n : Nat) : List D := (List.range n).map fun (i : Nat) => D.int (lo + (i : Int))
theorem rangeD_get {lo : Int} {n i : Nat} (h : i < n) : (rangeD lo n)[i]? = some (.int (lo + (i : Int))) := by
  unfold rangeD
  rw [List.getElem?_map, List.getElem?_range h]
  rfl
def okR (i : Int) : Bool := decide (-(2 ^ 62) ≤ i ∧ i < 2 ^ 62)
def forR1 (f : D → Env → Option Env) (mb : MS) (ma : Env → M (List D)) : MS := bindS ma fun ds env S => match ds with
  | [.int n] => if okR n = true then forS f mb (rangeD 0 n.toNat) env S else .stuck
  | _ => .stuck
def forR2 (f : D → Env → Option Env) (mb : MS) (ma : Env → M (List D)) : MS := bindS ma fun ds env S => match ds with
  | [.int l, .int n] => if okR l = true ∧ okR n = true then forS f mb (rangeD l (n - l).toNat) env S else .stuck
  | _ => .stuck
theorem PostS.ite {g : Gd} {R H : Hp} {ι : List Addr} {S : Sto} {σ : L2.St} {env : Env} {E : Ends} {c : Prop} [Decidable c] {o : OutS} (post : PostS g W R H ι S σ env (if c then o else .stuck) E) : c ∧ PostS g W R H ι S σ env o E := by
  by_cases h : c
  · rw [if_pos h] at post
    exact ⟨h, post⟩
  · rw [if_neg h] at post
    exact post.elim
theorem ss_forR1 {tg a1 : Expr} {p pos' : Pos} {body : List Stmt} {is : List Nat} {f : D → Env → Option Env} {mr : Env → M (List D)} (hp : PassesOwn (model X.prog X.w) X.A X.env X.xe) (hc : X.calm = true) (ht : TgM X tg is f) (hg : Gl X "range") (hm : X.mg "range" = none) (ha : SB X W [a1] mr) (hb : SSs X W body mb)
    (hst : starEach [a1] X.env = [(false, eval a1 X.env)] := by rfl) (hs : ∀ x, foldedSetIterable (.Call (.Name "range" p) [a1] [] pos') X.env x = pure x := by intro _; rfl) : SS X W (.For tg (.Call (.Name "range" p) [a1] [] pos') body [] pos) (forR1 f mb mr) := by
  obtain ⟨t, h1, h2⟩ := ht.ex
  refine PS.imp (ps_for hp hc (pi_range1 hg hm ha hst) h1 hb hs) fun D σ H ⟨R, ι, S, env, rep, repE, post⟩ => ?_
  refine tG_stm rep repE post fun R1 H1 ι1 S1 vs ds rep1 repE1 x1 b1 post1 => ?_
  have b1 : BwAll (Cx.g X) R1 H1 ι1 S1 vs ds := b1
  cases b1 with
  | nil => exact post1.elim
  | cons hb1 tl =>
    rename_i v d vs' ds'
    cases tl with
    | cons _ _ => cases d <;> exact post1.elim
    | nil =>
      cases d with
      | int n =>
        obtain ⟨hn, post2⟩ := PostS.ite post1
        have hn := of_decide_eq_true hn
        rw [Bw.int hb1]
        refine ⟨n, rfl, hn.1, hn.2, for_range (lo := 0) (n := n.toNat) (ForI (Cx.g X) W f mb (rangeD 0 n.toNat) D R1 H1 ι1 S1 σ env) ⟨R1, ι1, S1, env, rep1, repE1, Ext.refl, post2⟩ (fun i σ' H' hi q => ?_) fun σ' H' q => for_end (by simp [rangeD]) q⟩
        exact for_step (tg := tg) h2 (rangeD_get hi) .int q
      | _ => exact post1.elim
theorem ss_forR2 {tg a1 a2 : Expr} {p pos' : Pos} {body : List Stmt} {is : List Nat} {f : D → Env → Option Env} {mr : Env → M (List D)} (hp : PassesOwn (model X.prog X.w) X.A X.env X.xe) (hc : X.calm = true) (ht : TgM X tg is f) (hpi : ∀ t : TA, PA X [a1, a2] t → PI X tg (.Call (.Name "range" p) [a1, a2] [] pos') (iRng2 t)) (ha : SB X W [a1, a2] mr) (hb : SSs X W body mb)
    (hs : ∀ x, foldedSetIterable (.Call (.Name "range" p) [a1, a2] [] pos') X.env x = pure x := by intro _; rfl) : SS X W (.For tg (.Call (.Name "range" p) [a1, a2] [] pos') body [] pos) (forR2 f mb mr) := by
  obtain ⟨t, h1, h2⟩ := ht.ex
  refine PS.imp (ps_for hp hc (hpi _ ha) h1 hb hs) fun D σ H ⟨R, ι, S, env, rep, repE, post⟩ => ?_
  refine tG_stm rep repE post fun R1 H1 ι1 S1 vs ds rep1 repE1 x1 b1 post1 => ?_
  have b1 : BwAll (Cx.g X) R1 H1 ι1 S1 vs ds := b1
  cases b1 with
  | nil => exact post1.elim
  | cons hb1 tl =>
    rename_i v d vs' ds'
    cases tl with
    | nil => cases d <;> exact post1.elim
    | cons hb2 tl =>
      rename_i v2 d2 vs2 ds2
      cases tl with
      | cons _ _ => cases d <;> cases d2 <;> exact post1.elim
      | nil =>
        cases d with
        | int l =>
          cases d2 with
          | int n =>
            obtain ⟨hn, post2⟩ := PostS.ite post1
            have hl := of_decide_eq_true hn.1
            have hn := of_decide_eq_true hn.2
            rw [Bw.int hb1, Bw.int hb2]
            refine ⟨l, n, rfl, ⟨hl.1, hl.2, hn.1, hn.2⟩, for_range (lo := l) (n := (n - l).toNat) (ForI (Cx.g X) W f mb (rangeD l (n - l).toNat) D R1 H1 ι1 S1 σ env) ⟨R1, ι1, S1, env, rep1, repE1, Ext.refl, post2⟩ (fun i σ' H' hi q => ?_) fun σ' H' q => for_end (by simp [rangeD]) q⟩
            exact for_step (tg := tg) h2 (rangeD_get hi) .int q
          | _ => exact post1.elim
        | _ => exact post1.elim

/-! ### while -/
/-- so many turns at most -/
def whileS (tc : Env → M Bool) (mb : MS) : Nat → MS
  | 0 => fun _ _ => .stuck
  | n + 1 => bindS tc fun k env S => if k = true then (match mb env S with
      | .nx env' S' => whileS tc mb n env' S'
      | .ct env' S' => whileS tc mb n env' S'
      | .brk env' S' => .nx env' S'
      | o => o) else .nx env S
def WhI (g : Gd) (W : WX) (tc : Env → M Bool) (mb : MS) (E : Ends) (n : Nat) (σ : L2.St) (H : Hp) : Prop := ∃ R ι S env, Rep g R H ι S ∧ RepE g R H ι S σ env ∧ PostS g W R H ι S σ env (whileS tc mb n env S) E
/-- fuel: how many turns are enough, by the state -/
theorem ss_while {c : Expr} {body : List Stmt} {tc : Env → M Bool} (fuel : Env → Sto → Nat) (hp : PassesOwn (model X.prog X.w) X.A X.env X.xe) (hc : STt X W c tc) (hb : SSs X W body mb) : SS X W (.While c body [] pos) (fun env S => whileS tc mb (fuel env S) env S) := by
  refine PS.imp (ps_while hp hc hb) fun D σ H ⟨R, ι, S, env, rep, repE, post⟩ => ?_
  refine ⟨WhI (Cx.g X) W tc mb D, ⟨fuel env S, R, ι, S, env, rep, repE, post⟩, fun n σ H ⟨R, ι, S, env, rep, repE, post⟩ => ?_⟩
  cases n with
  | zero => exact post.elim
  | succ n =>
    rw [whileS] at post
    refine tG_stm rep repE post fun R1 H1 ι1 S1 v d rep1 repE1 x1 b1 post1 => ?_
    obtain rfl : v = d := b1
    cases v with
    | false =>
      rw [if_neg Bool.false_ne_true] at post1 ⊢
      exact post1 σ R1 ι1 H1 rep1 repE1 Ext.refl
    | true =>
      rw [if_pos rfl] at post1 ⊢
      refine ⟨WhI (Cx.g X) W tc mb D n, fun σ' H' q => ⟨n, Nat.lt_succ_self n, q⟩, R1, ι1, S1, env, rep1, repE1, ?_⟩
      cases q : mb env S1 with
      | nx env' S' =>
        rw [q] at post1
        exact fun σ' R' ι' H' r1 r2 x => ⟨R', ι', S', env', r1, r2, PostS.shift x post1⟩
      | ct env' S' =>
        rw [q] at post1
        exact fun σ' R' ι' H' r1 r2 x => ⟨R', ι', S', env', r1, r2, PostS.shift x post1⟩
      | brk env' S' =>
        rw [q] at post1
        exact post1
      | rt d S' =>
        rw [q] at post1
        exact post1
      | exc z env' S' =>
        rw [q] at post1
        exact post1
      | stuck =>
        rw [q] at post1
        exact post1.elim
end
end Sm

set_option Elab.async false
set_option linter.all false
set_option maxRecDepth 100000
set_option maxHeartbeats 2000000
/-! Sm7: comprehensions; defs and their calls. -/
namespace Sm
open PySem PySem.Spec PyProof.Rows L2

/-! ### comprehensions -/
/-- what raises has no answer here -/
def nx1 {α : Type} (m : M α) : M α := fun S => match m S with
  | .exc _ _ => .stuck
  | o => o
def wipeE (env : Env) : List Nat → Env
  | [] => env
  | v :: vs => (wipeE env vs).set v .un
abbrev W0 : WX := fun _ _ _ _ => False
theorem RepE.wipe {g : Gd} {R H : Hp} {ι : List Addr} {S : Sto} {σ : L2.St} {env : Env} (h : RepE g R H ι S σ env) : ∀ vs, RepE g R H ι S (L2.wipe σ vs) (wipeE env vs) ∧ ∀ a, Ow (L2.wipe σ vs) (wipeE env vs) a → Ow σ env a
  | [] => ⟨h, fun _ q => q⟩
  | v :: vs => by
    obtain ⟨h1, h2⟩ := RepE.wipe h vs
    exact ⟨h1.setU, fun a q => h2 a (Ow.set_val (fun _ z => by cases z) q)⟩
/-- the block's turns: acc is what has been made -/
def lcA (f : D → Env → Option Env) (tm : Env → M Bool) (em : Env → M D) (env : Env) : List D → List D → M (List D)
  | acc, [] => pure acc
  | acc, d :: ds => match f d env with
    | none => Mstuck
    | some env1 => nx1 (tm env1) >>= fun k => if k = true then nx1 (em env1) >>= fun y => if acc.length < sizeLine then lcA f tm em env (acc ++ [y]) ds else Mstuck else lcA f tm em env acc ds
theorem nx1_post {α β : Type} {g : Gd} {rel : Hp → Hp → Hp → List Addr → Sto → β → α → Prop} {R H : Hp} {ι : List Addr} {S : Sto} {σ : L2.St} {m : M α} {Q : β → Hp → Prop} (hs : nx1 m S ≠ .stuck)
    (h : ∀ d S', m S = .ok d S' → ∀ v R' ι' H', Rep g R' H' ι' S' → ExtL R H ι S R' H' ι' S' → rel H R' H' ι' S' v d → Q v H') : Post g W0 rel R H ι S σ (m S) Q := by
  unfold nx1 at hs
  cases q : m S with
  | ok d S' => exact fun v R' ι' H' r x z => h d S' q v R' ι' H' r x z
  | exc z S' =>
    rw [q] at hs
    exact absurd rfl hs
  | stuck =>
    rw [q] at hs
    exact absurd rfl hs
/-- an object that is neither frozen nor kept changes -/
theorem Rep.updO {g : Gd} {R H : Hp} {ι : List Addr} {S : Sto} {p : Addr} {o : HO} (rep : Rep g R H ι S) (hR : R p = none) (hl : ¬ Lv ι S p) (hk : ∃ u, H p = some u ∧ (∀ ps, u ≠ .tbl ps) ∧ ∀ φ, u ≠ .ext φ) : Rep g R (upd H p o) ι S where
  sub := fun a u h => by
    rw [upd_ne (ne_of_none h hR)]
    exact rep.sub a u h
  len := rep.len
  cell := fun id a c h1 h2 => by
    obtain ⟨q, n⟩ := rep.cell id a c h1 h2
    have e : a ≠ p := fun z => hl (z ▸ ⟨id, c, h1, h2⟩)
    refine ⟨?_, n⟩
    cases c with
    | list xs =>
      obtain ⟨vs, h, t⟩ := q
      exact ⟨vs, by rw [upd_ne e]; exact h, t⟩
    | inst c fs =>
      obtain ⟨C, dx, fvs, h, m, t⟩ := q
      exact ⟨C, dx, fvs, by rw [upd_ne e]; exact h, m, t⟩
    | tbl s =>
      obtain ⟨u, hu, k1, k2⟩ := hk
      exact ⟨q.1, tab_upd q.2 hu k1 k2⟩
  inj := rep.inj
theorem isLst {vs : List V} : (∀ ps, HO.lst vs ≠ .tbl ps) ∧ ∀ φ, HO.lst vs ≠ .ext φ := ⟨fun _ z => (by cases z), fun _ z => (by cases z)⟩
theorem RepE.updO {g : Gd} {R H : Hp} {ι : List Addr} {S : Sto} {σ : L2.St} {env : Env} {p : Addr} {o : HO} (h : RepE g R H ι S σ env) (hp : ¬ Ow σ env p) : RepE g R (upd H p o) ι S σ env where
  len := h.len
  slot := fun i sl u e1 e2 => by
    have q := h.slot i sl u e1 e2
    cases sl with
    | un => trivial
    | val d => exact q
    | own ds =>
      obtain ⟨b, ws, rfl, q1, q2, q3, q4⟩ := q
      have nb : b ≠ p := fun z => hp ⟨i, ds, e1, by rw [e2, z]⟩
      exact ⟨b, ws, rfl, by rw [upd_ne nb]; exact q1, q2, q3, q4⟩
  apart := h.apart
/-- one that is new since the start -/
theorem Ext.updN {R H R1 H1 : Hp} {O O1 : Addr → Prop} {ι ι1 : List Addr} {p : Addr} {o : HO} (x : Ext R H O ι R1 H1 O1 ι1) (hp : H p = none) : Ext R H O ι R1 (upd H1 p o) O1 ι1 where
  rsub := x.rsub
  pre := x.pre
  keep := fun a u h n => by
    rw [upd_ne (ne_of_none h hp)]
    exact x.keep a u h n
  fresh := x.fresh
  own := x.own
  there := fun a h => by
    by_cases e : a = p
    · subst e
      exact hp
    · rw [upd_ne e] at h
      exact x.there a h

section
variable {X : Cx} {W : WX} {pos : Pos} {me : Env → M D} {f : D → Env → Option Env} {tm : Env → M Bool} {em : Env → M D} {g : TG} {is vs : List Nat} {tt : TT}
abbrev tLcM (X : Cx) (tm : Env → M Bool) : TT := tG (Cx.g X) W0 relT tm
/-- ahead of a turn -/
def LcI (X : Cx) (W : WX) (f : D → Env → Option Env) (tm : Env → M Bool) (em : Env → M D) (vs : List Nat) (ds : List D) (Q : VK) (Rm : Hp) (ιm : List Addr) (R0 H0 : Hp) (ι0 : List Addr) (S0 : Sto) (σ : L2.St) (env : Env) (Dl : Addr) (i : Nat) (H : Hp) : Prop :=
  ∃ R ι S acc va, (∀ a o, Rm a = some o → R a = some o) ∧ (∀ (i : Nat) a, ιm[i]? = some a → ι[i]? = some a) ∧ Rep (Cx.g X) R H ι S ∧ RepE (Cx.g X) R H ι S σ env ∧ ExtL R0 H0 ι0 S0 R H ι S ∧ H Dl = some (.lst va) ∧ DvAll (Cx.g X) R ι va acc ∧ R Dl = none ∧ ¬ Lv ι S Dl ∧
    Post (Cx.g X) W (relF (Cx.g X)) R0 H0 ι0 S0 σ (lcA f tm em (wipeE env vs) acc (ds.drop i) S) Q
theorem lc_turn {ds : List D} {Q : VK} {Rm R0 H0 : Hp} {ιm ι0 : List Addr} {S0 : Sto} {σ : L2.St} {env : Env} {Dl : Addr} {i : Nat} {v : V} {d : D} {H : Hp}
    (ht : ∀ R H ι S σ env v d env' (Q : L2.St → Hp → Prop), Rep (Cx.g X) R H ι S → RepE (Cx.g X) R H ι S σ env → Dv (Cx.g X) R ι v d → f d env = some env' → (∀ σ', RepE (Cx.g X) R H ι S σ' env' → ExtS R H ι S σ env R H ι S σ' env' → (∀ vs, (∀ i ∈ is, i ∈ vs) → L2.wipe σ' vs = L2.wipe σ vs) → Q σ' H) → g v σ H Q)
    (his : ∀ i ∈ is, i ∈ vs) (hD : H0 Dl = none) (hOw : ¬ Ow σ env Dl) (hd : ds[i]? = some d) (hv : Dv (Cx.g X) Rm ιm v d) (p : LcI X W f tm em vs ds Q Rm ιm R0 H0 ι0 S0 σ env Dl i H) :
    g v (L2.wipe σ vs) H fun σ2 H2 => L2.wipe σ2 vs = L2.wipe σ vs ∧ tG (Cx.g X) W0 relT tm σ2 H2 fun b H3 =>
      if b = true then tG (Cx.g X) W0 (relE (Cx.g X) false) em σ2 H3 fun y H4 => ∃ acc, H4 Dl = some (.lst acc) ∧ acc.length < sizeLine ∧ LcI X W f tm em vs ds Q Rm ιm R0 H0 ι0 S0 σ env Dl (i + 1) (upd H4 Dl (.lst (acc ++ [y]))) else LcI X W f tm em vs ds Q Rm ιm R0 H0 ι0 S0 σ env Dl (i + 1) H3 := by
  obtain ⟨R, ι, S, acc, va, m1, m2, rep, repE, x, h1, h2, h3, h4, post⟩ := p
  have hi : i < ds.length := (List.getElem?_eq_some_iff.mp hd).1
  have e0 : ds.drop i = d :: ds.drop (i + 1) := by
    rw [List.drop_eq_getElem_cons hi]
    rw [(List.getElem?_eq_some_iff.mp hd).2]
  rw [e0, lcA] at post
  cases e : f d (wipeE env vs) with
  | none =>
    simp only [e] at post
    exact post.elim
  | some env1 =>
    simp only [e] at post
    refine ht R H ι S _ (wipeE env vs) v d env1 _ rep (repE.wipe vs).1 (hv.mono m1 m2) e fun σ2 r2 x2 w2 => ⟨(w2 vs his).trans ?_, ?_⟩
    · apply List.ext_getElem?
      intro j
      rw [wipe_get, wipe_get, wipe_length]
      by_cases z : j ∈ vs ∧ j < σ.length
      · simp only [if_pos z]
      · simp only [if_neg z]
    have post : Post (Cx.g X) W (relF (Cx.g X)) R0 H0 ι0 S0 σ (Mbind (nx1 (tm env1)) (fun k => if k = true then nx1 (em env1) >>= fun y => if acc.length < sizeLine then lcA f tm em (wipeE env vs) (acc ++ [y]) (ds.drop (i + 1)) else Mstuck else lcA f tm em (wipeE env vs) acc (ds.drop (i + 1))) S) Q := post
    unfold Mbind at post
    refine ⟨R, ι, S, env1, rep, r2, nx1_post (fun z => ?_) fun k S1 hk b R1 ι1 H1 rep1 x1 hb => ?_⟩
    · rw [z] at post
      exact post.elim
    have hk' : nx1 (tm env1) S = .ok k S1 := by
      unfold nx1
      rw [hk]
    rw [hk'] at post
    obtain rfl : b = k := hb
    have hD1 : H1 Dl = some (.lst va) := x1.keep _ _ h1 h4
    have hL1 : ¬ Lv ι1 S1 Dl := fun z => by
      rcases x1.own Dl z with z | z
      · exact h4 z
      · rw [h1] at z
        cases z
    have hR1 : R1 Dl = none := by
      cases q : R1 Dl with
      | none => rfl
      | some o =>
        have := x1.fresh Dl o q (by rw [h1]; exact fun z => by cases z) h4
        rw [h3] at this
        cases this
    cases b with
    | false =>
      rw [if_neg Bool.false_ne_true]
      have post : Post (Cx.g X) W (relF (Cx.g X)) R0 H0 ι0 S0 σ ((if false = true then nx1 (em env1) >>= fun y => if acc.length < sizeLine then lcA f tm em (wipeE env vs) (acc ++ [y]) (ds.drop (i + 1)) else Mstuck else lcA f tm em (wipeE env vs) acc (ds.drop (i + 1))) S1) Q := post
      rw [if_neg Bool.false_ne_true] at post
      exact ⟨R1, ι1, S1, acc, va, fun a o q => x1.rsub a o (m1 a o q), fun i a q => x1.pre i a (m2 i a q), rep1, repE.ext x1, x.trans x1, hD1, h2.ext x1, hR1, hL1, post⟩
    | true =>
      rw [if_pos rfl]
      have post : Post (Cx.g X) W (relF (Cx.g X)) R0 H0 ι0 S0 σ ((if true = true then nx1 (em env1) >>= fun y => if acc.length < sizeLine then lcA f tm em (wipeE env vs) (acc ++ [y]) (ds.drop (i + 1)) else Mstuck else lcA f tm em (wipeE env vs) acc (ds.drop (i + 1))) S1) Q := post
      rw [if_pos rfl] at post
      have post : Post (Cx.g X) W (relF (Cx.g X)) R0 H0 ι0 S0 σ (Mbind (nx1 (em env1)) (fun y => if acc.length < sizeLine then lcA f tm em (wipeE env vs) (acc ++ [y]) (ds.drop (i + 1)) else Mstuck) S1) Q := post
      unfold Mbind at post
      refine ⟨R1, ι1, S1, env1, rep1, r2.ext x1, nx1_post (fun z => ?_) fun y S2 hy v2 R2 ι2 H2 rep2 x3 hv2 => ?_⟩
      · rw [z] at post
        exact post.elim
      have hy' : nx1 (em env1) S1 = .ok y S2 := by
        unfold nx1
        rw [hy]
      rw [hy'] at post
      have hD2 : H2 Dl = some (.lst va) := x3.keep _ _ hD1 hL1
      have hL2 : ¬ Lv ι2 S2 Dl := fun z => by
        rcases x3.own Dl z with z | z
        · exact hL1 z
        · rw [hD1] at z
          cases z
      have hR2 : R2 Dl = none := by
        cases q : R2 Dl with
        | none => rfl
        | some o =>
          have := x3.fresh Dl o q (by rw [hD1]; exact fun z => by cases z) hL1
          rw [hR1] at this
          cases this
      have post : Post (Cx.g X) W (relF (Cx.g X)) R0 H0 ι0 S0 σ ((if acc.length < sizeLine then lcA f tm em (wipeE env vs) (acc ++ [y]) (ds.drop (i + 1)) else Mstuck) S2) Q := post
      have hv2 : Dv (Cx.g X) R2 ι2 v2 y := hv2
      have h2' := (h2.ext x1).ext x3
      by_cases hz : acc.length < sizeLine
      · rw [if_pos hz] at post
        exact ⟨va, hD2, by rw [h2.len]; exact hz, R2, ι2, S2, acc ++ [y], va ++ [v2], fun a o q => x3.rsub a o (x1.rsub a o (m1 a o q)), fun i a q => x3.pre i a (x1.pre i a (m2 i a q)), rep2.updO hR2 hL2 ⟨_, hD2, isLst⟩, ((repE.ext x1).ext x3).updO hOw, (x.trans (x1.trans x3)).updN hD, upd_same, h2'.snoc hv2, hR2, hL2, post⟩
      · rw [if_neg hz] at post
        exact post.elim
theorem lc_end {ds : List D} {Q : VK} {Rm R0 H0 : Hp} {ιm ι0 : List Addr} {S0 : Sto} {σ : L2.St} {env : Env} {Dl : Addr} {n : Nat} {H : Hp} (hn : ds.length = n) (hD : H0 Dl = none) (p : LcI X W f tm em vs ds Q Rm ιm R0 H0 ι0 S0 σ env Dl n H) : Q (.ref Dl) H := by
  obtain ⟨R, ι, S, acc, va, m1, m2, rep, repE, x, h1, h2, h3, h4, post⟩ := p
  rw [List.drop_of_length_le (by omega), lcA] at post
  exact post (.ref Dl) R ι H rep x ⟨Dl, va, rfl, hD, h1, h3, h4, h2⟩
theorem lc_start {ds : List D} {Q : VK} {R0 H0 R1 H1 : Hp} {ι0 ι1 : List Addr} {S0 S1 : Sto} {σ : L2.St} {env : Env} {Dl : Addr} (rep : Rep (Cx.g X) R1 H1 ι1 S1) (repE : RepE (Cx.g X) R1 H1 ι1 S1 σ env) (x : ExtL R0 H0 ι0 S0 R1 H1 ι1 S1) (hD : H1 Dl = none)
    (post : Post (Cx.g X) W (relF (Cx.g X)) R0 H0 ι0 S0 σ (lcA f tm em (wipeE env vs) [] ds S1) Q) : ¬ Ow σ env Dl ∧ LcI X W f tm em vs ds Q R1 ι1 R0 H0 ι0 S0 σ env Dl 0 (upd H1 Dl (.lst [])) := by
  have hOw : ¬ Ow σ env Dl := fun ⟨j, ys, e1, e2⟩ => by
    obtain ⟨u, hu, q⟩ := repE.at e1
    rw [e2] at hu
    cases hu
    obtain ⟨b, ws, z, q1, _⟩ := q
    cases z
    rw [hD] at q1
    cases q1
  exact ⟨hOw, R1, ι1, S1, [], [], fun _ _ q => q, fun _ _ q => q, rep.newH hD, repE.updO hOw, x.updN (x.there Dl hD), upd_same, .nil, rep.noR hD, rep.noL hD, post⟩

/-- the judgement of a block's parts, whatever it starts from -/
structure BlkM (X : Cx) (scope : Scope) (own : List (Str × Nat)) (tg : Expr) (ifs : List Expr) (elt : Expr) (is : List Nat) (f : D → Env → Option Env) (tm : Env → M Bool) (em : Env → M D) : Prop where
  ok : BlkOk X.N X.env.scope scope own
  sub : ∀ i ∈ is, i ∈ own.map (·.2)
  tg : ∃ t : TG, (∀ (s : Shared) (H : Hp) (C : Addr) (cl : List (Str × Addr)) (fp : List Addr), PG (X.blk s H scope (compEnvC scope cl C X.env) fp) tg t) ∧
    ∀ R H ι S σ env v d env' (Q : L2.St → Hp → Prop), Rep (Cx.g X) R H ι S → RepE (Cx.g X) R H ι S σ env → Dv (Cx.g X) R ι v d → f d env = some env' → (∀ σ', RepE (Cx.g X) R H ι S σ' env' → ExtS R H ι S σ env R H ι S σ' env' → (∀ vs, (∀ i ∈ is, i ∈ vs) → L2.wipe σ' vs = L2.wipe σ vs) → Q σ' H) → t v σ H Q
  ifs : ∀ (s : Shared) (H : Hp) (C : Addr) (cl : List (Str × Addr)) (fp : List Addr), PTs (X.blk s H scope (compEnvC scope cl C X.env) fp) ifs (tG (Cx.g X) W0 relT tm)
  elt : ∀ (s : Shared) (H : Hp) (C : Addr) (cl : List (Str × Addr)) (fp : List Addr), PE (X.blk s H scope (compEnvC scope cl C X.env) fp) elt (tG (Cx.g X) W0 (relE (Cx.g X) false) em)
def okT (_ : Env) : M Bool := pure true
theorem PTs.imp {X : Cx} {e : List Expr} {t t' : TT} (h : PTs X e t) (i : ∀ σ H Q, t' σ H Q → t σ H Q) : PTs X e t' := ⟨fun pins s σ H Q I q => h.run pins s σ H Q I (i _ _ _ q)⟩
theorem pts_all {X : Cx} {g : Gd} : PTs X [] (tG g W0 relT okT) := PTs.imp pts_nil fun σ H Q ⟨R, ι, S, env, rep, repE, post⟩ => post true R ι H rep Ext.refl rfl
/-- by turns: a list of items -/
def lcM (f : D → Env → Option Env) (tm : Env → M Bool) (em : Env → M D) (vs : List Nat) (xs : List D) (env : Env) : M (List D) := lcA f tm em (wipeE env vs) [] xs
def lcL (me : Env → M D) (f : D → Env → Option Env) (tm : Env → M Bool) (em : Env → M D) (vs : List Nat) (env : Env) : M (List D) := me env >>= fun d => match d with
  | .list xs => lcM f tm em vs xs env
  | .frl xs => lcM f tm em vs xs env
  | _ => Mstuck
def lcT (me : Env → M D) (f : D → Env → Option Env) (tm : Env → M Bool) (em : Env → M D) (vs : List Nat) (env : Env) : M (List D) := me env >>= fun d => match d with
  | .tup xs => lcM f tm em vs xs env
  | _ => Mstuck
def lcR (ma : Env → M (List D)) (f : D → Env → Option Env) (tm : Env → M Bool) (em : Env → M D) (vs : List Nat) (env : Env) : M (List D) := ma env >>= fun ds => match ds with
  | [.int n] => if okR n = true then lcM f tm em vs (rangeD 0 n.toNat) env else Mstuck
  | _ => Mstuck
variable {tg elt iter : Expr} {ifs : List Expr} {scope : Scope} {own : List (Str × Nat)}
/-- the walk of a source, as a comprehension wants it -/
theorem lcL_go {t : TG} {σ : L2.St} {H : Hp} {Q : VK} {own : List (Str × Nat)} (his : ∀ i ∈ is, i ∈ own.map (·.2))
    (ht : ∀ R H ι S σ env v d env' (Q : L2.St → Hp → Prop), Rep (Cx.g X) R H ι S → RepE (Cx.g X) R H ι S σ env → Dv (Cx.g X) R ι v d → f d env = some env' → (∀ σ', RepE (Cx.g X) R H ι S σ' env' → ExtS R H ι S σ env R H ι S σ' env' → (∀ vs, (∀ i ∈ is, i ∈ vs) → L2.wipe σ' vs = L2.wipe σ vs) → Q σ' H) → t v σ H Q)
    (h : tG (Cx.g X) W (relF (Cx.g X)) (lcL me f tm em (own.map (·.2))) σ H Q) :
    tLc (iList X.K (tG (Cx.g X) W (relE (Cx.g X) false) me)) t (tG (Cx.g X) W0 relT tm) (tG (Cx.g X) W0 (relE (Cx.g X) false) em) (own.map (·.2)) σ H Q := by
  obtain ⟨R, ι, S, env, rep, repE, post⟩ := h
  refine ⟨R, ι, S, env, rep, repE, ?_⟩
  have post : Post (Cx.g X) W (relF (Cx.g X)) R H ι S σ (Mbind (me env) _ S) Q := post
  unfold Mbind at post
  cases q : me env S with
  | ok d S1 =>
    rw [q] at post
    intro v R1 ι1 H1 rep1 x1 b1
    have repE1 := repE.ext x1
    have go : ∀ (a : Addr) (vs : List V) (xs : List D), SqL X.K R1 a vs → DvAll (Cx.g X) R1 ι1 vs xs → Post (Cx.g X) W (relF (Cx.g X)) R H ι S σ (lcM f tm em (own.map (·.2)) xs env S1) Q → ∀ Dl, H1 Dl = none → ∃ W' : Nat → Nat → Hp → Prop, (∃ m, W' 0 m (upd H1 Dl (.lst []))) ∧ ∀ i m H, W' i m H →
        ((Itl X.K a).stop i H ∧ Q (.ref Dl) H) ∨ ((Itl X.K a).go i H ∧ ∃ Nx : Hp → Prop, (∀ H', Nx H' → ∃ m', m' < m ∧ W' (i + 1) m' H') ∧ ∀ x H', (Itl X.K a).yld i H x H' → t x (L2.wipe σ (own.map (·.2))) H' fun σ2 H2 => L2.wipe σ2 (own.map (·.2)) = L2.wipe σ (own.map (·.2)) ∧ (tG (Cx.g X) W0 relT tm) σ2 H2 fun b H3 =>
          if b = true then (tG (Cx.g X) W0 (relE (Cx.g X) false) em) σ2 H3 fun y H4 => ∃ acc, H4 Dl = some (.lst acc) ∧ acc.length < sizeLine ∧ Nx (upd H4 Dl (.lst (acc ++ [y]))) else Nx H3) := fun a vs xs ha hd p Dl hD => by
      obtain ⟨hOw, st⟩ := lc_start rep1 repE1 x1 hD p
      have hD0 : H Dl = none := x1.there Dl hD
      refine lc_list (K := X.K) (a := a) (xs := vs) (LcI X W f tm em (own.map (·.2)) xs Q R1 ι1 R H ι S σ env Dl) st (fun i H' _ q => ?_) (fun i x H' hx q => ?_) fun H' q => lc_end hd.len.symm hD0 q
      · obtain ⟨R', ι', S', acc, va, m1, m2, r1, _⟩ := q
        exact sqL_sub r1.sub (sqL_sub m1 ha)
      · obtain ⟨d', hd', hv'⟩ := hd.get' hx
        exact lc_turn ht his hD0 hOw hd' hv' q
    cases d with
    | list xs =>
      cases b1 with
      | lst h t => exact ⟨_, rfl, ⟨_, SqL.of (rep1.sub _ _ h)⟩, go _ _ xs (SqL.of h) t post⟩
    | frl xs =>
      cases b1 with
      | frl h t => exact ⟨_, rfl, ⟨_, sqL_sub rep1.sub h⟩, go _ _ xs h t post⟩
    | _ => exact post.elim
  | exc z S' =>
    rw [q] at post
    exact post
  | stuck =>
    rw [q] at post
    exact post
theorem lcT_go {t : TG} {σ : L2.St} {H : Hp} {Q : VK} {own : List (Str × Nat)} (his : ∀ i ∈ is, i ∈ own.map (·.2))
    (ht : ∀ R H ι S σ env v d env' (Q : L2.St → Hp → Prop), Rep (Cx.g X) R H ι S → RepE (Cx.g X) R H ι S σ env → Dv (Cx.g X) R ι v d → f d env = some env' → (∀ σ', RepE (Cx.g X) R H ι S σ' env' → ExtS R H ι S σ env R H ι S σ' env' → (∀ vs, (∀ i ∈ is, i ∈ vs) → L2.wipe σ' vs = L2.wipe σ vs) → Q σ' H) → t v σ H Q)
    (h : tG (Cx.g X) W (relF (Cx.g X)) (lcT me f tm em (own.map (·.2))) σ H Q) :
    tLc (iTup X.K (tG (Cx.g X) W (relE (Cx.g X) false) me)) t (tG (Cx.g X) W0 relT tm) (tG (Cx.g X) W0 (relE (Cx.g X) false) em) (own.map (·.2)) σ H Q := by
  obtain ⟨R, ι, S, env, rep, repE, post⟩ := h
  refine ⟨R, ι, S, env, rep, repE, ?_⟩
  have post : Post (Cx.g X) W (relF (Cx.g X)) R H ι S σ (Mbind (me env) _ S) Q := post
  unfold Mbind at post
  cases q : me env S with
  | ok d S1 =>
    rw [q] at post
    intro v R1 ι1 H1 rep1 x1 b1
    have repE1 := repE.ext x1
    cases d with
    | tup xs =>
      cases b1 with
      | tup ha hd =>
        rename_i a vs
        refine ⟨_, rfl, ⟨_, sqT_sub rep1.sub ha⟩, fun Dl hD => ?_⟩
        obtain ⟨hOw, st⟩ := lc_start rep1 repE1 x1 hD post
        have hD0 : H Dl = none := x1.there Dl hD
        refine lc_tup (K := X.K) (a := a) (xs := vs) (LcI X W f tm em (own.map (·.2)) xs Q R1 ι1 R H ι S σ env Dl) st (fun i H' _ q => ?_) (fun i x H' hx q => ?_) fun H' q => lc_end hd.len.symm hD0 q
        · obtain ⟨R', ι', S', acc, va, m1, m2, r1, _⟩ := q
          exact sqT_sub r1.sub (sqT_sub m1 ha)
        · obtain ⟨d', hd', hv'⟩ := hd.get' hx
          exact lc_turn ht his hD0 hOw hd' hv' q
    | _ => exact post.elim
  | exc z S' =>
    rw [q] at post
    exact post
  | stuck =>
    rw [q] at post
    exact post
theorem lcR_go {t : TG} {σ : L2.St} {H : Hp} {Q : VK} {own : List (Str × Nat)} {ma : Env → M (List D)} (his : ∀ i ∈ is, i ∈ own.map (·.2))
    (ht : ∀ R H ι S σ env v d env' (Q : L2.St → Hp → Prop), Rep (Cx.g X) R H ι S → RepE (Cx.g X) R H ι S σ env → Dv (Cx.g X) R ι v d → f d env = some env' → (∀ σ', RepE (Cx.g X) R H ι S σ' env' → ExtS R H ι S σ env R H ι S σ' env' → (∀ vs, (∀ i ∈ is, i ∈ vs) → L2.wipe σ' vs = L2.wipe σ vs) → Q σ' H) → t v σ H Q)
    (h : tG (Cx.g X) W (relF (Cx.g X)) (lcR ma f tm em (own.map (·.2))) σ H Q) :
    tLc (iRng1 (tG (Cx.g X) W (relB (Cx.g X)) ma)) t (tG (Cx.g X) W0 relT tm) (tG (Cx.g X) W0 (relE (Cx.g X) false) em) (own.map (·.2)) σ H Q := by
  obtain ⟨R, ι, S, env, rep, repE, post⟩ := h
  refine ⟨R, ι, S, env, rep, repE, ?_⟩
  have post : Post (Cx.g X) W (relF (Cx.g X)) R H ι S σ (Mbind (ma env) _ S) Q := post
  unfold Mbind at post
  cases q : ma env S with
  | ok ds S1 =>
    rw [q] at post
    intro vs R1 ι1 H1 rep1 x1 b1
    have repE1 := repE.ext x1
    have b1 : BwAll (Cx.g X) R1 H1 ι1 S1 vs ds := b1
    cases b1 with
    | nil => exact post.elim
    | cons hb tl =>
      rename_i v d vs' ds'
      cases tl with
      | cons _ _ => cases d <;> exact post.elim
      | nil =>
        cases d with
        | int n =>
          have post : Post (Cx.g X) W (relF (Cx.g X)) R H ι S σ ((if okR n = true then lcM f tm em (own.map (·.2)) (rangeD 0 n.toNat) env else Mstuck) S1) Q := post
          by_cases hn : okR n = true
          · rw [if_pos hn] at post
            have hn := of_decide_eq_true hn
            rw [Bw.int hb]
            refine ⟨n, rfl, hn.1, hn.2, fun Dl hD => ?_⟩
            obtain ⟨hOw, st⟩ := lc_start rep1 repE1 x1 hD post
            have hD0 : H Dl = none := x1.there Dl hD
            exact lc_range (lo := 0) (n := n.toNat) (LcI X W f tm em (own.map (·.2)) (rangeD 0 n.toNat) Q R1 ι1 R H ι S σ env Dl) st (fun i H' hi q => lc_turn ht his hD0 hOw (rangeD_get hi) .int q) fun H' q => lc_end (by simp [rangeD]) hD0 q
          · rw [if_neg hn] at post
            exact post.elim
        | _ => exact post.elim
  | exc z S' =>
    rw [q] at post
    exact post
  | stuck =>
    rw [q] at post
    exact post
theorem sf_lcL {pos : Pos} (hc : X.calm = true) (hN : X.N.Nodup) (hi : SE X W false iter me) (B : BlkM X scope own tg ifs elt is f tm em) (hs : ∀ x, foldedSetIterable iter X.env x = pure x := by intro _; rfl) :
    SF X W (.ListComp elt [⟨tg, iter, ifs, 0⟩] scope pos) (lcL me f tm em (own.map (·.2))) := by
  obtain ⟨t, h1, h2⟩ := B.tg
  exact PE.imp (pe_lc hc hN (pi_list hi) B.ok h1 B.ifs B.elt hs) fun σ H Q h => lcL_go B.sub h2 h
theorem sf_lcT {pos : Pos} (hc : X.calm = true) (hN : X.N.Nodup) (hi : SE X W false iter me) (B : BlkM X scope own tg ifs elt is f tm em) (hs : ∀ x, foldedSetIterable iter X.env x = pure x := by intro _; rfl) :
    SF X W (.ListComp elt [⟨tg, iter, ifs, 0⟩] scope pos) (lcT me f tm em (own.map (·.2))) := by
  obtain ⟨t, h1, h2⟩ := B.tg
  exact PE.imp (pe_lc hc hN (pi_tup hi) B.ok h1 B.ifs B.elt hs) fun σ H Q h => lcT_go B.sub h2 h
theorem sf_lcR {pos p pos' : Pos} {a1 : Expr} {ma : Env → M (List D)} (hc : X.calm = true) (hN : X.N.Nodup) (hg : Gl X "range") (hm : X.mg "range" = none) (ha : SB X W [a1] ma) (B : BlkM X scope own tg ifs elt is f tm em) (hst : starEach [a1] X.env = [(false, eval a1 X.env)] := by rfl)
    (hs : ∀ x, foldedSetIterable (.Call (.Name "range" p) [a1] [] pos') X.env x = pure x := by intro _; rfl) : SF X W (.ListComp elt [⟨tg, .Call (.Name "range" p) [a1] [] pos', ifs, 0⟩] scope pos) (lcR ma f tm em (own.map (·.2))) := by
  obtain ⟨t, h1, h2⟩ := B.tg
  exact PE.imp (pe_lc hc hN (pi_range1 hg hm ha hst) B.ok h1 B.ifs B.elt hs) fun σ H Q h => lcR_go B.sub h2 h
end
end Sm

set_option Elab.async false
set_option linter.all false
set_option maxRecDepth 100000
set_option maxHeartbeats 2000000
/-! Sm8: lists that change; the store; defs and their calls. -/
namespace Sm
open PySem PySem.Spec PyProof.Rows L2

section
variable {g : Gd} {W : WX} {R H : Hp} {ι : List Addr} {S : Sto} {σ : L2.St} {env : Env}
/-- a slot's list changes -/
theorem own_upd {i : Nat} {a : Addr} {xs ys : List D} {ws : List V} (rep : Rep g R H ι S) (repE : RepE g R H ι S σ env) (e : env[i]? = some (.own xs)) (hu : σ[i]? = some (some (.ref a))) (hR : R a = none) (hl : ¬ Lv ι S a) (hw : DvAll g R ι ws ys) :
    Rep g R (upd H a (.lst ws)) ι S ∧ RepE g R (upd H a (.lst ws)) ι S σ (env.set i (.own ys)) ∧ ExtS R H ι S σ env R (upd H a (.lst ws)) ι S σ (env.set i (.own ys)) := by
  obtain ⟨a0, vs0, z0, hk0, _⟩ := repE.slot i _ _ e hu
  cases z0
  refine ⟨rep.updO hR hl ⟨_, hk0, isLst⟩, ⟨by rw [List.length_set]; exact repE.len, fun j sl u e1 e2 => ?_, fun j k xs' ys' b e1 e2 e3 e4 => ?_⟩, ?_⟩
  · rcases get_set e1 with ⟨rfl, rfl, _⟩ | ⟨n, e1⟩
    · rw [hu] at e2
      cases e2
      exact ⟨a, ws, rfl, upd_same, hw, hR, hl⟩
    · have q := repE.slot j sl u e1 e2
      cases sl with
      | un => trivial
      | val d => exact q
      | own ds =>
        obtain ⟨b, vs, rfl, q1, q2, q3, q4⟩ := q
        have nb : b ≠ a := fun z => by
          subst z
          exact n (repE.apart i j xs ds b e e1 hu e2)
        exact ⟨b, vs, rfl, by rw [upd_ne nb]; exact q1, q2, q3, q4⟩
  · have f1 : ∃ zs, env[j]? = some (.own zs) := by
      rcases get_set e1 with ⟨rfl, _, _⟩ | ⟨_, e1⟩
      · exact ⟨xs, e⟩
      · exact ⟨xs', e1⟩
    have f2 : ∃ zs, env[k]? = some (.own zs) := by
      rcases get_set e2 with ⟨rfl, _, _⟩ | ⟨_, e2⟩
      · exact ⟨xs, e⟩
      · exact ⟨ys', e2⟩
    obtain ⟨z1, f1⟩ := f1
    obtain ⟨z2, f2⟩ := f2
    exact repE.apart j k z1 z2 b f1 f2 e3 e4
  · have ha : Lo ι S σ env a := .inr ⟨i, xs, e, hu⟩
    exact {
      rsub := fun _ _ q => q
      pre := fun _ _ q => q
      keep := fun b o q n => by
        have nb : b ≠ a := fun z => n (z ▸ ha)
        rw [upd_ne nb]
        exact q
      fresh := fun _ _ q _ _ => q
      own := fun b q => by
        rcases q with q | ⟨j, zs, e1, e2⟩
        · exact .inl (.inl q)
        · rcases get_set e1 with ⟨rfl, _, _⟩ | ⟨_, e1⟩
          · exact .inl (.inr ⟨_, xs, e, e2⟩)
          · exact .inl (.inr ⟨j, zs, e1, e2⟩)
      there := fun b q => by
        by_cases z : b = a
        · subst z
          rw [upd_same] at q
          cases q
        · rw [upd_ne z] at q
          exact q }
/-- a list of the store changes -/
theorem cell_upd {id : Nat} {a : Addr} {xs ys : List D} {ws : List V} (rep : Rep g R H ι S) (hi : ι[id]? = some a) (hs : S[id]? = some (some (.list xs))) (hw : DvAll g R ι ws ys) :
    Rep g R (upd H a (.lst ws)) ι (S.set id (some (.list ys))) ∧ ExtL R H ι S R (upd H a (.lst ws)) ι (S.set id (some (.list ys))) := by
  obtain ⟨_, hR⟩ := rep.cell id a _ hi hs
  have hlen : id < S.length := (List.getElem?_eq_some_iff.mp hs).1
  have back : ∀ {j : Nat} {c : Cell}, (S.set id (some (.list ys)))[j]? = some (some c) → ∃ c', S[j]? = some (some c') := fun {j c} e => by
    rcases get_set e with ⟨rfl, _, _⟩ | ⟨_, e⟩
    · exact ⟨_, hs⟩
    · exact ⟨c, e⟩
  refine ⟨⟨fun b u h => ?_, by rw [List.length_set]; exact rep.len, fun j b c h1 h2 => ?_, fun j k b c c' h1 h2 h3 h4 => ?_⟩, ?_⟩
  · rw [upd_ne (ne_of_none h hR)]
    exact rep.sub b u h
  · rcases get_set h2 with ⟨rfl, e, _⟩ | ⟨n, h2⟩
    · rw [hi] at h1
      cases h1
      cases e
      exact ⟨⟨ws, upd_same, hw⟩, hR⟩
    · obtain ⟨q, r⟩ := rep.cell j b c h1 h2
      have nb : b ≠ a := fun z => by
        subst z
        exact n (rep.inj id j b _ _ hi h1 hs h2)
      refine ⟨?_, r⟩
      cases c with
      | list zs =>
        obtain ⟨vs, h, t⟩ := q
        exact ⟨vs, by rw [upd_ne nb]; exact h, t⟩
      | inst cc fs =>
        obtain ⟨C, dx, fvs, h, m, t⟩ := q
        exact ⟨C, dx, fvs, by rw [upd_ne nb]; exact h, m, t⟩
      | tbl s =>
        obtain ⟨⟨vs, h0, _⟩, _⟩ := rep.cell id a _ hi hs
        exact ⟨q.1, tab_upd q.2 h0 (fun _ z => by cases z) (fun _ z => by cases z)⟩
  · obtain ⟨d1, q1⟩ := back h3
    obtain ⟨d2, q2⟩ := back h4
    exact rep.inj j k b _ _ h1 h2 q1 q2
  · have ha : Lv ι S a := ⟨id, _, hi, hs⟩
    exact {
      rsub := fun _ _ q => q
      pre := fun _ _ q => q
      keep := fun b o q n => by
        have nb : b ≠ a := fun z => n (z ▸ ha)
        rw [upd_ne nb]
        exact q
      fresh := fun _ _ q _ _ => q
      own := fun b ⟨j, c, h1, h2⟩ => by
        obtain ⟨c', q⟩ := back h2
        exact .inl ⟨j, c', h1, q⟩
      there := fun b q => by
        by_cases z : b = a
        · subst z
          rw [upd_same] at q
          cases q
        · rw [upd_ne z] at q
          exact q }
/-- a new list comes into the store -/
theorem cell_new {p : Addr} {ds : List D} {vs : List V} (rep : Rep g R H ι S) (hp : H p = some (.lst vs)) (hR : R p = none) (hl : ¬ Lv ι S p) (hv : DvAll g R ι vs ds) : Rep g R H (ι ++ [p]) (S ++ [some (.list ds)]) := by
  have hpre : ∀ (i : Nat) a, ι[i]? = some a → (ι ++ [p])[i]? = some a := fun i a h => by
    rw [List.getElem?_append_left (List.getElem?_eq_some_iff.mp h).1]
    exact h
  have hlast : ∀ {j : Nat} {c : Cell}, (S ++ [some (.list ds)])[j]? = some (some c) → (S[j]? = some (some c) ∧ j < S.length) ∨ (j = S.length ∧ c = .list ds) := fun {j c} e => by
    by_cases hj : j < S.length
    · rw [List.getElem?_append_left hj] at e
      exact .inl ⟨e, hj⟩
    · rw [List.getElem?_append_right (by omega)] at e
      have : j - S.length = 0 := by
        have := (List.getElem?_eq_some_iff.mp e).1
        simp at this
        omega
      rw [this] at e
      cases e
      exact .inr ⟨by omega, rfl⟩
  have hat : ∀ {j : Nat} {a : Addr}, (ι ++ [p])[j]? = some a → (j < S.length ∧ ι[j]? = some a) ∨ (j = S.length ∧ a = p) := fun {j a} e => by
    by_cases hj : j < ι.length
    · rw [List.getElem?_append_left hj] at e
      exact .inl ⟨by rw [← rep.len]; exact hj, e⟩
    · rw [List.getElem?_append_right (by omega)] at e
      have : j - ι.length = 0 := by
        have := (List.getElem?_eq_some_iff.mp e).1
        simp at this
        omega
      rw [this] at e
      cases e
      exact .inr ⟨by have := rep.len; omega, rfl⟩
  refine ⟨rep.sub, by rw [List.length_append, List.length_append, rep.len, List.length_singleton, List.length_singleton], fun j a c h1 h2 => ?_, fun j k a c c' h1 h2 h3 h4 => ?_⟩
  · rcases hlast h2 with ⟨h2, hj⟩ | ⟨rfl, rfl⟩
    · rcases hat h1 with ⟨_, h1⟩ | ⟨z, _⟩
      · obtain ⟨q, r⟩ := rep.cell j a c h1 h2
        refine ⟨?_, r⟩
        cases c with
        | list zs =>
          obtain ⟨vs, h, t⟩ := q
          exact ⟨vs, h, t.mono (fun _ _ q => q) hpre⟩
        | inst cc fs =>
          obtain ⟨C, dx, fvs, h, m, t⟩ := q
          exact ⟨C, dx, fvs, h, m, t.mono (fun _ _ q => q) hpre⟩
        | tbl s => exact q
      · omega
    · rcases hat h1 with ⟨z, _⟩ | ⟨_, rfl⟩
      · omega
      · exact ⟨⟨vs, hp, hv.mono (fun _ _ q => q) hpre⟩, hR⟩
  · rcases hlast h3 with ⟨h3, hj⟩ | ⟨rfl, rfl⟩
    · rcases hat h1 with ⟨_, h1⟩ | ⟨z, _⟩
      · rcases hlast h4 with ⟨h4, hk⟩ | ⟨rfl, rfl⟩
        · rcases hat h2 with ⟨_, h2⟩ | ⟨z, _⟩
          · exact rep.inj j k a c c' h1 h2 h3 h4
          · omega
        · rcases hat h2 with ⟨z, _⟩ | ⟨_, z⟩
          · omega
          · exact absurd ⟨j, c, z ▸ h1, h3⟩ hl
      · omega
    · rcases hat h1 with ⟨z, _⟩ | ⟨_, rfl⟩
      · omega
      · rcases hlast h4 with ⟨h4, hk⟩ | ⟨rfl, _⟩
        · rcases hat h2 with ⟨_, h2⟩ | ⟨z, _⟩
          · exact absurd ⟨k, c', h2, h4⟩ hl
          · omega
        · rfl
end

section
variable {X : Cx} {W : WX} {bw : Bool} {e : Expr} {me mo mi : Env → M D} {pos : Pos} {st : Stmt}
/-! ### a new list of the store -/
def newO (ds : List D) : M D := fun S => .ok (.obj S.length) (S ++ [some (.list ds)])
theorem SF.obj {mf : Env → M (List D)} (h : SF X W e mf) : SE X W bw e (fun env => mf env >>= newO) := PE.imp h fun σ H Q ⟨R, ι, S, env, rep, repE, post⟩ => by
  refine ⟨R, ι, S, env, rep, repE, ?_⟩
  have post : Post (Cx.g X) W (relE (Cx.g X) bw) R H ι S σ (Mbind (mf env) newO S) Q := post
  unfold Mbind at post
  cases q : mf env S with
  | ok ds S' =>
    rw [q] at post
    intro v R1 ι1 H1 rep1 x1 b1
    obtain ⟨p, vs, rfl, n0, h1, h2, h3, h4⟩ := b1
    have hget : (ι1 ++ [p])[S'.length]? = some p := by
      rw [List.getElem?_append_right (by rw [rep1.len]; exact Nat.le_refl _), rep1.len, Nat.sub_self]
      rfl
    refine post _ R1 (ι1 ++ [p]) H1 (cell_new rep1 h1 h2 h3 h4) ?_ (VD.of (.obj hget))
    exact {
      rsub := x1.rsub
      pre := fun i a q => by
        have q := x1.pre i a q
        rw [List.getElem?_append_left (List.getElem?_eq_some_iff.mp q).1]
        exact q
      keep := x1.keep
      fresh := x1.fresh
      own := fun a ⟨j, c, q1, q2⟩ => by
        by_cases hj : j < S'.length
        · rw [List.getElem?_append_left hj] at q2
          rw [List.getElem?_append_left (by rw [rep1.len]; exact hj)] at q1
          exact x1.own a ⟨j, c, q1, q2⟩
        · rw [List.getElem?_append_right (by rw [rep1.len]; omega)] at q1
          have hz : j - ι1.length = 0 := by
            have := (List.getElem?_eq_some_iff.mp q1).1
            simp at this
            omega
          rw [hz] at q1
          cases q1
          exact .inr n0
      there := x1.there }
  | exc z S' =>
    rw [q] at post
    exact post
  | stuck =>
    rw [q] at post
    exact post

/-! ### o[i] = e, o a list of the store -/
def setC (me mo mi : Env → M D) : MS := bindS me fun d env => bindS mo (fun o env => bindS mi (fun i env S => match o, i with
  | .obj id, .int k => (match S[id]? with
    | some (some (.list xs)) => (match ixN xs.length k with
      | some j => .nx env (S.set id (some (.list (xs.set j d))))
      | none => .stuck)
    | _ => .stuck)
  | _, _ => .stuck) env) env
theorem ss_setC (hp : PS X st (tAsg (tG (Cx.g X) W (relE (Cx.g X) false) me) (gSub (tG (Cx.g X) W (relE (Cx.g X) false) mo) (tG (Cx.g X) W (relE (Cx.g X) true) mi) rSetL))) : SS X W st (setC me mo mi) :=
  PS.imp hp fun E σ H ⟨R, ι, S, env, rep, repE, post⟩ => by
    refine tG_stm rep repE post fun R1 H1 ι1 S1 v d rep1 repE1 x1 b1 post1 => ?_
    refine tG_stm rep1 repE1 post1 fun R2 H2 ι2 S2 o od rep2 repE2 x2 b2 post2 => ?_
    refine tG_stm rep2 repE2 post2 fun R3 H3 ι3 S3 i id rep3 repE3 x3 b3 post3 => ?_
    have b2 : Dv (Cx.g X) R2 ι2 o od := b2
    have b1 : Dv (Cx.g X) R1 ι1 v d := b1
    cases od with
    | obj oid =>
      cases id with
      | int k =>
        cases hs : S3[oid]? with
        | none =>
          simp only [hs] at post3
          exact post3.elim
        | some oc =>
          cases oc with
          | none =>
            simp only [hs] at post3
            exact post3.elim
          | some c =>
            cases c with
            | inst cc fs =>
              simp only [hs] at post3
              exact post3.elim
            | tbl s =>
              simp only [hs] at post3
              exact post3.elim
            | list xs =>
              simp only [hs] at post3
              cases hj : ixN xs.length k with
              | none =>
                simp only [hj] at post3
                exact post3.elim
              | some j =>
                simp only [hj] at post3
                cases b2 with
                | obj hi =>
                  rename_i a
                  have hi := x3.pre _ _ hi
                  obtain ⟨⟨vs, h1, t⟩, _⟩ := rep3.cell oid a _ hi hs
                  have hv := (b1.ext x2).ext x3
                  obtain ⟨r1, r2⟩ := cell_upd rep3 hi hs (t.set j hv)
                  rw [Bw.int b3]
                  exact ⟨a, vs, k, j, rfl, rfl, h1, by rw [t.len]; exact hj, post3 σ R3 ι3 _ r1 (repE3.ext r2) (Ext.stm r2)⟩
      | _ => exact post3.elim
    | _ => exact post3.elim

/-! ### lists of slots: append, extend, items set -/
def appO (i : Nat) (me : Env → M D) : MS := fun env S => match env[i]? with
  | some (.own _) => bindS me (fun d env S => match env[i]? with
    | some (.own xs) => if xs.length < sizeLine then .nx (env.set i (.own (xs ++ [d]))) S else .stuck
    | _ => .stuck) env S
  | _ => .stuck
theorem ss_appO {i : Nat} (hp : PS X st (tDrop (tBM X.K "list" rAppend (tVar i) (tCons (tG (Cx.g X) W (relE (Cx.g X) false) me) tNil)))) : SS X W st (appO i me) := PS.imp hp fun E σ H ⟨R, ι, S, env, rep, repE, post⟩ => by
  unfold appO at post
  cases q : env[i]? with
  | none =>
    simp only [q] at post
    exact post.elim
  | some sl =>
    cases sl with
    | un =>
      simp only [q] at post
      exact post.elim
    | val d =>
      simp only [q] at post
      exact post.elim
    | own xs =>
      simp only [q] at post
      obtain ⟨u, hu, a, vs, rfl, h1, h2, h3, h4⟩ := repE.at q
      refine ⟨.ref a, hu, .inl ⟨rfl, vs, SqL.of h1⟩, ?_⟩
      refine tG_stm rep repE post fun R1 H1 ι1 S1 v d rep1 repE1 x1 b1 post1 => ?_
      simp only [q] at post1
      obtain ⟨hz, post1⟩ := PostS.ite post1
      obtain ⟨u', hu', a', vs', z, k1, k2, k3, k4⟩ := repE1.at q
      rw [hu] at hu'
      cases hu'
      cases z
      have e1 : vs' = vs := by
        have := x1.keep a _ h1 h4
        rw [k1] at this
        cases this
        rfl
      subst e1
      have b1 : Dv (Cx.g X) R1 ι1 v d := b1
      obtain ⟨r1, r2, r3⟩ := own_upd rep1 repE1 q hu k3 k4 (k2.snoc b1)
      exact ⟨a, vs', v, rfl, rfl, k1, by rw [k2.len]; exact hz, post1 σ R1 ι1 _ r1 r2 r3⟩
def extO (i : Nat) (me : Env → M D) : MS := fun env S => match env[i]? with
  | some (.own _) => bindS me (fun d env S => match env[i]?, asList d S with
    | some (.own xs), some ys => if xs.length + ys.length ≤ sizeLine then .nx (env.set i (.own (xs ++ ys))) S else .stuck
    | _, _ => .stuck) env S
  | _ => .stuck
theorem ss_extO {i : Nat} (hp : PS X st (tDrop (tBM X.K "list" rExtend (tVar i) (tCons (tG (Cx.g X) W (relE (Cx.g X) true) me) tNil)))) : SS X W st (extO i me) := PS.imp hp fun E σ H ⟨R, ι, S, env, rep, repE, post⟩ => by
  unfold extO at post
  cases q : env[i]? with
  | none =>
    simp only [q] at post
    exact post.elim
  | some sl =>
    cases sl with
    | un =>
      simp only [q] at post
      exact post.elim
    | val d =>
      simp only [q] at post
      exact post.elim
    | own xs =>
      simp only [q] at post
      obtain ⟨u, hu, a, vs, rfl, h1, h2, h3, h4⟩ := repE.at q
      refine ⟨.ref a, hu, .inl ⟨rfl, vs, SqL.of h1⟩, ?_⟩
      refine tG_stm rep repE post fun R1 H1 ι1 S1 v d rep1 repE1 x1 b1 post1 => ?_
      simp only [q] at post1
      cases qd : asList d S1 with
      | none =>
        simp only [qd] at post1
        exact post1.elim
      | some ys =>
        simp only [qd] at post1
        obtain ⟨hz, post1⟩ := PostS.ite post1
        obtain ⟨u', hu', a', vs', z, k1, k2, k3, k4⟩ := repE1.at q
        rw [hu] at hu'
        cases hu'
        cases z
        have e1 : vs' = vs := by
          have := x1.keep a _ h1 h4
          rw [k1] at this
          cases this
          rfl
        subst e1
        have b1 : Bw (Cx.g X) R1 H1 ι1 S1 v d := b1
        obtain ⟨b, ws, rfl, hb, tb⟩ := b1.lst rep1 qd
        obtain ⟨r1, r2, r3⟩ := own_upd rep1 repE1 q hu k3 k4 (k2.app tb)
        exact ⟨a, b, vs', ws, rfl, rfl, k1, hb, by rw [k2.len, tb.len]; exact hz, post1 σ R1 ι1 _ r1 r2 r3⟩
/-- x[j] = e, x a slot -/
def setI (i : Nat) (me mi : Env → M D) : MS := bindS me fun d env => bindS mi (fun k env S => match env[i]?, k with
  | some (.own xs), .int k => (match ixN xs.length k with
    | some j => .nx (env.set i (.own (xs.set j d))) S
    | none => .stuck)
  | _, _ => .stuck) env
theorem ss_setI {i : Nat} (hp : PS X st (tAsg (tG (Cx.g X) W (relE (Cx.g X) false) me) (gSub (tVar i) (tG (Cx.g X) W (relE (Cx.g X) true) mi) rSetL))) :
    SS X W st (fun env S => match env[i]? with
      | some (.own _) => setI i me mi env S
      | _ => .stuck) := PS.imp hp fun E σ H ⟨R, ι, S, env, rep, repE, post⟩ => by
  cases q : env[i]? with
  | none =>
    simp only [q] at post
    exact post.elim
  | some sl =>
    cases sl with
    | un =>
      simp only [q] at post
      exact post.elim
    | val d =>
      simp only [q] at post
      exact post.elim
    | own xs =>
      simp only [q] at post
      refine tG_stm rep repE post fun R1 H1 ι1 S1 v d rep1 repE1 x1 b1 post1 => ?_
      obtain ⟨u, hu, a, vs, rfl, h1, h2, h3, h4⟩ := repE1.at q
      refine ⟨.ref a, hu, ?_⟩
      refine tG_stm rep1 repE1 post1 fun R2 H2 ι2 S2 w kd rep2 repE2 x2 b2 post2 => ?_
      simp only [q] at post2
      obtain ⟨u', hu', a', vs', z, k1, k2, k3, k4⟩ := repE2.at q
      rw [hu] at hu'
      cases hu'
      cases z
      have b1 : Dv (Cx.g X) R1 ι1 v d := b1
      cases kd with
      | int k =>
        cases hj : ixN xs.length k with
        | none =>
          simp only [hj] at post2
          exact post2.elim
        | some j =>
          simp only [hj] at post2
          obtain ⟨r1, r2, r3⟩ := own_upd rep2 repE2 q hu k3 k4 (k2.set j (b1.ext x2))
          rw [Bw.int b2]
          exact ⟨a, vs', k, j, rfl, rfl, k1, by rw [k2.len]; exact hj, post2 σ R2 ι2 _ r1 r2 r3⟩
      | _ => exact post2.elim

/-! ### defs -/
/-- a def's promise: what F tells -/
def spS (g : Gd) (n : Nat) (F : List D → M D) : Sp := fun vs H Q E => vs.length = n ∧ ∃ R ι S ds, Rep g R H ι S ∧ DvAll g R ι vs ds ∧ Post g (fun cls dd _ H' => E cls dd H') (relE g false) R H ι S [] (F ds S) Q
def startE (n : Nat) (ds : List D) : Env := ds.map Sl.val ++ List.replicate (n - ds.length) .un
/-- a body as a function -/
def runF (n p : Nat) (m : MS) (ds : List D) : M D := fun S => if ds.length = p then (match m (startE n ds) S with
  | .nx _ S' => .ok .none S'
  | .rt d S' => .ok d S'
  | .exc e _ S' => .exc e S'
  | _ => .stuck) else .stuck
theorem start_ok {g : Gd} {R H : Hp} {ι : List Addr} {S : Sto} {N : List Str} {vs : List V} {ds : List D} (h : DvAll g R ι vs ds) (hn : ds.length ≤ N.length) : RepE g R H ι S (L2.start N vs) (startE N.length ds) ∧ ∀ a, ¬ Ow (L2.start N vs) (startE N.length ds) a := by
  have hno : ∀ {i : Nat} {xs : List D}, (startE N.length ds)[i]? ≠ some (.own xs) := fun {i xs} e => by
    unfold startE at e
    by_cases hi : i < (ds.map Sl.val).length
    · rw [List.getElem?_append_left hi, List.getElem?_map] at e
      cases q : ds[i]? with
      | none =>
        rw [q] at e
        cases e
      | some d =>
        rw [q] at e
        cases e
    · rw [List.getElem?_append_right (by omega), List.getElem?_replicate] at e
      split at e <;> cases e
  refine ⟨⟨?_, fun i sl u e1 e2 => ?_, fun i j xs ys a e1 _ _ _ => absurd e1 hno⟩, fun a ⟨i, xs, e1, _⟩ => hno e1⟩
  · unfold startE L2.start
    rw [List.length_append, List.length_append, List.length_map, List.length_map, List.length_replicate, List.length_replicate, h.len]
  · unfold startE at e1
    unfold L2.start at e2
    by_cases hi : i < ds.length
    · rw [List.getElem?_append_left (by rw [List.length_map]; exact hi), List.getElem?_map] at e1
      rw [List.getElem?_append_left (by rw [List.length_map, h.len]; exact hi), List.getElem?_map] at e2
      cases q : ds[i]? with
      | none =>
        rw [q] at e1
        cases e1
      | some d =>
        rw [q] at e1
        cases e1
        obtain ⟨v, hv, dv⟩ := h.get q
        rw [hv] at e2
        cases e2
        exact ⟨v, rfl, dv⟩
    · rw [List.getElem?_append_right (by rw [List.length_map]; omega), List.getElem?_replicate] at e1
      split at e1
      · cases e1
        trivial
      · cases e1
end
/-! ### defs as the library's FnOk has them, with one fact more: no repr is under way -/
structure RoomG (k : Nat) (A : Around) : Prop where
  room : Room k A
  gd : A.guards = some []
theorem RoomG.mono {j k : Nat} {A : Around} (r : RoomG k A) (h : j ≤ k) : RoomG j A := ⟨r.room.mono h, r.gd⟩
theorem RoomG.deeper {k : Nat} {A : Around} (r : RoomG (k + 1) A) (env : PySem.Env) : RoomG k (A.deeper env) := ⟨r.room.deeper env, r.gd⟩
structure FnG (P : Program) (w : World) (K : PySem.W.Frag) (mg : Str → Option Value) (base : Heap) (k : Nat) (f : Addr) (fd : FuncData) (ps : List Str) (sp : Sp) : Prop where
  len : ∀ vs H Q E, sp vs H Q E → vs.length = ps.length
  run : ∀ (A : Around) (outer : List PySem.Env) (s : Shared) (H : Hp) (args : Args) (us : List Value) (vs : List V) (Q : VK) (E : XK), RoomG k A → Env0 P w K mg base A outer s H → BindsTo s fd args (ps.zip us) → Vals vs us → sp vs H Q E →
    codeAny (model P w) A (.call (.ref f) args) (CR (L2.CX P w) outer P w H s Q E) s
section
variable {P : Program} {w : World} {K : PySem.W.Frag} {mg : Str → Option Value} {base : Heap}
theorem FnG.mono {j k : Nat} {f : Addr} {fd : FuncData} {ps : List Str} {sp : Sp} (F : FnG P w K mg base j f fd ps sp) (h : j ≤ k) : FnG P w K mg base k f fd ps sp := ⟨F.len, fun A outer s H args us vs Q E hr => F.run A outer s H args us vs Q E (hr.mono h)⟩
theorem FnG.imp {k : Nat} {f : Addr} {fd : FuncData} {ps : List Str} {sp sp' : Sp} (F : FnG P w K mg base k f fd ps sp) (h : ∀ vs H Q E, sp' vs H Q E → sp vs H Q E) : FnG P w K mg base k f fd ps sp' :=
  ⟨fun vs H Q E q => F.len vs H Q E (h _ _ _ _ q), fun A outer s H args us vs Q E hr he hb hv hs => F.run A outer s H args us vs Q E hr he hb hv (h _ _ _ _ hs)⟩
/-- a body's context -/
abbrev bodyCx (P : Program) (w : World) (K : PySem.W.Frag) (mg : Str → Option Value) (base : Heap) (N : List Str) (qual : Str) (st : Stmt) (f : Addr) (cdv : Value) (A : Around) (outer : List PySem.Env) (s : Shared) (H : Hp) (E : XK) : Cx :=
  cxOf (L2.CX P w) P w K mg base N qual (defScope st) f cdv A outer s H E
abbrev wE (E : XK) : WX := fun cls dd _ H' => E cls dd H'
theorem fnG_of {x qual : Str} {st : Stmt} {f : Addr} {fd : FuncData} {N ps : List Str} {k : Nat} {sp : Sp} (F : Fun K x qual st f fd) (Sc : FnScope N ps (defScope st)) (len : ∀ vs H Q E, sp vs H Q E → vs.length = ps.length)
    (hbody : ∀ (cdv : Value), fd.code = cdv → ∀ (A : Around) (outer : List PySem.Env) (s : Shared) (H : Hp) (vs : List V) (Q : VK) (E : XK), RoomG k (A.deeper (envOfC qual (defScope st) s.heap.objs.size f cdv)) → sp vs H Q E →
      ∃ t, PSs (bodyCx P w K mg base N qual st f cdv A outer s H E) (defBody st) t ∧ t { nx := fun _ H' => Q .non H', rt := Q } (L2.start N vs) H) : FnG P w K mg base (k + 1) f fd ps sp := by
  obtain ⟨oc, od, kV, doc, pm, an, cdv, ct, osl, rfl, lk, hcd⟩ := F.ex
  refine ⟨len, fun A outer s H args us vs Q E hr e0 bind rel hsp => ?_⟩
  have KIN : K.In s.heap := e0.mod.kin.keeps fun b o e => (e0.bs b o e).1
  have NOL : s.heap.NoLimit := e0.mod.nolimit.keeps fun b o e => (e0.bs b o e).1
  refine codeAny_call_function hr.room.depth (KIN _ _ lk) rfl Sc.co Sc.gen rfl (PySem.W.codeRec_of KIN hcd) (bind _ _ _ _ ?_)
  refine wpAny_newFunctionEnv_cells Sc.kind (fun y hy => ?_) fun env he s1 called => ?_
  · rcases Sc.par y.1 (List.of_mem_zip hy).1 with q | q
    · exact Or.inl q
    · exact Or.inr ⟨q, PySem.W.cellsFrom_some _ _ _ (Or.inl q)⟩
  · cases he
    refine ⟨NOL.keeps called.toInCall.keep, codeAny_func ?_⟩
    obtain ⟨t, term, reading⟩ := hbody cdv rfl A outer s H vs Q E (hr.deeper _) hsp
    have inv := inv_start (CX := L2.CX P w) (K := K) (mg := mg) (base := base) (P := P) (w := w) (E := E) Sc hr.room.hd e0 (len _ _ _ _ hsp) rel called
    refine wpAny_mono (term.run [] s1 _ H _ inv reading) (fun flow s' done => ?_) fun _ _ z => z
    cases flow with
    | ret u =>
      obtain ⟨v, σ', H', J, rv, q⟩ := done
      exact ⟨v, H', J.os, J.bare, J.base, J.hok, rv, q⟩
    | next =>
      obtain ⟨σ', H', J, q⟩ := done
      exact ⟨.non, H', J.os, J.bare, J.base, J.hok, rfl, q⟩
    | brk =>
      obtain ⟨_, _, _, q⟩ := done
      exact q.elim
    | cont =>
      obtain ⟨_, _, _, q⟩ := done
      exact q.elim
/-- THE RULE: a def computes what its body does -/
theorem fn_sim {x qual : Str} {st : Stmt} {f : Addr} {fd : FuncData} {N ps : List Str} {k : Nat} {m : MS} (F : Fun K x qual st f fd) (Sc : FnScope N ps (defScope st)) (hn : ps.length ≤ N.length)
    (hb : ∀ (cdv : Value), fd.code = cdv → ∀ (A : Around) (outer : List PySem.Env) (s : Shared) (H : Hp) (E : XK), RoomG k (A.deeper (envOfC qual (defScope st) s.heap.objs.size f cdv)) → SSs (bodyCx P w K mg base N qual st f cdv A outer s H E) (wE E) (defBody st) m) :
    FnG P w K mg base (k + 1) f fd ps (spS ⟨K, mg⟩ ps.length (runF N.length ps.length m)) := by
  refine fnG_of F Sc (fun vs H Q E h => h.1) fun cdv hcd A outer s H vs Q E hr h => ⟨_, hb cdv hcd A outer s H E hr, ?_⟩
  obtain ⟨hl, R, ι, S, ds, rep, hd, post⟩ := h
  have hdl : ds.length = ps.length := by rw [← hd.len]; exact hl
  obtain ⟨repE, no⟩ := start_ok (H := H) (S := S) (N := N) hd (by omega)
  refine ⟨R, ι, S, startE N.length ds, rep, repE, ?_⟩
  unfold runF at post
  rw [if_pos hdl] at post
  have lo : ∀ x, Lo ι S (L2.start N vs) (startE N.length ds) x → Lv ι S x := fun x h => by
    rcases h with h | h
    · exact h
    · exact absurd h (no x)
  cases q : m (startE N.length ds) S with
  | nx env' S' =>
    rw [q] at post
    intro σ' R' ι' H' r1 r2 x
    refine post .non R' ι' H' r1 (Ext.more x lo fun y hy => ?_) .non
    rcases x.own y (.inl hy) with z | z
    · exact .inl (lo y z)
    · exact .inr z
  | rt d S' =>
    rw [q] at post
    intro v R' ι' H' r1 dv x
    refine post v R' ι' H' r1 (Ext.more x lo fun y hy => ?_) dv
    rcases x.own y hy with z | z
    · exact .inl (lo y z)
    · exact .inr z
  | exc e env' S' =>
    rw [q] at post
    intro cls dd σ' R' ι' H' r1 r2 ee x
    refine post cls dd R' ι' H' r1 (Ext.more x lo fun y hy => ?_) ee
    rcases x.own y (.inl hy) with z | z
    · exact .inl (lo y z)
    · exact .inr z
  | brk env' S' =>
    rw [q] at post
    exact post.elim
  | ct env' S' =>
    rw [q] at post
    exact post.elim
  | stuck =>
    rw [q] at post
    exact post.elim
/-- no depth at all: nothing is promised -/
theorem fn_zero {f : Addr} {fd : FuncData} {ps : List Str} : FnG P w K mg base 0 f fd ps (spS ⟨K, mg⟩ ps.length fun _ => Mstuck) :=
  ⟨fun vs H Q E h => h.1, fun _ _ _ _ _ _ _ _ _ _ _ _ _ h => by
    obtain ⟨_, _, _, _, _, _, _, post⟩ := h
    exact post.elim⟩
theorem fn_eq {f : Addr} {fd : FuncData} {ps : List Str} {k n : Nat} {F F' : List D → M D} (h : FnG P w K mg base k f fd ps (spS ⟨K, mg⟩ n F)) (e : ∀ ds S, F ds S = F' ds S) : FnG P w K mg base k f fd ps (spS ⟨K, mg⟩ n F') :=
  h.imp fun vs H Q E ⟨hl, R, ι, S, ds, rep, hd, post⟩ => ⟨hl, R, ι, S, ds, rep, hd, by rw [e]; exact post⟩
end
section
variable {X : Cx} {W : WX} {bw : Bool} {e : Expr} {es : List Expr} {mr : Env → M (List D)} {x : Str} {p pos : Pos} {k n : Nat} {f : Addr} {fd : FuncData} {ps : List Str} {F : List D → M D}
/-- a call's end -/
theorem call_end {R H : Hp} {ι : List Addr} {S : Sto} {σ : L2.St} {vs : List V} {ds : List D} {Q : VK} {G : FnG X.prog X.w X.K X.mg X.base k f fd ps (spS (Cx.g X) n F)} (hn : vs.length = n) (rep : Rep (Cx.g X) R H ι S) (hd : DvAll (Cx.g X) R ι vs ds)
    (post : Post (Cx.g X) W (relE (Cx.g X) bw) R H ι S σ (F ds S) Q) : spS (Cx.g X) n F vs H Q (WE W σ) := by
  refine ⟨hn, R, ι, S, ds, rep, hd, ?_⟩
  cases q : F ds S with
  | ok d S' =>
    rw [q] at post
    exact fun v R' ι' H' r z y => post v R' ι' H' r z (VD.of y)
  | exc e S' =>
    rw [q] at post
    exact post
  | stuck =>
    rw [q] at post
    exact post
theorem runF_len {N : Nat} {m : MS} {ds : List D} {S : Sto} (h : runF N n m ds S ≠ .stuck) : ds.length = n := by
  by_cases e : ds.length = n
  · exact e
  · unfold runF at h
    rw [if_neg e] at h
    exact absurd rfl h
/-- an answer only to so many arguments -/
def Ar (n : Nat) (F : List D → M D) : Prop := ∀ ds S, F ds S ≠ .stuck → ds.length = n
theorem ar_run {N : Nat} {m : MS} : Ar n (runF N n m) := fun ds S h => runF_len h
theorem ar_stuck : Ar n (fun _ => Mstuck) := fun _ _ h => absurd rfl h
theorem run_G {pins : List (Addr × Obj)} {σ : L2.St} {H : Hp} {s : Shared} {Q : VK} {us ws : List Value} {ks : List Str} {as : List Value} {vs : List V} {sp : Sp} (G : FnG X.prog X.w X.K X.mg X.base k f fd ps sp) (hr : RoomG k X.A) (tk : Takes X W) (I : Inv X pins σ H s) (bind : BindsTo s fd ⟨us, ks.zip ws⟩ (ps.zip as)) (r : Vals vs as) (h : sp vs H Q (WE W σ)) :
    wpAny (model X.prog X.w) X.A (call (.ref f) us (ks.zip ws)) (EP X pins σ Q) X.xe s := by
  refine wpAny_call (codeAny_mono (G.run X.A X.stack s H ⟨us, ks.zip ws⟩ as vs Q (WE W σ) hr I.env0 bind r h) fun res s' done => ?_)
  cases res with
  | error e => exact passAt tk σ pins H s e s' I done
  | ok flow =>
    cases flow with
    | ret u => exact I.after done
    | next => exact done.elim
    | brk => exact done.elim
    | cont => exact done.elim
theorem vs_len {R H : Hp} {ι : List Addr} {S : Sto} {σ : L2.St} {vs : List V} {ds : List D} {Q : VK} (har : Ar n F) (hd : DvAll (Cx.g X) R ι vs ds) (post : Post (Cx.g X) W (relE (Cx.g X) bw) R H ι S σ (F ds S) Q) : vs.length = n := by
  rw [hd.len]
  refine har ds S fun z => ?_
  rw [z] at post
  exact post.elim
theorem se_call (G : FnG X.prog X.w X.K X.mg X.base k f fd ps (spS (Cx.g X) n F)) (har : Ar n F) (hr : RoomG k X.A) (hg : Gl X x) (hm : X.mg x = some (.ref f)) (hk : PySem.W.keepIn X.K (.ref f) = true) (hb : Binds X.K fd ps []) (tk : Takes X W)
    (ha : SA X W (e :: es) mr) (hdb : (x == ("__debug__" : Str)) = false := by decide) (he : starEach (e :: es) X.env = (false, eval e X.env) :: starEach es X.env := by rfl) (hpl : (backTo pos (starEach es X.env)).any (·.1) = false := by rfl) :
    SE X W bw (.Call (.Name x p) (e :: es) [] pos) (fun env => mr env >>= F) := by
  refine PE.imp (t := fun σ H Q => tG (Cx.g X) W (relA (Cx.g X)) mr σ H fun vs H1 => spS (Cx.g X) n F vs H1 Q (WE W σ)) ⟨fun pins s σ H Q I h => ?_⟩ fun σ H Q ⟨R, ι, S, env, rep, repE, post⟩ => ?_
  · refine wpAny_Call_Name_kw (ld_glob I hg hm ?_ hdb)
    refine PySem.W.callWith_K (h₀ := X.base) I.ok.mod.kin hk (thn (ha.run pos pins s σ H _ I h) fun us s1 ⟨vs, H1, I1, r, q⟩ => ⟨I1.kIn, ?_⟩) he hpl
    have b := hb s1 us I1.kIn (by rw [List.append_nil, ← r.length]; exact G.len _ _ _ _ q)
    rw [List.append_nil] at b
    exact run_G (ks := []) (ws := []) G hr tk I1 b r q
  · refine tG_then later_E rep repE post fun R1 H1 ι1 S1 vs ds rep1 repE1 x1 b1 post1 => ?_
    have b1 : DvAll (Cx.g X) R1 ι1 vs ds := b1
    exact call_end (G := G) (bw := bw) (vs_len har b1 post1) rep1 b1 post1
/-- keywords' values -/
abbrev SK (X : Cx) (W : WX) (kws : List Keyword) (m : Env → M (List D)) : Prop := PK X kws (tG (Cx.g X) W (relA (Cx.g X)) m)
theorem PK.imp {X : Cx} {e : List Keyword} {t t' : TA} (h : PK X e t) (i : ∀ σ H Q, t' σ H Q → t σ H Q) : PK X e t' := ⟨fun p pins s σ H Q I q => h.run p pins s σ H Q I (i _ _ _ q)⟩
theorem sk_nil : SK X W [] (fun _ => pure []) := PK.imp pk_nil fun σ H Q ⟨R, ι, S, env, rep, repE, post⟩ => post [] R ι H rep Ext.refl .nil
theorem sk_cons {nm : Option Str} {kpos : Pos} {kws : List Keyword} {ma : Env → M D} (h : SE X W false e ma) (hr : SK X W kws mr) : SK X W (⟨nm, e, kpos⟩ :: kws) (fun env => ma env >>= fun x => mr env >>= fun xs => pure (x :: xs)) :=
  PK.imp (pk_cons h hr) fun σ H Q ⟨R, ι, S, env, rep, repE, post⟩ => by
    refine tG_then later_A rep repE post fun R1 H1 ι1 S1 v d rep1 repE1 x1 b1 post1 => ?_
    refine tG_then later_A rep1 repE1 post1 fun R2 H2 ι2 S2 vs ds rep2 repE2 x2 b2 post2 => ?_
    have b1 : Dv (Cx.g X) R1 ι1 v d := b1
    exact post2 (v :: vs) R2 ι2 H2 rep2 Ext.refl (.cons (b1.ext x2) b2)
/-- how keywords come into the parameters' order, among data too -/
structure KBindG (K : PySem.W.Frag) (fd : FuncData) (ps ks : List Str) (o : {α : Type} → List α → List α → Option (List α)) : Prop where
  to : ∀ (s : Shared) (us ws as : List Value), K.In s.heap → o us ws = some as → BindsTo s fd ⟨us, ks.zip ws⟩ (ps.zip as)
  rel : ∀ {α β : Type} {r : α → β → Prop} {vs : List α} {us : List β} {zs : List α} {ws : List β} {as : List β}, Paired r vs us → Paired r zs ws → o us ws = some as → ∃ bs, o vs zs = some bs ∧ Paired r bs as
def optM {α : Type} (o : Option α) : M α := match o with
  | some x => pure x
  | none => Mstuck
theorem DvAll.paired {g : Gd} {R : Hp} {ι : List Addr} : ∀ {vs : List V} {ds : List D}, DvAll g R ι vs ds ↔ Paired (fun v d => Dv g R ι v d) vs ds := fun {vs ds} => by
  constructor
  · intro h
    induction vs generalizing ds with
    | nil =>
      cases h
      exact .nil
    | cons v vs ih =>
      cases h with
      | cons a b => exact .cons a (ih b)
  · intro h
    induction h with
    | nil => exact .nil
    | cons a _ ih => exact .cons a ih
theorem Paired.swap {α β : Type} {r : α → β → Prop} : ∀ {xs : List α} {ys : List β}, Paired r xs ys → Paired (fun y x => r x y) ys xs
  | _, _, .nil => .nil
  | _, _, .cons a t => .cons a (Paired.swap t)
theorem se_callKW {kws : List Keyword} {ks : List Str} {mk : Env → M (List D)} {o : {α : Type} → List α → List α → Option (List α)} (G : FnG X.prog X.w X.K X.mg X.base k f fd ps (spS (Cx.g X) n F)) (har : Ar n F) (hr : RoomG k X.A) (hg : Gl X x) (hm : X.mg x = some (.ref f)) (hk : PySem.W.keepIn X.K (.ref f) = true) (hb : KBindG X.K fd ps ks o) (tk : Takes X W)
    (hkw : SK X W kws mk) (hall : (backToKw pos (keywordEach kws X.env)).all (·.1.isSome) = true := by rfl) (hks : (backToKw pos (keywordEach kws X.env)).filterMap (·.1) = ks := by rfl) (hdb : (x == ("__debug__" : Str)) = false := by decide)
    (hpl : ((backTo pos (starEach [] X.env)).any (·.1) || (backToKw pos (keywordEach kws X.env)).any (·.1.isNone)) = false := by rfl) :
    SE X W bw (.Call (.Name x p) [] kws pos) (fun env => mk env >>= fun zs => optM (o [] zs) >>= F) := by
  refine PE.imp (t := fun σ H Q => tG (Cx.g X) W (relA (Cx.g X)) mk σ H fun zs H1 => ∃ vs, o [] zs = some vs ∧ spS (Cx.g X) n F vs H1 Q (WE W σ)) ⟨fun pins s σ H Q I h => ?_⟩ fun σ H Q ⟨R, ι, S, env, rep, repE, post⟩ => ?_
  · refine wpAny_Call_Name_kw (ld_glob I hg hm ?_ hdb)
    refine PySem.W.callWith_KW0 (h₀ := X.base) I.ok.mod.kin hk hall (thn (hkw.run pos pins s σ H _ I h) fun ws s1 ⟨zs, H1, I1, rz, vs, hvs, q⟩ => ⟨I1.kIn, ?_⟩) hpl
    rw [hks]
    obtain ⟨as, has, ra⟩ := hb.rel (r := fun u v => RelV v u) (vs := []) (us := []) .nil (Paired.swap rz) hvs
    exact run_G G hr tk I1 (hb.to s1 [] ws as I1.kIn has) (Paired.swap ra) q
  · refine tG_then later_E rep repE post fun R1 H1 ι1 S1 zs es rep1 repE1 x1 b1 post1 => ?_
    have b1 : DvAll (Cx.g X) R1 ι1 zs es := b1
    have post1 : Post (Cx.g X) W (relE (Cx.g X) bw) R1 H1 ι1 S1 σ ((optM (o [] es) >>= F) S1) Q := post1
    cases qo : o ([] : List D) es with
    | none =>
      rw [qo] at post1
      exact post1.elim
    | some ds =>
      rw [qo] at post1
      have post1 : Post (Cx.g X) W (relE (Cx.g X) bw) R1 H1 ι1 S1 σ (F ds S1) Q := post1
      obtain ⟨vs, hvs, rv⟩ := hb.rel (vs := []) (us := []) .nil (DvAll.paired.mp b1) qo
      have hd := DvAll.paired.mpr rv
      exact ⟨vs, hvs, call_end (G := G) (bw := bw) (vs_len har hd post1) rep1 hd post1⟩
theorem se_callK {kws : List Keyword} {ks : List Str} {mk : Env → M (List D)} {o : {α : Type} → List α → List α → Option (List α)} (G : FnG X.prog X.w X.K X.mg X.base k f fd ps (spS (Cx.g X) n F)) (har : Ar n F) (hr : RoomG k X.A) (hg : Gl X x) (hm : X.mg x = some (.ref f)) (hk : PySem.W.keepIn X.K (.ref f) = true) (hb : KBindG X.K fd ps ks o) (tk : Takes X W)
    (ha : SA X W (e :: es) mr) (hkw : SK X W kws mk) (hall : (backToKw pos (keywordEach kws X.env)).all (·.1.isSome) = true := by rfl) (hks : (backToKw pos (keywordEach kws X.env)).filterMap (·.1) = ks := by rfl) (hdb : (x == ("__debug__" : Str)) = false := by decide) (he : starEach (e :: es) X.env = (false, eval e X.env) :: starEach es X.env := by rfl)
    (hpl : ((backTo pos (starEach (e :: es) X.env)).any (·.1) || (backToKw pos (keywordEach kws X.env)).any (·.1.isNone)) = false := by rfl) :
    SE X W bw (.Call (.Name x p) (e :: es) kws pos) (fun env => mr env >>= fun xs => mk env >>= fun zs => optM (o xs zs) >>= F) := by
  refine PE.imp (t := fun σ H Q => tG (Cx.g X) W (relA (Cx.g X)) mr σ H fun xs H1 => tG (Cx.g X) W (relA (Cx.g X)) mk σ H1 fun zs H2 => ∃ vs, o xs zs = some vs ∧ spS (Cx.g X) n F vs H2 Q (WE W σ)) ⟨fun pins s σ H Q I h => ?_⟩ fun σ H Q ⟨R, ι, S, env, rep, repE, post⟩ => ?_
  · refine wpAny_Call_Name_kw (ld_glob I hg hm ?_ hdb)
    refine PySem.W.callWith_KW (h₀ := X.base) I.ok.mod.kin hk hall (thn (ha.run pos pins s σ H _ I h) fun us s1 ⟨xs, H1, I1, rx, q⟩ => ?_) hpl he
    refine thn (hkw.run pos pins s1 σ H1 _ I1 q) fun ws s2 ⟨zs, H2, I2, rz, vs, hvs, q2⟩ => ⟨I2.kIn, ?_⟩
    rw [hks]
    obtain ⟨as, has, ra⟩ := hb.rel (r := fun u v => RelV v u) (Paired.swap rx) (Paired.swap rz) hvs
    exact run_G G hr tk I2 (hb.to s2 us ws as I2.kIn has) (Paired.swap ra) q2
  · refine tG_then later_E rep repE post fun R1 H1 ι1 S1 xs cs rep1 repE1 x1 b1 post1 => ?_
    refine tG_then later_E rep1 repE1 post1 fun R2 H2 ι2 S2 zs es rep2 repE2 x2 b2 post2 => ?_
    have b1 : DvAll (Cx.g X) R1 ι1 xs cs := b1
    have b2 : DvAll (Cx.g X) R2 ι2 zs es := b2
    have post2 : Post (Cx.g X) W (relE (Cx.g X) bw) R2 H2 ι2 S2 σ ((optM (o cs es) >>= F) S2) Q := post2
    cases qo : o cs es with
    | none =>
      rw [qo] at post2
      exact post2.elim
    | some ds =>
      rw [qo] at post2
      have post2 : Post (Cx.g X) W (relE (Cx.g X) bw) R2 H2 ι2 S2 σ (F ds S2) Q := post2
      obtain ⟨vs, hvs, rv⟩ := hb.rel (DvAll.paired.mp (b1.ext x2)) (DvAll.paired.mp b2) qo
      have hd := DvAll.paired.mpr rv
      exact ⟨vs, hvs, call_end (G := G) (bw := bw) (vs_len har hd post2) rep2 hd post2⟩
end
end Sm

set_option Elab.async false
set_option linter.all false
set_option maxRecDepth 100000
set_option maxHeartbeats 2000000
/-! Sm9: walks of lists, tuples and texts alike; isinstance; repr, str; methods of texts; dicts that are read. -/
namespace Sm
open PySem PySem.Spec PyProof.Rows L2

section
variable {X : Cx} {W : WX} {bw : Bool} {pos : Pos} {tg iter elt e : Expr} {me : Env → M D} {mb : MS}
theorem PI.or {wi wi' : TI} (h : PI X tg iter wi) (h' : PI X tg iter wi') : PI X tg iter (fun σ H R => wi σ H R ∨ wi' σ H R) := ⟨fun pins s σ H R I q => by
  rcases q with q | q
  · exact h.run pins s σ H R I q
  · exact h'.run pins s σ H R I q⟩
/-- the signs of a text -/
def signs (x : Str) : List D := x.cps.toList.map fun c => D.str ⟨#[c]⟩
theorem signs_get {x : Str} {i : Nat} {c : Nat} (h : x.cps[i]? = some c) : (signs x)[i]? = some (.str ⟨#[c]⟩) := by
  unfold signs
  rw [List.getElem?_map]
  have : x.cps.toList[i]? = some c := by simpa using h
  rw [this]
  rfl
theorem signs_len (x : Str) : (signs x).length = x.cps.size := by
  unfold signs
  simp
/-- what a for walks: frozen lists, tuples, texts -/
def asIter (d : D) : Option (List D) := match d with
  | .list xs => some xs
  | .frl xs => some xs
  | .tup xs => some xs
  | .str x => some (signs x)
  | _ => none
def forQ (f : D → Env → Option Env) (mb : MS) (me : Env → M D) : MS := bindS me fun d env S => match asIter d with
  | some xs => forS f mb xs env S
  | none => .stuck
theorem for_str {x : Str} {g : TG} {tb : TS} {D : Ends} {σ : L2.St} {H : Hp} (Pv : Nat → L2.St → Hp → Prop) (h0 : Pv 0 σ H)
    (hs : ∀ i c σ H, x.cps[i]? = some c → Pv i σ H → g (.str ⟨#[c]⟩) σ H fun σ2 H2 => tb { D with nx := Pv (i + 1), ct := Pv (i + 1), bk := D.nx } σ2 H2) (hd : ∀ σ H, Pv x.cps.size σ H → D.nx σ H) :
    ∃ W : Nat → Nat → L2.St → Hp → Prop, (∃ m, W 0 m σ H) ∧ ∀ i m σ H, W i m σ H →
      ((Its x).stop i H ∧ D.nx σ H) ∨ ((Its x).go i H ∧ ∃ N : L2.St → Hp → Prop, (∀ σ' H', N σ' H' → ∃ m', m' < m ∧ W (i + 1) m' σ' H') ∧ ∀ v H', (Its x).yld i H v H' → g v σ H' fun σ2 H2 => tb { D with nx := N, ct := N, bk := D.nx } σ2 H2) := by
  refine ⟨fun i m σ H => m = x.cps.size - i ∧ i ≤ x.cps.size ∧ Pv i σ H, ⟨x.cps.size, by simp, Nat.zero_le _, h0⟩, ?_⟩
  rintro i m σ H ⟨rfl, hi, p⟩
  by_cases hlt : i < x.cps.size
  · refine .inr ⟨hlt, Pv (i + 1), fun σ' H' p' => ⟨x.cps.size - (i + 1), by omega, rfl, hlt, p'⟩, fun v H' y => ?_⟩
    obtain ⟨e1, c, hc, e2⟩ := y
    subst e1
    subst e2
    exact hs i c σ _ hc p
  · have e : i = x.cps.size := by omega
    subst e
    exact .inl ⟨Nat.le_refl _, hd σ H p⟩
theorem lc_str {x : Str} {g : TG} {tt : TT} {te : TE} {vs : List Nat} {σ : L2.St} {H1 : Hp} {D : Addr} {Qd : Hp → Prop} (Pv : Nat → Hp → Prop) (h0 : Pv 0 (upd H1 D (.lst [])))
    (hs : ∀ i c H, x.cps[i]? = some c → Pv i H → g (.str ⟨#[c]⟩) (wipe σ vs) H fun σ2 H2 => wipe σ2 vs = wipe σ vs ∧ tt σ2 H2 fun b H3 =>
      if b = true then te σ2 H3 fun y H4 => ∃ acc, H4 D = some (.lst acc) ∧ acc.length < sizeLine ∧ Pv (i + 1) (upd H4 D (.lst (acc ++ [y]))) else Pv (i + 1) H3) (hd : ∀ H, Pv x.cps.size H → Qd H) :
    ∃ W : Nat → Nat → Hp → Prop, (∃ m, W 0 m (upd H1 D (.lst []))) ∧ ∀ i m H, W i m H →
      ((Its x).stop i H ∧ Qd H) ∨ ((Its x).go i H ∧ ∃ Nx : Hp → Prop, (∀ H', Nx H' → ∃ m', m' < m ∧ W (i + 1) m' H') ∧ ∀ v H', (Its x).yld i H v H' → g v (wipe σ vs) H' fun σ2 H2 => wipe σ2 vs = wipe σ vs ∧ tt σ2 H2 fun b H3 =>
        if b = true then te σ2 H3 fun y H4 => ∃ acc, H4 D = some (.lst acc) ∧ acc.length < sizeLine ∧ Nx (upd H4 D (.lst (acc ++ [y]))) else Nx H3) := by
  refine ⟨fun i m H => m = x.cps.size - i ∧ i ≤ x.cps.size ∧ Pv i H, ⟨x.cps.size, by simp, Nat.zero_le _, h0⟩, ?_⟩
  rintro i m H ⟨rfl, hi, p⟩
  by_cases hlt : i < x.cps.size
  · refine .inr ⟨hlt, Pv (i + 1), fun H' p' => ⟨x.cps.size - (i + 1), by omega, rfl, hlt, p'⟩, fun v H' y => ?_⟩
    obtain ⟨e1, c, hc, e2⟩ := y
    subst e1
    subst e2
    exact hs i c _ hc p
  · have e : i = x.cps.size := by omega
    subst e
    exact .inl ⟨Nat.le_refl _, hd H p⟩
theorem ss_forQ {body : List Stmt} {is : List Nat} {f : D → Env → Option Env} (hp : PassesOwn (model X.prog X.w) X.A X.env X.xe) (hc : X.calm = true) (ht : TgM X tg is f) (he : SE X W false e me) (hb : SSs X W body mb)
    (hs : ∀ x, foldedSetIterable e X.env x = pure x := by intro _; rfl) : SS X W (.For tg e body [] pos) (forQ f mb me) := by
  obtain ⟨t, h1, h2⟩ := ht.ex
  refine PS.imp (ps_for hp hc (PI.or (pi_list he) (PI.or (pi_tup he) (pi_str he))) h1 hb hs) fun E σ H ⟨R, ι, S, env, rep, repE, post⟩ => ?_
  unfold forQ bindS at post
  cases q : me env S with
  | stuck =>
    rw [q] at post
    exact post.elim
  | exc z S' =>
    rw [q] at post
    exact .inl ⟨R, ι, S, env, rep, repE, by rw [q]; exact fun cls dd R' ι' H' r x k => post cls dd σ R' ι' H' r (repE.ext x) k (Ext.stm x)⟩
  | ok d S1 =>
    rw [q] at post
    have lists : ∀ xs, (∀ R1 ι1 v, Dv (Cx.g X) R1 ι1 v d → ∃ a vs, v = .ref a ∧ SqL X.K R1 a vs ∧ DvAll (Cx.g X) R1 ι1 vs xs) → PostS (Cx.g X) W R H ι S σ env (forS f mb xs env S1) E →
        tFor (iList X.K (tG (Cx.g X) W (relE (Cx.g X) false) me)) t (tS (Cx.g X) W mb) E σ H := fun xs hx post => by
      refine ⟨R, ι, S, env, rep, repE, ?_⟩
      rw [q]
      intro v R1 ι1 H1 rep1 x1 b1
      obtain ⟨a, vs, rfl, ha, hd⟩ := hx R1 ι1 v b1
      refine ⟨a, rfl, ⟨vs, sqL_sub rep1.sub ha⟩, for_list (ForI (Cx.g X) W f mb xs E R1 H1 ι1 S1 σ env) ⟨R1, ι1, S1, env, rep1, repE.ext x1, Ext.refl, PostS.shift (Ext.stm x1) post⟩ (fun i σ' H' _ q => ?_) (fun i x σ' H' hx q => ?_) fun σ' H' q => for_end hd.len.symm q⟩
      · obtain ⟨R', ι', S', env', r1, r2, x, _⟩ := q
        exact sqL_sub r1.sub (sqL_sub x.rsub ha)
      · obtain ⟨d', hd', hv'⟩ := hd.get' hx
        exact for_step (tg := tg) h2 hd' hv' q
    cases d with
    | list xs => exact .inl (lists xs (fun R1 ι1 v h => by cases h with | lst h t => exact ⟨_, _, rfl, SqL.of h, t⟩) post)
    | frl xs => exact .inl (lists xs (fun R1 ι1 v h => by cases h with | frl h t => exact ⟨_, _, rfl, h, t⟩) post)
    | tup xs =>
      refine .inr (.inl ⟨R, ι, S, env, rep, repE, ?_⟩)
      rw [q]
      intro v R1 ι1 H1 rep1 x1 b1
      have b1 : Dv (Cx.g X) R1 ι1 v (.tup xs) := b1
      cases b1 with
      | tup ha hd =>
        rename_i a vs
        refine ⟨a, rfl, ⟨vs, sqT_sub rep1.sub ha⟩, for_tup (ForI (Cx.g X) W f mb xs E R1 H1 ι1 S1 σ env) ⟨R1, ι1, S1, env, rep1, repE.ext x1, Ext.refl, PostS.shift (Ext.stm x1) post⟩ (fun i σ' H' _ q => ?_) (fun i x σ' H' hx q => ?_) fun σ' H' q => for_end hd.len.symm q⟩
        · obtain ⟨R', ι', S', env', r1, r2, x, _⟩ := q
          exact sqT_sub r1.sub (sqT_sub x.rsub ha)
        · obtain ⟨d', hd', hv'⟩ := hd.get' hx
          exact for_step (tg := tg) h2 hd' hv' q
    | str x =>
      refine .inr (.inr ⟨R, ι, S, env, rep, repE, ?_⟩)
      rw [q]
      intro v R1 ι1 H1 rep1 x1 b1
      have b1 : Dv (Cx.g X) R1 ι1 v (.str x) := b1
      cases b1
      exact ⟨x, rfl, for_str (ForI (Cx.g X) W f mb (signs x) E R1 H1 ι1 S1 σ env) ⟨R1, ι1, S1, env, rep1, repE.ext x1, Ext.refl, PostS.shift (Ext.stm x1) post⟩ (fun i c σ' H' hx q => for_step (tg := tg) h2 (signs_get hx) .str q) fun σ' H' q => for_end (signs_len x) q⟩
    | _ => exact post.elim
/-- a comprehension over such a thing -/
def lcQ (me : Env → M D) (f : D → Env → Option Env) (tm : Env → M Bool) (em : Env → M D) (vs : List Nat) (env : Env) : M (List D) := me env >>= fun d => match asIter d with
  | some xs => lcM f tm em vs xs env
  | none => Mstuck
variable {f : D → Env → Option Env} {tm : Env → M Bool} {em : Env → M D} {is : List Nat}
theorem lcQ_go {t : TG} {σ : L2.St} {H : Hp} {Q : VK} {own : List (Str × Nat)} (his : ∀ i ∈ is, i ∈ own.map (·.2))
    (ht : ∀ R H ι S σ env v d env' (Q : L2.St → Hp → Prop), Rep (Cx.g X) R H ι S → RepE (Cx.g X) R H ι S σ env → Dv (Cx.g X) R ι v d → f d env = some env' → (∀ σ', RepE (Cx.g X) R H ι S σ' env' → ExtS R H ι S σ env R H ι S σ' env' → (∀ vs, (∀ i ∈ is, i ∈ vs) → L2.wipe σ' vs = L2.wipe σ vs) → Q σ' H) → t v σ H Q)
    (h : tG (Cx.g X) W (relF (Cx.g X)) (lcQ me f tm em (own.map (·.2))) σ H Q) :
    tLc (fun σ H R => iList X.K (tG (Cx.g X) W (relE (Cx.g X) false) me) σ H R ∨ (iTup X.K (tG (Cx.g X) W (relE (Cx.g X) false) me) σ H R ∨ iStr (tG (Cx.g X) W (relE (Cx.g X) false) me) σ H R)) t (tG (Cx.g X) W0 relT tm) (tG (Cx.g X) W0 (relE (Cx.g X) false) em) (own.map (·.2)) σ H Q := by
  obtain ⟨R, ι, S, env, rep, repE, post⟩ := h
  have post : Post (Cx.g X) W (relF (Cx.g X)) R H ι S σ (Mbind (me env) _ S) Q := post
  unfold Mbind at post
  cases q : me env S with
  | stuck =>
    rw [q] at post
    exact post.elim
  | exc z S' =>
    rw [q] at post
    exact .inl ⟨R, ι, S, env, rep, repE, by rw [q]; exact post⟩
  | ok d S1 =>
    rw [q] at post
    cases d with
    | list xs =>
      have hl : tG (Cx.g X) W (relF (Cx.g X)) (lcL me f tm em (own.map (·.2))) σ H Q := ⟨R, ι, S, env, rep, repE, by
        show Post _ _ _ _ _ _ _ _ (Mbind (me env) _ S) Q
        unfold Mbind
        rw [q]
        exact post⟩
      exact .inl (lcL_go his ht hl)
    | frl xs =>
      have hl : tG (Cx.g X) W (relF (Cx.g X)) (lcL me f tm em (own.map (·.2))) σ H Q := ⟨R, ι, S, env, rep, repE, by
        show Post _ _ _ _ _ _ _ _ (Mbind (me env) _ S) Q
        unfold Mbind
        rw [q]
        exact post⟩
      exact .inl (lcL_go his ht hl)
    | tup xs =>
      have hl : tG (Cx.g X) W (relF (Cx.g X)) (lcT me f tm em (own.map (·.2))) σ H Q := ⟨R, ι, S, env, rep, repE, by
        show Post _ _ _ _ _ _ _ _ (Mbind (me env) _ S) Q
        unfold Mbind
        rw [q]
        exact post⟩
      exact .inr (.inl (lcT_go his ht hl))
    | str x =>
      refine .inr (.inr ⟨R, ι, S, env, rep, repE, ?_⟩)
      rw [q]
      intro v R1 ι1 H1 rep1 x1 b1
      have b1 : Dv (Cx.g X) R1 ι1 v (.str x) := b1
      cases b1
      refine ⟨x, rfl, fun Dl hD => ?_⟩
      obtain ⟨hOw, st⟩ := lc_start rep1 (repE.ext x1) x1 hD post
      have hD0 : H Dl = none := x1.there Dl hD
      exact lc_str (LcI X W f tm em (own.map (·.2)) (signs x) Q R1 ι1 R H ι S σ env Dl) st (fun i c H' hc q => lc_turn ht his hD0 hOw (signs_get hc) .str q) fun H' q => lc_end (signs_len x) hD0 q
    | _ => exact post.elim
variable {ifs : List Expr} {scope : Scope} {own : List (Str × Nat)}
theorem sf_lcQ {pos : Pos} (hc : X.calm = true) (hN : X.N.Nodup) (hi : SE X W false iter me) (B : BlkM X scope own tg ifs elt is f tm em) (hs : ∀ x, foldedSetIterable iter X.env x = pure x := by intro _; rfl) :
    SF X W (.ListComp elt [⟨tg, iter, ifs, 0⟩] scope pos) (lcQ me f tm em (own.map (·.2))) := by
  obtain ⟨t, h1, h2⟩ := B.tg
  exact PE.imp (pe_lc hc hN (PI.or (pi_list hi) (PI.or (pi_tup hi) (pi_str hi))) B.ok h1 B.ifs B.elt hs) fun σ H Q h => lcQ_go B.sub h2 h
/-- y = [..]: y's list is its own (sO), or frozen (sF) -/
theorem ss_lcQ_O {i : Nat} {y : Str} {py pos spos : Pos} (hc : X.calm = true) (hN : X.N.Nodup) (hy : X.N[i]? = some y) (hyl : X.env.scope.names.lookup y = some .local) (hsw : swapsWith (.ListComp elt [⟨tg, iter, ifs, 0⟩] scope pos) (some (.Name y py)) spos.line X.env = pure true)
    (hi : SE X W false iter me) (B : BlkM X scope own tg ifs elt is f tm em) (hs : ∀ x, foldedSetIterable iter X.env x = pure x := by intro _; rfl) : SS X W (.Assign [.Name y py] (.ListComp elt [⟨tg, iter, ifs, 0⟩] scope pos) spos) (setO i (lcQ me f tm em (own.map (·.2)))) := by
  obtain ⟨t, h1, h2⟩ := B.tg
  exact ss_asgO' (ps_setLc hc hN hy hyl hsw (PI.or (pi_list hi) (PI.or (pi_tup hi) (pi_str hi))) B.ok h1 B.ifs B.elt hs) fun σ H Q h => lcQ_go B.sub h2 h
theorem ss_lcQ_F {i : Nat} {y : Str} {py pos spos : Pos} (hc : X.calm = true) (hN : X.N.Nodup) (hy : X.N[i]? = some y) (hyl : X.env.scope.names.lookup y = some .local) (hsw : swapsWith (.ListComp elt [⟨tg, iter, ifs, 0⟩] scope pos) (some (.Name y py)) spos.line X.env = pure true)
    (hi : SE X W false iter me) (B : BlkM X scope own tg ifs elt is f tm em) (hs : ∀ x, foldedSetIterable iter X.env x = pure x := by intro _; rfl) : SS X W (.Assign [.Name y py] (.ListComp elt [⟨tg, iter, ifs, 0⟩] scope pos) spos) (setS i fun env => lcQ me f tm em (own.map (·.2)) env >>= frzM) := by
  obtain ⟨t, h1, h2⟩ := B.tg
  exact ss_asgF' (ps_setLc hc hN hy hyl hsw (PI.or (pi_list hi) (PI.or (pi_tup hi) (pi_str hi))) B.ok h1 B.ifs B.elt hs) fun σ H Q h => lcQ_go B.sub h2 h
theorem ss_lcR_O {i : Nat} {y : Str} {py pos spos p pos' : Pos} {a1 : Expr} {ma : Env → M (List D)} (hc : X.calm = true) (hN : X.N.Nodup) (hy : X.N[i]? = some y) (hyl : X.env.scope.names.lookup y = some .local) (hsw : swapsWith (.ListComp elt [⟨tg, .Call (.Name "range" p) [a1] [] pos', ifs, 0⟩] scope pos) (some (.Name y py)) spos.line X.env = pure true)
    (hg : Gl X "range") (hm : X.mg "range" = none) (ha : SB X W [a1] ma) (B : BlkM X scope own tg ifs elt is f tm em) (hst : starEach [a1] X.env = [(false, eval a1 X.env)] := by rfl) (hs : ∀ x, foldedSetIterable (.Call (.Name "range" p) [a1] [] pos') X.env x = pure x := by intro _; rfl) :
    SS X W (.Assign [.Name y py] (.ListComp elt [⟨tg, .Call (.Name "range" p) [a1] [] pos', ifs, 0⟩] scope pos) spos) (setO i (lcR ma f tm em (own.map (·.2)))) := by
  obtain ⟨t, h1, h2⟩ := B.tg
  exact ss_asgO' (ps_setLc hc hN hy hyl hsw (pi_range1 hg hm ha hst) B.ok h1 B.ifs B.elt hs) fun σ H Q h => lcR_go B.sub h2 h
theorem ss_lcR_F {i : Nat} {y : Str} {py pos spos p pos' : Pos} {a1 : Expr} {ma : Env → M (List D)} (hc : X.calm = true) (hN : X.N.Nodup) (hy : X.N[i]? = some y) (hyl : X.env.scope.names.lookup y = some .local) (hsw : swapsWith (.ListComp elt [⟨tg, .Call (.Name "range" p) [a1] [] pos', ifs, 0⟩] scope pos) (some (.Name y py)) spos.line X.env = pure true)
    (hg : Gl X "range") (hm : X.mg "range" = none) (ha : SB X W [a1] ma) (B : BlkM X scope own tg ifs elt is f tm em) (hst : starEach [a1] X.env = [(false, eval a1 X.env)] := by rfl) (hs : ∀ x, foldedSetIterable (.Call (.Name "range" p) [a1] [] pos') X.env x = pure x := by intro _; rfl) :
    SS X W (.Assign [.Name y py] (.ListComp elt [⟨tg, .Call (.Name "range" p) [a1] [] pos', ifs, 0⟩] scope pos) spos) (setS i fun env => lcR ma f tm em (own.map (·.2)) env >>= frzM) := by
  obtain ⟨t, h1, h2⟩ := B.tg
  exact ss_asgF' (ps_setLc hc hN hy hyl hsw (pi_range1 hg hm ha hst) B.ok h1 B.ifs B.elt hs) fun σ H Q h => lcR_go B.sub h2 h

/-! ### isinstance -/
inductive Ty where
  | non | bool | int | str | list | tup | dict
  deriving DecidableEq
def Ty.name : Ty → String
  | .non => "NoneType" | .bool => "bool" | .int => "int" | .str => "str" | .list => "list" | .tup => "tuple" | .dict => "dict"
def Ty.sub : Ty → Ty → Bool
  | .bool, .int => true
  | a, b => a == b
theorem Ty.kit : ∀ a b : Ty, b ≠ .non → kitB a.name b.name = some (a.sub b) := by
  intro a b h
  cases b with
  | non => exact absurd rfl h
  | _ => cases a <;> decide +kernel
def tyD (d : D) (S : Sto) : Option Ty := match d with
  | .none => some .non
  | .bool _ => some .bool
  | .int _ => some .int
  | .str _ => some .str
  | .list _ => some .list
  | .frl _ => some .list
  | .tup _ => some .tup
  | .dict _ => some .dict
  | .obj id => match S[id]? with
    | some (some (.list _)) => some .list
    | _ => none
  | _ => none
theorem sqL_ty {K : PySem.W.Frag} {H : Hp} {a : Addr} {xs : List V} (h : SqL K H a xs) : TyX K H (.ref a) (.type "list") := by
  rcases h with h | ⟨o, its, n, e, c, _⟩
  · rcases h with h | ⟨o, h⟩
    · exact .base (.lst h)
    · exact .base (.frz h)
  · exact .kList e c
theorem sqT_ty {K : PySem.W.Frag} {H : Hp} {a : Addr} {xs : List V} (h : SqT K H a xs) : TyX K H (.ref a) (.type "tuple") := by
  rcases h with h | ⟨o, its, n, e, c, _⟩
  · rcases h with h | ⟨o, h⟩
    · exact .base (.tup h)
    · exact .fTuple h
  · exact .kTuple e c
theorem Bw.ty {g : Gd} {R H : Hp} {ι : List Addr} {S : Sto} {v : V} {d : D} {t : Ty} (rep : Rep g R H ι S) (h : Bw g R H ι S v d) (e : tyD d S = some t) : TyX g.K H v (.type t.name) := by
  cases d with
  | none =>
    cases e
    rw [h.non]
    exact .base .non
  | bool b =>
    cases e
    rw [h.bl]
    exact .base (.bl b)
  | int i =>
    cases e
    rw [h.int]
    exact .base (.int i)
  | str x =>
    cases e
    rw [h.str]
    exact .base (.str x)
  | list xs =>
    cases e
    obtain ⟨a, vs, rfl, h, _⟩ := h.lst rep rfl
    exact .base (.lst h)
  | frl xs =>
    cases e
    obtain ⟨a, vs, rfl, h, _⟩ := h.read rep rfl
    exact sqL_ty h
  | tup xs =>
    cases e
    obtain ⟨a, vs, rfl, h, _⟩ := h.tup rep rfl
    exact sqT_ty h
  | dict kvs =>
    cases e
    have h2 : Dv g R ι v (.dict kvs) := h.dv fun _ z => by cases z
    cases h2 with
    | dict q t => exact .base (.dK (rep.sub _ _ q))
  | obj id =>
    cases hs : S[id]? with
    | none =>
      rw [tyD, hs] at e
      cases e
    | some c =>
      cases c with
      | none =>
        rw [tyD, hs] at e
        cases e
      | some c =>
        cases c with
        | inst c fs =>
          rw [tyD, hs] at e
          cases e
        | tbl s =>
          rw [tyD, hs] at e
          cases e
        | list xs =>
          rw [tyD, hs] at e
          cases e
          obtain ⟨a, vs, rfl, h, _⟩ := h.lst (xs := xs) rep (by unfold asList; simp only [hs])
          exact .base (.lst h)
  | _ => cases e
def isiM (ts : List Ty) (d : D) : M D := fun S => optO (tyD d S) fun t => .ok (.bool (ts.any fun c => t.sub c)) S
theorem se_isi {T : Ty} {x : Str} {p p2 : Pos} (ht : T ≠ .non) (hg : Gl X "isinstance") (hm : X.mg "isinstance" = none) (hv : bootBuiltins "isinstance" = some (.builtin "isinstance")) (hT : PE X (.Name x p2) (tC (.ty T.name))) (he : SE X W true e me)
    (h1 : starEach [e, .Name x p2] X.env = (false, eval e X.env) :: starEach [.Name x p2] X.env := by rfl) (h2 : starEach [.Name x p2] X.env = (false, eval (.Name x p2) X.env) :: starEach [] X.env := by rfl) (hpl : (backTo pos (starEach [.Name x p2] X.env)).any (·.1) = false := by rfl) :
    SE X W bw (.Call (.Name "isinstance" p) [e, .Name x p2] [] pos) (fun env => me env >>= isiM [T]) :=
  PE.imp (pe_callB call_isi hg hm hv (pa_cons he (pa_cons hT pa_nil h2) h1) (by decide) (by decide) h1 hpl) fun σ H Q ⟨R, ι, S, env, rep, repE, post⟩ => by
    refine tG_then later_E rep repE post fun R1 H1 ι1 S1 v d rep1 repE1 x1 b1 post1 => ?_
    obtain ⟨t, et, post1⟩ := Post.opt post1
    have b1 : Bw (Cx.g X) R1 H1 ι1 S1 v d := b1
    refine ⟨v, .ty T.name, .type t.name, .type T.name, t.sub T, rfl, .ty _, b1.ty rep1 et, kit_ty (Ty.kit t T ht), ?_⟩
    have : ([T].any fun c => t.sub c) = t.sub T := by simp
    rw [this] at post1
    exact Post.val rep1 .bl post1
theorem kitAny_tys {K : PySem.W.Frag} (t : Ty) : ∀ ts : List Ty, (∀ c ∈ ts, c ≠ .non) → PySem.W.kitAny K (.type t.name) (ts.map fun c => .type c.name) = some (ts.any fun c => t.sub c)
  | [], _ => rfl
  | c :: ts, h => by
    rw [List.map_cons, List.any_cons]
    refine kitAny_cons (b := t.sub c) (kit_ty (Ty.kit t c (h c List.mem_cons_self))) (fun hb => ?_) fun hb => ?_
    · rw [hb, Bool.false_or]
      exact kitAny_tys t ts fun c hc => h c (List.mem_cons_of_mem _ hc)
    · rw [hb, Bool.true_or]
def tTys : List Ty → TA
  | [] => tNil
  | c :: ts => tCons (tC (.ty c.name)) (tTys ts)
theorem tTys_go {σ : L2.St} {H : Hp} : ∀ {ts : List Ty} {Q : List V → Hp → Prop}, Q (ts.map fun c => V.ty c.name) H → tTys ts σ H Q
  | [], _, q => q
  | c :: ts, Q, q => by
    exact tTys_go (ts := ts) (Q := fun xs H2 => Q (V.ty c.name :: xs) H2) q
theorem tys_paired : ∀ ts : List Ty, Paired ClsV (ts.map fun c => V.ty c.name) (ts.map fun c => Value.type c.name)
  | [] => .nil
  | c :: ts => .cons (.ty _) (tys_paired ts)
theorem se_isiT {ts : List Ty} {p p2 : Pos} {k : Nat} {es : List Expr} (ht : ∀ c ∈ ts, c ≠ Ty.non) (hz : ts.length ≤ 100) (hg : Gl X "isinstance") (hm : X.mg "isinstance" = none) (hv : bootBuiltins "isinstance" = some (.builtin "isinstance")) (hT : PA X es (tTys ts)) (he : SE X W true e me)
    (h1 : starEach [e, .Tuple es k p2] X.env = (false, eval e X.env) :: starEach [.Tuple es k p2] X.env := by rfl) (h2 : starEach [.Tuple es k p2] X.env = (false, eval (.Tuple es k p2) X.env) :: starEach [] X.env := by rfl) (hpl : (backTo pos (starEach [.Tuple es k p2] X.env)).any (·.1) = false := by rfl) :
    SE X W bw (.Call (.Name "isinstance" p) [e, .Tuple es k p2] [] pos) (fun env => me env >>= isiM ts) :=
  PE.imp (pe_callB call_isiT hg hm hv (pa_cons he (pa_cons (pe_tup hT) pa_nil h2) h1) (by decide) (by decide) h1 hpl) fun σ H Q ⟨R, ι, S, env, rep, repE, post⟩ => by
    refine tG_then later_E rep repE post fun R1 H1 ι1 S1 v d rep1 repE1 x1 b1 post1 => ?_
    obtain ⟨t, et, post1⟩ := Post.opt post1
    have b1 : Bw (Cx.g X) R1 H1 ι1 S1 v d := b1
    refine tTys_go ?_
    refine ⟨by rw [List.length_map]; exact Nat.le_trans hz (by decide), fun p hp => ?_⟩
    have rep2 : Rep (Cx.g X) R1 (upd H1 p (.tup (ts.map fun c => V.ty c.name))) ι1 S1 := rep1.newH hp
    have x2 : ExtL R1 H1 ι1 S1 R1 (upd H1 p (.tup (ts.map fun c => V.ty c.name))) ι1 S1 := Ext.newH hp
    refine ⟨v, p, ts.map fun c => V.ty c.name, .type t.name, ts.map fun c => .type c.name, _, rfl, upd_same, ?_, (b1.ext x2).ty rep2 et, kitAny_tys t ts ht, ?_⟩
    · exact tys_paired ts
    · exact Post.val rep2 .bl (Post.shift later_E x2 post1)
end
end Sm

set_option Elab.async false
set_option linter.all false
set_option maxRecDepth 100000
set_option maxHeartbeats 2000000
/-! Sm10: repr, str; methods of texts; texts many times; dicts that are read. -/
namespace Sm
open PySem PySem.Spec PyProof.Rows L2

section
variable {X : Cx} {W : WX} {bw : Bool} {pos apos : Pos} {o e f : Expr} {es : List Expr} {mo me mf : Env → M D} {mr : Env → M (List D)}

/-! ### repr, str -/
def showOk (p : PyData) : Bool := p.showable && !p.hasDict && decide (p.depth ≤ 60) && decide (p.shown.length ≤ sizeLine)
theorem showOk_of {p : PyData} (h : showOk p = true) : p.showable = true ∧ p.hasDict = false ∧ p.depth ≤ 60 ∧ p.shown.length ≤ sizeLine := by
  unfold showOk at h
  simp only [Bool.and_eq_true, decide_eq_true_eq, Bool.not_eq_true'] at h
  exact ⟨h.1.1.1, h.1.1.2, h.1.2, h.2⟩
theorem repr_dp (hg : X.A.guards = some []) (hu : X.A.units + 100 < cLine) : CallR X (.builtin "repr") (fun xs H Q => ∃ x, xs = [x] ∧ ∃ p, Dp X.K H x p ∧ showOk p = true ∧ Q (.str p.shown) H) := by
  intro pins s σ H xs us Q I r ⟨x, hx, p, hd, ok, q⟩
  subst hx
  obtain ⟨u, rfl, ru⟩ := vals1 r
  obtain ⟨h1, h2, h3, h4⟩ := showOk_of ok
  cases hd with
  | non =>
    cases ru
    exact PySem.P.repr_of_none ⟨.str _, H, I.tok _, ⟨_, rfl⟩, q⟩
  | bl b =>
    cases ru
    exact PySem.P.repr_of_bool ⟨.str _, H, I.tok _, ⟨_, rfl⟩, q⟩
  | int i =>
    obtain ⟨t, rfl⟩ := ru
    exact PySem.P.repr_of_int (by simpa [PyData.showable] using h1) ⟨.str _, H, I.tok _, ⟨_, rfl⟩, q⟩
  | str y =>
    obtain ⟨t, rfl⟩ := ru
    exact PySem.P.repr_of_str ⟨.str _, H, I.tok _, ⟨_, rfl⟩, q⟩ (by simpa [PyData.shown] using h4)
  | lst hl ha =>
    rename_i a vs ds
    obtain ⟨as, rd⟩ := Dp.reads I (.list ds) (.ref a) u (.lst hl ha) ru
    cases ru
    exact repr_of_reads' rd h1 (fun z => absurd (h2.symm.trans z) Bool.false_ne_true) hg (by omega) (fun _ _ e => e) (fun h' u' tk k => ⟨.str _, H, I.kept k, ⟨_, rfl⟩, q⟩) h4
  | tup hl ha =>
    rename_i a vs ds
    obtain ⟨as, rd⟩ := Dp.reads I (.tuple ds) (.ref a) u (.tup hl ha) ru
    cases ru
    exact repr_of_reads' rd h1 (fun z => absurd (h2.symm.trans z) Bool.false_ne_true) hg (by omega) (fun _ _ e => e) (fun h' u' tk k => ⟨.str _, H, I.kept k, ⟨_, rfl⟩, q⟩) h4
def reprM (d : D) : M D := fun S => optO (toPS d S) fun p => if showOk p = true then .ok (.str p.shown) S else .stuck
theorem c_repr (hg : X.A.guards = some []) (hu : X.A.units + 100 < cLine) : CallM X W (.builtin "repr") (one reprM) := call_one (r := fun x H Q => ∃ p, Dp X.K H x p ∧ showOk p = true ∧ Q (.str p.shown) H) (repr_dp hg hu)
  fun bw R H ι S σ v d Q rep hv post => by
    obtain ⟨p, ep, post⟩ := Post.opt post
    obtain ⟨hs, post⟩ := Post.ite post
    exact ⟨p, hv.dp rep ep, hs, Post.val rep .str post⟩
theorem str_dp (hg : X.A.guards = some []) (hu : X.A.units + 100 < cLine) : CallR X (.type "str") (fun xs H Q => ∃ x, xs = [x] ∧ ((∃ y, x = .str y ∧ Q (.str y) H) ∨ ∃ p, (∀ y, p ≠ .str y) ∧ Dp X.K H x p ∧ showOk p = true ∧ Q (.str p.shown) H)) := by
  intro pins s σ H xs us Q I r ⟨x, hx, h⟩
  subst hx
  obtain ⟨u, rfl, ru⟩ := vals1 r
  rcases h with ⟨y, rfl, q⟩ | ⟨p, hn, hd, ok, q⟩
  · obtain ⟨t, rfl⟩ := ru
    exact PySem.P.str_of_str ⟨.str _, H, I, ⟨_, rfl⟩, q⟩
  · obtain ⟨h1, h2, h3, h4⟩ := showOk_of ok
    cases hd with
    | non =>
      cases ru
      exact PySem.P.str_of_none ⟨.str _, H, I.tok _, ⟨_, rfl⟩, q⟩
    | bl b =>
      cases ru
      exact PySem.P.str_of_bool ⟨.str _, H, I.tok _, ⟨_, rfl⟩, q⟩
    | int i =>
      obtain ⟨t, rfl⟩ := ru
      exact PySem.P.str_of_int (by simpa [PyData.showable] using h1) ⟨.str _, H, I.tok _, ⟨_, rfl⟩, q⟩
    | str y => exact absurd rfl (hn y)
    | lst hl ha =>
      rename_i a vs ds
      obtain ⟨as, rd⟩ := Dp.reads I (.list ds) (.ref a) u (.lst hl ha) ru
      cases ru
      exact str_of_reads rd h1 (fun z => absurd (h2.symm.trans z) Bool.false_ne_true) hg (by omega) (fun _ _ e => e) (fun h' u' tk k => ⟨.str _, H, I.kept k, ⟨_, rfl⟩, q⟩) h4
    | tup hl ha =>
      rename_i a vs ds
      obtain ⟨as, rd⟩ := Dp.reads I (.tuple ds) (.ref a) u (.tup hl ha) ru
      cases ru
      exact str_of_reads rd h1 (fun z => absurd (h2.symm.trans z) Bool.false_ne_true) hg (by omega) (fun _ _ e => e) (fun h' u' tk k => ⟨.str _, H, I.kept k, ⟨_, rfl⟩, q⟩) h4
def strM (d : D) : M D := match d with
  | .str x => pure (.str x)
  | d => reprM d
theorem toPS_str {d : D} {S : Sto} {y : Str} (h : toPS d S = some (.str y)) : d = .str y := by
  unfold toPS at h
  cases q : asRead d S with
  | some xs =>
    rw [q] at h
    have h : (toPs xs).map PyData.list = some (.str y) := h
    cases q2 : toPs xs with
    | none =>
      rw [q2] at h
      cases h
    | some ps =>
      rw [q2] at h
      cases h
  | none =>
    rw [q] at h
    cases d with
    | str x =>
      rw [toP] at h
      cases h
      rfl
    | list xs => cases q
    | frl xs => cases q
    | tup xs =>
      rw [toP] at h
      cases q2 : toPs xs with
      | none =>
        rw [q2] at h
        cases h
      | some ps =>
        rw [q2] at h
        cases h
    | _ =>
      rw [toP] at h
      cases h
theorem c_str (hg : X.A.guards = some []) (hu : X.A.units + 100 < cLine) : CallM X W (.type "str") (one strM) := call_one (r := fun x H Q => (∃ y, x = .str y ∧ Q (.str y) H) ∨ ∃ p, (∀ y, p ≠ .str y) ∧ Dp X.K H x p ∧ showOk p = true ∧ Q (.str p.shown) H) (str_dp hg hu)
  fun bw R H ι S σ v d Q rep hv post => by
    have rest : (∀ x, d ≠ .str x) → Post (Cx.g X) W (relE (Cx.g X) bw) R H ι S σ (reprM d S) Q → ∃ p, (∀ y, p ≠ .str y) ∧ Dp X.K H v p ∧ showOk p = true ∧ Q (.str p.shown) H := fun hn post => by
      obtain ⟨p, ep, post⟩ := Post.opt post
      obtain ⟨hs, post⟩ := Post.ite post
      exact ⟨p, fun y z => hn y (toPS_str (by rw [ep, z])), hv.dp rep ep, hs, Post.val rep .str post⟩
    cases d with
    | str x => exact .inl ⟨x, hv.str, Post.val rep .str post⟩
    | _ => exact .inr (rest (fun x z => by cases z) post)

/-! ### methods of texts -/
def onStr {α : Type} (x : D) (k : Str → M α) : M α := match x with
  | .str s => k s
  | _ => Mstuck
theorem onStr_post {α β : Type} {g : Gd} {rel : Hp → Hp → Hp → List Addr → Sto → β → α → Prop} {R H : Hp} {ι : List Addr} {S : Sto} {σ : L2.St} {Q : β → Hp → Prop} {d : D} {k : Str → M α} (post : Post g W rel R H ι S σ (onStr d k S) Q) : ∃ s, d = .str s ∧ Post g W rel R H ι S σ (k s S) Q := by
  cases d with
  | str s => exact ⟨s, rfl, post⟩
  | _ => exact post.elim
/-- a method that hands back a value -/
structure MtV (X : Cx) (W : WX) (id : String) (gop : Str → List D → M D) : Prop where
  ex : ∃ r, MtR X id r ∧ ∀ bw R H ι S σ s vs ds (Q : VK), Rep (Cx.g X) R H ι S → BwAll (Cx.g X) R H ι S vs ds → Post (Cx.g X) W (relE (Cx.g X) bw) R H ι S σ (gop s ds S) Q → r (.str s) vs H Q
structure MtL (X : Cx) (W : WX) (id : String) (gop : Str → List D → M (List D)) : Prop where
  ex : ∃ r, MtR X id r ∧ ∀ R H ι S σ s vs ds (Q : VK), Rep (Cx.g X) R H ι S → BwAll (Cx.g X) R H ι S vs ds → Post (Cx.g X) W (relF (Cx.g X)) R H ι S σ (gop s ds S) Q → r (.str s) vs H Q
theorem se_sm {name : Str} {id : String} {gop : Str → List D → M D} (hm : MtV X W id gop) (hp : ∀ r t to, MtR X id r → PE X o to → PA X (e :: es) t → PE X (.Call (.Attribute o name apos) (e :: es) [] pos) (tBM X.K "str" r to t)) (ho : SE X W true o mo) (ha : SB X W (e :: es) mr) :
    SE X W bw (.Call (.Attribute o name apos) (e :: es) [] pos) (fun env => mo env >>= fun x => onStr x fun s => mr env >>= gop s) := by
  obtain ⟨r, h1, h2⟩ := hm.ex
  refine PE.imp (hp r _ _ h1 ho ha) fun σ H Q ⟨R, ι, S, env, rep, repE, post⟩ => ?_
  refine tG_then later_E rep repE post fun R1 H1 ι1 S1 v d rep1 repE1 x1 b1 post1 => ?_
  obtain ⟨s, rfl, post2⟩ := onStr_post post1
  rw [Bw.str b1]
  refine ⟨rfl, ?_⟩
  refine tG_then later_E rep1 repE1 post2 fun R2 H2 ι2 S2 vs ds rep2 repE2 x2 b2 post3 => ?_
  exact h2 bw R2 H2 ι2 S2 σ s vs ds Q rep2 b2 post3
theorem se_sm0 {name : Str} {id : String} {gop : Str → List D → M D} (hm : MtV X W id gop) (hp : ∀ r to, MtR X id r → PE X o to → PE X (.Call (.Attribute o name apos) [] [] pos) (tBM0 X.K "str" r to)) (ho : SE X W true o mo) :
    SE X W bw (.Call (.Attribute o name apos) [] [] pos) (fun env => mo env >>= fun x => onStr x fun s => gop s []) := by
  obtain ⟨r, h1, h2⟩ := hm.ex
  refine PE.imp (hp r _ h1 ho) fun σ H Q ⟨R, ι, S, env, rep, repE, post⟩ => ?_
  refine tG_then later_E rep repE post fun R1 H1 ι1 S1 v d rep1 repE1 x1 b1 post1 => ?_
  obtain ⟨s, rfl, post2⟩ := onStr_post post1
  rw [Bw.str b1]
  exact ⟨rfl, h2 bw R1 H1 ι1 S1 σ s [] [] Q rep1 .nil post2⟩
theorem sf_sm {name : Str} {id : String} {gop : Str → List D → M (List D)} (hm : MtL X W id gop) (hp : ∀ r t to, MtR X id r → PE X o to → PA X (e :: es) t → PE X (.Call (.Attribute o name apos) (e :: es) [] pos) (tBM X.K "str" r to t)) (ho : SE X W true o mo) (ha : SB X W (e :: es) mr) :
    SF X W (.Call (.Attribute o name apos) (e :: es) [] pos) (fun env => mo env >>= fun x => onStr x fun s => mr env >>= gop s) := by
  obtain ⟨r, h1, h2⟩ := hm.ex
  refine PE.imp (hp r _ _ h1 ho ha) fun σ H Q ⟨R, ι, S, env, rep, repE, post⟩ => ?_
  refine tG_then later_F rep repE post fun R1 H1 ι1 S1 v d rep1 repE1 x1 b1 post1 => ?_
  obtain ⟨s, rfl, post2⟩ := onStr_post post1
  rw [Bw.str b1]
  refine ⟨rfl, ?_⟩
  refine tG_then later_F rep1 repE1 post2 fun R2 H2 ι2 S2 vs ds rep2 repE2 x2 b2 post3 => ?_
  exact h2 R2 H2 ι2 S2 σ s vs ds Q rep2 b2 post3
def splitM (s : Str) (ds : List D) : M (List D) := fun S => match ds with
  | [.str b] => if (b.length == 0) = false ∧ s.length + 2 ≤ sizeLine then .ok ((Txt.split s b).map D.str) S else .stuck
  | _ => .stuck
theorem m_split : MtL X W "str.split" splitM := ⟨_, mt_split, fun R H ι S σ s vs ds Q rep hb post => by
  cases hb with
  | nil => exact post.elim
  | cons h t =>
    rename_i v d vs ds
    cases t with
    | cons _ _ => cases d <;> exact post.elim
    | nil =>
      cases d with
      | str b =>
        obtain ⟨hz, post⟩ := Post.ite post
        rw [Bw.str h]
        exact ⟨s, b, rfl, rfl, hz.1, hz.2, Post.newF rep (DvAll.strs _) post⟩
      | _ => exact post.elim⟩
def joinM (s : Str) (ds : List D) : M D := fun S => match ds with
  | [d] => optO (asSeq d S) fun xs => optO (asStrs xs) fun ys => if (ys.map (·.length)).sum + ys.length * s.length ≤ 16777216 then .ok (.str (Txt.join s ys)) S else .stuck
  | _ => .stuck
theorem m_join : MtV X W "str.join" joinM := ⟨_, mt_join, fun bw R H ι S σ s vs ds Q rep hb post => by
  cases hb with
  | nil => exact post.elim
  | cons h t =>
    cases t with
    | cons _ _ => exact post.elim
    | nil =>
      obtain ⟨xs, ex, post⟩ := Post.opt post
      obtain ⟨ys, ey, post⟩ := Post.opt post
      obtain ⟨hz, post⟩ := Post.ite post
      obtain ⟨p, vs, rfl, hp, tp⟩ := Bw.seq rep h ex
      rw [asStrs_ok tp ey] at hp
      exact ⟨s, p, ys, rfl, rfl, hp, hz, Post.val rep .str post⟩⟩
def str0 (C : Nat) (g : Str → Str) (s : Str) (ds : List D) : M D := fun S => match ds with
  | [] => if s.length ≤ C then .ok (.str (g s)) S else .stuck
  | _ => .stuck
theorem m_str0 {id : String} {C : Nat} {g : Str → Str} (h : MtR X id (fun x xs H Q => ∃ a, x = .str a ∧ xs = [] ∧ a.length ≤ C ∧ Q (.str (g a)) H)) : MtV X W id (str0 C g) := ⟨_, h, fun bw R H ι S σ s vs ds Q rep hb post => by
  cases hb with
  | cons _ _ => exact post.elim
  | nil =>
    obtain ⟨hz, post⟩ := Post.ite post
    exact ⟨s, rfl, rfl, hz, Post.val rep .str post⟩⟩
theorem m_upper : MtV X W "str.upper" (str0 5592405 Txt.upper) := m_str0 mt_upper
theorem m_strip : MtV X W "str.strip" (str0 sizeLine Txt.strip) := m_str0 mt_strip
theorem m_lstrip : MtV X W "str.lstrip" (str0 sizeLine Txt.lstrip) := m_str0 mt_lstrip

/-! ### texts, tuples many times -/
instance {x : Str} {n : Int} : Decidable (MulOk x n) := inferInstanceAs (Decidable (_ ∧ _ ∧ _))
theorem op_mulS : OpR X (binaryOp .Mult) (fun x y H Q => ∃ s n, x = .str s ∧ y = .int n ∧ MulOk s n ∧ Q (.str (Txt.mul s n)) H) := by
  intro pins s σ H x y v u Q I rx ry ⟨a, n, h1, h2, h3, q⟩
  subst h1
  subst h2
  obtain ⟨t, rfl⟩ := rx
  obtain ⟨t', rfl⟩ := ry
  exact SB.mul h3 fun t' k => ⟨.str _, H, I.tok _, ⟨_, rfl⟩, q⟩
def mulX (x y : D) : M D := match x, y with
  | .str s, .int n => fun S => if MulOk s n then .ok (.str (Txt.mul s n)) S else .stuck
  | x, y => mulM x y
theorem op_mulX : OpM X W (binaryOp .Mult) mulX := by
  obtain ⟨r, h1, h2⟩ := (op_mulM (X := X) (W := W)).ex
  refine ⟨_, OpR.or op_mulS h1, fun bw R H ι S σ v u d e Q rep hv hu post => ?_⟩
  cases d with
  | str s =>
    cases e with
    | int n =>
      obtain ⟨hz, post⟩ := Post.ite post
      exact .inl ⟨s, n, hv.str, hu.int, hz, Post.val rep .str post⟩
    | _ => exact .inr (h2 bw R H ι S σ v u _ _ Q rep hv hu post)
  | _ => exact .inr (h2 bw R H ι S σ v u _ _ Q rep hv hu post)

/-! ### list(..) of a list, a tuple -/
theorem sf_list {x : Str} {p : Pos} {me : Env → M D} (hg : Gl X x) (hm : X.mg x = none) (hv : bootBuiltins x = some (.type "list")) (he : SE X W true e me) (hn : x ≠ "__name__" := by decide) (hdb : (x == ("__debug__" : Str)) = false := by decide)
    (h1 : starEach [e] X.env = (false, eval e X.env) :: starEach [] X.env := by rfl) (hpl : (backTo pos (starEach [] X.env)).any (·.1) = false := by rfl) : SF X W (.Call (.Name x p) [e] [] pos) (fun env => me env >>= listOf) :=
  PE.imp (pe_callTy call_list_of hg hm hv (pa_cons he pa_nil h1) hn hdb h1 hpl) fun σ H Q ⟨R, ι, S, env, rep, repE, post⟩ => by
    refine tG_then later_F rep repE post fun R1 H1 ι1 S1 v d rep1 repE1 x1 b1 post1 => ?_
    obtain ⟨xs, ex, post1⟩ := Post.opt post1
    obtain ⟨p, vs, rfl, hp, tp⟩ := Bw.seq rep1 b1 ex
    exact ⟨p, vs, rfl, hp, Post.newF rep1 tp post1⟩

/-! ### dicts that are read -/
def asKey : D → Option Key
  | .int i => some (.inl i)
  | .str x => some (.inr x)
  | _ => none
theorem asKey_ok {g : Gd} {R H : Hp} {ι : List Addr} {S : Sto} {v : V} {d : D} {k : Key} (h : Bw g R H ι S v d) (e : asKey d = some k) : v = L2.kV k := by
  cases d with
  | int i =>
    cases e
    exact h.int
  | str x =>
    cases e
    exact h.str
  | _ => cases e
def valD (kvs : List (Key × D)) (k : Key) : Option D := (kvs.find? fun kv => decide (kv.1 = k)).map (·.2)
def putD (kvs : List (Key × D)) (k : Key) (d : D) : List (Key × D) := if (kvs.any fun kv => decide (kv.1 = k)) = true then kvs.map (fun kv => if kv.1 = k then (kv.1, d) else kv) else kvs ++ [(k, d)]
def mergeD (kvs more : List (Key × D)) : List (Key × D) := more.foldl (fun acc kv => putD acc kv.1 kv.2) kvs
section
variable {g : Gd} {R : Hp} {ι : List Addr} {k : Key} {v : V} {d : D}
theorem DvKV.val : ∀ {vs : List (Key × V)} {ds : List (Key × D)}, DvKV g R ι vs ds → (valD ds k = none ∧ valV vs k = none) ∨ ∃ v d, valD ds k = some d ∧ valV vs k = some v ∧ Dv g R ι v d
  | _, _, .nil => .inl ⟨rfl, rfl⟩
  | _, _, .cons (k := k') (v := v') (d := d') h t => by
    unfold valD valV
    rw [List.find?_cons, List.find?_cons]
    by_cases e : k' = k
    · rw [decide_eq_true e]
      exact .inr ⟨v', d', rfl, rfl, h⟩
    · rw [decide_eq_false e]
      exact DvKV.val t
theorem DvKV.len : ∀ {vs : List (Key × V)} {ds : List (Key × D)}, DvKV g R ι vs ds → vs.length = ds.length
  | _, _, .nil => rfl
  | _, _, .cons _ t => by rw [List.length_cons, List.length_cons, DvKV.len t]
theorem DvKV.any : ∀ {vs : List (Key × V)} {ds : List (Key × D)}, DvKV g R ι vs ds → (vs.any fun kv => decide (kv.1 = k)) = ds.any fun kv => decide (kv.1 = k)
  | _, _, .nil => rfl
  | _, _, .cons _ t => by rw [List.any_cons, List.any_cons, DvKV.any t]
theorem DvKV.app : ∀ {vs : List (Key × V)} {ds : List (Key × D)} {ws : List (Key × V)} {es : List (Key × D)}, DvKV g R ι vs ds → DvKV g R ι ws es → DvKV g R ι (vs ++ ws) (ds ++ es)
  | _, _, _, _, .nil, s => s
  | _, _, _, _, .cons h t, s => .cons h (DvKV.app t s)
theorem DvKV.mapPut (x : Dv g R ι v d) : ∀ {vs : List (Key × V)} {ds : List (Key × D)}, DvKV g R ι vs ds → DvKV g R ι (vs.map fun kv => if kv.1 = k then (kv.1, v) else kv) (ds.map fun kv => if kv.1 = k then (kv.1, d) else kv)
  | _, _, .nil => .nil
  | _, _, .cons (k := k') h t => by
    rw [List.map_cons, List.map_cons]
    by_cases e : k' = k
    · rw [if_pos e, if_pos e]
      exact .cons x (DvKV.mapPut x t)
    · rw [if_neg e, if_neg e]
      exact .cons h (DvKV.mapPut x t)
theorem DvKV.put {vs : List (Key × V)} {ds : List (Key × D)} (h : DvKV g R ι vs ds) (x : Dv g R ι v d) : DvKV g R ι (putK vs k v) (putD ds k d) := by
  unfold putK putD
  rw [h.any]
  split
  · exact h.mapPut x
  · exact h.app (.cons x .nil)
theorem DvKV.merge : ∀ {more : List (Key × V)} {mods : List (Key × D)} {vs : List (Key × V)} {ds : List (Key × D)}, DvKV g R ι more mods → DvKV g R ι vs ds → DvKV g R ι (mergeK vs more) (mergeD ds mods)
  | _, _, _, _, .nil, h => h
  | _, _, _, _, .cons (k := k') (v := v') (vs := vs') (d := d') (ds := ds') x t, h => by
    show DvKV g R ι (mergeK (putK _ k' v') vs') (mergeD (putD _ k' d') ds')
    exact DvKV.merge t (h.put x)
end
theorem Bw.dict {g : Gd} {R H : Hp} {ι : List Addr} {S : Sto} {v : V} {kds : List (Key × D)} (rep : Rep g R H ι S) (h : Bw g R H ι S v (.dict kds)) : ∃ a kvs, v = .ref a ∧ H a = some (.dK kvs) ∧ DvKV g R ι kvs kds := by
  have h2 : Dv g R ι v (.dict kds) := h.dv fun _ z => by cases z
  cases h2 with
  | dict q t => exact ⟨_, _, rfl, rep.sub _ _ q, t⟩
def dgetM (x y : D) : M D := fun S => match x with
  | .dict kvs => optO (asKey y) fun k => optO (valD kvs k) fun d => .ok d S
  | _ => .stuck
theorem se_dget (hu : X.A.units + 1 < cLine) (ho : SE X W true o mo) (he : SE X W true e me) (hs : NoSl e) : SE X W bw (.Subscript o e pos) (fun env => mo env >>= fun x => me env >>= fun y => dgetM x y) :=
  PE.imp (pe_dget hu ho he hs) fun σ H Q ⟨R, ι, S, env, rep, repE, post⟩ => by
    refine tG_then later_E rep repE post fun R1 H1 ι1 S1 v d rep1 repE1 x1 b1 post1 => ?_
    refine tG_then later_E rep1 repE1 post1 fun R2 H2 ι2 S2 u f rep2 repE2 x2 b2 post2 => ?_
    cases d with
    | dict kds =>
      obtain ⟨k, ek, post2⟩ := Post.opt post2
      obtain ⟨dd, ed, post2⟩ := Post.opt post2
      obtain ⟨a, kvs, rfl, ha, t⟩ := Bw.dict rep2 (Bw.ext b1 x2)
      rw [asKey_ok b2 ek]
      rcases t.val (k := k) with ⟨z, _⟩ | ⟨v, d, e1, e2, hv⟩
      · rw [z] at ed
        cases ed
      · rw [e1] at ed
        cases ed
        exact ⟨a, v, rfl, by rw [← e2]; exact DGet.k ha, Post.val rep2 hv post2⟩
    | _ => exact post2.elim
def onDict {α : Type} (x : D) (k : List (Key × D) → M α) : M α := match x with
  | .dict s => k s
  | _ => Mstuck
theorem onDict_post {α β : Type} {g : Gd} {rel : Hp → Hp → Hp → List Addr → Sto → β → α → Prop} {R H : Hp} {ι : List Addr} {S : Sto} {σ : L2.St} {Q : β → Hp → Prop} {d : D} {k : List (Key × D) → M α} (post : Post g W rel R H ι S σ (onDict d k S) Q) : ∃ s, d = .dict s ∧ Post g W rel R H ι S σ (k s S) Q := by
  cases d with
  | dict s => exact ⟨s, rfl, post⟩
  | _ => exact post.elim
def dget2 (kvs : List (Key × D)) (y z : D) : M D := fun S => optO (asKey y) fun k => .ok ((valD kvs k).getD z) S
theorem se_dget2 (hu : X.A.units + 1 < cLine) (ho : SE X W true o mo) (he : SE X W true e me) (hf : SE X W false f mf) (m : M2 X o "get" apos e f pos) :
    SE X W bw (.Call (.Attribute o "get" apos) [e, f] [] pos) (fun env => mo env >>= fun x => onDict x fun kvs => me env >>= fun y => mf env >>= fun z => dget2 kvs y z) :=
  PE.imp (pe_dget2 hu ho he hf m) fun σ H Q ⟨R, ι, S, env, rep, repE, post⟩ => by
    refine tG_then later_E rep repE post fun R1 H1 ι1 S1 v d rep1 repE1 x1 b1 post1 => ?_
    obtain ⟨kds, rfl, postk⟩ := onDict_post post1
    obtain ⟨a, kvs, rfl, ha, t⟩ := Bw.dict rep1 b1
    refine ⟨a, rfl, .inl ⟨kvs, .inl ha⟩, ?_⟩
    refine tG_then later_E rep1 repE1 postk fun R2 H2 ι2 S2 u y rep2 repE2 x2 b2 post2 => ?_
    refine tG_then later_E rep2 repE2 post2 fun R3 H3 ι3 S3 w z rep3 repE3 x3 b3 post3 => ?_
    obtain ⟨k, ek, post3⟩ := Post.opt post3
    obtain ⟨a', kvs', z1, ha', t'⟩ := Bw.dict rep3 (Bw.ext b1 (x2.trans x3))
    cases z1
    have b3 : Dv (Cx.g X) R3 ι3 w z := b3
    rw [asKey_ok b2 ek]
    refine ⟨valV kvs' k, DGet.k ha', ?_⟩
    rcases t'.val (k := k) with ⟨e1, e2⟩ | ⟨v, d, e1, e2, hv⟩
    · rw [e1] at post3
      rw [e2]
      exact Post.val rep3 b3 post3
    · rw [e1] at post3
      rw [e2]
      exact Post.val rep3 hv post3
/-- in, not in: dicts, too -/
def inX (neg : Bool) (x y : D) : M D := match y with
  | .dict kvs => fun S => optO (asKey x) fun k => .ok (.bool ((valD kvs k).isSome ^^ neg)) S
  | y => inG neg x y
theorem op_inX {neg : Bool} {f : Value → Value → Sem Value} (o1 : OpM X W f (inG neg)) (o2 : OpR X f (fun y x H Q => ∃ a o, x = .ref a ∧ DGet H a y o ∧ Q (.bl (o.isSome ^^ neg)) H)) : OpM X W f (inX neg) := by
  obtain ⟨r, h1, h2⟩ := o1.ex
  refine ⟨_, OpR.or o2 h1, fun bw R H ι S σ v u d e Q rep hv hu post => ?_⟩
  cases e with
  | dict kds =>
    obtain ⟨k, ek, post⟩ := Post.opt post
    obtain ⟨a, kvs, rfl, ha, t⟩ := Bw.dict rep hu
    rw [asKey_ok hv ek]
    refine .inl ⟨a, valV kvs k, rfl, DGet.k ha, ?_⟩
    rcases t.val (k := k) with ⟨e1, e2⟩ | ⟨v, d, e1, e2, hv⟩
    · rw [e1] at post
      rw [e2]
      exact Post.val rep .bl post
    · rw [e1] at post
      rw [e2]
      exact Post.val rep .bl post
  | _ => exact .inr (h2 bw R H ι S σ v u _ _ Q rep hv hu post)
theorem op_inMX (hu : X.A.units + 1 < cLine) : OpM X W (compareOp .In) (inX false) := op_inX op_inM (by
  intro pins s σ H x y v u Q I rx ry ⟨a, o, h1, h2, q⟩
  subst h1
  cases ry
  exact d_in hu I h2 rx fun s' I' => ⟨.bl _, H, I', rfl, by rw [Bool.xor_false] at q; exact q⟩)
theorem op_notInMX (hu : X.A.units + 1 < cLine) : OpM X W (compareOp .NotIn) (inX true) := op_inX op_notInM (by
  intro pins s σ H x y v u Q I rx ry ⟨a, o, h1, h2, q⟩
  subst h1
  cases ry
  exact d_notIn hu I h2 rx fun s' I' => ⟨.bl _, H, I', rfl, by rw [Bool.xor_true] at q; exact q⟩)
/-- a display's pairs -/
def pairsM : List ((Env → M D) × (Env → M D)) → Env → M (List (Key × D))
  | [], _ => pure []
  | (mk, mv) :: r, env => mk env >>= fun k => mv env >>= fun v => pairsM r env >>= fun ps => fun S => optO (asKey k) fun k => .ok ((k, v) :: ps) S
def trsOf (g : Gd) (W : WX) (ms : List ((Env → M D) × (Env → M D))) : List (TE × TE) := ms.map fun m => (tG g W (relE g true) m.1, tG g W (relE g false) m.2)
abbrev SPs (X : Cx) (W : WX) (keys : List (Option Expr)) (values : List Expr) (ms : List ((Env → M D) × (Env → M D))) : Prop := ∀ pos, PPs X pos keys values (trsOf (Cx.g X) W ms)
theorem sps_nil : SPs X W [] [] [] := fun _ => pps_nil
theorem sps_cons {k v : Expr} {ks : List (Option Expr)} {vs : List Expr} {mk mv : Env → M D} {ms : List ((Env → M D) × (Env → M D))} (hk : SE X W true k mk) (hv : SE X W false v mv) (hr : SPs X W ks vs ms) : SPs X W (some k :: ks) (v :: vs) ((mk, mv) :: ms) := fun pos => pps_cons hk hv (hr pos)
theorem pairs_go : ∀ {ms : List ((Env → M D) × (Env → M D))} {R H : Hp} {ι : List Addr} {S : Sto} {σ : L2.St} {env : Env} {Q1 : List (V × V) → Hp → Prop}, Rep (Cx.g X) R H ι S → RepE (Cx.g X) R H ι S σ env →
    (∀ kds S1, pairsM ms env S = .ok kds S1 → ∀ R1 H1 ι1 kvs, Rep (Cx.g X) R1 H1 ι1 S1 → ExtL R H ι S R1 H1 ι1 S1 → DvKV (Cx.g X) R1 ι1 kvs kds → kvs.length = ms.length → Q1 (kvs.map fun kv => (L2.kV kv.1, kv.2)) H1) →
    (∀ e S1, pairsM ms env S = .exc e S1 → ∀ cls dd R1 ι1 H1, Rep (Cx.g X) R1 H1 ι1 S1 → ExtL R H ι S R1 H1 ι1 S1 → ExnOk (Cx.g X) R1 H1 ι1 cls dd e → W cls dd σ H1) → pairsM ms env S ≠ .stuck →
    tPairs (trsOf (Cx.g X) W ms) σ H Q1
  | [], R, H, ι, S, σ, env, Q1, rep, repE, hk, _, _ => hk [] S rfl R H ι [] rep Ext.refl .nil rfl
  | (mk, mv) :: ms, R, H, ι, S, σ, env, Q1, rep, repE, hk, he, hs => by
    have e0 : pairsM ((mk, mv) :: ms) env S = Mbind (mk env) (fun k => Mbind (mv env) fun v => Mbind (pairsM ms env) fun ps => fun S => optO (asKey k) fun k => .ok ((k, v) :: ps) S) S := rfl
    rw [e0] at he hs
    have hk : ∀ kds S1, Mbind (mk env) (fun k => Mbind (mv env) fun v => Mbind (pairsM ms env) fun ps => fun S => optO (asKey k) fun k => .ok ((k, v) :: ps) S) S = .ok kds S1 → _ := fun kds S1 q => hk kds S1 (e0.trans q)
    unfold Mbind at hk he hs
    refine ⟨R, ι, S, env, rep, repE, ?_⟩
    show Post _ W _ R H ι S σ (mk env S) _
    cases q1 : mk env S with
    | stuck => simp only [q1] at hs; exact absurd rfl hs
    | exc e S1 =>
      simp only [q1] at he
      exact fun cls dd R1 ι1 H1 r x k => he e S1 rfl cls dd R1 ι1 H1 r x k
    | ok xd S1 =>
      simp only [q1] at hk he hs
      intro x R1 ι1 H1 rep1 x1 b1
      refine ⟨R1, ι1, S1, env, rep1, repE.ext x1, ?_⟩
      show Post _ W _ R1 H1 ι1 S1 σ (mv env S1) _
      cases q2 : mv env S1 with
      | stuck => simp only [q2] at hs; exact absurd rfl hs
      | exc e S2 =>
        simp only [q2] at he
        exact fun cls dd R2 ι2 H2 r x k => he e S2 rfl cls dd R2 ι2 H2 r (x1.trans x) k
      | ok vd S2 =>
        simp only [q2] at hk he hs
        intro v R2 ι2 H2 rep2 x2 b2
        have b1 : Bw (Cx.g X) R1 H1 ι1 S1 x xd := b1
        have b2 : Dv (Cx.g X) R2 ι2 v vd := b2
        refine pairs_go (ms := ms) rep2 ((repE.ext x1).ext x2) (fun kds S3 q3 R3 H3 ι3 kvs rep3 x3 t hlen => ?_) (fun e S3 q3 => ?_) fun q3 => ?_
        · simp only [q3] at hk hs
          cases qk : asKey xd with
          | none =>
            simp only [qk, optO] at hs
            exact absurd rfl hs
          | some kk =>
            simp only [qk, optO] at hk
            rw [asKey_ok (Bw.ext b1 (x2.trans x3)) qk]
            exact hk ((kk, vd) :: kds) S3 rfl R3 H3 ι3 ((kk, v) :: kvs) rep3 (x1.trans (x2.trans x3)) (.cons (b2.ext x3) t) (by rw [List.length_cons, List.length_cons, hlen])
        · simp only [q3] at he
          exact fun cls dd R3 ι3 H3 r x k => he e S3 rfl cls dd R3 ι3 H3 r (x1.trans (x2.trans x)) k
        · simp only [q3] at hs
          exact absurd rfl hs
def dictM (ps : List (Key × D)) : M D := pure (.dict (mergeD [] ps))
theorem se_dict {keys : List (Option Expr)} {values : List Expr} {ms : List ((Env → M D) × (Env → M D))} (h : SPs X W keys values ms) (hall : keys.all (·.isSome) = true := by rfl) (hl : keys.length = values.length := by rfl) (h0 : keys ≠ [] := by simp) (h15 : keys.length ≤ 15 := by decide) (hm : ms.length ≤ 15 := by decide) :
    SE X W bw (.Dict keys values pos) (fun env => pairsM ms env >>= dictM) := PE.imp (pe_disp (h pos) hall hl h0 h15) fun σ H Q ⟨R, ι, S, env, rep, repE, post⟩ => by
  intro p hp
  have rep0 : Rep (Cx.g X) R (upd H p (.dK [])) ι S := rep.newH hp
  have x0 : ExtL R H ι S R (upd H p (.dK [])) ι S := Ext.newH hp
  have hOw : ¬ Ow σ env p := fun ⟨j, ys, e1, e2⟩ => by
    obtain ⟨u, hu, q⟩ := repE.at e1
    rw [e2] at hu
    cases hu
    obtain ⟨b, ws, z, q1, _⟩ := q
    cases z
    rw [hp] at q1
    cases q1
  have nR := rep.noR hp
  have nL := rep.noL hp
  have post : Post (Cx.g X) W (relE (Cx.g X) bw) R H ι S σ (Mbind (pairsM ms env) dictM S) Q := post
  unfold Mbind at post
  refine pairs_go rep0 (repE.updO hOw) (fun kds S1 q R1 H1 ι1 kvs rep1 x1 t hlen => ?_) (fun e S1 q => ?_) fun q => ?_
  · rw [q] at post
    have hp1 : H1 p = some (.dK []) := x1.keep _ _ upd_same nL
    have nR1 : R1 p = none := by
      cases q : R1 p with
      | none => rfl
      | some o =>
        have := x1.fresh p o q (by rw [upd_same]; exact fun z => by cases z) nL
        rw [nR] at this
        cases this
    have nL1 : ¬ Lv ι1 S1 p := fun z => by
      rcases x1.own p z with z | z
      · exact nL z
      · rw [upd_same] at z
        cases z
    refine ⟨hp1, kvs, rfl, by omega, ?_⟩
    have hs := rsub_upd (o := .dK (mergeK [] kvs)) nR1
    have rep2 := (rep1.updO (o := .dK (mergeK [] kvs)) nR1 nL1 ⟨_, hp1, fun _ z => (by cases z), fun _ z => (by cases z)⟩).freeze upd_same nR1 nL1
    refine post (.ref p) _ ι1 _ rep2 ?_ (VD.of (.dict upd_same ((DvKV.merge t .nil).mono hs fun _ _ e => e)))
    exact {
      rsub := fun a o q => hs a o (x1.rsub a o q)
      pre := x1.pre
      keep := fun a o q n => by
        rw [upd_ne (ne_of_none q hp)]
        exact x1.keep a o (by rw [upd_ne (ne_of_none q hp)]; exact q) n
      fresh := fun a o q n m => by
        by_cases z : a = p
        · subst z
          exact absurd hp n
        · rw [upd_ne z] at q
          exact x1.fresh a o q (by rw [upd_ne z]; exact n) m
      own := fun a q => by
        rcases x1.own a q with z | z
        · exact .inl z
        · by_cases e : a = p
          · subst e
            exact .inr hp
          · rw [upd_ne e] at z
            exact .inr z
      there := fun a q => by
        by_cases e : a = p
        · subst e
          exact hp
        · rw [upd_ne e] at q
          have := x1.there a q
          rw [upd_ne e] at this
          exact this }
  · rw [q] at post
    exact fun cls dd R1 ι1 H1 r x k => post cls dd R1 ι1 H1 r (x0.trans x) k
  · rw [q] at post
    exact post.elim
end
end Sm

set_option Elab.async false
set_option linter.all false
set_option maxRecDepth 100000
set_option maxHeartbeats 2000000
/-! Sm11: a law's end over FnG. -/
namespace Sm
open PySem PySem.Spec PyProof.Rows L2

/-- where a heap of the proof says nothing, the object is the base's, too -/
theorem quiet {H : Hp} {a b : Addr} (one : ∀ c, H c ≠ none → c = a) (n : b ≠ a) : H b = none := by
  cases e : H b with
  | none => rfl
  | some u => exact absurd (one b (by rw [e]; simp)) n
/-- behind the top: the call of the law, by what its def computes -/
theorem law_end {P : Program} {w : World} {K : PySem.W.Frag} {m m2 : Str → Option Value} {k : Nat} {f a : Addr} {fd : FuncData} {x : Str} {t : Shared} {vs : List Value} {ns : List Int} {F : List D → M D}
    (kin : K.In t.heap) (gl : t.heap.Ns mainGlobals m) (bn : t.heap.Ns builtinsNs m2) (bb : ∀ y : Str, y ≠ "__name__" → m2 y = bootBuiltins y) (nl : t.heap.NoLimit) (ng : t.gens = #[])
    (at_a : t.heap.get? a = some { cls := .type "list", data := .seq vs.toArray }) (are : IntsAre vs ns) (le : ns.length ≤ sizeLine) (room : RoomG k callerA)
    (fn : ∀ base : Heap, K.In base → base.Ns mainGlobals m → FnG P w K m base k f fd [x] (spS ⟨K, m⟩ 1 F)) (bnd : ∀ (u : Shared) (v : Value), BindsTo u fd ⟨[v], []⟩ [(x, v)])
    (true_ : ∃ S, F [.frl (ns.map D.int)] [] = .ok (.bool true) S) :
    codeAny (model P w) callerA (.call (.ref f) ⟨[.ref a], []⟩) (fun r t' => r = .ok (.ret (.bool true)) ∧ OldK t.heap t'.heap ∧ t'.os = t.os ∧ AllBare t'.gens) t := by
  have vv := vals_ints are
  have nn := are.length
  have go : ∀ H : Hp, Only H → SqL K H a (ns.map V.int) → HOk P w H t.heap → (∀ b, H b ≠ none → b = a) → (H a ≠ none → K.lookup a = none) →
      codeAny (model P w) callerA (.call (.ref f) ⟨[.ref a], []⟩) (fun r t' => r = .ok (.ret (.bool true)) ∧ OldK t.heap t'.heap ∧ t'.os = t.os ∧ AllBare t'.gens) t := by
    intro H only sq ok one dis
    have dict_quiet : ∀ {b : Addr} {o : Obj} {es : Array DictEntry} {ep : Nat}, t.heap.get? b = some o → o.data = .dict es ep → H b = none := fun {b o es ep} e d => quiet one fun z => by
      subst z
      rw [at_a] at e
      cases e
      have d2 : Data.seq vs.toArray _ = Data.dict es ep := d
      cases d2
    have ns_in : ∀ {b : Addr} {mm : Str → Option Value}, t.heap.Ns b mm → (hidT t.heap H).Ns b mm := fun {b mm} ⟨o, es, ep, e, d, r⟩ => ⟨o, es, ep, hidT_get e (dict_quiet e d), d, r⟩
    have kb : K.In (hidT t.heap H) := fun b o e => hidT_get (kin b o e) (by
      by_cases z : b = a
      · subst z
        cases q : H b with
        | none => rfl
        | some u =>
          rw [dis (by rw [q]; simp)] at e
          cases e
      · exact quiet one z)
    obtain ⟨mc, l1, l2⟩ := nl
    have mod : Mod K m (hidT t.heap H) := ⟨kb, ns_in gl, ⟨m2, ns_in bn, bb⟩, mc, ns_in l1, l2⟩
    have env0 : Env0 P w K m (hidT t.heap H) callerA [] t H := ⟨rfl, mod, fun b o e => of_hidT e, Nat.le_of_eq (hidT_size _ _), trivial, fun b hb => absurd (show b ∈ ([] : List Addr) from hb) (by simp), ok, .of_eq ng⟩
    obtain ⟨S, tr⟩ := true_
    have sp : spS ⟨K, m⟩ 1 F [.ref a] H (fun v _ => v = .bl true) fun _ _ _ => False := by
      refine ⟨rfl, H, [], [], [.frl (ns.map D.int)], ⟨fun _ _ e => e, rfl, fun i b c e => by simp at e, fun i j b c c' e => by simp at e⟩, .cons (.frl sq (DvAll.ints ns)) .nil, ?_⟩
      rw [tr]
      intro v R1 ι1 H1 _ _ y
      have y : Dv ⟨K, m⟩ R1 ι1 v (.bool true) := y
      cases y
      rfl
    refine codeAny_mono ((fn _ kb (ns_in gl)).run callerA [] t H ⟨[.ref a], []⟩ [.ref a] [.ref a] _ _ room env0 (bnd t (.ref a)) (.cons rfl .nil) sp) fun r t' y => ?_
    match r, y with
    | .error e, y =>
      obtain ⟨_, _, _, _, _, _, _, _, z⟩ := y
      exact z.2.2.2.2.elim
    | .ok .next, y => exact y.elim
    | .ok .brk, y => exact y.elim
    | .ok .cont, y => exact y.elim
    | .ok (.ret u), y =>
      obtain ⟨v, H', os, bare, un, ok2, rv, q⟩ := y
      have q : v = .bl true := q
      subst q
      have rv : u = Value.bool true := rv
      subst rv
      refine ⟨rfl, OldK.of_keep fun b o e => ?_, os, bare⟩
      cases q : H b with
      | none => exact un.keep b o e q (fun z => absurd (show b ∈ ([] : List Addr) from z) (by simp)) (by simp)
      | some u =>
        rcases only b with z | ⟨ob, xs, z⟩
        · rw [q] at z
          cases z
        · obtain ⟨e1, _⟩ := ok b _ z
          obtain ⟨e2, _⟩ := ok2 b _ (un.frzs b ob _ z)
          rw [e] at e1
          cases e1
          exact e2
  cases hk : K.lookup a with
  | some o =>
    have e := kin a o hk
    rw [at_a] at e
    cases e
    exact go (fun _ => none) (fun _ => .inl rfl) (.inr ⟨_, vs.toArray, _, hk, rfl, rfl, rfl, by rw [List.size_toArray, nn]; exact le, by simpa using vv⟩) (fun b u z => by have z : (none : Option HO) = some u := z; cases z) (fun b z => absurd rfl z) fun z => absurd rfl z
  | none =>
    let Ha : Hp := fun b => if b = a then some (.frz { cls := .type "list", data := .seq vs.toArray } (.lst (ns.map V.int))) else none
    have at1 : Ha a = some (.frz { cls := .type "list", data := .seq vs.toArray } (.lst (ns.map V.int))) := if_pos rfl
    have at2 : ∀ {b : Addr}, b ≠ a → Ha b = none := fun {b} n => if_neg n
    refine go Ha (fun b => ?_) (.inl (.inr ⟨_, at1⟩)) (fun b u z => ?_) (fun b z => ?_) fun _ => hk
    · by_cases hb : b = a
      · subst hb
        exact .inr ⟨_, _, at1⟩
      · exact .inl (at2 hb)
    · by_cases hb : b = a
      · subst hb
        rw [at1] at z
        cases z
        exact ⟨at_a, by rw [List.length_map]; exact le, vs, _, vv, at_a⟩
      · rw [at2 hb] at z
        cases z
    · by_cases hb : b = a
      · exact hb
      · exact absurd (at2 hb) z
/-- what k_head leaves, from what the law's def computes -/
theorem walkG {l : PySem.W.OpenLaw} {n k : Nat} {q : Program} {loose : List Str} {XP : (Str → Option Value) → Heap → Prop} {YP : World → Heap → Prop} {d : DefRec} {K : Params → PySem.W.Frag} {x : Str}
    (hn : l.most = some n) (hn2 : n ≤ sizeLine) (hdf : d.params.defaults = []) (hr : RoomG k callerA) (hY : ∀ (w : World) (h : Heap), YP w h → (K w.params).In h)
    (fn : ∀ (w : World) (m : Str → Option Value) (f : Addr) (h : Heap), (K w.params).In h → h.Ns mainGlobals m → m d.name = some (.ref f) →
      ∃ fd : FuncData, (∀ (s : Shared) (u : Value), BindsTo s fd ⟨[u], []⟩ [(x, u)]) ∧ ∃ F : List D → M D, (∀ ns : List Int, ns.length ≤ n → (∀ z ∈ ns, Builtin.Int.intBits z ≤ 1048576) → ∃ S, F [.frl (ns.map D.int)] [] = .ok (.bool true) S) ∧
        ∀ base : Heap, (K w.params).In base → base.Ns mainGlobals m → FnG l.prog w (K w.params) m base k f fd [x] (spS ⟨K w.params, m⟩ 1 F)) :
    PySem.W.WalkO q loose XP YP l.row.toRowW d [] (fun f vs => PySem.call f vs) :=
  Att.attach_callB hn hdf fun w s₀ s m mb f o pm cd doc a vs ns G Y ho hd hcd hm hobj hints hlen bits hg => by
    have kin := hY w _ Y
    obtain ⟨fd, hb, F, tr, hF⟩ := fn w m f _ kin G.T.g hm
    exact law_end kin G.T.g G.T.b G.T.builtins G.T.nolimit hg hobj hints (Nat.le_trans hlen hn2) hr hF hb (tr ns hlen bits)
end Sm

set_option Elab.async false
set_option linter.all false
set_option maxRecDepth 100000
set_option maxHeartbeats 2000000
/-! Sm12: for .. in zip(a, b): lists, tuples, texts in any mix. -/
namespace Sm
open PySem PySem.Spec PyProof.Rows L2

theorem vals_back : ∀ {xs : List V} {us : List Value} {i : Nat} {u : Value}, Vals xs us → us[i]? = some u → ∃ x, xs[i]? = some x ∧ RelV x u
  | _, _, _, _, .nil, e => by simp at e
  | _, _, 0, _, .cons r _, e => by
    have e : some _ = some _ := e
    cases e
    exact ⟨_, rfl, r⟩
  | _, _, i + 1, _, .cons _ t, e => vals_back (i := i) t e
theorem sep5 (n : Nat) (l1 l2 : List Nat) (h1 : ∀ a ∈ l1, a < n) (h2 : ∀ a ∈ l2, a < n) : ZipSep2 (n + 4) (n + 2) (n + 3) n (n + 1) (n :: l1) ((n + 1) :: l2) := by
  have m1 : ∀ k : Nat, k ≠ 0 → n + k ∉ n :: l1 := fun k hk z => by
    rcases List.mem_cons.mp z with z | z
    · omega
    · have := h1 _ z
      omega
  have m2 : ∀ k : Nat, k ≠ 1 → n + k ∉ (n + 1) :: l2 := fun k hk z => by
    rcases List.mem_cons.mp z with z | z
    · omega
    · have := h2 _ z
      omega
  exact ⟨show (n : Nat) + 2 ≠ n + 4 by omega, show (n : Nat) + 3 ≠ n + 4 by omega, show (n : Nat) + 2 ≠ n + 3 by omega, show (n : Nat) + 2 ≠ n by omega, List.mem_cons_self, m1 4 (by decide), m1 3 (by decide), show (n : Nat) + 2 ≠ n + 1 by omega, List.mem_cons_self, m2 4 (by decide), m2 3 (by decide), m2 0 (by decide), m1 1 (by decide)⟩
theorem five_le {n c : Nat} (h : c ∈ [n + 4, n + 2, n + 3, n, n + 1]) : n ≤ c := by
  have e : c = n + 4 ∨ c = n + 2 ∨ c = n + 3 ∨ c = n ∨ c = n + 1 := by simpa using h
  omega
/-- a thing that zip reads -/
inductive Sc where
  | lst (a : Addr)
  | tup (a : Addr)
  | txt (x : Str) (t : Tok)
def Sc.it (q : Addr) (i : Nat) (h : Heap) : Sc → Prop
  | .lst a => h.IsListIter q a i
  | .tup a => h.IsTupleIter q a i
  | .txt x t => h.IsStrIter q (strIterType x) x t i
def Sc.ads : Sc → List Addr
  | .lst a => [a]
  | .tup a => [a]
  | .txt _ _ => []
def Sc.v : Sc → V
  | .lst a => .ref a
  | .tup a => .ref a
  | .txt x _ => .str x
/-- of one kind, one thing -/
def Sc.like : Sc → Sc → Prop
  | .lst a, .lst b => a = b
  | .tup a, .tup b => a = b
  | .txt x _, .txt y _ => x = y
  | _, _ => False
def Sc.sq (K : PySem.W.Frag) (H : Hp) : Sc → List V → Prop
  | .lst a, xs => SqL K H a xs
  | .tup a, xs => SqT K H a xs
  | .txt x _, xs => xs = x.cps.toList.map fun c => V.str ⟨#[c]⟩
theorem Sc.like_sq {c d : Sc} {K : PySem.W.Frag} {H : Hp} {xs : List V} (e : c.like d) (h : d.sq K H xs) : c.sq K H xs := by
  cases c <;> cases d <;> first | exact e.elim | (have e : _ = _ := e; subst e; exact h)
theorem Sc.inj {X : Cx} {pins : List (Addr × Obj)} {σ : L2.St} {H : Hp} {s : Shared} (I : Inv X pins σ H s) {sc : Sc} {xs ys : List V} (h : sc.sq X.K H xs) (h' : sc.sq X.K H ys) : xs = ys := by
  cases sc with
  | lst a => exact I.list_inj h h'
  | tup a => exact I.tuple_inj h h'
  | txt x t => exact (show xs = _ from h).trans (show ys = _ from h').symm
theorem Sc.draws {X : Cx} {pins : List (Addr × Obj)} {σ : L2.St} {H : Hp} {s : Shared} {A : Around} (I : Inv X pins σ H s) (hh : A.handled = none) {sc : Sc} {q : Addr} {xs : List V} (h : sc.sq X.K H xs) (ne : ∀ a ∈ sc.ads, a ≠ q) :
    ∃ (P : Nat → Value → Prop) (St : Nat → Heap → Prop), Draws X.prog X.w A q (q :: sc.ads) xs.length P St ∧ (∀ i u, P i u → ∃ x, xs[i]? = some x ∧ RelV x u) ∧ (∀ i, sc.it q i s.heap → St i s.heap) ∧ ∀ i h, St i h → sc.it q i h := by
  cases sc with
  | lst a =>
    obtain ⟨its, rv, p, _⟩ := I.list h
    have hl := rv.length
    have D := Draws.list (prog := X.prog) (w := X.w) (A := A) hh q a (ne a (by simp [Sc.ads])) its.toArray
    rw [show its.toArray.size = xs.length by rw [List.size_toArray]; exact hl.symm] at D
    refine ⟨_, _, D, fun i u hu => ?_, fun i st => ⟨st, p.isList⟩, fun i h st => st.1⟩
    have hu : its[i]? = some u := by simpa using hu
    exact vals_back rv hu
  | tup a =>
    obtain ⟨its, rv, p, _⟩ := I.tuple h
    have hl := rv.length
    have D := Draws.tuple (prog := X.prog) (w := X.w) (A := A) hh q a (ne a (by simp [Sc.ads])) its.toArray
    rw [show its.toArray.size = xs.length by rw [List.size_toArray]; exact hl.symm] at D
    refine ⟨_, _, D, fun i u hu => ?_, fun i st => ⟨st, p⟩, fun i h st => st.1⟩
    have hu : its[i]? = some u := by simpa using hu
    exact vals_back rv hu
  | txt x t =>
    have h : xs = x.cps.toList.map fun c => V.str ⟨#[c]⟩ := h
    subst h
    have D := Draws.text (prog := X.prog) (w := X.w) (A := A) hh q x t
    rw [show x.cps.size = (x.cps.toList.map fun c => V.str ⟨#[c]⟩).length by simp] at D
    refine ⟨_, _, D, fun i u hu => ?_, fun i st => st, fun i h st => st⟩
    obtain ⟨c, t', hc, rfl⟩ := hu
    refine ⟨.str ⟨#[c]⟩, ?_, ⟨_, rfl⟩⟩
    rw [List.getElem?_map]
    have : x.cps.toList[i]? = some c := by simpa using hc
    rw [this]
    rfl
/-- what zip gives, turn by turn -/
def ItQ (K : PySem.W.Frag) (c1 c2 : Sc) : It :=
  ⟨fun i H => ∃ (xs ys : List V) (x y : V), c1.sq K H xs ∧ c2.sq K H ys ∧ xs[i]? = some x ∧ ys[i]? = some y,
    fun i H v H' => ∃ T x y, v = .ref T ∧ H T = none ∧ H' = upd H T (.tup [x, y]) ∧ (∀ xs, c1.sq K H xs → xs[i]? = some x) ∧ ∀ ys, c2.sq K H ys → ys[i]? = some y,
    fun i H => ∃ xs ys : List V, c1.sq K H xs ∧ c2.sq K H ys ∧ i ≤ xs.length ∧ i ≤ ys.length ∧ (i = xs.length ∨ i = ys.length)⟩
theorem lt_of_getS {α : Type} {l : List α} {i : Nat} {x : α} (h : l[i]? = some x) : i < l.length := (List.getElem?_eq_some_iff.mp h).1
theorem turn_zipQ {P : Program} {w : World} {K : PySem.W.Frag} {elts : List Expr} {kk : Nat} {tpos : Pos} {c1 c2 : Sc} {z TI TO i1 i2 : Addr} (Z : ZipSep2 z TI TO i1 i2 (i1 :: c1.ads) (i2 :: c2.ads)) (n1 : ∀ a ∈ c1.ads, a ≠ i1) (n2 : ∀ a ∈ c2.ads, a ≠ i2) :
    Turn P w K (.Tuple elts kk tpos) (ItQ K c1 c2) [z, TI, TO, i1, i2] z (fun i h => IsZip h z TI TO .none ∧ IsTupOf2 h TI (.ref i1) (.ref i2) ∧ (∃ x y, IsTupOf2 h TO x y) ∧ c1.it i1 i h ∧ c2.it i2 i h) := by
  have itObj : ∀ {c : Sc} {q : Addr} {i : Nat} {h : Heap}, c.it q i h → ∃ o vs, h.get? q = some o ∧ o.data = .fields vs := fun {c q i h} st => by
    cases c with
    | lst a =>
      obtain ⟨o, e, _, d⟩ := st
      exact ⟨o, _, e, d⟩
    | tup a =>
      obtain ⟨o, e, _, d⟩ := st
      exact ⟨o, _, e, d⟩
    | txt x t =>
      obtain ⟨o, e, _, d⟩ := st
      exact ⟨o, _, e, d⟩
  have itKeep : ∀ {c : Sc} {q : Addr} {i : Nat} {h h' : Heap}, c.it q i h → (∀ o, h.get? q = some o → h'.get? q = some o) → c.it q i h' := fun {c q i h h'} st k => by
    cases c with
    | lst a =>
      obtain ⟨o, e, r⟩ := st
      exact ⟨o, k o e, r⟩
    | tup a =>
      obtain ⟨o, e, r⟩ := st
      exact ⟨o, k o e, r⟩
    | txt x t =>
      obtain ⟨o, e, r⟩ := st
      exact ⟨o, k o e, r⟩
  have five : ∀ {c : Addr}, c ∈ [z, TI, TO, i1, i2] → c = z ∨ c = TI ∨ c = TO ∨ c = i1 ∨ c = i2 := fun {c} hc => by simpa using hc
  have zi1 : z ≠ i1 := Z.zi1
  have zi2 : z ≠ i2 := Z.zi2
  exact {
    mem := by simp
    obj := fun i h st c hc => by
      obtain ⟨hz, hTI, ⟨x, y, hTO⟩, s1, s2⟩ := st
      rcases five hc with q | q | q | q | q
      · rw [q]
        exact ⟨_, hz, fun v r => nomatch r⟩
      · rw [q]
        exact ⟨_, hTI, fun v r => nomatch r⟩
      · rw [q]
        exact ⟨_, hTO, fun v r => nomatch r⟩
      · obtain ⟨o, vs, e, d⟩ := itObj s1
        exact ⟨o, by rw [q]; exact e, fun v r => by rw [d] at r; cases r⟩
      · obtain ⟨o, vs, e, d⟩ := itObj s2
        exact ⟨o, by rw [q]; exact e, fun v r => by rw [d] at r; cases r⟩
    keep := fun i h h' st k => by
      obtain ⟨hz, hTI, ⟨x, y, hTO⟩, s1, s2⟩ := st
      exact ⟨k z (by simp) _ hz, k TI (by simp) _ hTI, ⟨x, y, k TO (by simp) _ hTO⟩, itKeep s1 fun o q => k i1 (by simp) o q, itKeep s2 fun o q => k i2 (by simp) o q⟩
    item := by
      intro X hP hw hK hc i pins s σ H E I hf st hg
      subst hP hw hK
      obtain ⟨hz, hTI, ⟨x0, y0, hTO⟩, s1, s2⟩ := st
      obtain ⟨xs, ys, x, y, q1, q2, hx, hy⟩ := hg
      have hh : X.A.in1.handled = none := I.ok.hd hc
      obtain ⟨P1, St1, D1, v1, a1, b1⟩ := Sc.draws I hh (q := i1) q1 n1
      obtain ⟨P2, St2, D2, v2, a2, b2⟩ := Sc.draws I hh (q := i2) q2 n2
      refine wpAny_pyNext_zipD2_item Z D1 D2 hz hTI hTO (a1 i s1) (a2 i s2) (lt_of_getS hx) (lt_of_getS hy) fun u1 u2 h' tk y1 y2 z' TO' t1 t2 hT hsz hk => ?_
      obtain ⟨x', hx', r1⟩ := v1 i u1 y1
      obtain ⟨y', hy', r2⟩ := v2 i u2 y2
      refine ⟨_, rfl, wpAny_letOwnedTupleGo_zip (s := { s with heap := h', toks := tk }) z' fun h'' z'' sb => ?_⟩
      have zlt : z < s.heap.objs.size := Heap.lt_size hz
      have ov : ∀ c, c ≠ z → ∀ o, h'.get? c = some o → h''.get? c = some o := fun c n o e => (sb.2 c n).trans e
      have hT2 := ov _ (Nat.ne_of_gt zlt) _ hT
      have new : ObjOk X.prog X.w (upd H s.heap.objs.size (.tup [x', y'])) h'' s.heap.objs.size (.tup [x', y']) := ⟨by show 2 ≤ sizeLine; decide, [u1, u2], .cons r1 (.cons r2 .nil), ⟨_, hT2, rfl, _, rfl⟩⟩
      have I1 : Inv X pins σ (upd H s.heap.objs.size (.tup [x', y'])) { s with heap := h'', toks := tk } :=
        I.turnedNew (t' := tk) (ch := [z, TI, TO, i1, i2]) (fun c o hb q => ov c (fun q' => hb (by simp [q'])) o (hk c o (fun q' => hb (by simp [q'])) (fun q' => hb (by simp [q'])) (fun q' => hb (by simp [q'])) (fun q' => hb (by simp [q'])) q)) hf (Nat.le_refl _) new
      refine ⟨.ref s.heap.objs.size, _, I1, rfl, ⟨_, x', y', rfl, I.hok.fresh (Nat.le_refl _), rfl, fun l hl => by rw [Sc.inj I hl q1]; exact hx', fun l hl => by rw [Sc.inj I hl q2]; exact hy'⟩, ⟨z'', ?_, ⟨u1, u2, ?_⟩, ?_, ?_⟩, fun c hcm => ?_⟩
      · exact ov _ Z.TIz _ (hk _ _ Z.TIz Z.TITO Z.TIi1 Z.TIi2 hTI)
      · exact ov _ Z.TOz _ TO'
      · exact itKeep (b1 _ _ t1) fun o q => ov _ zi1.symm o q
      · exact itKeep (b2 _ _ t2) fun o q => ov _ zi2.symm o q
      · have lt : c < s.heap.objs.size := by
          rcases five hcm with q | q | q | q | q
          · rw [q]; exact zlt
          · rw [q]; exact Heap.lt_size hTI
          · rw [q]; exact Heap.lt_size hTO
          · rw [q]; obtain ⟨_, _, e, _⟩ := itObj s1; exact Heap.lt_size e
          · rw [q]; obtain ⟨_, _, e, _⟩ := itObj s2; exact Heap.lt_size e
        rw [upd_ne (Nat.ne_of_lt lt)]
        exact (hf c hcm).1
    done := by
      intro X hP hw hK hc i pins s σ H E I hf st hg
      subst hP hw hK
      obtain ⟨hz, hTI, ⟨x0, y0, hTO⟩, s1, s2⟩ := st
      obtain ⟨xs, ys, q1, q2, l1, l2, hend⟩ := hg
      have hh : X.A.in1.handled = none := I.ok.hd hc
      obtain ⟨P1, St1, D1, v1, a1, b1⟩ := Sc.draws I hh (q := i1) q1 n1
      obtain ⟨P2, St2, D2, v2, a2, b2⟩ := Sc.draws I hh (q := i2) q2 n2
      exact wpAny_pyNext_zipD2_end Z D1 D2 hz hTI hTO (a1 i s1) (a2 i s2) l1 l2 hend fun h' tk hk => ⟨rfl, I.turnedL (t' := tk) (ch := [z, TI, TO, i1, i2]) (fun c o hb q =>
        hk c o (fun q' => hb (by simp [q'])) (fun q' => hb (by simp [q'])) (fun q' => hb (by simp [q'])) (fun q' => hb (by simp [q'])) q) hf⟩
    self := fun A i s Q E st h => wpAny_pyIter_zip st.1 h }
theorem Sc.begins {X : Cx} {pins : List (Addr × Obj)} {σ : L2.St} {H : Hp} {s : Shared} (I : Inv X pins σ H s) {sc : Sc} {u : Value} {xs : List V} (h : sc.sq X.K H xs) (r : RelV sc.v u) :
    ∃ (sc' : Sc) (o : Obj) (B : Heap → Prop), sc'.like sc ∧ Begins u o B ∧ B s.heap ∧ (∀ q h, h.get? q = some o → sc'.it q 0 h) ∧ ∀ a ∈ sc'.ads, a < s.heap.objs.size := by
  cases sc with
  | lst a =>
    obtain ⟨its, rv, p, _⟩ := I.list h
    cases r
    exact ⟨.lst a, _, _, rfl, begins_list a its.toArray, p.isList, fun q h e => ⟨_, e, rfl, rfl⟩, fun b hb => by
      have e : b = a := by simpa [Sc.ads] using hb
      rw [e]
      exact p.lt⟩
  | tup a =>
    obtain ⟨its, rv, p, _⟩ := I.tuple h
    cases r
    have p' : s.heap.IsTuple a its.toArray := p
    obtain ⟨o, ho, _⟩ := id p'
    exact ⟨.tup a, _, _, rfl, begins_tuple a its.toArray, p', fun q h e => ⟨_, e, rfl, rfl⟩, fun b hb => by
      have e : b = a := by simpa [Sc.ads] using hb
      rw [e]
      exact Heap.lt_size ho⟩
  | txt x t =>
    obtain ⟨t', rfl⟩ := r
    exact ⟨.txt x t', _, _, rfl, begins_text x t', trivial, fun q h e => ⟨_, e, rfl, rfl⟩, fun b hb => by simp [Sc.ads] at hb⟩
def iZipQ (K : PySem.W.Frag) (ta : TA) : TI := fun σ H R => ta σ H fun vs H1 => ∃ (d1 d2 : Sc) (xs ys : List V), vs = [d1.v, d2.v] ∧ d1.sq K H1 xs ∧ d2.sq K H1 ys ∧ ∀ c1 c2 : Sc, c1.like d1 → c2.like d2 → R (ItQ K c1 c2) H1
theorem pi_zipQ {X : Cx} {e e2 : Expr} {ta : TA} {p pos tpos : Pos} {elts : List Expr} {kk : Nat} (hg : Gl X "zip") (hm : X.mg "zip" = none) (ha : PA X [e, e2] ta)
    (hs : starEach [e, e2] X.env = (false, eval e X.env) :: starEach [e2] X.env := by rfl) (hpl : (backTo pos (starEach [e2] X.env)).any (·.1) = false := by rfl) :
    PI X (.Tuple elts kk tpos) (.Call (.Name "zip" p) [e, e2] [] pos) (iZipQ X.K ta) := ⟨fun pins s σ H R I h => by
  refine Call_ (ld_blt I hg hm PyProof.Rows.boot_zip (PyProof.Rows.callWith_type1 (thn (ha.run pos pins s σ H _ I h) fun us s1 ⟨vs, H1, I1, r1, q⟩ => ?_) hs hpl))
  obtain ⟨d1, d2, xs, ys, ex, q1, q2, fin⟩ := q
  subst ex
  cases r1 with
  | cons r1 rr =>
    cases rr with
    | cons r2 rr =>
      cases rr
      obtain ⟨c1, o1, B1, e1, g1, w1, t1, l1⟩ := Sc.begins I1 q1 r1
      obtain ⟨c2, o2, B2, e2, g2, w2, t2, l2⟩ := Sc.begins I1 q2 r2
      refine zip_begins2 g1 g2 w1 w2 fun h' hz hTI hTO h1 h2 hsz hk => wpAny_pyIter_zip hz ?_
      have I2 : Inv X pins σ H1 { s1 with heap := h' } := I1.kept (t' := s1.toks) hk
      have big : ∀ {n : Nat}, (∀ a ∈ c1.ads, a ≠ s1.heap.objs.size + n) ∧ ∀ a ∈ c2.ads, a ≠ s1.heap.objs.size + n := fun {n} => ⟨fun a h => Nat.ne_of_lt (Nat.lt_of_lt_of_le (l1 a h) (Nat.le_add_right _ _)), fun a h => Nat.ne_of_lt (Nat.lt_of_lt_of_le (l2 a h) (Nat.le_add_right _ _))⟩
      exact ⟨s1.heap.objs.size + 4, [s1.heap.objs.size + 4, s1.heap.objs.size + 2, s1.heap.objs.size + 3, s1.heap.objs.size, s1.heap.objs.size + 1], _, _, H1, rfl, I2, turn_zipQ (c1 := c1) (c2 := c2) (sep5 _ _ _ l1 l2) (big (n := 0)).1 (big (n := 1)).2, ⟨hz, hTI, ⟨_, _, hTO⟩, t1 _ _ h1, t2 _ _ h2⟩, fun c hc => I1.fpOk (five_le hc) (I1.hok.fresh (five_le hc)), fin c1 c2 e1 e2⟩⟩

/-! ### the rule -/
section
variable {X : Cx} {W : WX} {mb : MS} {pos p tpos pos' : Pos} {body : List Stmt}
def zipD (xs ys : List D) : List D := List.zipWith (fun x y => D.tup [x, y]) xs ys
theorem zipD_get {xs ys : List D} {i : Nat} {x y : D} (h1 : xs[i]? = some x) (h2 : ys[i]? = some y) : (zipD xs ys)[i]? = some (.tup [x, y]) := by
  unfold zipD
  rw [List.getElem?_zipWith, h1, h2]
def forZ (f : D → Env → Option Env) (mb : MS) (ma : Env → M (List D)) : MS := bindS ma fun ds env S => match ds with
  | [d1, d2] => (match asIter d1, asIter d2 with
    | some xs, some ys => forS f mb (zipD xs ys) env S
    | _, _ => .stuck)
  | _ => .stuck
theorem iter_sc {g : Gd} {R : Hp} {ι : List Addr} {v : V} {d : D} {xs : List D} (h : Dv g R ι v d) (e : asIter d = some xs) : ∃ (sc : Sc) (vs : List V), sc.v = v ∧ sc.sq g.K R vs ∧ DvAll g R ι vs xs := by
  cases d with
  | list ys =>
    cases e
    cases h with
    | lst h t => exact ⟨.lst _, _, rfl, SqL.of h, t⟩
  | frl ys =>
    cases e
    cases h with
    | frl h t => exact ⟨.lst _, _, rfl, h, t⟩
  | tup ys =>
    cases e
    cases h with
    | tup h t => exact ⟨.tup _, _, rfl, h, t⟩
  | str x =>
    cases e
    cases h
    refine ⟨.txt x 0, _, rfl, rfl, ?_⟩
    unfold signs
    induction x.cps.toList with
    | nil => exact .nil
    | cons c cs ih => exact .cons .str ih
  | _ => cases e
theorem Sc.sub {K : PySem.W.Frag} {H H' : Hp} (hr : ∀ a o, H a = some o → H' a = some o) {sc : Sc} {xs : List V} (h : sc.sq K H xs) : sc.sq K H' xs := by
  cases sc with
  | lst a => exact sqL_sub hr h
  | tup a => exact sqT_sub hr h
  | txt x t => exact h
/-- a turn, whatever its item -/
theorem for_stepR {is : List Nat} {f : D → Env → Option Env} {t : TG} {ds : List D} {E : Ends} {R0 H0 R H : Hp} {ι0 ι : List Addr} {S0 S : Sto} {σ0 σ : L2.St} {env0 env : Env} {i : Nat} {v : V} {d : D}
    (ht : ∀ R H ι S σ env v d env' (Q : L2.St → Hp → Prop), Rep (Cx.g X) R H ι S → RepE (Cx.g X) R H ι S σ env → Dv (Cx.g X) R ι v d → f d env = some env' → (∀ σ', RepE (Cx.g X) R H ι S σ' env' → ExtS R H ι S σ env R H ι S σ' env' → (∀ vs, (∀ i ∈ is, i ∈ vs) → wipe σ' vs = wipe σ vs) → Q σ' H) → t v σ H Q)
    (hd : ds[i]? = some d) (rep : Rep (Cx.g X) R H ι S) (repE : RepE (Cx.g X) R H ι S σ env) (hv : Dv (Cx.g X) R ι v d) (x : ExtS R0 H0 ι0 S0 σ0 env0 R H ι S σ env) (post : PostS (Cx.g X) W R H ι S σ env (forS f mb (ds.drop i) env S) E) :
    t v σ H fun σ2 H2 => tS (Cx.g X) W mb { E with nx := ForI (Cx.g X) W f mb ds E R0 H0 ι0 S0 σ0 env0 (i + 1), ct := ForI (Cx.g X) W f mb ds E R0 H0 ι0 S0 σ0 env0 (i + 1), bk := E.nx } σ2 H2 := by
  have e0 : ds.drop i = d :: ds.drop (i + 1) := by
    rw [List.drop_eq_getElem_cons (lt_of_getS hd)]
    rw [(List.getElem?_eq_some_iff.mp hd).2]
  rw [e0] at post
  cases e : f d env with
  | none =>
    rw [forS] at post
    simp only [e] at post
    exact post.elim
  | some env1 =>
    refine ht R H ι S σ env v d env1 _ rep repE hv e fun σ' r y _ => ?_
    exact ⟨R, ι, S, env1, rep, r, for_turn e (x.trans y) (fun σ' R' ι' H' env' S' r1 r2 z w => ⟨R', ι', S', env', r1, r2, z, w⟩) (PostS.shift y post)⟩
theorem ss_forZ {elts : List Expr} {kk : Nat} {e e2 : Expr} {is : List Nat} {f : D → Env → Option Env} {ma : Env → M (List D)} (hp : PassesOwn (model X.prog X.w) X.A X.env X.xe) (hc : X.calm = true) (ht : TgM X (.Tuple elts kk tpos) is f) (hg : Gl X "zip") (hm : X.mg "zip" = none) (ha : SA X W [e, e2] ma) (hb : SSs X W body mb)
    (hs : ∀ x, foldedSetIterable (.Call (.Name "zip" p) [e, e2] [] pos') X.env x = pure x := by intro _; rfl) (hs1 : starEach [e, e2] X.env = (false, eval e X.env) :: starEach [e2] X.env := by rfl) (hpl : (backTo pos' (starEach [e2] X.env)).any (·.1) = false := by rfl) :
    SS X W (.For (.Tuple elts kk tpos) (.Call (.Name "zip" p) [e, e2] [] pos') body [] pos) (forZ f mb ma) := by
  obtain ⟨t, h1, h2⟩ := ht.ex
  refine PS.imp (ps_for hp hc (pi_zipQ hg hm ha hs1 hpl) h1 hb hs) fun E σ H ⟨R, ι, S, env, rep, repE, post⟩ => ?_
  refine tG_stm rep repE post fun R1 H1 ι1 S1 vs ds rep1 repE1 x1 b1 post1 => ?_
  have b1 : DvAll (Cx.g X) R1 ι1 vs ds := b1
  match ds, b1, post1 with
  | [], _, p => exact p.elim
  | [_], _, p => exact p.elim
  | _ :: _ :: _ :: _, _, p => exact p.elim
  | [d1, d2], .cons (v := v1) hv1 (.cons (v := v2) hv2 .nil), post1 =>
    cases e1 : asIter d1 with
    | none =>
      simp only [e1] at post1
      exact post1.elim
    | some xs =>
      cases e2 : asIter d2 with
      | none =>
        simp only [e1, e2] at post1
        exact post1.elim
      | some ys =>
        simp only [e1, e2] at post1
        obtain ⟨s1, us, w1, q1, t1⟩ := iter_sc hv1 e1
        obtain ⟨s2, ws, w2, q2, t2⟩ := iter_sc hv2 e2
        refine ⟨s1, s2, us, ws, by rw [w1, w2], Sc.sub rep1.sub q1, Sc.sub rep1.sub q2, fun c1 c2 y1 y2 => ?_⟩
        have l1 := t1.len
        have l2 := t2.len
        have hn : (zipD xs ys).length = min us.length ws.length := by
          unfold zipD
          rw [List.length_zipWith, l1, l2]
        refine ⟨fun i m σ' H' => m = (zipD xs ys).length - i ∧ i ≤ (zipD xs ys).length ∧ ForI (Cx.g X) W f mb (zipD xs ys) E R1 H1 ι1 S1 σ env i σ' H', ⟨_, rfl, Nat.zero_le _, R1, ι1, S1, env, rep1, repE1, Ext.refl, post1⟩, fun i m σ' H' ⟨em, hi, R', ι', S', env', r1, r2, x, post⟩ => ?_⟩
        have k1 : c1.sq X.K H' us := Sc.sub r1.sub (Sc.sub x.rsub (Sc.like_sq y1 q1))
        have k2 : c2.sq X.K H' ws := Sc.sub r1.sub (Sc.sub x.rsub (Sc.like_sq y2 q2))
        by_cases hlt : i < (zipD xs ys).length
        · have g1 : us[i]? = some (us[i]'(by omega)) := List.getElem?_eq_getElem _
          have g2 : ws[i]? = some (ws[i]'(by omega)) := List.getElem?_eq_getElem _
          obtain ⟨dx, hx, vx⟩ := t1.get' g1
          obtain ⟨dy, hy, vy⟩ := t2.get' g2
          refine .inr ⟨⟨us, ws, _, _, k1, k2, g1, g2⟩, ForI (Cx.g X) W f mb (zipD xs ys) E R1 H1 ι1 S1 σ env (i + 1), fun σ2 H2 p2 => ⟨(zipD xs ys).length - (i + 1), by omega, rfl, hlt, p2⟩, fun v H2 yy => ?_⟩
          obtain ⟨T, x', y', rfl, nT, rfl, f1, f2⟩ := yy
          have ex := Option.some.inj ((f1 _ k1).symm.trans g1)
          have ey := Option.some.inj ((f2 _ k2).symm.trans g2)
          subst ex
          subst ey
          have nw : ExtS R' H' ι' S' σ' env' (upd R' T (.tup [us[i]'(by omega), ws[i]'(by omega)])) (upd H' T (.tup [us[i]'(by omega), ws[i]'(by omega)])) ι' S' σ' env' := Ext.stm (Ext.newR r1 nT)
          have m1 := (vx.mono x.rsub x.pre).mono nw.rsub nw.pre
          have m2 := (vy.mono x.rsub x.pre).mono nw.rsub nw.pre
          exact for_stepR h2 (zipD_get hx hy) (r1.newR nT) (r2.ext (Ext.newR r1 nT)) (.tup (SqT.of upd_same) (.cons m1 (.cons m2 .nil))) (x.trans nw) (PostS.shift nw post)
        · have ei : i = (zipD xs ys).length := by omega
          exact .inl ⟨⟨us, ws, k1, k2, by omega, by omega, by omega⟩, for_end (n := i) ei.symm ⟨R', ι', S', env', r1, r2, x, post⟩⟩
end
end Sm

set_option Elab.async false
set_option linter.all false
set_option maxRecDepth 100000
set_option maxHeartbeats 2000000
/-! Sm13: what the printed terms use. -/
namespace Sm
open PySem PySem.Spec PyProof.Rows L2

/-! ### a module's constants -/
/-- x is this value, for ever -/
def GC (K : PySem.W.Frag) (mg : Str → Option Value) (x : Str) (d : D) : Prop := ∃ u v, mg x = some u ∧ RelV v u ∧ ∀ R ι, Dv ⟨K, mg⟩ R ι v d
section
variable {X : Cx} {W : WX} {bw : Bool} {x : Str} {pos : Pos} {d : D} {k : Nat}
theorem se_gc (hg : Gl X x) (h : GC X.K X.mg x d) (hdb : (x == ("__debug__" : Str)) = false := by decide) : SE X W bw (.Name x pos) (fun _ => pure d) := by
  obtain ⟨u, v, h1, h2, h3⟩ := h
  exact se_const (pe_glob hg h1 h2 hdb) fun R ι => h3 R ι
theorem hu1 {A : Around} (hr : RoomG k A) : A.units + 1 < cLine := by
  have := hr.room.un
  omega
theorem hu64 {A : Around} (hr : RoomG k A) : A.units + 64 < cLine := by
  have := hr.room.un
  omega
theorem hu100 {A : Around} (hr : RoomG k A) : A.units + 100 < cLine := by
  have := hr.room.un
  omega
/-- in a block no exception is let out -/
theorem tk0 : Takes X W0 := fun u s' ⟨_, _, _, _, _, _, _, _, _, _, _, _, _, _, _, _, w⟩ => w.elim

/-! ### blocks -/
variable {scope : Scope} {own : List (Str × Nat)} {tg elt : Expr} {ifs : List Expr} {tm : Env → M Bool} {em : Env → M D} {i : Nat} {is : List Nat}
theorem blkN (ok : BlkOk X.N X.env.scope scope own) (sub : ∀ j ∈ [i], j ∈ own.map (·.2))
    (h : ∀ (s : Shared) (H : Hp) (C : Addr) (cl : List (Str × Addr)) (fp : List Addr), PG (X.blk s H scope (compEnvC scope cl C X.env) fp) tg (gName i))
    (hi : ∀ (s : Shared) (H : Hp) (C : Addr) (cl : List (Str × Addr)) (fp : List Addr), PTs (X.blk s H scope (compEnvC scope cl C X.env) fp) ifs (tG (Cx.g X) W0 relT tm))
    (he : ∀ (s : Shared) (H : Hp) (C : Addr) (cl : List (Str × Addr)) (fp : List Addr), SE (X.blk s H scope (compEnvC scope cl C X.env) fp) W0 false elt em) : BlkM X scope own tg ifs elt [i] (tgN i) tm em :=
  ⟨ok, sub, ⟨_, h, fun R H ι S σ env v d env' Q rep repE hv e q => by
    cases e
    exact q _ (repE.setV hv) Ext.setV fun vs hi => wipe_set (hi i (by simp))⟩, hi, he⟩
theorem blkT (ok : BlkOk X.N X.env.scope scope own) (sub : ∀ j ∈ is, j ∈ own.map (·.2))
    (h : ∀ (s : Shared) (H : Hp) (C : Addr) (cl : List (Str × Addr)) (fp : List Addr), PG (X.blk s H scope (compEnvC scope cl C X.env) fp) tg (gTup X.K is.length (gNames is)))
    (hi : ∀ (s : Shared) (H : Hp) (C : Addr) (cl : List (Str × Addr)) (fp : List Addr), PTs (X.blk s H scope (compEnvC scope cl C X.env) fp) ifs (tG (Cx.g X) W0 relT tm))
    (he : ∀ (s : Shared) (H : Hp) (C : Addr) (cl : List (Str × Addr)) (fp : List Addr), SE (X.blk s H scope (compEnvC scope cl C X.env) fp) W0 false elt em) : BlkM X scope own tg ifs elt is (tgT is) tm em :=
  ⟨ok, sub, ⟨_, h, fun R H ι S σ env v d env' Q rep repE hv e q => by
    unfold tgT at e
    cases d with
    | tup xs =>
      cases hv with
      | tup h t =>
        have e : tgs is xs env = some env' := e
        exact ⟨_, _, rfl, sqT_sub rep.sub h, by rw [t.len, tgs_len e], tgs_ok repE t e q⟩
    | _ => cases e⟩, hi, he⟩
theorem pts1 {c : Expr} (h : STt X W0 c tm) : PTs X [c] (tG (Cx.g X) W0 relT tm) := pts_one h
end

/-! ### targets of any form; x[i] = .. -/
section
variable {X : Cx} {W : WX} {tg e : Expr} {is : List Nat} {f : D → Env → Option Env} {me : Env → M D} {pos : Pos}
def setT (f : D → Env → Option Env) (me : Env → M D) : MS := bindS me fun d env S => match f d env with
  | some env' => .nx env' S
  | none => .stuck
theorem ss_asgT (ht : TgM X tg is f) (he : SE X W false e me) (hs : swapsWithSole [tg] e pos.line X.env = pure false := by rfl) (hw : swappedStores [tg] e X.env = pure none := by rfl)
    (h1 : (assignEach [tg] X.env).map (·.2) = [assign tg X.env] := by rfl) : SS X W (.Assign [tg] e pos) (setT f me) := by
  obtain ⟨t, h2, h3⟩ := ht.ex
  refine PS.imp (ps_asg he h2 hs hw h1) fun E σ H ⟨R, ι, S, env, rep, repE, post⟩ => ?_
  refine tG_stm rep repE post fun R1 H1 ι1 S1 v d rep1 repE1 x1 b1 post1 => ?_
  cases q : f d env with
  | none =>
    simp only [q] at post1
    exact post1.elim
  | some env' =>
    simp only [q] at post1
    exact h3 R1 H1 ι1 S1 σ env v d env' _ rep1 repE1 b1 q fun σ' r x _ => post1 σ' R1 ι1 H1 rep1 r x
def setI' (i : Nat) (me mi : Env → M D) : MS := fun env S => match env[i]? with
  | some (.own _) => setI i me mi env S
  | _ => .stuck
end

/-! ### built-ins -/
theorem bt_isinstance : bootBuiltins ("isinstance" : Str) = some (.builtin "isinstance") := by kernel_rfl
theorem bt_len : bootBuiltins ("len" : Str) = some (.builtin "len") := by kernel_rfl
theorem bt_all : bootBuiltins ("all" : Str) = some (.builtin "all") := by kernel_rfl
theorem bt_any : bootBuiltins ("any" : Str) = some (.builtin "any") := by kernel_rfl
theorem bt_sum : bootBuiltins ("sum" : Str) = some (.builtin "sum") := by kernel_rfl
theorem bt_abs : bootBuiltins ("abs" : Str) = some (.builtin "abs") := by kernel_rfl
theorem bt_max : bootBuiltins ("max" : Str) = some (.builtin "max") := by kernel_rfl
theorem bt_min : bootBuiltins ("min" : Str) = some (.builtin "min") := by kernel_rfl
theorem bt_repr : bootBuiltins ("repr" : Str) = some (.builtin "repr") := by kernel_rfl
theorem bt_sorted : bootBuiltins ("sorted" : Str) = some (.builtin "sorted") := by kernel_rfl
theorem bt_int : bootBuiltins ("int" : Str) = some (.type "int") := by kernel_rfl
theorem bt_bool : bootBuiltins ("bool" : Str) = some (.type "bool") := by kernel_rfl
theorem bt_str : bootBuiltins ("str" : Str) = some (.type "str") := by kernel_rfl
theorem bt_list : bootBuiltins ("list" : Str) = some (.type "list") := by kernel_rfl
theorem bt_tuple : bootBuiltins ("tuple" : Str) = some (.type "tuple") := by kernel_rfl
theorem bt_dict : bootBuiltins ("dict" : Str) = some (.type "dict") := by kernel_rfl

/-! ### constants that the top has written -/
def absD : Value → Option (V × D)
  | .none => some (.non, .none)
  | .bool b => some (.bl b, .bool b)
  | .int i _ => some (.int i, .int i)
  | .str x _ => some (.str x, .str x)
  | _ => none
def absDs : List Value → Option (List V × List D)
  | [] => some ([], [])
  | u :: us => match absD u, absDs us with
    | some (v, d), some (vs, ds) => some (v :: vs, d :: ds)
    | _, _ => none
theorem absD_ok {g : Gd} {R : Hp} {ι : List Addr} {u : Value} {v : V} {d : D} (h : absD u = some (v, d)) : RelV v u ∧ Dv g R ι v d := by
  cases u <;> first
    | (cases h; done)
    | (cases h; exact ⟨rfl, by constructor⟩)
    | (cases h; exact ⟨⟨_, rfl⟩, by constructor⟩)
theorem absDs_ok {g : Gd} {R : Hp} {ι : List Addr} : ∀ {us : List Value} {vs : List V} {ds : List D}, absDs us = some (vs, ds) → Vals vs us ∧ DvAll g R ι vs ds
  | [], _, _, h => by
    cases h
    exact ⟨.nil, .nil⟩
  | u :: us, vs, ds, h => by
    unfold absDs at h
    cases e1 : absD u with
    | none =>
      simp only [e1] at h
      cases h
    | some p =>
      obtain ⟨v, d⟩ := p
      cases e2 : absDs us with
      | none =>
        simp only [e1, e2] at h
        cases h
      | some q =>
        obtain ⟨vs', ds'⟩ := q
        simp only [e1, e2] at h
        cases h
        obtain ⟨a1, a2⟩ := absD_ok (g := g) (R := R) (ι := ι) e1
        obtain ⟨b1, b2⟩ := absDs_ok (g := g) (R := R) (ι := ι) e2
        exact ⟨.cons a1 b1, .cons a2 b2⟩
theorem gc_val {K : PySem.W.Frag} {h : Heap} {mg : Str → Option Value} {x : Str} {u : Value} {v : V} {d : D} (Y : K.In h) (G : h.Ns mainGlobals mg) (a : PySem.W.nsIn K mainGlobals x = some (some u)) (e : absD u = some (v, d)) : GC K mg x d :=
  ⟨u, v, PySem.W.mg_of Y G a, (absD_ok (g := ⟨K, mg⟩) (R := fun _ => none) (ι := []) e).1, fun _ _ => (absD_ok e).2⟩
theorem gc_tup {K : PySem.W.Frag} {h : Heap} {mg : Str → Option Value} {x : Str} {p : Addr} {od : Option Addr} {its : Array Value} {n : Nat} {sl : Array (Option Value)} {vs : List V} {ds : List D} (Y : K.In h) (G : h.Ns mainGlobals mg) (a : PySem.W.nsIn K mainGlobals x = some (some (.ref p)))
    (l : K.lookup p = some ⟨.type "tuple", od, .seq its n, sl⟩) (e : absDs its.toList = some (vs, ds)) (hz : its.size ≤ sizeLine := by decide) : GC K mg x (.tup ds) :=
  ⟨.ref p, .ref p, PySem.W.mg_of Y G a, rfl, fun R ι => .tup (.inr ⟨_, its, n, l, rfl, rfl, hz, (absDs_ok (g := ⟨K, mg⟩) (R := R) (ι := ι) e).1⟩) (absDs_ok e).2⟩
/-- a def of the module, as the top has left it -/
def DefAt (K : PySem.W.Frag) (mg : Str → Option Value) (x : Str) (st : Stmt) : Prop := ∃ (f : Addr) (fd : FuncData), Fun K x x st f fd ∧ mg x = some (.ref f)
theorem at_mk {K : PySem.W.Frag} {h : Heap} {mg : Str → Option Value} {x : Str} {st : Stmt} {f : Addr} {oc : Value} {od an : Option Addr} {sl : Array (Option Value)} {kV dc pm cd ct : Value} (Y : K.In h) (G : h.Ns mainGlobals mg) (a : PySem.W.nsIn K mainGlobals x = some (some (.ref f)))
    (l : K.lookup f = some ⟨oc, od, .func (PySem.W.fnOf x x (defArgs st) (defBody st) (defScope st) .none kV dc pm an cd ct), sl⟩) (c : PySem.W.codeIn K cd x = true) (k : PySem.W.keepIn K (.ref f) = true) : DefAt K mg x st :=
  ⟨f, _, fun_mk l c k, PySem.W.mg_of Y G a⟩
end Sm

set_option Elab.async false
set_option linter.all false
set_option maxRecDepth 100000
set_option maxHeartbeats 2000000
/-! Sm14: reasoning about what the printed functions compute: no program in sight. -/
namespace Sm
open PySem L2

section
variable {α β : Type}
def Sat (o : Out α) (Q : α → Sto → Prop) (X : Exn → Sto → Prop) : Prop := match o with
  | .ok a S => Q a S
  | .exc e S => X e S
  | .stuck => False
/-- how a block may end -/
structure PQ where
  nx : Env → Sto → Prop
  rt : D → Sto → Prop
  bk : Env → Sto → Prop := fun _ _ => False
  ct : Env → Sto → Prop := fun _ _ => False
  ex : Exn → Env → Sto → Prop := fun _ _ _ => False
def SatS (o : OutS) (q : PQ) : Prop := match o with
  | .nx e S => q.nx e S
  | .brk e S => q.bk e S
  | .ct e S => q.ct e S
  | .rt d S => q.rt d S
  | .exc z e S => q.ex z e S
  | .stuck => False
abbrev noX : Exn → Sto → Prop := fun _ _ => False
variable {S : Sto} {Q Q' : α → Sto → Prop} {X X' : Exn → Sto → Prop} {a : α} {o : Out α}
theorem Sat.mono (h : Sat o Q X) (hq : ∀ a S, Q a S → Q' a S) (hx : ∀ e S, X e S → X' e S) : Sat o Q' X' := by
  cases o with
  | ok a S => exact hq _ _ h
  | exc e S => exact hx _ _ h
  | stuck => exact h.elim
/-- behind a part that lets no exception out -/
theorem Sat.to (h : Sat o Q noX) (hq : ∀ a S, Q a S → Q' a S) : Sat o Q' X := h.mono hq fun _ _ z => z.elim
theorem sat_ok (h : o = .ok a S) (q : Q a S) : Sat o Q X := by
  rw [h]
  exact q
theorem Sat.get (h : Sat o Q noX) : ∃ a S, o = .ok a S ∧ Q a S := by
  cases o with
  | ok a S => exact ⟨a, S, rfl, h⟩
  | exc e S => exact h.elim
  | stuck => exact h.elim
theorem sat_bind {m : M β} {k : β → M α} (h : Sat (m S) (fun b S' => Sat (k b S') Q X) X) : Sat ((m >>= k) S) Q X := by
  show Sat (Mbind m k S) Q X
  unfold Mbind
  cases e : m S with
  | ok b S' =>
    rw [e] at h
    exact h
  | exc z S' =>
    rw [e] at h
    exact h
  | stuck =>
    rw [e] at h
    exact h.elim
theorem sat_pure (q : Q a S) : Sat ((pure a : M α) S) Q X := q
theorem sat_ite {b : Bool} {m n : M α} (h1 : b = true → Sat (m S) Q X) (h2 : b = false → Sat (n S) Q X) : Sat ((if b = true then m else n) S) Q X := by
  cases b with
  | true => exact h1 rfl
  | false => exact h2 rfl
theorem sat_iteD {p : Prop} [Decidable p] {m n : M α} (h1 : p → Sat (m S) Q X) (h2 : ¬p → Sat (n S) Q X) : Sat ((if decide p = true then m else n) S) Q X := by
  by_cases h : p
  · rw [if_pos (decide_eq_true h)]
    exact h1 h
  · rw [if_neg (fun z => h (of_decide_eq_true z))]
    exact h2 h
theorem sat_optM {o : Option α} (h : o = some a) (q : Q a S) : Sat ((optM o : M α) S) Q X := by
  rw [h]
  exact q
theorem sat_optO {γ : Type} {o : Option γ} {g : γ} {k : γ → Out α} (h : o = some g) (q : Sat (k g) Q X) : Sat (optO o k) Q X := by
  rw [h]
  exact q
theorem sat_guard {c : Prop} [Decidable c] {o : Out α} (h : c) (q : Sat o Q X) : Sat (if c then o else .stuck) Q X := by
  rw [if_pos h]
  exact q
end
section
variable {S : Sto} {Q : D → Sto → Prop} {QB : Bool → Sto → Prop} {QL : List D → Sto → Prop} {X : Exn → Sto → Prop} {env : Env} {d e f : D} {xs ys ds : List D} {i j : Int} {n : Nat}
theorem sat_getv (h : env[n]? = some (.val d)) (q : Q d S) : Sat (getv n env S) Q X := by
  unfold getv
  rw [h]
  exact q
theorem sat_getb (h : env[n]? = some (.val d)) (q : Q d S) : Sat (getb n env S) Q X := by
  unfold getb
  rw [h]
  exact q
theorem sat_getbO (h : env[n]? = some (.own xs)) (q : Q (.list xs) S) : Sat (getb n env S) Q X := by
  unfold getb
  rw [h]
  exact q
theorem sat_mod (h : 0 < j) (q : Q (.int (i % j)) S) : Sat (modM (.int i) (.int j) S) Q X := by
  refine sat_ok (a := .int (i % j)) (S := S) ?_ q
  show (if cMod i j = true then Out.ok (D.int (i % j)) S else .stuck) = _
  rw [if_pos (show cMod i j = true from decide_eq_true h)]
theorem sat_fdiv (h : 0 < j) (h2 : j.natAbs.log2 < 9000) (q : Q (.int (i / j)) S) : Sat (fdivM (.int i) (.int j) S) Q X := by
  refine sat_ok (a := .int (i / j)) (S := S) ?_ q
  show (if cDiv i j = true then Out.ok (D.int (i / j)) S else .stuck) = _
  rw [if_pos (show cDiv i j = true from decide_eq_true ⟨h, h2⟩)]
theorem sat_pow (h : 0 ≤ j ∧ j ≤ 100 ∧ Builtin.Int.intBits i ≤ 1000000) (q : Q (.int (i ^ j.toNat)) S) : Sat (powM (.int i) (.int j) S) Q X := by
  refine sat_ok (a := .int (i ^ j.toNat)) (S := S) ?_ q
  show (if cPow i j = true then Out.ok (D.int (i ^ j.toNat)) S else .stuck) = _
  rw [if_pos (show cPow i j = true from decide_eq_true h)]
theorem sat_ifB {b : Bool} {m k : M D} (h1 : b = true → Sat (m S) Q X) (h2 : b = false → Sat (k S) Q X) : Sat (ifB (.bool b) m k S) Q X := by
  cases b with
  | true => exact h1 rfl
  | false => exact h2 rfl
theorem sat_ifBD {p : Prop} [Decidable p] {m k : M D} (h1 : p → Sat (m S) Q X) (h2 : ¬p → Sat (k S) Q X) : Sat (ifB (.bool (decide p)) m k S) Q X := by
  by_cases h : p
  · rw [decide_eq_true h]
    exact h1 h
  · rw [decide_eq_false h]
    exact h2 h
theorem sat_ifBt {b : Bool} {m k : M D} (h : b = true) (q : Sat (m S) Q X) : Sat (ifB (.bool b) m k S) Q X := by
  subst h
  exact q
theorem sat_ifBf {b : Bool} {m k : M D} (h : b = false) (q : Sat (k S) Q X) : Sat (ifB (.bool b) m k S) Q X := by
  subst h
  exact q
theorem sat_eqI (q : Q (.bool (decide (i = j))) S) : Sat (eqM (.int i) (.int j) S) Q X := by
  refine sat_ok (a := .bool (decide (i = j))) (S := S) ?_ q
  show Out.ok (D.bool ((i == j) ^^ false)) S = _
  rw [Bool.xor_false]
  by_cases h : i = j
  · subst h
    simp
  · rw [decide_eq_false h, beq_eq_false_iff_ne.mpr h]
theorem sat_neI (q : Q (.bool (decide (i ≠ j))) S) : Sat (neM (.int i) (.int j) S) Q X := by
  refine sat_ok (a := .bool (decide (i ≠ j))) (S := S) ?_ q
  show Out.ok (D.bool ((i == j) ^^ true)) S = _
  rw [Bool.xor_true]
  by_cases h : i = j
  · subst h
    simp
  · rw [decide_eq_true h, beq_eq_false_iff_ne.mpr h]
    rfl
theorem sat_eqS {s t : Str} (q : Q (.bool (decide (s = t))) S) : Sat (eqM (.str s) (.str t) S) Q X := by
  refine sat_ok (a := .bool (decide (s = t))) (S := S) ?_ q
  show Out.ok (D.bool ((s == t) ^^ false)) S = _
  rw [Bool.xor_false]
  by_cases h : s = t
  · subst h
    simp
  · rw [decide_eq_false h, beq_eq_false_iff_ne.mpr h]
theorem sat_neS {s t : Str} (q : Q (.bool (decide (s ≠ t))) S) : Sat (neM (.str s) (.str t) S) Q X := by
  refine sat_ok (a := .bool (decide (s ≠ t))) (S := S) ?_ q
  show Out.ok (D.bool ((s == t) ^^ true)) S = _
  rw [Bool.xor_true]
  by_cases h : s = t
  · subst h
    simp
  · rw [decide_eq_true h, beq_eq_false_iff_ne.mpr h]
    rfl
theorem le_line {n : Nat} (h : n ≤ 100000) : n ≤ sizeLine := Nat.le_trans h (by decide)
theorem sat_lenS {s : Str} (h : s.length ≤ sizeLine) (q : Q (.int s.length) S) : Sat (one lenM [.str s] S) Q X := by
  refine sat_ok (a := .int s.length) (S := S) ?_ q
  show (if _ then _ else _) = _
  rw [if_pos h]
/-- among these -/
def memD (x : D) (xs : List D) : Bool := xs.any fun z => eqF z x
theorem sat_inT (h : xs.all flatD = true) {s : Str} (q : ∀ b, memD (.str s) xs = b → Q (.bool b) S) : Sat (inX false (.str s) (.tup xs) S) Q X := by
  refine sat_ok (a := .bool (memD (.str s) xs)) (S := S) ?_ (q _ rfl)
  show (if _ then Out.ok (D.bool ((xs.any fun z => eqF z (.str s)) ^^ false)) S else _) = _
  rw [if_pos ⟨rfl, h⟩, Bool.xor_false]
  rfl
theorem sat_ninT (h : xs.all flatD = true) {s : Str} (q : ∀ b, memD (.str s) xs = b → Q (.bool (!b)) S) : Sat (inX true (.str s) (.tup xs) S) Q X := by
  refine sat_ok (a := .bool (!memD (.str s) xs)) (S := S) ?_ (q _ rfl)
  show (if _ then Out.ok (D.bool ((xs.any fun z => eqF z (.str s)) ^^ true)) S else _) = _
  rw [if_pos ⟨rfl, h⟩, Bool.xor_true]
  rfl
theorem sat_inLs (h : xs.all flatD = true) {s : Str} (q : ∀ b, memD (.str s) xs = b → Q (.bool b) S) : Sat (inX false (.str s) (.list xs) S) Q X := by
  refine sat_ok (a := .bool (memD (.str s) xs)) (S := S) ?_ (q _ rfl)
  show (if _ then Out.ok (D.bool ((xs.any fun z => eqF z (.str s)) ^^ false)) S else _) = _
  rw [if_pos ⟨rfl, h⟩, Bool.xor_false]
  rfl
theorem sat_ninLs (h : xs.all flatD = true) {s : Str} (q : ∀ b, memD (.str s) xs = b → Q (.bool (!b)) S) : Sat (inX true (.str s) (.list xs) S) Q X := by
  refine sat_ok (a := .bool (!memD (.str s) xs)) (S := S) ?_ (q _ rfl)
  show (if _ then Out.ok (D.bool ((xs.any fun z => eqF z (.str s)) ^^ true)) S else _) = _
  rw [if_pos ⟨rfl, h⟩, Bool.xor_true]
  rfl
theorem sat_small (h : xs.length ≤ sizeLine) (q : QL xs S) : Sat (small xs S) QL X := by
  unfold small
  rw [if_pos h]
  exact q
theorem sat_tup (h : xs.length ≤ sizeLine) (q : Q (.tup xs) S) : Sat (tupM xs S) Q X := by
  unfold tupM
  rw [if_pos h]
  exact q
theorem sat_list (h : xs.length ≤ sizeLine) (q : Q (.list xs) S) : Sat (listM xs S) Q X := by
  unfold listM
  rw [if_pos h]
  exact q
theorem sat_ix (h : asSeq d S = some xs) (hd : ∀ s, d ≠ .str s) (h2 : atI xs i = some e) (q : Q e S) : Sat (ixM d (.int i) S) Q X := by
  have e1 : ixM d (.int i) S = ixL d i S := by
    unfold ixM
    cases d <;> first | rfl | exact absurd rfl (hd _)
  rw [e1]
  unfold ixL
  rw [h]
  show Sat (optO (atI xs i) _) Q X
  rw [h2]
  exact q
theorem sat_ixO {c : Nat} (h : S[c]? = some (some (.list xs))) (h2 : atI xs i = some e) (q : Q e S) : Sat (ixM (.obj c) (.int i) S) Q X :=
  sat_ix (xs := xs) (by unfold asSeq asRead asList; simp only [asTup, h]) (fun _ z => by cases z) h2 q
theorem atI_lt {α : Type} {l : List α} {i : Int} (h : 0 ≤ i) (h2 : i < l.length) : ∃ x, atI l i = some x ∧ l[i.toNat]? = some x := by
  obtain ⟨j, rfl⟩ := Int.eq_ofNat_of_zero_le h
  have hj : j < l.length := by omega
  have e : l[j]? = some l[j] := List.getElem?_eq_getElem hj
  exact ⟨l[j], atI_nat e, e⟩
theorem sat_ixInts {ns : List Int} (h : 0 ≤ i ∧ i < ns.length) (q : ∀ z, Q (.int z) S) : Sat (ixM (.list (ns.map D.int)) (.int i) S) Q X := by
  obtain ⟨x, h1, h2⟩ := atI_lt (l := ns.map D.int) h.1 (by simpa using h.2)
  rw [List.getElem?_map] at h2
  obtain ⟨z, _, e⟩ := Option.map_eq_some_iff.mp h2
  subst e
  exact sat_ix rfl (fun _ z => by cases z) h1 (q z)
theorem sat_ixL0 (h : xs[0]? = some e) (q : Q e S) : Sat (ixM (.list xs) (.int 0) S) Q X := sat_ix (xs := xs) rfl (fun _ z => by cases z) (atI_nat (j := 0) h) q
theorem sat_ixT0 (h : xs[0]? = some e) (q : Q e S) : Sat (ixM (.tup xs) (.int 0) S) Q X := sat_ix (xs := xs) rfl (fun _ z => by cases z) (atI_nat (j := 0) h) q
theorem sat_ixL1 (h : xs[1]? = some e) (q : Q e S) : Sat (ixM (.list xs) (.int 1) S) Q X := sat_ix (xs := xs) rfl (fun _ z => by cases z) (atI_nat (j := 1) h) q
theorem sat_ixT1 (h : xs[1]? = some e) (q : Q e S) : Sat (ixM (.tup xs) (.int 1) S) Q X := sat_ix (xs := xs) rfl (fun _ z => by cases z) (atI_nat (j := 1) h) q
theorem sat_ixL2 (h : xs[2]? = some e) (q : Q e S) : Sat (ixM (.list xs) (.int 2) S) Q X := sat_ix (xs := xs) rfl (fun _ z => by cases z) (atI_nat (j := 2) h) q
theorem sat_ixT2 (h : xs[2]? = some e) (q : Q e S) : Sat (ixM (.tup xs) (.int 2) S) Q X := sat_ix (xs := xs) rfl (fun _ z => by cases z) (atI_nat (j := 2) h) q
theorem sat_ixL3 (h : xs[3]? = some e) (q : Q e S) : Sat (ixM (.list xs) (.int 3) S) Q X := sat_ix (xs := xs) rfl (fun _ z => by cases z) (atI_nat (j := 3) h) q
theorem sat_ixT3 (h : xs[3]? = some e) (q : Q e S) : Sat (ixM (.tup xs) (.int 3) S) Q X := sat_ix (xs := xs) rfl (fun _ z => by cases z) (atI_nat (j := 3) h) q
theorem sat_ixL4 (h : xs[4]? = some e) (q : Q e S) : Sat (ixM (.list xs) (.int 4) S) Q X := sat_ix (xs := xs) rfl (fun _ z => by cases z) (atI_nat (j := 4) h) q
theorem sat_ixT4 (h : xs[4]? = some e) (q : Q e S) : Sat (ixM (.tup xs) (.int 4) S) Q X := sat_ix (xs := xs) rfl (fun _ z => by cases z) (atI_nat (j := 4) h) q
theorem sat_ixMod {ns : List Int} (h : 0 < ns.length) (q : ∀ z, Q (.int z) S) : Sat (ixM (.list (ns.map D.int)) (.int (i % (ns.length : Int))) S) Q X :=
  sat_ixInts ⟨Int.emod_nonneg _ (by omega), Int.emod_lt_of_pos _ (by omega)⟩ q
theorem sat_mul (h : ((-(2 ^ 64) < i ∧ i < 2 ^ 64) ∨ (-(2 ^ 64) < j ∧ j < 2 ^ 64)) ∨ (Builtin.Int.intBits i ≤ 1000000 ∧ Builtin.Int.intBits j ≤ 1000000)) (q : Q (.int (i * j)) S) : Sat (mulX (.int i) (.int j) S) Q X := by
  refine sat_ok (a := .int (i * j)) (S := S) ?_ q
  show (if _ then _ else _) = _
  rw [if_pos h]
theorem sat_add (q : Q (.int (i + j)) S) : Sat (addM (.int i) (.int j) S) Q X := q
theorem sat_sub (q : Q (.int (i - j)) S) : Sat (subM (.int i) (.int j) S) Q X := q
theorem sat_lt (q : Q (.bool (decide (i < j))) S) : Sat (ltM (.int i) (.int j) S) Q X := q
theorem sat_le (q : Q (.bool (decide (i ≤ j))) S) : Sat (leM (.int i) (.int j) S) Q X := q
theorem sat_gt (q : Q (.bool (decide (j < i))) S) : Sat (gtM (.int i) (.int j) S) Q X := q
theorem sat_ge (q : Q (.bool (decide (j ≤ i))) S) : Sat (geM (.int i) (.int j) S) Q X := q
theorem sat_asB {b : Bool} {QB : Bool → Sto → Prop} (q : QB b S) : Sat (asB (.bool b) S) QB X := q
theorem sat_not {b : Bool} (q : Q (.bool (!b)) S) : Sat (notM (.bool b) S) Q X := q
theorem sat_int (q : Q (.int i) S) : Sat (one intM [.int i] S) Q X := q
theorem sat_intB {b : Bool} (q : Q (.int (if b then 1 else 0)) S) : Sat (one intM [.bool b] S) Q X := q
theorem sat_abs (q : Q (.int (if i < 0 then -i else i)) S) : Sat (one absM [.int i] S) Q X := q
theorem sat_lenInts {ns : List Int} (q : Q (.int ns.length) S) : Sat (one lenM [.list (ns.map D.int)] S) Q X :=
  sat_ok (a := .int (ns.map D.int).length) (S := S) rfl (by rw [List.length_map]; exact q)
theorem toPs_ints : ∀ ns : List Int, toPs (ns.map D.int) = some (ns.map PyData.int)
  | [] => by
    rw [List.map_nil, toPs]
    rfl
  | n :: ns => by
    rw [List.map_cons, toPs, toPs_ints ns, toP]
    rfl
theorem lay_ints : ∀ ns : List Int, PyData.canLayAll0 (ns.map PyData.int) = true ∧ PyData.depthAll (ns.map PyData.int) ≤ 1
  | [] => ⟨by simp only [List.map_nil, PyData.canLayAll0], by simp only [List.map_nil, PyData.depthAll]; omega⟩
  | n :: ns => by
    obtain ⟨h1, h2⟩ := lay_ints ns
    exact ⟨by simp only [List.map_cons, PyData.canLayAll0, PyData.canLay0, h1, Bool.and_self], by simp only [List.map_cons, PyData.depthAll, PyData.depth]; omega⟩
theorem shaped_ints (ns : List Int) : SeqAt.shaped (.list (ns.map PyData.int)) = true := by
  obtain ⟨h1, h2⟩ := lay_ints ns
  have hd : (PyData.list (ns.map PyData.int)).depth ≤ 64 := by
    simp only [PyData.depth]
    omega
  have hc : (PyData.list (ns.map PyData.int)).canLay0 = true := by
    simp only [PyData.canLay0]
    exact h1
  show ((PyData.list (ns.map PyData.int)).canLay0 && decide ((PyData.list (ns.map PyData.int)).depth ≤ 64)) = true
  rw [hc, decide_eq_true hd]
  rfl
theorem sat_neNil {ns : List Int} (q : Q (.bool (decide (0 < ns.length))) S) : Sat (neM (.list (ns.map D.int)) (.list []) S) Q X := by
  refine sat_ok (a := .bool (decide (0 < ns.length))) (S := S) ?_ q
  cases ns with
  | cons n ns => rfl
  | nil =>
    have e2 : toPS (.list []) S = some (.list []) := by
      unfold toPS
      show (toPs []).map PyData.list = _
      rw [toPs]
      rfl
    show (optO (toPS (.list []) S) fun p => optO (toPS (.list []) S) fun q => if SeqAt.shaped p = true ∧ SeqAt.shaped q = true then Out.ok (D.bool (PyData.eqv p q ^^ true)) S else .stuck) = _
    rw [e2]
    show (if SeqAt.shaped (.list []) = true ∧ SeqAt.shaped (.list []) = true then Out.ok (D.bool (PyData.eqv (.list []) (.list []) ^^ true)) S else .stuck) = _
    rw [if_pos ⟨shaped_ints [], shaped_ints []⟩]
    simp [PyData.eqv, PyData.eqvAll]
/-- a list is compared with the empty one -/
theorem sat_eqNil (q : Q (.bool (decide (xs.length = 0))) S) : Sat (eqM (.list xs) (.list []) S) Q X := by
  cases xs with
  | cons x xs => exact sat_ok (a := .bool false) (S := S) rfl (by have e : decide ((x :: xs).length = 0) = false := rfl; rw [e] at q; exact q)
  | nil =>
    refine sat_ok (a := .bool true) (S := S) ?_ q
    have e2 : toPS (.list []) S = some (.list []) := by
      unfold toPS
      show (toPs []).map PyData.list = _
      rw [toPs]
      rfl
    show (optO (toPS (.list []) S) fun p => optO (toPS (.list []) S) fun q => if SeqAt.shaped p = true ∧ SeqAt.shaped q = true then Out.ok (D.bool (PyData.eqv p q ^^ false)) S else .stuck) = _
    rw [e2]
    show (if SeqAt.shaped (.list []) = true ∧ SeqAt.shaped (.list []) = true then Out.ok (D.bool (PyData.eqv (.list []) (.list []) ^^ false)) S else .stuck) = _
    rw [if_pos ⟨shaped_ints [], shaped_ints []⟩]
    simp [PyData.eqv, PyData.eqvAll]
theorem sat_addL (h1 : asList d S = some xs) (h2 : asList e S = some ys) (hz : xs.length + ys.length ≤ sizeLine) (q : Q (.list (xs ++ ys)) S) : Sat (addL d e S) Q X := by
  unfold addL
  rw [h1]
  show Sat (optO (asList e S) _) Q X
  rw [h2]
  show Sat (if _ then _ else _) Q X
  rw [if_pos hz]
  exact q
theorem sat_addLL (hz : xs.length + ys.length ≤ 100000) (q : Q (.list (xs ++ ys)) S) : Sat (addM (.list xs) (.list ys) S) Q X := sat_addL rfl rfl (le_line hz) q
theorem sat_mulL {k : Int} (h : -(2 ^ 63) ≤ k ∧ k < 2 ^ 63) (h2 : xs.length * k.toNat ≤ 100000) (q : Q (.list (List.replicate k.toNat xs).flatten) S) : Sat (mulX (.list xs) (.int k) S) Q X := by
  refine sat_ok (a := .list (List.replicate k.toNat xs).flatten) (S := S) ?_ q
  show (if -(2 ^ 63) ≤ k ∧ k < 2 ^ 63 ∧ xs.length * k.toNat ≤ sizeLine then _ else _) = _
  rw [if_pos ⟨h.1, h.2, le_line h2⟩]
end

/-! ### blocks -/
section
variable {S : Sto} {q : PQ} {env : Env} {m m1 m2 ma mb : MS} {me mi mo : Env → M D} {tc : Env → M Bool} {i j n : Nat} {X : Exn → Sto → Prop}
theorem SatS.mono {o : OutS} {q q' : PQ} (h : SatS o q) (h1 : ∀ e S, q.nx e S → q'.nx e S) (h2 : ∀ e S, q.rt e S → q'.rt e S) (h3 : ∀ e S, q.bk e S → q'.bk e S) (h4 : ∀ e S, q.ct e S → q'.ct e S) (h5 : ∀ z e S, q.ex z e S → q'.ex z e S) : SatS o q' := by
  cases o with
  | nx e S => exact h1 _ _ h
  | brk e S => exact h3 _ _ h
  | ct e S => exact h4 _ _ h
  | rt e S => exact h2 _ _ h
  | exc z e S => exact h5 _ _ _ h
  | stuck => exact h.elim
theorem sats_seq (h : SatS (m1 env S) { q with nx := fun e S' => SatS (m2 e S') q }) : SatS (seqS m1 m2 env S) q := by
  unfold seqS
  cases e : m1 env S with
  | nx e' S' =>
    rw [e] at h
    exact h
  | brk e' S' =>
    rw [e] at h
    exact h
  | ct e' S' =>
    rw [e] at h
    exact h
  | rt e' S' =>
    rw [e] at h
    exact h
  | exc z e' S' =>
    rw [e] at h
    exact h
  | stuck =>
    rw [e] at h
    exact h.elim
theorem sats_skip (h : q.nx env S) : SatS (skipS env S) q := h
theorem sats_bind {α : Type} {m : Env → M α} {k : α → MS} (h : Sat (m env S) (fun d S' => SatS (k d env S') q) (fun z S' => q.ex z env S')) : SatS (bindS m k env S) q := by
  unfold bindS
  cases e : m env S with
  | ok d S' =>
    rw [e] at h
    exact h
  | exc z S' =>
    rw [e] at h
    exact h
  | stuck =>
    rw [e] at h
    exact h.elim
theorem sats_set (h : Sat (me env S) (fun d S' => q.nx (env.set i (.val d)) S') (fun z S' => q.ex z env S')) : SatS (setS i me env S) q := sats_bind h
theorem sats_setO {mf : Env → M (List D)} (h : Sat (mf env S) (fun d S' => q.nx (env.set i (.own d)) S') (fun z S' => q.ex z env S')) : SatS (setO i mf env S) q := sats_bind h
theorem sats_ret (h : Sat (me env S) (fun d S' => q.rt d S') (fun z S' => q.ex z env S')) : SatS (retS me env S) q := sats_bind h
theorem sats_drop (h : Sat (me env S) (fun d S' => q.nx env S') (fun z S' => q.ex z env S')) : SatS (dropS me env S) q := sats_bind h
theorem sats_if (h : Sat (tc env S) (fun b S' => if b = true then SatS (ma env S') q else SatS (mb env S') q) (fun z S' => q.ex z env S')) : SatS (ifS tc ma mb env S) q := sats_bind (h.mono (fun b S' z => by
  cases b with
  | true => exact z
  | false => exact z) fun _ _ z => z)
theorem ite_D {p : Prop} [Decidable p] {A B : Prop} (h1 : p → A) (h2 : ¬p → B) : if decide p = true then A else B := by
  by_cases h : p
  · rw [if_pos (decide_eq_true h)]
    exact h1 h
  · rw [if_neg (fun z => h (of_decide_eq_true z))]
    exact h2 h
theorem ite_B {b : Bool} {A B : Prop} (h1 : b = true → A) (h2 : b = false → B) : if b = true then A else B := by
  cases b with
  | true => exact h1 rfl
  | false => exact h2 rfl
theorem ite_bt {b : Bool} {A B : Prop} (h : b = true) (q : A) : if b = true then A else B := by
  subst h
  exact q
theorem ite_bf {b : Bool} {A B : Prop} (h : b = false) (q : B) : if b = true then A else B := by
  subst h
  exact q
theorem sat_ite_bt {α : Type} {b : Bool} {m n : M α} {Q : α → Sto → Prop} (h : b = true) (q : Sat (m S) Q X) : Sat ((if b = true then m else n) S) Q X := by
  subst h
  exact q
theorem sat_ite_bf {α : Type} {b : Bool} {m n : M α} {Q : α → Sto → Prop} (h : b = false) (q : Sat (n S) Q X) : Sat ((if b = true then m else n) S) Q X := by
  subst h
  exact q
theorem ite_F {A B : Prop} (h : B) : if false = true then A else B := h
theorem ite_T {A B : Prop} (h : A) : if true = true then A else B := h
theorem ite_Dn {p : Prop} [Decidable p] {A B : Prop} (h1 : ¬p → A) (h2 : p → B) : if (!decide p) = true then A else B := by
  by_cases h : p
  · rw [decide_eq_true h]
    exact h2 h
  · rw [decide_eq_false h]
    exact h1 h
theorem sats_par2 {m : Env → M (List D)} (h : Sat (m env S) (fun ds S' => ∃ d e, ds = [d, e] ∧ q.nx ((env.set i (.val d)).set j (.val e)) S') (fun z S' => q.ex z env S')) : SatS (par2 i j m env S) q := sats_bind (h.mono (fun ds S' ⟨d, e, h1, h2⟩ => by
  subst h1
  exact h2) fun _ _ z => z)
theorem sats_setT {f : D → Env → Option Env} (h : Sat (me env S) (fun d S' => ∃ env', f d env = some env' ∧ q.nx env' S') (fun z S' => q.ex z env S')) : SatS (setT f me env S) q := sats_bind (h.mono (fun d S' ⟨e, h1, h2⟩ => by
  show SatS (match f d env with
    | some env' => .nx env' S'
    | none => .stuck) q
  rw [h1]
  exact h2) fun _ _ z => z)
/-- a list of the store: an item set -/
theorem sats_setC {id : Nat} {k : Int} {xs : List D} (h : Sat (me env S) (fun d S1 => Sat (mo env S1) (fun o S2 => o = .obj id ∧ Sat (mi env S2) (fun i S3 => i = .int k ∧ ∃ xs j, S3[id]? = some (some (.list xs)) ∧ ixN xs.length k = some j ∧ q.nx env (S3.set id (some (.list (xs.set j d))))) (fun z S' => q.ex z env S')) (fun z S' => q.ex z env S')) (fun z S' => q.ex z env S')) : SatS (setC me mo mi env S) q := by
  refine sats_bind (h.mono (fun d S1 h => sats_bind (h.mono (fun o S2 ⟨e1, h⟩ => sats_bind (h.mono (fun i S3 ⟨e2, xs, j, h1, h2, h3⟩ => ?_) fun _ _ z => z)) fun _ _ z => z)) fun _ _ z => z)
  subst e1
  subst e2
  simp only [h1, h2]
  exact h3
theorem set_at {S : Sto} {id : Nat} {c c' : Cell} (h : S[id]? = some (some c)) : (S.set id (some c'))[id]? = some (some c') := by
  rw [List.getElem?_set_self (List.getElem?_eq_some_iff.mp h).1]
/-- the same; the list's place and the index are known at sight -/
theorem sats_setCc (h : Sat (me env S) (fun d S1 => ∃ (id : Nat) (k : Int) (xs : List D) (j : Nat), mo env S1 = .ok (.obj id) S1 ∧ mi env S1 = .ok (.int k) S1 ∧ S1[id]? = some (some (.list xs)) ∧ ixN xs.length k = some j ∧ ∀ S', S'[id]? = some (some (.list (xs.set j d))) → S' = S1.set id (some (.list (xs.set j d))) → q.nx env S') (fun z S' => q.ex z env S')) : SatS (setC me mo mi env S) q := by
  unfold setC
  refine sats_bind (h.mono (fun d S1 h => ?_) fun _ _ z => z)
  obtain ⟨id, k, xs, j, h1, h2, h3, h4, h5⟩ := h
  refine sats_bind (sat_ok h1 (sats_bind (sat_ok h2 ?_)))
  simp only [h3, h4]
  exact h5 _ (set_at h3) rfl
/-! ### loops -/
variable {f : D → Env → Option Env}
/-- I: what stands with these items to come -/
theorem sats_for (I : List D → Env → Sto → Prop) (hs : ∀ d rest env S, I (d :: rest) env S → ∃ env1, f d env = some env1 ∧ SatS (mb env1 S) { q with nx := I rest, ct := I rest, bk := q.nx }) (he : ∀ env S, I [] env S → q.nx env S) :
    ∀ {xs : List D} {env : Env} {S : Sto}, I xs env S → SatS (forS f mb xs env S) q
  | [], env, S, h => he env S h
  | d :: rest, env, S, h => by
    obtain ⟨env1, e, h⟩ := hs d rest env S h
    rw [forS]
    simp only [e]
    cases z : mb env1 S with
    | nx e' S' =>
      rw [z] at h
      exact sats_for I hs he h
    | ct e' S' =>
      rw [z] at h
      exact sats_for I hs he h
    | brk e' S' =>
      rw [z] at h
      exact h
    | rt e' S' =>
      rw [z] at h
      exact h
    | exc y e' S' =>
      rw [z] at h
      exact h
    | stuck =>
      rw [z] at h
      exact h.elim
/-- a turn at sight -/
theorem sats_forC {d : D} {rest : List D} {env1 : Env} (e : f d env = some env1) (h : SatS (mb env1 S) { q with nx := fun e S' => SatS (forS f mb rest e S') q, ct := fun e S' => SatS (forS f mb rest e S') q, bk := q.nx }) : SatS (forS f mb (d :: rest) env S) q := by
  rw [forS]
  simp only [e]
  cases z : mb env1 S with
  | nx e' S' =>
    rw [z] at h
    exact h
  | ct e' S' =>
    rw [z] at h
    exact h
  | brk e' S' =>
    rw [z] at h
    exact h
  | rt e' S' =>
    rw [z] at h
    exact h
  | exc y e' S' =>
    rw [z] at h
    exact h
  | stuck =>
    rw [z] at h
    exact h.elim
theorem sats_forE (h : q.nx env S) : SatS (forS f mb [] env S) q := h
theorem sats_forZ {ma : Env → M (List D)} (h : Sat (ma env S) (fun ds S' => ∃ d e xs ys, ds = [d, e] ∧ asIter d = some xs ∧ asIter e = some ys ∧ SatS (forS f mb (zipD xs ys) env S') q) (fun z S' => q.ex z env S')) : SatS (forZ f mb ma env S) q := sats_bind (h.mono (fun ds S' ⟨d, e, xs, ys, h1, h2, h3, h4⟩ => by
  subst h1
  simp only [h2, h3]
  exact h4) fun _ _ z => z)
theorem sats_forQ {xs : List D} (h : Sat (me env S) (fun d S' => asIter d = some xs ∧ SatS (forS f mb xs env S') q) (fun z S' => q.ex z env S')) : SatS (forQ f mb me env S) q := sats_bind (h.mono (fun d S' ⟨e, h⟩ => by
  simp only [e]
  exact h) fun _ _ z => z)
theorem sats_forR1 {n : Int} {ma : Env → M (List D)} (h : Sat (ma env S) (fun ds S' => ds = [.int n] ∧ okR n = true ∧ SatS (forS f mb (rangeD 0 n.toNat) env S') q) (fun z S' => q.ex z env S')) : SatS (forR1 f mb ma env S) q := sats_bind (h.mono (fun ds S' ⟨e, h1, h⟩ => by
  subst e
  simp only [h1]
  exact h) fun _ _ z => z)
/-- a comprehension: the items so far, those to come -/
theorem sat_lcA {tm : Env → M Bool} {em : Env → M D} {Q : List D → Sto → Prop} (I : List D → List D → Sto → Prop)
    (hs : ∀ acc d rest S, I acc (d :: rest) S → ∃ env1, f d env = some env1 ∧ Sat (tm env1 S) (fun b S1 => if b = true then Sat (em env1 S1) (fun y S2 => acc.length < sizeLine ∧ I (acc ++ [y]) rest S2) noX else I acc rest S1) noX)
    (he : ∀ acc S, I acc [] S → Q acc S) : ∀ {xs acc : List D} {S : Sto}, I acc xs S → Sat (lcA f tm em env acc xs S) Q X
  | [], acc, S, h => he acc S h
  | d :: rest, acc, S, h => by
    obtain ⟨env1, e, h⟩ := hs acc d rest S h
    rw [lcA]
    simp only [e]
    obtain ⟨b, S1, e1, h⟩ := h.get
    cases b with
    | false =>
      refine sat_bind (sat_ok (a := false) (S := S1) ?_ ?_)
      · unfold nx1
        rw [e1]
      · exact sat_lcA I hs he h
    | true =>
      obtain ⟨y, S2, e2, h1, h2⟩ := Sat.get h
      refine sat_bind (sat_ok (a := true) (S := S1) ?_ ?_)
      · unfold nx1
        rw [e1]
      · refine sat_bind (sat_ok (a := y) (S := S2) ?_ ?_)
        · unfold nx1
          rw [e2]
        · first
            | exact sat_lcA I hs he h2
            | (rw [if_pos h1]; exact sat_lcA I hs he h2)
            | (simp only [h1, if_true]; exact sat_lcA I hs he h2)
end
theorem asBools_mapD (g : D → Bool) : ∀ xs : List D, asBools (xs.map fun d => D.bool (g d)) = some (xs.map g)
  | [] => rfl
  | c :: cs => by
    have := asBools_mapD g cs
    simp only [List.map_cons, asBools, this]
    rfl
theorem sat_allMap {g : D → Bool} {xs : List D} {S : Sto} {Q : D → Sto → Prop} {X : Exn → Sto → Prop} (q : Q (.bool (xs.all g)) S) : Sat (one allM [.list (xs.map fun d => .bool (g d))] S) Q X := by
  refine sat_ok (a := .bool (xs.all g)) (S := S) ?_ q
  show optO (asBools (xs.map fun d => D.bool (g d))) _ = _
  rw [asBools_mapD]
  show Out.ok (D.bool ((xs.map g).all id)) S = _
  rw [List.all_map]
  rfl
theorem filtLen (g : D → Bool) (xs : List D) : decide ((xs.filter fun d => !g d).length = 0) = xs.all g := by
  induction xs with
  | nil => rfl
  | cons x xs ih =>
    rw [List.filter_cons, List.all_cons]
    cases h : g x with
    | true => exact ih
    | false => rfl
section
variable {f : D → Env → Option Env} {tm : Env → M Bool} {em : Env → M D} {env : Env} {S : Sto} {Q : List D → Sto → Prop} {X : Exn → Sto → Prop} {vs : List Nat} {xs : List D} {me : Env → M D}
theorem sat_lcQ (h : Sat (me env S) (fun d S' => ∃ xs, asIter d = some xs ∧ Sat (lcM f tm em vs xs env S') Q X) X) : Sat (lcQ me f tm em vs env S) Q X := sat_bind (h.mono (fun d S' ⟨xs, e, h⟩ => by
  simp only [e]
  exact h) fun _ _ z => z)
theorem sat_lcR {ma : Env → M (List D)} (h : Sat (ma env S) (fun ds S' => ∃ n, ds = [.int n] ∧ okR n = true ∧ Sat (lcM f tm em vs (rangeD 0 n.toNat) env S') Q X) X) : Sat (lcR ma f tm em vs env S) Q X := sat_bind (h.mono (fun ds S' ⟨n, e, e2, h⟩ => by
  subst e
  simp only [e2, if_true]
  exact h) fun _ _ z => z)
/-- nothing of the store is touched: a map, a filter -/
theorem sat_map (g : D → D) (hl : xs.length ≤ sizeLine) (h : ∀ d ∈ xs, ∃ env1, f d (wipeE env vs) = some env1 ∧ Sat (em env1 S) (fun y S' => y = g d ∧ S' = S) noX) (q : Q (xs.map g) S) : Sat (lcM f okT em vs xs env S) Q X := by
  refine sat_lcA (Q := Q) (X := X) (fun acc rest S' => ∃ done, xs = done ++ rest ∧ acc = done.map g ∧ S' = S) (fun acc d rest S' ⟨done, e1, e2, e3⟩ => ?_) (fun acc S' ⟨done, e1, e2, e3⟩ => ?_) ⟨[], rfl, rfl, rfl⟩
  · subst e3
    obtain ⟨env1, h1, h2⟩ := h d (by rw [e1]; simp)
    refine ⟨env1, h1, ?_⟩
    refine sat_ok (a := true) (S := S') rfl (ite_T ?_)
    refine h2.mono (fun y S2 ⟨z1, z2⟩ => ⟨?_, done ++ [d], ?_, ?_, z2⟩) fun _ _ z => z
    · rw [e2, List.length_map]
      have := congrArg List.length e1
      rw [List.length_append, List.length_cons] at this
      omega
    · rw [e1, List.append_assoc]
      rfl
    · rw [e2, z1, List.map_append]
      rfl
  · rw [List.append_nil] at e1
    rw [e2, ← e1, e3]
    exact q
theorem sat_filter (p : D → Bool) (hl : xs.length ≤ sizeLine) (h : ∀ d ∈ xs, ∃ env1, f d (wipeE env vs) = some env1 ∧ Sat (tm env1 S) (fun b S' => b = p d ∧ S' = S ∧ Sat (em env1 S) (fun y S' => y = d ∧ S' = S) noX) noX) (q : Q (xs.filter p) S) : Sat (lcM f tm em vs xs env S) Q X := by
  refine sat_lcA (Q := Q) (X := X) (fun acc rest S' => ∃ done, xs = done ++ rest ∧ acc = done.filter p ∧ S' = S) (fun acc d rest S' ⟨done, e1, e2, e3⟩ => ?_) (fun acc S' ⟨done, e1, e2, e3⟩ => ?_) ⟨[], rfl, rfl, rfl⟩
  · subst e3
    obtain ⟨env1, h1, h2⟩ := h d (by rw [e1]; simp)
    have e5 : xs = (done ++ [d]) ++ rest := by
      rw [e1, List.append_assoc]
      rfl
    refine ⟨env1, h1, h2.mono (fun b S1 ⟨z1, z2, z3⟩ => ?_) fun _ _ z => z⟩
    subst z2
    refine ite_B (fun hb => ?_) (fun hb => ?_)
    · refine z3.mono (fun y S2 ⟨y1, y2⟩ => ⟨?_, done ++ [d], e5, ?_, y2⟩) fun _ _ z => z
      · have l1 := List.length_filter_le p done
        have := congrArg List.length e1
        rw [List.length_append, List.length_cons] at this
        rw [e2]
        omega
      · rw [e2, y1, List.filter_append, List.filter_cons_of_pos (by rw [← z1]; exact hb)]
        rfl
    · refine ⟨done ++ [d], e5, ?_, rfl⟩
      rw [e2, List.filter_append, List.filter_cons_of_neg (by rw [← z1, hb]; exact Bool.false_ne_true), List.filter_nil, List.append_nil]
  · rw [List.append_nil] at e1
    rw [e2, ← e1, e3]
    exact q
end
/-- a def's body -/
theorem sat_run {n p : Nat} {m : MS} {ds : List D} {S : Sto} {Q : D → Sto → Prop} {X : Exn → Sto → Prop} (h0 : ds.length = p) (h : SatS (m (startE n ds) S) { nx := fun _ S' => Q .none S', rt := Q, ex := fun z _ S' => X z S' }) : Sat (runF n p m ds S) Q X := by
  unfold runF
  rw [if_pos h0]
  cases e : m (startE n ds) S with
  | nx e' S' =>
    rw [e] at h
    exact h
  | ct e' S' =>
    rw [e] at h
    exact h.elim
  | brk e' S' =>
    rw [e] at h
    exact h.elim
  | rt e' S' =>
    rw [e] at h
    exact h
  | exc y e' S' =>
    rw [e] at h
    exact h
  | stuck =>
    rw [e] at h
    exact h.elim
/-! ### draws: what they cost is counted in units that grow with the level -/
/-- the most that may be drawn -/
def topN : Nat := 2 ^ 2000
/-- a level's unit -/
def B (k : Nat) : Nat := 2 ^ (20 * k)
theorem B_succ (k : Nat) : B (k + 1) = 1048576 * B k := by
  unfold B
  rw [show 20 * (k + 1) = 20 * k + 20 by omega, Nat.pow_add]
  omega
theorem B_pos (k : Nat) : 1 ≤ B k := Nat.one_le_two_pow
/-- the numbers of a draw: cells, how many have been taken, what is left of a great one; b more may be drawn -/
def Cloud (b : Nat) (S : Sto) (c : Nat) : Prop := ∃ (ns : List Int) (a r : Int), S[c]? = some (some (.list [.list (ns.map D.int), .int a, .int r])) ∧ 0 ≤ a ∧ a + b ≤ topN ∧ 0 ≤ r
theorem Cloud.le {b b' : Nat} {S : Sto} {c : Nat} (h : Cloud b S c) (e : b' ≤ b) : Cloud b' S c := by
  obtain ⟨ns, a, r, h1, h2, h3, h4⟩ := h
  exact ⟨ns, a, r, h1, h2, by omega, h4⟩
theorem bits_lt {x : Int} (h : 0 ≤ x) (h2 : x < 2 ^ 5000) : Builtin.Int.intBits x ≤ 1000000 := by
  have h3 : x.natAbs < 2 ^ 5000 := by omega
  exact Nat.le_trans (intBits_le_iff.mpr h3) (by decide)
theorem bits1 {x a c1 c2 : Int} (hx : 0 ≤ x ∧ x < 2 ^ 40) (ha : 0 ≤ a ∧ a ≤ topN) (h1 : 0 ≤ c1 ∧ c1 ≤ 2 ^ 40) (h2 : 0 ≤ c2 ∧ c2 ≤ 2 ^ 40) : Builtin.Int.intBits (x + c1 * a + c2) ≤ 1000000 := by
  have e1 : c1 * a ≤ 2 ^ 40 * (topN : Int) := Int.mul_le_mul h1.2 ha.2 ha.1 (by decide)
  have e0 : 0 ≤ c1 * a := Int.mul_nonneg h1.1 ha.1
  have e2 : (2 ^ 40 + 2 ^ 40 * (topN : Int) + 2 ^ 40 : Int) < 2 ^ 5000 := by decide +kernel
  exact bits_lt (by omega) (by omega)
theorem bits3 {a c1 : Int} (ha : 0 ≤ a ∧ a ≤ topN) (h1 : 0 ≤ c1 ∧ c1 ≤ 2 ^ 40) : Builtin.Int.intBits (c1 * a) ≤ 1000000 ∧ Builtin.Int.intBits a ≤ 1000000 := by
  have e1 : c1 * a ≤ 2 ^ 40 * (topN : Int) := Int.mul_le_mul h1.2 ha.2 ha.1 (by decide)
  have e0 : 0 ≤ c1 * a := Int.mul_nonneg h1.1 ha.1
  have e2 : (2 ^ 40 * (topN : Int) : Int) < 2 ^ 5000 := by decide +kernel
  have e3 : ((topN : Nat) : Int) < 2 ^ 5000 := by decide +kernel
  exact ⟨bits_lt e0 (by omega), bits_lt ha.1 (by omega)⟩
theorem big_nn {x t : Int} {b : Prop} [Decidable b] (h : t ≤ x) : 0 ≤ 2 * (x - t) + (if b then 1 else 0) := by
  split <;> omega
theorem bits2 {m a c0 c1 c2 : Int} (hm : 0 ≤ m ∧ m < 2 ^ 40) (ha : 0 ≤ a ∧ a ≤ topN) (h0 : 0 ≤ c0 ∧ c0 ≤ 2 ^ 40) (h1 : 0 ≤ c1 ∧ c1 ≤ 2 ^ 40) (h2 : 0 ≤ c2 ∧ c2 ≤ 2 ^ 40) : Builtin.Int.intBits (m * (2 * a + c0) + c1 * a * a + c2) ≤ 1000000 := by
  have e1 : c1 * a ≤ 2 ^ 40 * (topN : Int) := Int.mul_le_mul h1.2 ha.2 ha.1 (by decide)
  have e0 : 0 ≤ c1 * a := Int.mul_nonneg h1.1 ha.1
  have f1 : c1 * a * a ≤ 2 ^ 40 * (topN : Int) * topN := Int.mul_le_mul e1 ha.2 ha.1 (by decide +kernel)
  have f0 : 0 ≤ c1 * a * a := Int.mul_nonneg e0 ha.1
  have g1 : m * (2 * a + c0) ≤ 2 ^ 40 * (2 * (topN : Int) + 2 ^ 40) := Int.mul_le_mul (by omega) (by omega) (by omega) (by decide)
  have g0 : 0 ≤ m * (2 * a + c0) := Int.mul_nonneg hm.1 (by omega)
  have e2 : (2 ^ 40 * (2 * (topN : Int) + 2 ^ 40) + 2 ^ 40 * (topN : Int) * topN + 2 ^ 40 : Int) < 2 ^ 5000 := by decide +kernel
  exact bits_lt (by omega) (by omega)
end Sm

set_option Elab.async false
set_option linter.all false
set_option maxRecDepth 100000
set_option maxHeartbeats 2000000
/-! Sm15: own classes: fields, methods, makers, properties; bindings of any kind. -/
namespace Sm
open PySem PySem.Spec PyProof.Rows L2

/-! ### fields -/
def putFD (f : Str) (d : D) : List (Str × D) → List (Str × D)
  | [] => [(f, d)]
  | (g, x) :: r => if g = f then (g, d) :: r else (g, x) :: putFD f d r
theorem DvF.put {g : Gd} {R : Hp} {ι : List Addr} {f : Str} {v : V} {d : D} (x : Dv g R ι v d) : ∀ {vs : List (Str × V)} {ds : List (Str × D)}, DvF g R ι vs ds → DvF g R ι (putF f v vs) (putFD f d ds)
  | _, _, .nil => .cons x .nil
  | _, _, .cons (k := k') h t => by
    unfold putF putFD
    by_cases e : k' = f
    · rw [if_pos e, if_pos e]
      exact .cons x t
    · rw [if_neg e, if_neg e]
      exact .cons h (DvF.put x t)
theorem DvF.len {g : Gd} {R : Hp} {ι : List Addr} : ∀ {vs : List (Str × V)} {ds : List (Str × D)}, DvF g R ι vs ds → vs.length = ds.length
  | _, _, .nil => rfl
  | _, _, .cons _ t => by rw [List.length_cons, List.length_cons, DvF.len t]
/-- the fields of an instance, by its class's name -/
def instOf (d : D) (S : Sto) : Option (Str × List (Str × D)) := match d with
  | .inst c fs => some (c, fs)
  | .obj id => (match S[id]? with
    | some (some (.inst c fs)) => some (c, fs)
    | _ => none)
  | _ => none
theorem Dv.insts {g : Gd} {R H : Hp} {ι : List Addr} {S : Sto} {v : V} {d : D} {c : Str} {fs : List (Str × D)} (rep : Rep g R H ι S) (h : Dv g R ι v d) (e : instOf d S = some (c, fs)) : ∃ a C dx fvs, v = .ref a ∧ H a = some (.ins C dx fvs) ∧ g.mg c = some (.ref C) ∧ DvF g R ι fvs fs := by
  cases d with
  | inst c' fs' =>
    cases e
    cases h with
    | inst h m t => exact ⟨_, _, _, _, rfl, rep.sub _ _ h, m, t⟩
  | obj id =>
    unfold instOf at e
    cases hs : S[id]? with
    | none =>
      simp only [hs] at e
      cases e
    | some o =>
      cases o with
      | none =>
        simp only [hs] at e
        cases e
      | some k =>
        cases k with
        | list xs =>
          simp only [hs] at e
          cases e
        | tbl s =>
          simp only [hs] at e
          cases e
        | inst c' fs' =>
          simp only [hs] at e
          cases e
          cases h with
          | obj hi =>
            obtain ⟨⟨C, dx, fvs, h1, h2, h3⟩, _⟩ := rep.cell id _ _ hi hs
            exact ⟨_, C, dx, fvs, rfl, h1, h2, h3⟩
  | _ => cases e
theorem Bw.insts {g : Gd} {R H : Hp} {ι : List Addr} {S : Sto} {v : V} {d : D} {c : Str} {fs : List (Str × D)} (rep : Rep g R H ι S) (h : Bw g R H ι S v d) (e : instOf d S = some (c, fs)) : ∃ a C dx fvs, v = .ref a ∧ H a = some (.ins C dx fvs) ∧ g.mg c = some (.ref C) ∧ DvF g R ι fvs fs := by
  refine Dv.insts rep (h.dv fun xs z => ?_) e
  subst z
  cases e
/-- the classes that keep f in their instances' dicts -/
def FldC (K : PySem.W.Frag) (mg : Str → Option Value) (f : Str) (cs : List Str) : Prop := ∀ c ∈ cs, ∃ C, mg c = some (.ref C) ∧ Cls K C ∧ NoAttr K C f
def fldM (cs : List Str) (f : Str) (x : D) : M D := fun S => optO (instOf x S) fun (c, fs) => if c ∈ cs then optO (fs.lookup f) fun d => .ok d S else .stuck
section
variable {X : Cx} {W : WX} {bw : Bool} {e o : Expr} {es : List Expr} {me mo : Env → M D} {mr : Env → M (List D)} {pos p pos' apos : Pos} {f : Str} {cs : List Str} {st : Stmt}
theorem se_fld (hc : FldC X.K X.mg f cs) (he : SE X W true e me) (hb : attributeBase e f X.env (eval e X.env) = eval e X.env := by rfl) : SE X W bw (.Attribute e f pos) (fun env => me env >>= fldM cs f) :=
  PE.imp (pe_fld he hb) fun σ H Q ⟨R, ι, S, env, rep, repE, post⟩ => by
    refine tG_then later_E rep repE post fun R1 H1 ι1 S1 v d rep1 repE1 x1 b1 post1 => ?_
    obtain ⟨⟨c, fs⟩, ei, post1⟩ := Post.opt post1
    obtain ⟨hm, post1⟩ := Post.ite post1
    obtain ⟨d', ed, post1⟩ := Post.opt post1
    obtain ⟨a, C, dx, fvs, rfl, h1, h2, h3⟩ := Bw.insts rep1 b1 ei
    obtain ⟨C', m', cl, na⟩ := hc c hm
    have h2 : X.mg c = some (.ref C) := h2
    rw [h2] at m'
    cases m'
    obtain ⟨v, hv, dv⟩ := h3.look ed
    exact ⟨a, C, dx, fvs, v, rfl, h1, cl, na, hv, Post.val rep1 dv post1⟩

/-! ### a cell changes, comes, goes -/
theorem cell_updG {g : Gd} {R H : Hp} {ι : List Addr} {S : Sto} {id : Nat} {a : Addr} {c c' : Cell} {o u : HO} (rep : Rep g R H ι S) (hi : ι[id]? = some a) (hs : S[id]? = some (some c)) (hu : H a = some u) (k1 : ∀ ps, u ≠ .tbl ps) (k2 : ∀ φ, u ≠ .ext φ) (hw : CellOk g R (upd H a o) ι a c') :
    Rep g R (upd H a o) ι (S.set id (some c')) ∧ ExtL R H ι S R (upd H a o) ι (S.set id (some c')) := by
  obtain ⟨_, hR⟩ := rep.cell id a _ hi hs
  have back : ∀ {j : Nat} {k : Cell}, (S.set id (some c'))[j]? = some (some k) → ∃ k', S[j]? = some (some k') := fun {j k} e => by
    rcases get_set e with ⟨rfl, _, _⟩ | ⟨_, e⟩
    · exact ⟨_, hs⟩
    · exact ⟨k, e⟩
  refine ⟨⟨fun b u h => ?_, by rw [List.length_set]; exact rep.len, fun j b k h1 h2 => ?_, fun j k b q q' h1 h2 h3 h4 => ?_⟩, ?_⟩
  · rw [upd_ne (ne_of_none h hR)]
    exact rep.sub b u h
  · rcases get_set h2 with ⟨rfl, e, _⟩ | ⟨n, h2⟩
    · rw [hi] at h1
      cases h1
      cases e
      exact ⟨hw, hR⟩
    · obtain ⟨q, r⟩ := rep.cell j b k h1 h2
      have nb : b ≠ a := fun z => by
        subst z
        exact n (rep.inj id j b _ _ hi h1 hs h2)
      refine ⟨?_, r⟩
      cases k with
      | list zs =>
        obtain ⟨vs, h, t⟩ := q
        exact ⟨vs, by rw [upd_ne nb]; exact h, t⟩
      | inst cc fs =>
        obtain ⟨C, dx, fvs, h, m, t⟩ := q
        exact ⟨C, dx, fvs, by rw [upd_ne nb]; exact h, m, t⟩
      | tbl s => exact ⟨q.1, tab_upd q.2 hu k1 k2⟩
  · obtain ⟨d1, q1⟩ := back h3
    obtain ⟨d2, q2⟩ := back h4
    exact rep.inj j k b _ _ h1 h2 q1 q2
  · have ha : Lv ι S a := ⟨id, _, hi, hs⟩
    exact {
      rsub := fun _ _ q => q
      pre := fun _ _ q => q
      keep := fun b o q n => by
        have nb : b ≠ a := fun z => n (z ▸ ha)
        rw [upd_ne nb]
        exact q
      fresh := fun _ _ q _ _ => q
      own := fun b ⟨j, c, h1, h2⟩ => by
        obtain ⟨c', q⟩ := back h2
        exact .inl ⟨j, c', h1, q⟩
      there := fun b q => by
        by_cases z : b = a
        · subst z
          rw [upd_same] at q
          cases q
        · rw [upd_ne z] at q
          exact q }
/-- a new cell -/
theorem cell_newG {g : Gd} {R H : Hp} {ι : List Addr} {S : Sto} {p : Addr} {c : Cell} (rep : Rep g R H ι S) (hR : R p = none) (hl : ¬ Lv ι S p) (hc : CellOk g R H (ι ++ [p]) p c) : Rep g R H (ι ++ [p]) (S ++ [some c]) := by
  have hpre : ∀ (i : Nat) a, ι[i]? = some a → (ι ++ [p])[i]? = some a := fun i a h => by
    rw [List.getElem?_append_left (List.getElem?_eq_some_iff.mp h).1]
    exact h
  have hlast : ∀ {j : Nat} {k : Cell}, (S ++ [some c])[j]? = some (some k) → (S[j]? = some (some k) ∧ j < S.length) ∨ (j = S.length ∧ k = c) := fun {j k} e => by
    by_cases hj : j < S.length
    · rw [List.getElem?_append_left hj] at e
      exact .inl ⟨e, hj⟩
    · rw [List.getElem?_append_right (by omega)] at e
      have : j - S.length = 0 := by
        have := (List.getElem?_eq_some_iff.mp e).1
        simp at this
        omega
      rw [this] at e
      cases e
      exact .inr ⟨by omega, rfl⟩
  have hat : ∀ {j : Nat} {a : Addr}, (ι ++ [p])[j]? = some a → (j < S.length ∧ ι[j]? = some a) ∨ (j = S.length ∧ a = p) := fun {j a} e => by
    by_cases hj : j < ι.length
    · rw [List.getElem?_append_left hj] at e
      exact .inl ⟨by rw [← rep.len]; exact hj, e⟩
    · rw [List.getElem?_append_right (by omega)] at e
      have : j - ι.length = 0 := by
        have := (List.getElem?_eq_some_iff.mp e).1
        simp at this
        omega
      rw [this] at e
      cases e
      exact .inr ⟨by have := rep.len; omega, rfl⟩
  refine ⟨rep.sub, by rw [List.length_append, List.length_append, rep.len, List.length_singleton, List.length_singleton], fun j a k h1 h2 => ?_, fun j k a q q' h1 h2 h3 h4 => ?_⟩
  · rcases hlast h2 with ⟨h2, hj⟩ | ⟨rfl, rfl⟩
    · rcases hat h1 with ⟨_, h1⟩ | ⟨z, _⟩
      · obtain ⟨q, r⟩ := rep.cell j a k h1 h2
        refine ⟨?_, r⟩
        cases k with
        | list zs =>
          obtain ⟨vs, h, t⟩ := q
          exact ⟨vs, h, t.mono (fun _ _ q => q) hpre⟩
        | inst cc fs =>
          obtain ⟨C, dx, fvs, h, m, t⟩ := q
          exact ⟨C, dx, fvs, h, m, t.mono (fun _ _ q => q) hpre⟩
        | tbl s => exact q
      · omega
    · rcases hat h1 with ⟨z, _⟩ | ⟨_, rfl⟩
      · omega
      · exact ⟨hc, hR⟩
  · rcases hlast h3 with ⟨g3, hj⟩ | ⟨e3, _⟩
    · rcases hat h1 with ⟨_, g1⟩ | ⟨z, _⟩
      · rcases hlast h4 with ⟨g4, hk⟩ | ⟨e4, _⟩
        · rcases hat h2 with ⟨_, g2⟩ | ⟨z, _⟩
          · exact rep.inj j k a q q' g1 g2 g3 g4
          · omega
        · rcases hat h2 with ⟨z, _⟩ | ⟨_, z⟩
          · omega
          · exact absurd ⟨j, q, z ▸ g1, g3⟩ hl
      · omega
    · rcases hat h1 with ⟨z, _⟩ | ⟨_, e1⟩
      · omega
      · rcases hlast h4 with ⟨g4, hk⟩ | ⟨e4, _⟩
        · rcases hat h2 with ⟨_, g2⟩ | ⟨z, _⟩
          · exact absurd ⟨k, q', e1 ▸ g2, g4⟩ hl
          · omega
        · omega
theorem lv_new {ι : List Addr} {S : Sto} {p b : Addr} {c : Cell} (hl : ι.length = S.length) (h : Lv (ι ++ [p]) (S ++ [some c]) b) : Lv ι S b ∨ b = p := by
  obtain ⟨j, k, q1, q2⟩ := h
  by_cases hj : j < S.length
  · rw [List.getElem?_append_left hj] at q2
    rw [List.getElem?_append_left (by omega)] at q1
    exact .inl ⟨j, k, q1, q2⟩
  · rw [List.getElem?_append_right (by omega)] at q1
    have hz : j - ι.length = 0 := by
      have := (List.getElem?_eq_some_iff.mp q1).1
      simp at this
      omega
    rw [hz] at q1
    cases q1
    exact .inr rfl
/-- a cell is taken out: what stood there is frozen -/
theorem cell_out {g : Gd} {R H : Hp} {ι : List Addr} {S : Sto} {id : Nat} {a : Addr} {c : Cell} {o : HO} (rep : Rep g R H ι S) (hi : ι[id]? = some a) (hs : S[id]? = some (some c)) (ho : H a = some o) : Rep g (upd R a o) H ι (S.set id none) ∧ ∀ b, Lv ι (S.set id none) b → Lv ι S b := by
  obtain ⟨_, hR⟩ := rep.cell id a _ hi hs
  have back : ∀ {j : Nat} {k : Cell}, (S.set id none)[j]? = some (some k) → id ≠ j ∧ S[j]? = some (some k) := fun {j k} e => by
    rcases get_set e with ⟨_, e, _⟩ | ⟨n, e⟩
    · cases e
    · exact ⟨n, e⟩
  have hsub : ∀ b u, R b = some u → upd R a o b = some u := rsub_upd hR
  refine ⟨⟨fun b u h => ?_, by rw [List.length_set]; exact rep.len, fun j b k h1 h2 => ?_, fun j k b q q' h1 h2 h3 h4 => rep.inj j k b q q' h1 h2 (back h3).2 (back h4).2⟩, fun b ⟨j, k, h1, h2⟩ => ⟨j, k, h1, (back h2).2⟩⟩
  · by_cases e : b = a
    · subst e
      rw [upd_same] at h
      rw [ho]
      exact h
    · rw [upd_ne e] at h
      exact rep.sub b u h
  · obtain ⟨n, h2⟩ := back h2
    obtain ⟨q, r⟩ := rep.cell j b k h1 h2
    have nb : b ≠ a := fun z => by
      subst z
      exact n (rep.inj id j b _ _ hi h1 hs h2)
    exact ⟨q.subR hsub, by rw [upd_ne nb]; exact r⟩

/-! ### o.f = e -/
def setF (cs : List Str) (f : Str) (me mo : Env → M D) : MS := bindS me fun d env => bindS mo (fun o env S => match o with
  | .obj id => (match S[id]? with
    | some (some (.inst c fs)) => if c ∈ cs ∧ fs.length < 1000 then .nx env (S.set id (some (.inst c (putFD f d fs)))) else .stuck
    | _ => .stuck)
  | _ => .stuck) env
theorem ss_fld {value : Expr} (hc : FldC X.K X.mg f cs) (he : SE X W false value me) (ho : SE X W false o mo) (hs : swapsWith value (some (.Attribute o f pos')) pos.line X.env = pure false := by rfl) : SS X W (.Assign [.Attribute o f pos'] value pos) (setF cs f me mo) :=
  PS.imp (ps_fld ho he hs) fun E σ H ⟨R, ι, S, env, rep, repE, post⟩ => by
    refine tG_stm rep repE post fun R1 H1 ι1 S1 v d rep1 repE1 x1 b1 post1 => ?_
    refine tG_stm rep1 repE1 post1 fun R2 H2 ι2 S2 ov od rep2 repE2 x2 b2 post2 => ?_
    have b2 : Dv (Cx.g X) R2 ι2 ov od := b2
    have b1 : Dv (Cx.g X) R1 ι1 v d := b1
    cases od with
    | obj id =>
      cases hs : S2[id]? with
      | none =>
        simp only [hs] at post2
        exact post2.elim
      | some oc =>
        cases oc with
        | none =>
          simp only [hs] at post2
          exact post2.elim
        | some k =>
          cases k with
          | list xs =>
            simp only [hs] at post2
            exact post2.elim
          | tbl s =>
            simp only [hs] at post2
            exact post2.elim
          | inst c fs =>
            simp only [hs] at post2
            obtain ⟨⟨hm, hl⟩, post3⟩ := PostS.ite post2
            cases b2 with
            | obj hi =>
              rename_i a
              obtain ⟨⟨C, dx, fvs, h1, h2, h3⟩, _⟩ := rep2.cell id a _ hi hs
              obtain ⟨C', m', cl, na⟩ := hc c hm
              have h2' : X.mg c = some (.ref C) := h2
              rw [h2'] at m'
              cases m'
              obtain ⟨r1, r2⟩ := cell_updG (c' := .inst c (putFD f d fs)) (o := .ins C dx (putF f v fvs)) rep2 hi hs h1 (fun _ z => by cases z) (fun _ z => by cases z) ⟨C, dx, _, upd_same, h2, h3.put (b1.ext x2)⟩
              exact ⟨a, C, dx, fvs, rfl, h1, cl, na, by rw [h3.len]; exact hl, post3 σ R2 ι2 _ r1 (repE2.ext r2) (Ext.stm r2)⟩
    | _ => exact post2.elim
end
end Sm

set_option Elab.async false
set_option linter.all false
set_option maxRecDepth 100000
set_option maxHeartbeats 2000000
/-! Sm16: calls of defs, methods, makers, properties; values by place, by name, left out. -/
namespace Sm
open PySem PySem.Spec PyProof.Rows L2

/-- how the values of a call come into the parameters' order; dds: what stands for parameters that are left out -/
structure BindD (K : PySem.W.Frag) (mg : Str → Option Value) (fd : FuncData) (ps ks : List Str) (dds : List D) (o : {α : Type} → List α → List α → List α → Option (List α)) : Prop where
  ex : ∃ its : List Value, (∀ R ι, ∃ dvs : List V, DvAll ⟨K, mg⟩ R ι dvs dds ∧ Vals dvs its) ∧ ∀ (s : Shared) (us ws as : List Value), K.In s.heap → o its us ws = some as → BindsTo s fd ⟨us, ks.zip ws⟩ (ps.zip as)
  rel : ∀ {α β : Type} {r : α → β → Prop} {cs : List α} {ds : List β} {vs : List α} {us : List β} {zs : List α} {ws : List β} {as : List β}, Paired r cs ds → Paired r vs us → Paired r zs ws → o ds us ws = some as → ∃ bs, o cs vs zs = some bs ∧ Paired r bs as
/-- nothing is left out -/
theorem BindD.of {K : PySem.W.Frag} {mg : Str → Option Value} {fd : FuncData} {ps : List Str} (hb : Binds K fd ps []) {o : {α : Type} → List α → List α → List α → Option (List α)} (ho : ∀ {α : Type} (cs xs zs as : List α), o cs xs zs = some as → xs = as ∧ as.length = ps.length ∧ zs = [])
    (hr : ∀ {α β : Type} {r : α → β → Prop} {cs : List α} {ds : List β} {vs : List α} {us : List β} {zs : List α} {ws : List β} {as : List β}, Paired r cs ds → Paired r vs us → Paired r zs ws → o ds us ws = some as → ∃ bs, o cs vs zs = some bs ∧ Paired r bs as) : BindD K mg fd ps [] [] o :=
  ⟨⟨[], fun R ι => ⟨[], .nil, .nil⟩, fun s us ws as X e => by
    obtain ⟨e1, e2, e3⟩ := ho _ _ _ _ e
    subst e1
    have := hb s us X (by rw [List.append_nil]; exact e2)
    rw [List.append_nil] at this
    exact this⟩, hr⟩

section
variable {X : Cx} {W : WX} {bw : Bool} {pos p apos : Pos} {e o : Expr} {es : List Expr} {kws : List Keyword} {ks ps : List Str} {mr mk : Env → M (List D)} {mo : Env → M D} {x : Str} {k : Nat} {f : Addr} {fd : FuncData} {F : List D → M D} {n : Nat} {dds : List D}
  {ob : {α : Type} → List α → List α → List α → Option (List α)}
/-- the values of a call, in the order of the text -/
def CallW (X : Cx) (pos : Pos) (es : List Expr) (kws : List Keyword) (ks : List Str) (ta tk : TA) : Prop := ∀ {fv : Value} {first : List Value} {pins : List (Addr × Obj)} {s : Shared} {σ : L2.St} {H : Hp} {B : List V → List V → Hp → Prop} {Q : Value → Shared → Prop},
  PySem.W.keepIn X.K fv = true → Inv X pins σ H s → ta σ H (fun vs H1 => tk σ H1 fun zs H2 => B vs zs H2) →
  (∀ us ws vs zs H2 s2, Inv X pins σ H2 s2 → Vals vs us → Vals zs ws → B vs zs H2 → wpAny (model X.prog X.w) X.A (call fv (first ++ us) (ks.zip ws)) Q X.xe s2) →
  wpAny (model X.prog X.w) X.A (callWith pos fv first (backTo pos (starEach es X.env)) (backToKw pos (keywordEach kws X.env))) Q X.xe s
structure CallS (X : Cx) (W : WX) (pos : Pos) (es : List Expr) (kws : List Keyword) (ks : List Str) (mr mk : Env → M (List D)) : Prop where
  ex : ∃ ta tk : TA, (∀ σ H Q, tG (Cx.g X) W (relA (Cx.g X)) mr σ H Q → ta σ H Q) ∧ (∀ σ H Q, tG (Cx.g X) W (relA (Cx.g X)) mk σ H Q → tk σ H Q) ∧ CallW X pos es kws ks ta tk
abbrev noM : Env → M (List D) := fun _ => pure []
theorem no_imp {g : Gd} {σ : L2.St} {H : Hp} {Q : List V → Hp → Prop} (h : tG g W (relA g) noM σ H Q) : tNil σ H Q := by
  obtain ⟨R, ι, S, env, rep, repE, post⟩ := h
  exact post [] R ι H rep Ext.refl .nil
theorem cs_pos (ha : SA X W (e :: es) mr) (he : starEach (e :: es) X.env = (false, eval e X.env) :: starEach es X.env := by rfl) (hpl : (backTo pos (starEach es X.env)).any (·.1) = false := by rfl) : CallS X W pos (e :: es) [] [] mr noM :=
  ⟨_, tNil, fun _ _ _ h => h, fun _ _ _ h => no_imp h, by
    intro fv first pins s σ H B Q kp I h go
    refine PySem.W.callWith_K (h₀ := X.base) I.ok.mod.kin kp (thn (ha.run pos pins s σ H _ I h) fun us s1 ⟨vs, H1, I1, r, q⟩ => ⟨I1.kIn, ?_⟩) he hpl
    exact go us [] vs [] H1 s1 I1 r .nil q⟩
theorem cs_none : CallS X W pos [] [] [] noM noM :=
  ⟨tNil, tNil, fun _ _ _ h => no_imp h, fun _ _ _ h => no_imp h, by
    intro fv first pins s σ H B Q kp I h go
    exact PySem.W.callWith_K0 I.kIn kp (go [] [] [] [] H s I .nil .nil h)⟩
theorem cs_kw (hkw : SK X W kws mk) (hall : (backToKw pos (keywordEach kws X.env)).all (·.1.isSome) = true := by rfl) (hks : (backToKw pos (keywordEach kws X.env)).filterMap (·.1) = ks := by rfl)
    (hpl : ((backTo pos (starEach [] X.env)).any (·.1) || (backToKw pos (keywordEach kws X.env)).any (·.1.isNone)) = false := by rfl) : CallS X W pos [] kws ks noM mk :=
  ⟨tNil, _, fun _ _ _ h => no_imp h, fun _ _ _ h => h, by
    intro fv first pins s σ H B Q kp I h go
    refine PySem.W.callWith_KW0 (h₀ := X.base) I.ok.mod.kin kp hall (thn (hkw.run pos pins s σ H _ I h) fun ws s1 ⟨zs, H1, I1, rz, q⟩ => ⟨I1.kIn, ?_⟩) hpl
    rw [hks]
    exact go [] ws [] zs H1 s1 I1 .nil rz q⟩
theorem cs_both (ha : SA X W (e :: es) mr) (hkw : SK X W kws mk) (hall : (backToKw pos (keywordEach kws X.env)).all (·.1.isSome) = true := by rfl) (hks : (backToKw pos (keywordEach kws X.env)).filterMap (·.1) = ks := by rfl) (he : starEach (e :: es) X.env = (false, eval e X.env) :: starEach es X.env := by rfl)
    (hpl : ((backTo pos (starEach (e :: es) X.env)).any (·.1) || (backToKw pos (keywordEach kws X.env)).any (·.1.isNone)) = false := by rfl) : CallS X W pos (e :: es) kws ks mr mk :=
  ⟨_, _, fun _ _ _ h => h, fun _ _ _ h => h, by
    intro fv first pins s σ H B Q kp I h go
    refine PySem.W.callWith_KW (h₀ := X.base) I.ok.mod.kin kp hall (thn (ha.run pos pins s σ H _ I h) fun us s1 ⟨vs, H1, I1, r, q⟩ => ?_) hpl he
    refine thn (hkw.run pos pins s1 σ H1 _ I1 q) fun ws s2 ⟨zs, H2, I2, rz, q2⟩ => ⟨I2.kIn, ?_⟩
    rw [hks]
    exact go us ws vs zs H2 s2 I2 r rz q2⟩
/-- two readings of one expression: the first one that tells something -/
def altM {α : Type} (m1 m2 : Env → M α) : Env → M α := fun env S => match m1 env S with
  | .stuck => m2 env S
  | o => o
theorem se_alt {m1 m2 : Env → M D} (h1 : SE X W bw e m1) (h2 : SE X W bw e m2) : SE X W bw e (altM m1 m2) := by
  refine ⟨fun pins s σ H Q I ⟨R, ι, S, env, rep, repE, post⟩ => ?_⟩
  unfold altM at post
  cases q : m1 env S with
  | stuck =>
    rw [q] at post
    exact h2.run pins s σ H Q I ⟨R, ι, S, env, rep, repE, post⟩
  | ok d S' =>
    rw [q] at post
    exact h1.run pins s σ H Q I ⟨R, ι, S, env, rep, repE, by rw [q]; exact post⟩
  | exc z S' =>
    rw [q] at post
    exact h1.run pins s σ H Q I ⟨R, ι, S, env, rep, repE, by rw [q]; exact post⟩

/-! ### a def called -/
theorem Paired.dv {g : Gd} {R : Hp} {ι : List Addr} {vs : List V} {ds : List D} (h : DvAll g R ι vs ds) : Paired (fun v d => Dv g R ι v d) vs ds := DvAll.paired.mp h
/-- the values bound, of the state too -/
theorem bind_both {fd' : FuncData} {R H : Hp} {ι : List Addr} {vs zs : List V} {us ws : List Value} {xs cs as : List D} {s : Shared} (hb : BindD X.K X.mg fd' ps ks dds ob) (K : X.K.In s.heap) (r : Vals vs us) (rz : Vals zs ws) (hx : DvAll (Cx.g X) R ι vs xs) (hz : DvAll (Cx.g X) R ι zs cs) (e : ob dds xs cs = some as) :
    ∃ (bs : List V) (ys : List Value), DvAll (Cx.g X) R ι bs as ∧ Vals bs ys ∧ BindsTo s fd' ⟨us, ks.zip ws⟩ (ps.zip ys) := by
  obtain ⟨its, h1, h2⟩ := hb.ex
  obtain ⟨dvs, q1, q2⟩ := h1 R ι
  obtain ⟨bs, e1, rb⟩ := hb.rel (Paired.dv q1) (Paired.dv hx) (Paired.dv hz) e
  obtain ⟨ys, e2, ry⟩ := hb.rel (r := fun u v => RelV v u) (Paired.swap q2) (Paired.swap r) (Paired.swap rz) e1
  exact ⟨bs, ys, DvAll.paired.mpr rb, Paired.swap ry, h2 s us ws ys K e2⟩
theorem se_callD (G : FnG X.prog X.w X.K X.mg X.base k f fd ps (spS (Cx.g X) n F)) (har : Ar n F) (hr : RoomG k X.A) (hg : Gl X x) (hm : X.mg x = some (.ref f)) (hk : PySem.W.keepIn X.K (.ref f) = true) (hb : BindD X.K X.mg fd ps ks dds ob) (tk : Takes X W)
    (hc : CallS X W pos es kws ks mr mk) (hdb : (x == ("__debug__" : Str)) = false := by decide) :
    SE X W bw (.Call (.Name x p) es kws pos) (fun env => mr env >>= fun xs => mk env >>= fun zs => optM (ob dds xs zs) >>= F) := by
  obtain ⟨ta, tk', i1, i2, go⟩ := hc.ex
  refine ⟨fun pins s σ H Q I ⟨R, ι, S, env, rep, repE, post⟩ => ?_⟩
  refine wpAny_Call_Name_kw (ld_glob I hg hm ?_ hdb)
  refine go (first := []) (B := fun vs zs H2 => ∃ R2 ι2 S2 xs cs, Rep (Cx.g X) R2 H2 ι2 S2 ∧ DvAll (Cx.g X) R2 ι2 vs xs ∧ DvAll (Cx.g X) R2 ι2 zs cs ∧ Post (Cx.g X) W (relE (Cx.g X) bw) R2 H2 ι2 S2 σ ((optM (ob dds xs cs) >>= F) S2) Q) hk I (i1 _ _ _ ?_) fun us ws vs zs H2 s2 I2 r rz ⟨R2, ι2, S2, xs, cs, rep2, d1, d2, post2⟩ => ?_
  · refine tG_then later_E rep repE post fun R1 H1 ι1 S1 vs xs rep1 repE1 x1 b1 post1 => i2 _ _ _ ?_
    refine tG_then later_E rep1 repE1 post1 fun R2 H2 ι2 S2 zs cs rep2 repE2 x2 b2 post2 => ?_
    have b1 : DvAll (Cx.g X) R1 ι1 vs xs := b1
    exact ⟨R2, ι2, S2, xs, cs, rep2, b1.ext x2, b2, post2⟩
  · cases qo : ob dds xs cs with
    | none =>
      rw [qo] at post2
      exact post2.elim
    | some as =>
      rw [qo] at post2
      have post2 : Post (Cx.g X) W (relE (Cx.g X) bw) R2 H2 ι2 S2 σ (F as S2) Q := post2
      obtain ⟨bs, ys, d3, rv, hbt⟩ := bind_both (H := H2) hb I2.kIn r rz d1 d2 qo
      exact run_G G hr tk I2 hbt rv (call_end (G := G) (bw := bw) (vs_len har d3 post2) rep2 d3 post2)

/-! ### a method called -/
def chkM (cs : List Str) (m : Str) (x : D) : M D := fun S => optO (instOf x S) fun (c, fs) => if c ∈ cs ∧ (fs.lookup m).isNone = true then .ok x S else .stuck
theorem opt_none {α : Type} {o : Option α} (h : o.isNone = true) : o = none := by
  cases o with
  | none => rfl
  | some _ => cases h
theorem se_methD {pl : Sem Bool} {c m : Str} {C : Addr} (hC : X.mg c = some (.ref C)) (cl : Cls X.K C) (hme : Meth X.K C m f) (G : FnG X.prog X.w X.K X.mg X.base k f fd ps (spS (Cx.g X) n F)) (har : Ar n F) (hr : RoomG k X.A) (hb : BindD X.K X.mg fd ps ks dds ob) (tk : Takes X W)
    (ho : SE X W false o mo) (hc : CallS X W pos es kws ks mr mk)
    (ht : eval (.Call (.Attribute o m apos) es kws pos) X.env = (do
      let ov ← eval o X.env
      standAt apos.atName
      let (f, first) ← holding [ov] (getMethod ov m pl)
      callWith pos f first (backTo pos (starEach es X.env)) (backToKw pos (keywordEach kws X.env))) := by rfl) :
    SE X W bw (.Call (.Attribute o m apos) es kws pos) (fun env => mo env >>= fun x => chkM [c] m x >>= fun x => mr env >>= fun xs => mk env >>= fun zs => optM (ob dds (x :: xs) zs) >>= F) := by
  obtain ⟨ta, tk', i1, i2, go⟩ := hc.ex
  refine PE.imp (t := fun σ H Q => tG (Cx.g X) W (relE (Cx.g X) false) mo σ H fun ov H1 => ∃ a dx fs, ov = .ref a ∧ H1 a = some (.ins C dx fs) ∧ fs.lookup m = none ∧ ta σ H1 fun vs H1' => tk' σ H1' fun zs H2 => ∃ R2 ι2 S2 d xs cs, Rep (Cx.g X) R2 H2 ι2 S2 ∧ Dv (Cx.g X) R2 ι2 (.ref a) d ∧ DvAll (Cx.g X) R2 ι2 vs xs ∧ DvAll (Cx.g X) R2 ι2 zs cs ∧ Post (Cx.g X) W (relE (Cx.g X) bw) R2 H2 ι2 S2 σ ((optM (ob dds (d :: xs) cs) >>= F) S2) Q)
    ⟨fun pins s σ H Q I h => ?_⟩ fun σ H Q ⟨R, ι, S, env, rep, repE, post⟩ => ?_
  · refine PySem.W.methodCall_KW (pl := pl) (thn (ho.run pins s σ H _ I h) fun u s1 ⟨v, H1, I1, rx, a, dx, fs, ex, ea, l, q⟩ => ?_) ht
    subst ex
    obtain rfl : u = Value.ref a := rx
    refine getmeth_ok I1 ea cl hme l ?_
    refine go (first := [.ref a]) hme.kp I1 q fun us ws vs zs H2 s2 I2 r rz ⟨R2, ι2, S2, d, xs, cs, rep2, d0, d1, d2, post2⟩ => ?_
    cases qo : ob dds (d :: xs) cs with
    | none =>
      rw [qo] at post2
      exact post2.elim
    | some as =>
      rw [qo] at post2
      have post2 : Post (Cx.g X) W (relE (Cx.g X) bw) R2 H2 ι2 S2 σ (F as S2) Q := post2
      obtain ⟨bs, ys, d3, rv, hbt⟩ := bind_both (H := H2) (vs := .ref a :: vs) (us := .ref a :: us) hb I2.kIn (.cons rfl r) rz (.cons d0 d1) d2 qo
      exact run_G G hr tk I2 hbt rv (call_end (G := G) (bw := bw) (vs_len har d3 post2) rep2 d3 post2)
  · refine tG_then later_E rep repE post fun R1 H1 ι1 S1 v d rep1 repE1 x1 b1 post1 => ?_
    have b1 : Dv (Cx.g X) R1 ι1 v d := b1
    have p2 : Post (Cx.g X) W (relE (Cx.g X) bw) R1 H1 ι1 S1 σ (Mbind (chkM [c] m d) (fun x => mr env >>= fun xs => mk env >>= fun zs => optM (ob dds (x :: xs) zs) >>= F) S1) Q := post1
    clear post1
    unfold Mbind chkM at p2
    cases ei : instOf d S1 with
    | none =>
      simp only [ei, optO] at p2
      exact p2.elim
    | some cf =>
      obtain ⟨c', fs⟩ := cf
      simp only [ei, optO] at p2
      by_cases hq : c' ∈ [c] ∧ (fs.lookup m).isNone = true
      · rw [if_pos hq] at p2
        obtain ⟨a, C', dx, fvs, rfl, h1, h2, h3⟩ := Dv.insts rep1 b1 ei
        have e1 := List.mem_singleton.mp hq.1
        subst e1
        have h2 : X.mg c' = some (.ref C') := h2
        rw [hC] at h2
        cases h2
        refine ⟨a, dx, fvs, rfl, h1, h3.look0 (opt_none hq.2), i1 _ _ _ ?_⟩
        refine tG_then later_E rep1 repE1 p2 fun R2 H2 ι2 S2 vs xs rep2 repE2 x2 b2 post2 => i2 _ _ _ ?_
        refine tG_then later_E rep2 repE2 post2 fun R3 H3 ι3 S3 zs cs rep3 repE3 x3 b3 post3 => ?_
        have b2 : DvAll (Cx.g X) R2 ι2 vs xs := b2
        exact ⟨R3, ι3, S3, d, xs, cs, rep3, (b1.ext x2).ext x3, b2.ext x3, b3, post3⟩
      · rw [if_neg hq] at p2
        exact p2.elim
end
end Sm

set_option Elab.async false
set_option linter.all false
set_option maxRecDepth 100000
set_option maxHeartbeats 2000000
/-! Sm17: new instances; properties; isinstance of own classes. -/
namespace Sm
open PySem PySem.Spec PyProof.Rows L2

section
variable {X : Cx} {W : WX} {bw : Bool} {pos p apos : Pos} {e o : Expr} {es : List Expr} {kws : List Keyword} {ks ps : List Str} {mr mk : Env → M (List D)} {mo me : Env → M D} {x : Str} {k : Nat} {f : Addr} {fd : FuncData} {F : List D → M D} {n : Nat} {dds : List D}
  {ob : {α : Type} → List α → List α → List α → Option (List α)}
/-- a new instance, its __init__ run; it stays in the store -/
def makeO (c : Str) (F : List D → M D) (xs : D → Option (List D)) : M D := fun S => optO (xs (.obj S.length)) fun as => match F as (S ++ [some (.inst c [])]) with
  | .ok .none S' => .ok (.obj S.length) S'
  | .ok _ _ => .stuck
  | .exc z S' => .exc z S'
  | .stuck => .stuck
theorem run_makeG {pins : List (Addr × Obj)} {σ : L2.St} {H : Hp} {s : Shared} {Q : VK} {C : Addr} {us ws : List Value} {sp : Sp} (Mk_ : Mk X.K C f) (G : FnG X.prog X.w X.K X.mg X.base k f fd ps sp) (hr : RoomG (k + 1) X.A) (tk : Takes X W) (I : Inv X pins σ H s)
    (h : ∀ x dx, H x = none → H dx = none → dx ≠ x → ∃ ys vs, (∀ s' : Shared, X.K.In s'.heap → BindsTo s' fd ⟨.ref x :: us, ks.zip ws⟩ (ps.zip ys)) ∧ Vals vs ys ∧ sp vs (upd (upd H dx (.own x)) x (.ins C dx [])) (fun v H2 => v = .non ∧ Q (.ref x) H2) (WE W σ)) :
    wpAny (model X.prog X.w) X.A (call (.ref C) us (ks.zip ws)) (EP X pins σ Q) X.xe s := by
  obtain ⟨ys, vs, hb, rv, hq⟩ := h (s.heap.objs.size + 1) s.heap.objs.size (I.hok.fresh (Nat.le_succ _)) (I.hok.fresh (Nat.le_refl _)) (Nat.ne_of_lt (Nat.lt_succ_self _))
  have I2 := Inv.made (C := C) I
  refine wpAny_call (make_map (f := f) I.kIn Mk_.makes Mk_.init (beq_iff_eq.mp Mk_.fn) (codeAny_mono (G.run _ X.stack _ _ ⟨Value.ref (s.heap.objs.size + 1) :: us, ks.zip ws⟩ ys vs _ (WE W σ) ⟨hr.room.make C us (ks.zip ws), ?_⟩
    (I2.env0.make C us (ks.zip ws)) (hb _ I2.kIn) rv hq) fun r s' hq' => ?_))
  · have hg := hr.gd
    first
      | exact hg
      | simpa [Around.under, Code.isGuard, guardIds] using hg
  · cases r with
    | error e => exact passAt tk σ pins _ _ e s' I2 hq'
    | ok fl =>
      cases fl with
      | ret u =>
        obtain ⟨v, H', I3, rv, ev, q3⟩ := I2.after hq'
        subst ev
        exact ⟨rv, ⟨V.ref (s.heap.objs.size + 1), H', I3, rfl, q3⟩⟩
      | next => exact False.elim hq'
      | brk => exact False.elim hq'
      | cont => exact False.elim hq'
theorem make_end {c : Str} {C : Addr} {R H : Hp} {ι : List Addr} {S : Sto} {σ : L2.St} {Q : VK} {xs cs : List D} {vs zs : List V} {us ws : List Value} {G : FnG X.prog X.w X.K X.mg X.base k f fd ps (spS (Cx.g X) n F)} (har : Ar n F) (hC : X.mg c = some (.ref C)) (hb : BindD X.K X.mg fd ps ks dds ob)
    (rep : Rep (Cx.g X) R H ι S) (d1 : DvAll (Cx.g X) R ι vs xs) (d2 : DvAll (Cx.g X) R ι zs cs) (r : Vals vs us) (rz : Vals zs ws) (KI : ∃ s : Shared, X.K.In s.heap) (post : Post (Cx.g X) W (relE (Cx.g X) bw) R H ι S σ (makeO c F (fun d => ob dds (d :: xs) cs) S) Q) :
    ∀ x dx, H x = none → H dx = none → dx ≠ x → ∃ ys vs, (∀ s' : Shared, X.K.In s'.heap → BindsTo s' fd ⟨.ref x :: us, ks.zip ws⟩ (ps.zip ys)) ∧ Vals vs ys ∧ spS (Cx.g X) n F vs (upd (upd H dx (.own x)) x (.ins C dx [])) (fun v H2 => v = .non ∧ Q (.ref x) H2) (WE W σ) := by
  intro x dx hx hdx hne
  unfold makeO at post
  obtain ⟨as, qo, post⟩ := Post.opt post
  have hpre : ∀ (i : Nat) a, ι[i]? = some a → (ι ++ [x])[i]? = some a := fun i a h => by
    rw [List.getElem?_append_left (List.getElem?_eq_some_iff.mp h).1]
    exact h
  have hx' : upd H dx (.own x) x = none := by rw [upd_ne (Ne.symm hne)]; exact hx
  have rep1 : Rep (Cx.g X) R (upd (upd H dx (.own x)) x (.ins C dx [])) ι S := (rep.newH hdx).newH hx'
  have rep2 : Rep (Cx.g X) R (upd (upd H dx (.own x)) x (.ins C dx [])) (ι ++ [x]) (S ++ [some (.inst c [])]) := cell_newG rep1 (rep.noR hx) (rep.noL hx) ⟨C, dx, [], upd_same, hC, .nil⟩
  have d0 : Dv (Cx.g X) R (ι ++ [x]) (.ref x) (.obj S.length) := .obj (by
    rw [List.getElem?_append_right (by rw [rep.len]; exact Nat.le_refl _), rep.len, Nat.sub_self]
    rfl)
  have d1' := d1.mono (R' := R) (fun _ _ q => q) hpre
  have d2' := d2.mono (R' := R) (fun _ _ q => q) hpre
  have hext : ExtL R H ι S R (upd (upd H dx (.own x)) x (.ins C dx [])) (ι ++ [x]) (S ++ [some (.inst c [])]) := {
    rsub := fun _ _ q => q
    pre := hpre
    keep := fun a u h _ => by
      rw [upd_ne (ne_of_none h hx), upd_ne (ne_of_none h hdx)]
      exact h
    fresh := fun _ _ q _ _ => q
    own := fun b hb => by
      rcases lv_new rep.len hb with h | rfl
      · exact .inl h
      · exact .inr hx
    there := fun b hb => by
      by_cases e1 : b = x
      · subst e1
        exact hx
      · rw [upd_ne e1] at hb
        by_cases e2 : b = dx
        · subst e2
          exact hdx
        · rw [upd_ne e2] at hb
          exact hb }
  obtain ⟨s0, KI⟩ := KI
  obtain ⟨its, h1, h2⟩ := hb.ex
  obtain ⟨dvs, q1, q2⟩ := h1 R (ι ++ [x])
  obtain ⟨bs, e1, rb⟩ := hb.rel (Paired.dv q1) (Paired.dv (.cons d0 d1')) (Paired.dv d2') qo
  obtain ⟨ys, e2, ry⟩ := hb.rel (r := fun u v => RelV v u) (Paired.swap q2) (Paired.swap (Paired.cons (show RelV (.ref x) (.ref x) from rfl) r)) (Paired.swap rz) e1
  have d3 : DvAll (Cx.g X) R (ι ++ [x]) bs as := DvAll.paired.mpr rb
  refine ⟨ys, bs, fun s' K' => h2 s' _ ws ys K' e2, Paired.swap ry, ?_, R, ι ++ [x], _, as, rep2, d3, ?_⟩
  · rw [d3.len]
    refine har as (S ++ [some (.inst c [])]) fun z => ?_
    rw [z] at post
    exact post.elim
  · cases q : F as (S ++ [some (.inst c [])]) with
    | ok d S' =>
      rw [q] at post
      intro v R' ι' H' r1 x1 dv
      cases d with
      | none =>
        have dv : Dv (Cx.g X) R' ι' v .none := dv
        cases dv
        refine ⟨rfl, post _ R' ι' H' r1 (hext.trans x1) (VD.of (.obj (x1.pre _ _ ?_)))⟩
        rw [List.getElem?_append_right (by rw [rep.len]; exact Nat.le_refl _), rep.len, Nat.sub_self]
        rfl
      | _ => exact post.elim
    | exc z S' =>
      rw [q] at post
      exact fun cls dd R' ι' H' r1 x1 q => post cls dd R' ι' H' r1 (hext.trans x1) q
    | stuck =>
      rw [q] at post
      exact post.elim
theorem se_make {c : Str} {C : Addr} (M_ : Mk X.K C f) (hC : X.mg c = some (.ref C)) (G : FnG X.prog X.w X.K X.mg X.base k f fd ps (spS (Cx.g X) n F)) (har : Ar n F) (hr : RoomG (k + 1) X.A) (hg : Gl X c) (hb : BindD X.K X.mg fd ps ks dds ob) (tk : Takes X W)
    (hc : CallS X W pos es kws ks mr mk) (hdb : (c == ("__debug__" : Str)) = false := by decide) :
    SE X W bw (.Call (.Name c p) es kws pos) (fun env => mr env >>= fun xs => mk env >>= fun zs => makeO c F (fun d => ob dds (d :: xs) zs)) := by
  obtain ⟨ta, tk', i1, i2, go⟩ := hc.ex
  refine ⟨fun pins s σ H Q I ⟨R, ι, S, env, rep, repE, post⟩ => ?_⟩
  refine wpAny_Call_Name_kw (ld_glob I hg hC ?_ hdb)
  refine go (first := []) (B := fun vs zs H2 => ∃ R2 ι2 S2 xs cs, Rep (Cx.g X) R2 H2 ι2 S2 ∧ DvAll (Cx.g X) R2 ι2 vs xs ∧ DvAll (Cx.g X) R2 ι2 zs cs ∧ Post (Cx.g X) W (relE (Cx.g X) bw) R2 H2 ι2 S2 σ (makeO c F (fun d => ob dds (d :: xs) cs) S2) Q) M_.kp I (i1 _ _ _ ?_) fun us ws vs zs H2 s2 I2 r rz ⟨R2, ι2, S2, xs, cs, rep2, d1, d2, post2⟩ => ?_
  · refine tG_then later_E rep repE post fun R1 H1 ι1 S1 vs xs rep1 repE1 x1 b1 post1 => i2 _ _ _ ?_
    refine tG_then later_E rep1 repE1 post1 fun R2 H2 ι2 S2 zs cs rep2 repE2 x2 b2 post2 => ?_
    have b1 : DvAll (Cx.g X) R1 ι1 vs xs := b1
    exact ⟨R2, ι2, S2, xs, cs, rep2, b1.ext x2, b2, post2⟩
  · exact run_makeG M_ G hr tk I2 (make_end (G := G) har hC hb rep2 d1 d2 r rz ⟨_, I2.kIn⟩ post2)
/-- what a maker made is frozen -/
def frzI (m : Env → M D) : Env → M D := fun env S => match m env S with
  | .ok (.obj id) S' => (match S'[id]? with
    | some (some (.inst c fs)) => .ok (.inst c fs) (S'.set id none)
    | _ => .stuck)
  | .ok _ _ => .stuck
  | .exc z S' => .exc z S'
  | .stuck => .stuck
/-- an object that is new is never changed from here on -/
theorem se_frzI {m : Env → M D} (he : SE X W bw e m) : SE X W bw e (frzI m) := PE.imp he fun σ H Q ⟨R, ι, S, env, rep, repE, post⟩ => by
  refine ⟨R, ι, S, env, rep, repE, ?_⟩
  unfold frzI at post
  cases q : m env S with
  | exc z S' =>
    rw [q] at post
    exact post
  | stuck =>
    rw [q] at post
    exact post
  | ok d S' =>
    simp only [q] at post
    cases d with
    | obj id =>
      cases hs : S'[id]? with
      | none =>
        simp only [hs] at post
        exact post.elim
      | some oc =>
        cases oc with
        | none =>
          simp only [hs] at post
          exact post.elim
        | some kk =>
          cases kk with
          | list xs =>
            simp only [hs] at post
            exact post.elim
          | tbl s =>
            simp only [hs] at post
            exact post.elim
          | inst c fs =>
            simp only [hs] at post
            intro v R1 ι1 H1 rep1 x1 b1
            have b1 : Dv (Cx.g X) R1 ι1 v (.obj id) := (VD.toBw b1).dv fun _ z => by cases z
            cases b1 with
            | obj hi =>
              rename_i a
              obtain ⟨⟨C, dx, fvs, h1, h2, h3⟩, hR⟩ := rep1.cell id a _ hi hs
              obtain ⟨r1, r2⟩ := cell_out rep1 hi hs h1
              have hsub : ∀ b u, R1 b = some u → upd R1 a (.ins C dx fvs) b = some u := rsub_upd hR
              refine post _ (upd R1 a (.ins C dx fvs)) ι1 H1 r1 ?_ (VD.of (.inst upd_same h2 (h3.mono hsub fun _ _ q => q)))
              exact {
                rsub := fun b u q => hsub b u (x1.rsub b u q)
                pre := x1.pre
                keep := x1.keep
                fresh := fun b u q n m => by
                  by_cases e : b = a
                  · subst e
                    rcases x1.own b ⟨id, _, hi, hs⟩ with z | z
                    · exact absurd z m
                    · exact absurd z n
                  · rw [upd_ne e] at q
                    exact x1.fresh b u q n m
                own := fun b hb => x1.own b (r2 b hb)
                there := x1.there }
    | _ => exact post.elim

/-! ### properties -/
theorem se_prop {c g' : Str} {C pa : Addr} (hC : X.mg c = some (.ref C)) (cl : Cls X.K C) (hp : PropOf X.K C g' pa f) (G : FnG X.prog X.w X.K X.mg X.base k f fd ps (spS (Cx.g X) n F)) (har : Ar n F) (hr : RoomG (k + 1) X.A) (hb : BindD X.K X.mg fd ps [] dds ob)
    (ho : SE X W false o mo) (hab : attributeBase o g' X.env (eval o X.env) = eval o X.env := by rfl) :
    SE X W bw (.Attribute o g' pos) (fun env => mo env >>= fun x => chkM [c] g' x >>= fun x => optM (ob dds [x] []) >>= fun as => nx1 (F as)) := by
  refine PE.imp (t := fun σ H Q => tG (Cx.g X) W (relE (Cx.g X) false) mo σ H fun ov H1 => ∃ a dx fs, ov = .ref a ∧ H1 a = some (.ins C dx fs) ∧ fs.lookup g' = none ∧ ∃ R2 ι2 S2 d as, Rep (Cx.g X) R2 H1 ι2 S2 ∧ Dv (Cx.g X) R2 ι2 (.ref a) d ∧ ob dds [d] [] = some as ∧ Post (Cx.g X) W (relE (Cx.g X) bw) R2 H1 ι2 S2 σ (nx1 (F as) S2) Q)
    ⟨fun pins s σ H Q I h => ?_⟩ fun σ H Q ⟨R, ι, S, env, rep, repE, post⟩ => ?_
  · refine attr_of hab (thn (ho.run pins s σ H _ I h) fun u s1 ⟨v, H1, I1, rx, a, dx, fs, ex, ea, l, R2, ι2, S2, d, as, rep2, d0, qo, post2⟩ => ?_)
    subst ex
    obtain rfl : u = Value.ref a := rx
    obtain ⟨mA, O, _, _, _, _⟩ := ins_get I1.hok ea
    obtain ⟨od, J, _⟩ := O.look
    obtain ⟨rest, hrec⟩ := hp.rec_
    have I2 := I1.tok (s1.toks + 1)
    obtain ⟨bs, ys, d3, rv, hbt⟩ := bind_both (H := H1) (s := { s1 with toks := s1.toks + 1 }) (vs := [.ref a]) (us := [.ref a]) (zs := []) (ws := []) hb I1.kIn (.cons rfl .nil) .nil (.cons d0 .nil) .nil qo
    have hc : (PySem.W.clsIn X.K C).isSome = true := by
      obtain ⟨cd, hc, _⟩ := PySem.W.any_some cl.hd
      rw [hc]
      rfl
    have hns : F as S2 ≠ .stuck := fun z => by
      unfold nx1 at post2
      rw [z] at post2
      exact post2.elim
    have hlen : bs.length = n := by
      rw [d3.len]
      exact har as S2 hns
    have hsp : spS (Cx.g X) n F bs H1 Q (fun _ _ _ => False) := by
      refine ⟨hlen, R2, ι2, S2, as, rep2, d3, ?_⟩
      unfold nx1 at post2
      cases q : F as S2 with
      | ok d S' =>
        rw [q] at post2
        exact fun v R' ι' H' r z y => post2 v R' ι' H' r z (VD.of y)
      | exc e S' =>
        rw [q] at post2
        exact post2.elim
      | stuck => exact absurd q hns
    refine PySem.W.get_bind I1.kIn J (PySem.W.plainGet_of (cl.get g')).1 (PySem.W.findObj_data hc hp.at_ hp.get hp.tak) (PySem.W.plainGet_of (cl.get g')).2 (wpAny_call (PySem.W.prop_get (s := { s1 with toks := s1.toks + 1 }) I1.kIn hrec ?_))
    refine codeAny_mono (G.run X.A.in1 X.stack { s1 with toks := s1.toks + 1 } H1 ⟨[.ref a], []⟩ ys bs Q (fun _ _ _ => False) ⟨hr.room.in1, hr.gd⟩ I2.env0.in1 hbt rv hsp) fun r s' hq => ?_
    cases r with
    | error er =>
      obtain ⟨_, _, _, _, _, _, _, _, _, _, _, _, z⟩ := (show L2.CX X.prog X.w X.stack H1 _ (fun _ _ _ => False) er s' from hq)
      exact z.elim
    | ok fl =>
      cases fl with
      | ret u =>
        obtain ⟨v, H', I3, rv, q3⟩ := I2.after hq
        show wpAny _ _ (handedOut u) _ _ _
        rw [PySem.W.handedOut_of (handed_of rv)]
        exact wpAny_pure ⟨v, H', I3, rv, q3⟩
      | next => exact False.elim hq
      | brk => exact False.elim hq
      | cont => exact False.elim hq
  · refine tG_then later_E rep repE post fun R1 H1 ι1 S1 v d rep1 repE1 x1 b1 post1 => ?_
    have b1 : Dv (Cx.g X) R1 ι1 v d := b1
    have p2 : Post (Cx.g X) W (relE (Cx.g X) bw) R1 H1 ι1 S1 σ (Mbind (chkM [c] g' d) (fun x => optM (ob dds [x] []) >>= fun as => nx1 (F as)) S1) Q := post1
    clear post1
    unfold Mbind chkM at p2
    cases ei : instOf d S1 with
    | none =>
      simp only [ei, optO] at p2
      exact p2.elim
    | some cf =>
      obtain ⟨c', fs⟩ := cf
      simp only [ei, optO] at p2
      by_cases hq : c' ∈ [c] ∧ (fs.lookup g').isNone = true
      · rw [if_pos hq] at p2
        obtain ⟨a, C', dx, fvs, rfl, h1, h2, h3⟩ := Dv.insts rep1 b1 ei
        have e1 := List.mem_singleton.mp hq.1
        subst e1
        have h2 : X.mg c' = some (.ref C') := h2
        rw [hC] at h2
        cases h2
        have p2 : Post (Cx.g X) W (relE (Cx.g X) bw) R1 H1 ι1 S1 σ ((optM (ob dds [d] []) >>= fun as => nx1 (F as)) S1) Q := p2
        cases qo : ob dds [d] ([] : List D) with
        | none =>
          rw [qo] at p2
          exact p2.elim
        | some as =>
          rw [qo] at p2
          exact ⟨a, dx, fvs, rfl, h1, h3.look0 (opt_none hq.2), R1, ι1, S1, d, as, rep1, b1, qo, p2⟩
      · rw [if_neg hq] at p2
        exact p2.elim
end
end Sm

set_option Elab.async false
set_option linter.all false
set_option maxRecDepth 100000
set_option maxHeartbeats 4000000
/-! Sm18: errors: a new one of an own class whose __init__ says super().__init__(a text) and keeps its parameters. -/
namespace Sm
open PySem PySem.Spec PySem.Calls PyProof.Rows L2

/-! ### the fields that __init__ keeps -/
/-- self.f = f, for each f -/
inductive Kept : List Stmt → List Str → Prop
  | nil : Kept [] []
  | cons {f : Str} {fs : List Str} {ss : List Stmt} {p1 p2 p3 p4 : Pos} (h : Kept ss fs) : Kept (.Assign [.Attribute (.Name "self" p1) f p2] (.Name f p3) p4 :: ss) (f :: fs)
/-- an error's object x, its dict: none as yet, or these fields -/
def ErrAt (h : Heap) (x C : Addr) (t : Addr) (fs : List (Str × Value)) (d : Option Addr) : Prop := h.get? x = some (PySem.W.excObj C t d .none) ∧ match d with
  | none => fs = []
  | some dx => dx ≠ x ∧ h.Ns1 dx (fun y => fs.lookup y) ∧ fs.length ≤ 900
section
variable {prog : Program} {w : World} {A : Around} {E : Value → Shared → Prop} {K : PySem.W.Frag} {C x t : Addr} {d : Option Addr} {fs : List (Str × Value)} {f : Str} {v : Value}
theorem lookV_put (f g : Str) (y : Value) (fs : List (Str × Value)) : ((f, y) :: fs).lookup g = if g = f then some y else fs.lookup g := by
  by_cases h : g = f
  · subst h
    simp [List.lookup]
  · have e : (g == f) = false := by simpa using h
    rw [if_neg h]
    simp [List.lookup, e]
theorem lookV_within : ∀ fs : List (Str × Value), Within (fun y => fs.lookup y) (fs.map (·.1)) := fun fs y hy => by
  have key : ∀ {l : List (Str × Value)} {v : Value}, l.lookup y = some v → y ∈ l.map (·.1) := by
    intro l
    induction l with
    | nil =>
      intro v h
      cases h
    | cons p l ih =>
      intro v h
      obtain ⟨f, z⟩ := p
      rw [lookV_put] at h
      by_cases e : y = f
      · rw [e]
        exact List.mem_cons_self ..
      · rw [if_neg e] at h
        exact List.mem_cons_of_mem _ (ih h)
  cases hl : fs.lookup y with
  | some v => exact key hl
  | none => exact absurd hl hy
theorem err_set {s : Shared} {Q : Unit → Shared → Prop} (X : K.In s.heap) (T : OexC K C) (hno : PySem.W.findIn K (.ref C) f = some none) (a : ErrAt s.heap x C t fs d) (hl : fs.length < 900)
    (h : ∀ s' d', (∀ b o, b ≠ x → d ≠ some b → s.heap.get? b = some o → s'.heap.get? b = some o) → (∀ b, d' = some b → d = some b ∨ s.heap.objs.size ≤ b) → ErrAt s'.heap x C t ((f, v) :: fs) d' → d' ≠ none → s'.os = s.os → s'.gens = s.gens → Q () s') : wpAny (model prog w) A (setAttr (.ref x) f v) Q E s := by
  obtain ⟨nm, q, N, bs, bm, sn, sub, ab, col, dd, k0, k1, k2, k3, k5, hC, hbm⟩ := T.cls
  have hcl : PySem.W.clsIn K C = some { name := nm, bases := bs, mro := .ref C :: bm, ns := N, qualname := q, hasDict := true, slotNames := sn, subclasses := sub, abstract := ab, collection := col, hasDel := false } := by unfold PySem.W.clsIn; rw [hC] <;> rfl
  obtain ⟨hp, g, dr, tk, os⟩ := s
  obtain ⟨ho, hd⟩ := a
  cases d with
  | none =>
    refine PySem.W.set_plain X (ox := PySem.W.excObj C t none .none) (od := none) ⟨ho, rfl, rfl, trivial⟩ T.sa ?_
    refine PySem.HandSPX.exc_osa X ho hcl (show PySem.HandSPX.refsVE (.ref C :: bm) = true from hbm) rfl hno (fun h' tk' dx k dn dne hx hn => ?_)
    subst hd
    refine h _ (some dx) (fun b o n _ e => k b o n e) (fun b e => by cases e; exact .inr dn) ⟨hx, dne, ?_, by simp⟩ (by simp) rfl rfl
    have e : (fun y => ([(f, v)] : List (Str × Value)).lookup y) = fun y => if y = f then some v else none := by
      funext y
      exact lookV_put f y v []
    rw [e]
    exact hn
  | some dx =>
    obtain ⟨hne, hns, hln⟩ := hd
    have hw := lookV_within fs
    obtain ⟨oD, _, _, hoD, _, _⟩ := hns.count hw
    refine PySem.W.set_plain X (ox := PySem.W.excObj C t (some dx) .none) (od := some oD) ⟨ho, rfl, rfl, hoD⟩ T.sa ?_
    refine PySem.OEX.osa_old X ho hns hw (by rw [List.length_map]; omega) hcl (show PySem.HandSPX.refsVE (.ref C :: bm) = true from hbm) rfl hno (fun h' tk' k hn => ?_)
    refine h _ (some dx) (fun b o n m e => k b o (fun z => m (by rw [z])) e) (fun b e => .inl e) ⟨k _ _ (Ne.symm hne) ho, hne, ?_, by rw [List.length_cons]; omega⟩ (by simp) rfl rfl
    have e : (fun y => ((f, v) :: fs).lookup y) = fun y => if y = f then some v else fs.lookup y := by
      funext y
      exact lookV_put f y v fs
    rw [e]
    exact hn
theorem kept_ok {B : Heap} {M : Str → Option Value} {env : PySem.Env} {c : Code} {Q : Flow → Shared → Prop} (KB : K.In B) (T : OexC K C) (hxB : B.get? x = none) (hLx : env.locals ≠ x) (hsx : M "self" = some (.ref x)) (hfn : env.scope.kind = .function) (hsl : env.kindOf "self" = some .local) :
    ∀ {ss : List Stmt} {fls : List Str}, Kept ss fls → ∀ {us : List Value} {fs : List (Str × Value)} {d : Option Addr} {s : Shared}, (∀ b o, B.get? b = some o → s.heap.get? b = some o) → (∀ b, d = some b → B.get? b = none ∧ b ≠ env.locals) → ErrAt s.heap x C t fs d → s.heap.Ns env.locals M →
      Paired (fun f u => M f = some u) fls us → (∀ f ∈ fls, PySem.W.findIn K (.ref C) f = some none ∧ env.kindOf f = some .local ∧ (f == ("__debug__" : Str)) = false) → fs.length + fls.length < 800 →
      (∀ s' d', (∀ b o, B.get? b = some o → s'.heap.get? b = some o) → (∀ b, d' = some b → B.get? b = none) → ErrAt s'.heap x C t ((fls.zip us).reverse ++ fs) d' → (fls ≠ [] ∨ d ≠ none → d' ≠ none) → s'.os = s.os → s'.gens = s.gens → Q .next s') →
      _root_.PySem.wpAt (model prog w) A c (execs ss env) Q E s
  | _, _, .nil, us, fs, d, s, kB, hd, a, hn, hp, hf, hl, h => by
    cases hp
    refine _root_.PySem.wpAt_of_wpAny (wpAny_execs_nil (h s d kB (fun b e => (hd b e).1) a (fun z => z.resolve_left (fun y => y rfl)) rfl rfl))
  | _, _, .cons (f := f) (fs := fls) hk, us, fs, d, s, kB, hd, a, hn, hp, hf, hl, h => by
    cases hp with
    | cons hu hp =>
      rename_i u us
      obtain ⟨h1, h2, h3⟩ := hf f List.mem_cons_self
      have KS : K.In s.heap := KB.keeps kB
      rw [List.length_cons] at hl
      refine PySem.ks_wpAt_execs_cons (PySem.ks_wpAt_Assign_Attr (_root_.PySem.wpAt_of_wpAny (PySem.ESX.ldL hn hu (PySem.ESX.ldL hn hsx ?_ hfn hsl) hfn h2 h3)))
      refine err_set KS T h1 a (by omega) fun s' d' k kd a' hd' eo eg => ?_
      have kB' : ∀ b o, B.get? b = some o → s'.heap.get? b = some o := fun b o e => k b o (fun z => by rw [z, hxB] at e; cases e) (fun z => by rw [(hd b z).1] at e; cases e) (kB b o e)
      have hdB : ∀ b, d' = some b → B.get? b = none ∧ b ≠ env.locals := fun b e => by
        rcases kd b e with e | e
        · exact hd b e
        · have nb : s.heap.get? b = none := by
            cases z : s.heap.get? b with
            | none => rfl
            | some o => exact absurd (Heap.lt_size z) (Nat.not_lt.mpr e)
          refine ⟨?_, fun z => ?_⟩
          · cases z : B.get? b with
            | none => rfl
            | some o =>
              rw [kB b o z] at nb
              cases nb
          · obtain ⟨o, _, _, ho, _⟩ := id hn
            rw [z, ho] at nb
            cases nb
      have hn' : s'.heap.Ns env.locals M := by
        obtain ⟨o, es, ep, ho, r⟩ := hn
        exact ⟨o, es, ep, k _ _ hLx (fun z => (hd _ z).2 rfl) ho, r⟩
      refine kept_ok KB T hxB hLx hsx hfn hsl hk (us := us) kB' hdB a' hn' hp (fun g hg => hf g (List.mem_cons_of_mem _ hg)) (by rw [List.length_cons]; omega) fun s2 d2 q1 q2 q3 q4 q5 q6 => ?_
      refine h s2 d2 q1 q2 ?_ (fun _ => q4 (.inr hd')) (q5.trans eo) (q6.trans eg)
      have e : ((f :: fls).zip (u :: us)).reverse ++ fs = (fls.zip us).reverse ++ (f, u) :: fs := by
        rw [List.zip_cons_cons, List.reverse_cons, List.append_assoc]
        rfl
      rw [e]
      exact q3

/-! ### super().__init__(a text) -/
theorem super_init {B : Heap} {mg : Str → Option Value} {s : Shared} {fI cda cc L : Addr} {body : List Stmt} {params : Arguments} {scope : Scope} {kV doc pm ct : Value} {an : Option Addr} {nm qual : Str} {M : Str → Option Value}
    {ar : Arg} {vs : Array Value} {tf : Tok} {p0 p1 p2 p3 p4 p5 : Pos} {txt : Str} {j : Nat} {Q : Flow → Shared → Prop} {od ccd cld : Option Addr} {osl ccs csl : Array (Option Value)} {occ ccl cl : Value}
    (mod : Mod K mg B) (kB : ∀ b o, B.get? b = some o → s.heap.get? b = some o) (T : OexC K C) (hxi : PySem.W.excInitIn K C [.type "ValueError", .type "Exception", .type "BaseException", .type "object"] "ValueError.__new__" = true)
    (hsub : PySem.W.subIn K (.ref C) (.type "ValueError") = some true) (hsup : PySem.W.ks_superIn K C C "__init__" = some (some (.builtin "ValueError.__init__"))) (hself : PySem.W.mroIn K C (.ref C) = some true) (hopq : PySem.W.nsIn K cStatics "thirdparty.any" = some none) (hg : mg "super" = none)
    (lf : K.lookup fI = some ⟨occ, od, .func (PySem.W.ksFn nm qual params body scope .none kV doc pm an (.ref cda) ct cc), osl⟩) (lc : K.lookup cda = some ⟨ccl, ccd, .fields vs, ccs⟩) (hvs : vs[2]? = some (.str prog.main.file tf)) (lcc : K.lookup cc = some ⟨cl, cld, .cell (some (.ref C)), csl⟩)
    (hp : (params.posonlyargs ++ params.args).head? = some ar) (har : ar.arg = "self") (htop : (prog.main.scope.names.lookup ("super" : Str)).isSome = false) (hks : scope.names.lookup ("super" : Str) = some .globalImplicit) (hkc : scope.names.lookup ("__class__" : Str) = some .free) (hk : scope.kind = .function) (hi : interactive (PySem.W.ksEnv qual scope L fI (.ref cda) cc) = false) (hs : swapsWith (.Call (.Attribute (.Call (.Name "super" p0) [] [] p1) "__init__" p2) [.Constant (.str txt) j p3] [] p4) none p5.line (PySem.W.ksEnv qual scope L fI (.ref cda) cc) = pure false) (hka : scope.names.lookup ("self" : Str) = some .local)
    (hl : (p2.endLine == p4.line) = true) (hx : s.heap.get? x = some (PySem.W.excObj C t none .none)) (hn : s.heap.Ns L M) (hv : M "self" = some (.ref x))
    (h : ∀ h' t', (∀ b o, b ≠ x → s.heap.get? b = some o → h'.get? b = some o) → h'.get? x = some (PySem.W.excObj C t' none .none) → ∀ tk, Q .next { s with heap := h', toks := tk }) :
    _root_.PySem.wpAt (model prog w) A (.func body (PySem.W.ksEnv qual scope L fI (.ref cda) cc)) (exec (.Expr (.Call (.Attribute (.Call (.Name "super" p0) [] [] p1) "__init__" p2) [.Constant (.str txt) j p3] [] p4) p5) (PySem.W.ksEnv qual scope L fI (.ref cda) cc)) Q E s := by
  have KS : K.In s.heap := mod.kin.keeps kB
  obtain ⟨mb, hb1, hb2⟩ := mod.blt
  obtain ⟨nm', N, qn, bs, bm, hdct, sn, sub, ab, col, dd, k0, k1, k2, k3, k5, hC, hT⟩ := PySem.W.excInit_of KS hxi
  have hD : (PySem.W.clsIn K C).isSome = true := by
    unfold PySem.W.ks_superIn at hsup
    cases z : PySem.W.clsIn K C with
    | none => rw [z] at hsup; cases hsup
    | some cd => rfl
  obtain ⟨cd, hcd⟩ := Option.isSome_iff_exists.mp hD
  obtain ⟨oD, hD1, hD2⟩ : ∃ oD, s.heap.get? C = some oD ∧ oD.data = .cls cd := by
    unfold PySem.W.clsIn at hcd
    split at hcd
    · rename_i c d cd' sl ho
      cases hcd
      exact ⟨_, KS _ _ ho, rfl⟩
    · cases hcd
  have hev : eval (.Call (.Attribute (.Call (.Name "super" p0) [] [] p1) "__init__" p2) [.Constant (.str txt) j p3] [] p4) (PySem.W.ksEnv qual scope L fI (.ref cda) cc) = (do
      let ov ← attributeBase (.Call (.Name "super" p0) [] [] p1) "__init__" (PySem.W.ksEnv qual scope L fI (.ref cda) cc) (eval (.Call (.Name "super" p0) [] [] p1) (PySem.W.ksEnv qual scope L fI (.ref cda) cc))
      standAt p2.atName
      let (f, first) ← holding [ov] (getMethod ov "__init__" (plainOf (.Call (.Name "super" p0) [] [] p1) (PySem.W.ksEnv qual scope L fI (.ref cda) cc)))
      callWith p4 f first (backTo p4 (starEach [.Constant (.str txt) j p3] (PySem.W.ksEnv qual scope L fI (.ref cda) cc))) []) := by
    rw [arm_eval_Call]
    refine congrArg _ (funext fun ov => congrArg _ (funext fun _ => ?_))
    exact mcall_line rfl hl
  refine PySem.ks_wpAt_Expr_any (PySem.ks_wpAt_MethodCall (PySem.ks_wpAt_super_base (env := PySem.W.ksEnv qual scope L fI (.ref cda) cc) hks hkc (by decide) rfl (KS _ _ lf) rfl hp rfl (KS _ _ lc) rfl hvs (by simp) htop ?_) hev) hi hs
  refine PySem.W.ks_loadName_global hk hks (loadGlobal_builtin (env := PySem.W.ksEnv qual scope L fI (.ref cda) cc) (mod.glob.keeps kB) hg (hb1.keeps kB) ((hb2 _ (by decide)).trans Boot.«super») ⟨rfl, ?_⟩)
  refine wpAny_loadName_free hk hkc rfl ⟨_, KS _ _ lcc, rfl⟩ ?_
  rw [har]
  refine wpAny_loadName_local hk hka hn hv ?_
  obtain ⟨hh, g, d, tk, os⟩ := s
  refine PySem.ks_wpAny_isType_cls hD1 hD2 ⟨rfl, ?_⟩
  refine PySem.ks_wpAny_call_super hD1 hD2 hx rfl (fun c e => by cases e) (PySem.W.looks_mroIn KS hself) (fun h1 e1 q1 => ?_)
  have KS1 : K.In h1 := KS.keeps q1
  have I1 : PySem.W.InstAt h1 x (PySem.W.excObj C t none .none) C none := ⟨q1 _ _ hx, rfl, rfl, trivial⟩
  have hf : PySem.W.alongIn K "__init__" ((cd.mro.dropWhile (· != .ref C)).drop 1) = some (some (.builtin "ValueError.__init__")) := by
    unfold PySem.W.ks_superIn at hsup
    rw [hcd] at hsup
    exact hsup
  refine PySem.W.kxs_getMethod PySem.W.kxs_ValueError e1 (PySem.W.looks_opaque KS1 hopq) (l₀ := cd.mro) (fun A Q E s k q => wpAny_bind ((PySem.W.looks_clsIn KS1 hcd) A _ E s k (wpAny_pure q))) rfl KS1 hf (I1.type.andThen (PySem.W.looks_subIn KS1 hsub)) (PySem.W.ks_ne KS1 I1 hcd) (by decide) ?_
  have e2 : (h1.push (PySem.W.kxs_mw "ValueError.__init__" x)).get? h1.objs.size = some (PySem.W.kxs_mw "ValueError.__init__" x) := Heap.get?_push_at rfl rfl
  have q2 : ∀ b o, h1.get? b = some o → (h1.push (PySem.W.kxs_mw "ValueError.__init__" x)).get? b = some o := fun b o e => Heap.get?_push_of_some _ e
  refine PySem.W.kxs_callWith (i := "ValueError.__init__") (x := x) rfl (evalArgs_plain (wpAny_items_cons (Constant_str (wpAny_items_nil ⟨e2, ?_⟩))))
  have e3 : (h1.push (PySem.W.kxs_mw "ValueError.__init__" x)).get? x = some (PySem.W.excObj C t none .none) := q2 _ _ (q1 _ _ hx)
  have e4 : (h1.push (PySem.W.kxs_mw "ValueError.__init__" x)).get? C = _ := q2 _ _ (q1 _ _ hC)
  refine wpAny_call (codeAny_of_tree ?_)
  show wpAny _ A.in1 (callAny (.ref h1.objs.size) ⟨[.str txt _], []⟩) _ _ _
  simp only [callAny]
  refine wpAny_bind (wpAny_load e2 ?_)
  simp only [PySem.W.kxs_mw, show (Value.type "method-wrapper" == Value.type "method" || Value.type "method-wrapper" == Value.type "builtin_function_or_method" || Value.type "method-wrapper" == Value.type "method-wrapper") = true by decide, if_true]
  refine PySem.W.KFB.if_so (by decide) ?_
  refine wpAny_bind (PySem.W.check_bound_init PySem.F.excBase_ValueError.toExcCallFacts e4 e3 rfl ?_)
  refine wpAny_bind (wpAny_pure (wpAny_pure ?_))
  refine ⟨plainId_quiet PySem.F.excBase_ValueError.init.plain _, codeAny_builtin PySem.F.excBase_ValueError.initEntry ?_⟩
  refine PySem.W.exc_init_tree (cls := .ref C) (t0 := t) (dv := none) (c2 := .none) (c3 := .none) (b4 := .bool false) e3 (by simp [sizeLine_eq]) fun h2 k2 r1 r2 => ?_
  exact h h2 _ (fun b o n e => k2 b o n (q2 _ _ (q1 _ _ e))) r1 _
end

/-! ### a new error -/
/-- what is written of an own error class: its __init__ at fI keeps the fields fls -/
structure ErrC (P : Program) (K : PySem.W.Frag) (mg : Str → Option Value) (c : Str) (fls : List Str) (C : Addr) : Prop where
  gC : mg c = some (.ref C)
  oex : OexC K C
  xi : PySem.W.excInitIn K C [.type "ValueError", .type "Exception", .type "BaseException", .type "object"] "ValueError.__new__" = true
  sub : PySem.W.subIn K (.ref C) (.type "ValueError") = some true
  sup : PySem.W.ks_superIn K C C "__init__" = some (some (.builtin "ValueError.__init__"))
  self_ : PySem.W.mroIn K C (.ref C) = some true
  opq : PySem.W.nsIn K cStatics "thirdparty.any" = some none
  gsup : mg "super" = none
  flds : ∀ f ∈ fls, PySem.W.findIn K (.ref C) f = some none ∧ (f == ("__debug__" : Str)) = false
  dist : (("self" : Str) :: fls).Nodup
  few : fls.length < 100
  some_ : fls ≠ []
  ini : ∃ (fI cda cc : Addr) (qual : Str) (params : Arguments) (scope : Scope) (body ss : List Stmt) (oc kV doc pm ct ccl cl : Value) (an od cdd cld : Option Addr) (osl ccs csl : Array (Option Value)) (ar : Arg) (vs : Array Value) (tf : Tok) (txt : Str) (j : Nat) (p0 p1 p2 p3 p4 p5 : Pos),
    PySem.W.findIn K (.ref C) "__init__" = some (some (.ref fI)) ∧ PySem.W.typeIn K (.ref fI) = some (.type "function") ∧
    K.lookup fI = some ⟨oc, od, .func (PySem.W.ksFn "__init__" qual params body scope .none kV doc pm an (.ref cda) ct cc), osl⟩ ∧ PySem.W.codeIn K (.ref cda) qual = true ∧
    K.lookup cda = some ⟨ccl, cdd, .fields vs, ccs⟩ ∧ vs[2]? = some (.str P.main.file tf) ∧ K.lookup cc = some ⟨cl, cld, .cell (some (.ref C)), csl⟩ ∧
    (params.posonlyargs ++ params.args).head? = some ar ∧ ar.arg = "self" ∧ (P.main.scope.names.lookup ("super" : Str)).isSome = false ∧
    body = .Expr (.Call (.Attribute (.Call (.Name "super" p0) [] [] p1) "__init__" p2) [.Constant (.str txt) j p3] [] p4) p5 :: ss ∧ Kept ss fls ∧ (p2.endLine == p4.line) = true ∧
    scope.names.lookup ("super" : Str) = some .globalImplicit ∧ scope.names.lookup ("__class__" : Str) = some .free ∧ scope.kind = .function ∧ scope.isCoroutine = false ∧ scope.isGenerator = false ∧ (∀ x ∈ scope.names, x.2 ≠ .cell) ∧ (∀ f ∈ ("self" : Str) :: fls, scope.names.lookup f = some .local) ∧
    (∀ L : Addr, interactive (PySem.W.ksEnv qual scope L fI (.ref cda) cc) = false ∧ swapsWith (.Call (.Attribute (.Call (.Name "super" p0) [] [] p1) "__init__" p2) [.Constant (.str txt) j p3] [] p4) none p5.line (PySem.W.ksEnv qual scope L fI (.ref cda) cc) = pure false) ∧
    ∀ us : List Value, us.length = fls.length + 1 → bindArgs (PySem.W.ksFn "__init__" qual params body scope .none kV doc pm an (.ref cda) ct cc) ⟨us, []⟩ = pure ((("self" : Str) :: fls).zip us)
theorem look_mem : ∀ {l : List (Str × Value)} {k : Str} {v : Value}, (l.map (·.1)).Nodup → (k, v) ∈ l → l.lookup k = some v
  | [], _, _, _, h => by cases h
  | (k', v') :: l, k, v, hd, h => by
    rw [List.map_cons, List.nodup_cons] at hd
    rw [lookV_put]
    rcases List.mem_cons.mp h with e | h
    · cases e
      rw [if_pos rfl]
    · have hk : k ∈ l.map (·.1) := List.mem_map_of_mem (f := fun p : Str × Value => p.1) h
      have hne : ¬ k' = k := fun e => hd.1 (by rw [e]; exact hk)
      rw [if_neg (fun e => hne e.symm)]
      exact look_mem hd.2 h
theorem paired_zip {F : Str → Value → Prop} : ∀ {fls : List Str} {us : List Value}, fls.length = us.length → (∀ p ∈ fls.zip us, F p.1 p.2) → Paired F fls us
  | [], [], _, _ => .nil
  | [], _ :: _, h, _ => by simp at h
  | _ :: _, [], h, _ => by simp at h
  | f :: fls, u :: us, h, hm => .cons (hm (f, u) (by simp [List.zip_cons_cons])) (paired_zip (by simpa using h) fun p hp => hm p (by
      rw [List.zip_cons_cons]
      exact List.mem_cons_of_mem _ hp))
theorem zip_fst {fls : List Str} {us : List Value} (h : fls.length = us.length) : (fls.zip us).map (·.1) = fls := by
  rw [← List.unzip_fst, List.unzip_zip h]
theorem relO_zip : ∀ {l : List (Str × V)} {m : List (Str × Value)}, Paired (fun (p : Str × V) (q : Str × Value) => p.1 = q.1 ∧ RelV p.2 q.2) l m → ∀ f, RelO (l.lookup f) (m.lookup f)
  | _, _, .nil, _ => trivial
  | _, _, .cons (a := (k, v)) (b := (k', u)) h t, f => by
    obtain ⟨h1, h2⟩ := h
    have h1 : k = k' := h1
    subst h1
    rw [List.lookup_cons, List.lookup_cons]
    cases f == k with
    | true => exact h2
    | false => exact relO_zip t f
theorem zip_rel : ∀ {fls : List Str} {vs : List V} {us : List Value}, Vals vs us → Paired (fun (p : Str × V) (q : Str × Value) => p.1 = q.1 ∧ RelV p.2 q.2) (fls.zip vs) (fls.zip us)
  | [], _, _, _ => by
    rw [List.zip_nil_left, List.zip_nil_left]
    exact .nil
  | _ :: _, _, _, .nil => by
    rw [List.zip_nil_right, List.zip_nil_right]
    exact .nil
  | f :: fls, _, _, .cons h t => by
    rw [List.zip_cons_cons, List.zip_cons_cons]
    exact .cons ⟨rfl, h⟩ (zip_rel t)
theorem paired_rev {α β : Type} {F : α → β → Prop} : ∀ {l : List α} {m : List β}, Paired F l m → Paired F l.reverse m.reverse
  | _, _, .nil => .nil
  | _, _, .cons h t => by
    rw [List.reverse_cons, List.reverse_cons]
    exact (paired_rev t).snoc h
section
variable {X : Cx} {pins : List (Addr × Obj)} {σ : L2.St} {H : Hp} {s : Shared} {c : Str} {fls : List Str} {C : Addr} {k : Nat} {vs : List V} {us : List Value} {Q : XK}
theorem err_make (E : ErrC X.prog X.K X.mg c fls C) (hr : RoomG (k + 1) X.A) (I : Inv X pins σ H s) (r : Vals vs us) (hl : us.length = fls.length)
    (q : ∀ d, H d = none → Q (.ref C) (some d) (upd H d (.xd (fls.zip vs).reverse))) : wpAny (model X.prog X.w) X.A (call (.ref C) us) (MkP X pins σ Q) X.xe s := by
  obtain ⟨fI, cda, cc, qual, params, scope, body, ss, oc, kV, doc, pm, ct, ccl, cl, an, od, cdd, cld, osl, ccs, csl, ar, vc, tf, txt, j, p0, p1, p2, p3, p4, p5, i1, i2, i3, i4, i5, i6, i7, i8, i9, i10, rfl, hk, hline, ks, kc, kf, co, gn, hcell, hloc, hsw, hbind⟩ := E.ini
  obtain ⟨nm, qn, N, bs, bm, sn, sub, ab, col, dd, k0, k1, k2, k3, k5, hC, hbm⟩ := E.oex.cls
  obtain ⟨hp, g, dr, tk, os⟩ := s
  have kk : ∀ b o, hp.get? b = some o → ((hp.push (PySem.W.kdv_tup us)).push (PySem.HandSPX.excO C hp.objs.size)).get? b = some o := fun b o e => Heap.get?_push_of_some _ (Heap.get?_push_of_some _ e)
  have hget : ((hp.push (PySem.W.kdv_tup us)).push (PySem.HandSPX.excO C hp.objs.size)).get? (hp.objs.size + 1) = some (PySem.HandSPX.excO C hp.objs.size) := by heap_get
  have kin := I.kIn
  have kin2 : X.K.In ((hp.push (PySem.W.kdv_tup us)).push (PySem.HandSPX.excO C hp.objs.size)) := kin.keeps kk
  have hus : us.length ≤ sizeLine := by
    rw [hl, sizeLine_eq]
    have := E.few
    omega
  have nh : ∀ b, hp.objs.size ≤ b → hp.get? b = none := fun b hb => by
    cases z : hp.get? b with
    | none => rfl
    | some o => exact absurd (Heap.lt_size z) (Nat.not_lt.mpr hb)
  refine wpAny_call (PySem.HandSPX.call_own F.excBase_ValueError (fun Y => PySem.HandSPX.refsVE_contains Y bm hbm) (kin _ _ hC) (PySem.W.looks_findIn kin i1) (fun self => PySem.W.bind_fn kin self i2) hus ?_)
  have hroom := (hr.room.make C us []).dp
  have hlen : (Value.ref (hp.objs.size + 1) :: us).length = (("self" : Str) :: fls).length := by
    rw [List.length_cons, List.length_cons, hl]
  refine PySem.ks_codeAny_call_defAt (fd := PySem.W.ksFn "__init__" qual params _ scope .none kV doc pm an (.ref cda) ct cc) (binds := (("self" : Str) :: fls).zip (Value.ref (hp.objs.size + 1) :: us)) (by omega) (kin2 _ _ i3) rfl (I.nolimit.keeps kk) (PySem.W.codeRec_of kin2 i4) rfl
    (BindsTo.of_eq (hbind _ (by rw [List.length_cons, hl]))) hcell (fun y hy => hloc _ ?_) (fun h₀ hns hk0 => ?_) co gn kf
  · exact (List.of_mem_zip (a := y.1) (b := y.2) hy).1
  have ku : ∀ b o, hp.get? b = some o → h₀.get? b = some o := fun b o e => hk0 b o (kk b o e)
  have hfst : ((("self" : Str) :: fls).zip (Value.ref (hp.objs.size + 1) :: us)).map (·.1) = ("self" : Str) :: fls := zip_fst hlen.symm
  have hnd : (((("self" : Str) :: fls).zip (Value.ref (hp.objs.size + 1) :: us)).reverse.map (·.1)).Nodup := by
    rw [List.map_reverse, hfst]
    exact List.pairwise_reverse.mpr (E.dist.imp fun h => h.symm)
  have look : ∀ p ∈ (("self" : Str) :: fls).zip (Value.ref (hp.objs.size + 1) :: us), ((("self" : Str) :: fls).zip (Value.ref (hp.objs.size + 1) :: us)).reverse.lookup p.1 = some p.2 := fun p hp' => look_mem hnd (List.mem_reverse.mpr hp')
  have hself := look ("self", Value.ref (hp.objs.size + 1)) (by simp [List.zip_cons_cons])
  have hxB : hp.get? (hp.objs.size + 1) = none := nh _ (Nat.le_succ _)
  have hLx : ((hp.push (PySem.W.kdv_tup us)).push (PySem.HandSPX.excO C hp.objs.size)).objs.size ≠ hp.objs.size + 1 := by
    rw [Heap.size_push, Heap.size_push]
    omega
  have hLn : hp.get? ((hp.push (PySem.W.kdv_tup us)).push (PySem.HandSPX.excO C hp.objs.size)).objs.size = none := nh _ (by
    rw [Heap.size_push, Heap.size_push]
    omega)
  have fk : ∀ f ∈ fls, PySem.W.findIn X.K (.ref C) f = some none ∧ (PySem.W.ksEnv qual scope ((hp.push (PySem.W.kdv_tup us)).push (PySem.HandSPX.excO C hp.objs.size)).objs.size fI (.ref cda) cc).kindOf f = some .local ∧ (f == ("__debug__" : Str)) = false := fun f hf =>
    ⟨(E.flds f hf).1, hloc f (List.mem_cons_of_mem _ hf), (E.flds f hf).2⟩
  refine PySem.ks_wpAt_execs_cons ?_
  have kb : ∀ b o, X.base.get? b = some o → h₀.get? b = some o := fun b o e => ku b o (I.bk b o e)
  refine super_init I.ok.mod kb E.oex E.xi E.sub E.sup E.self_ E.opq E.gsup i3 i5 i6 i7 i8 i9 i10 ks kc kf (hsw _).1 (hsw _).2 (hloc _ List.mem_cons_self) hline (x := hp.objs.size + 1) (t := hp.objs.size) (hk0 _ _ hget) hns hself fun h2 t2 k2 e2 tk2 => ?_
  have hL2 : h2.Ns ((hp.push (PySem.W.kdv_tup us)).push (PySem.HandSPX.excO C hp.objs.size)).objs.size (fun x => ((("self" : Str) :: fls).zip (Value.ref (hp.objs.size + 1) :: us)).reverse.lookup x) := by
    obtain ⟨o, es, ep, ho, rr⟩ := hns
    exact ⟨o, es, ep, k2 _ _ hLx ho, rr⟩
  refine kept_ok (env := PySem.W.ksEnv qual scope ((hp.push (PySem.W.kdv_tup us)).push (PySem.HandSPX.excO C hp.objs.size)).objs.size fI (.ref cda) cc) (B := hp) (fs := []) (d := none) kin E.oex hxB hLx hself kf (hloc _ List.mem_cons_self) hk (fun b o e => k2 b o (fun z => by rw [z, hxB] at e; cases e) (ku b o e)) (fun b e => by cases e) ⟨e2, rfl⟩ hL2 (paired_zip hl.symm fun p hp' => look p (by
    rw [List.zip_cons_cons]
    exact List.mem_cons_of_mem _ hp')) fk (by have := E.few; simp; omega) fun s3 d3 q1 q2 q3 q4 q5 q6 => ?_
  refine ⟨rfl, ?_⟩
  obtain ⟨d, rfl⟩ := Option.ne_none_iff_exists'.mp (q4 (.inl E.some_))
  obtain ⟨ho, hdx, hns3, _⟩ := q3
  obtain ⟨G, g1, g2⟩ := restrict s3.heap fun b => decide (b ≠ hp.objs.size + 1)
  have gk : ∀ b o, b ≠ hp.objs.size + 1 → s3.heap.get? b = some o → G.get? b = some o := fun b o hb e => by
    rw [g1 b (by simpa using hb)]
    exact e
  have gx : G.get? (hp.objs.size + 1) = none := g2 _ (by simp)
  have gG : ∀ b o, G.get? b = some o → s3.heap.get? b = some o := fun b o e => by
    by_cases hb : b = hp.objs.size + 1
    · rw [hb, gx] at e
      cases e
    · rw [g1 b (by simpa using hb)] at e
      exact e
  have hpG : ∀ b o, hp.get? b = some o → G.get? b = some o := fun b o e => gk b o (fun z => by rw [z, hxB] at e; cases e) (q1 b o e)
  have hdn : H d = none := HOk.gone I.hok (q2 d rfl)
  have hxn : H (hp.objs.size + 1) = none := HOk.gone I.hok hxB
  have hnsG : G.Ns1 d (fun y => ((fls.zip us).reverse).lookup y) := by
    rw [List.append_nil] at hns3
    exact hns3.at fun o e => gk d o hdx e
  have new : ObjOk X.prog X.w (upd H d (.xd (fls.zip vs).reverse)) G d (.xd (fls.zip vs).reverse) := by
    exact ⟨_, hnsG, relO_zip (paired_rev (zip_rel r))⟩
  have bare : AllBare s3.gens := by
    rw [q6]
    exact I.bare
  have J : Inv X pins σ (upd H d (.xd (fls.zip vs).reverse)) { s3 with heap := G } := I.call' (ch := []) (q5) (Un.laidN hpG (q2 d rfl) hdn) (I.hok.laidN hpG hdn new) bare (fun b z => absurd z (by simp))
  exact ⟨hp.objs.size + 1, _, _, _, _, .ref C, some d, rfl, J, gG, gx, ho, ⟨rfl, rfl⟩, rfl, rfl, by rw [upd_ne hdx.symm]; exact hxn, rfl, bare, raises_own E.oex.exC E.oex.tyC, q d hdn⟩
end
end Sm

set_option Elab.async false
set_option linter.all false
set_option maxRecDepth 100000
set_option maxHeartbeats 2000000
/-! Sm19: raise C(..). -/
namespace Sm
open PySem PySem.Spec PyProof.Rows L2

theorem dvF_zip {g : Gd} {R : Hp} {ι : List Addr} : ∀ {fls : List Str} {vs : List V} {ds : List D}, DvAll g R ι vs ds → DvF g R ι (fls.zip vs) (fls.zip ds)
  | [], _, _, _ => by
    rw [List.zip_nil_left, List.zip_nil_left]
    exact .nil
  | _ :: _, _, _, .nil => by
    rw [List.zip_nil_right, List.zip_nil_right]
    exact .nil
  | f :: fls, _, _, .cons h t => by
    rw [List.zip_cons_cons, List.zip_cons_cons]
    exact .cons h (dvF_zip t)
theorem dvF_app {g : Gd} {R : Hp} {ι : List Addr} : ∀ {vs ws : List (Str × V)} {ds es : List (Str × D)}, DvF g R ι vs ds → DvF g R ι ws es → DvF g R ι (vs ++ ws) (ds ++ es)
  | _, _, _, _, .nil, s => s
  | _, _, _, _, .cons h t, s => .cons h (dvF_app t s)
theorem dvF_rev {g : Gd} {R : Hp} {ι : List Addr} : ∀ {vs : List (Str × V)} {ds : List (Str × D)}, DvF g R ι vs ds → DvF g R ι vs.reverse ds.reverse
  | _, _, .nil => .nil
  | _, _, .cons h t => by
    rw [List.reverse_cons, List.reverse_cons]
    exact dvF_app (dvF_rev t) (.cons h .nil)
def raiseD (c : Str) (fls : List Str) (m : Env → M (List D)) : MS := fun env S => match m env S with
  | .ok ds S' => if ds.length = fls.length then .exc ⟨c, (fls.zip ds).reverse⟩ env S' else .stuck
  | .exc z S' => .exc z env S'
  | .stuck => .stuck
section
variable {X : Cx} {W : WX} {c : Str} {fls : List Str} {C : Addr} {k : Nat} {e : Expr} {es : List Expr} {m : Env → M (List D)} {p pos pos' : Pos}
def tMkE (C : Addr) (fls : List Str) (t : TA) : L2.St → Hp → XK → Prop := fun σ H Q => t σ H fun vs H1 => vs.length = fls.length ∧ ∀ d, H1 d = none → Q (.ref C) (some d) (upd H1 d (.xd (fls.zip vs).reverse))
theorem pmk_err (E : ErrC X.prog X.K X.mg c fls C) (hr : RoomG (k + 1) X.A) (hg : Gl X c) {t : TA} (ha : PA X (e :: es) t) (hdb : (c == ("__debug__" : Str)) = false := by decide) (he : starEach (e :: es) X.env = (false, eval e X.env) :: starEach es X.env := by rfl)
    (hpl : (backTo pos (starEach es X.env)).any (·.1) = false := by rfl) : PMk X (.Call (.Name c p) (e :: es) [] pos) (tMkE C fls t) := by
  intro pins s σ H Q I h
  refine wpAny_Call_Name_kw (ld_glob I hg E.gC ?_ hdb)
  refine PySem.W.callWith_K (h₀ := X.base) I.ok.mod.kin E.oex.kC (thn (ha.run pos pins s σ H _ I h) fun us s1 ⟨vs, H1, I1, r1, hl, q1⟩ => ⟨I1.kIn, ?_⟩) he hpl
  exact err_make E hr I1 r1 ((Paired.length r1).symm.trans hl) q1
theorem ss_raise (E : ErrC X.prog X.K X.mg c fls C) (hr : RoomG (k + 1) X.A) (hc : X.calm = true) (tk : Takes X W) (hg : Gl X c) (ha : SA X W (e :: es) m) (hdb : (c == ("__debug__" : Str)) = false := by decide) (he : starEach (e :: es) X.env = (false, eval e X.env) :: starEach es X.env := by rfl)
    (hpl : (backTo pos (starEach es X.env)).any (·.1) = false := by rfl) : SS X W (.Raise (some (.Call (.Name c p) (e :: es) [] pos)) none pos') (raiseD c fls m) :=
  PS.imp (ps_raise hc tk (pmk_err E hr hg ha hdb he hpl)) fun D σ H ⟨R, ι, S, env, rep, repE, post⟩ => by
    refine ⟨R, ι, S, env, rep, repE, ?_⟩
    unfold raiseD at post
    cases q : m env S with
    | stuck =>
      rw [q] at post
      exact post.elim
    | exc z S' =>
      rw [q] at post
      exact fun cls dd R' ι' H' rep' x' b' => post cls dd σ R' ι' H' rep' (repE.ext x') b' (Ext.stm x')
    | ok ds S' =>
      rw [q] at post
      intro vs R' ι' H' rep' x' b'
      have b' : DvAll (Cx.g X) R' ι' vs ds := b'
      obtain ⟨hl, post⟩ := PostS.ite post
      refine ⟨by rw [b'.len]; exact hl, fun d hd => ?_⟩
      have x2 := x'.trans (Ext.newR (o := .xd (fls.zip vs).reverse) rep' hd)
      refine post (.ref C) (some d) σ _ ι' _ (rep'.newR hd) (repE.ext x2) ⟨C, d, _, rfl, rfl, E.gC, upd_same, ?_⟩ (Ext.stm x2)
      exact (dvF_rev (dvF_zip b')).mono (rsub_upd (rep'.noR hd)) fun _ _ h => h
end
end Sm

set_option Elab.async false
set_option linter.all false
set_option maxRecDepth 100000
set_option maxHeartbeats 2000000
/-! Sm20: try: .. except C as n: ..; the error is a value like others. -/
namespace Sm
open PySem PySem.Spec PyProof.Rows L2

/-- one clause: which classes it takes, the slot of its name, its suite -/
structure Hd where
  isx : Str → Option Bool
  sl : Option Nat
  su : MS
def afterS (sl : Option Nat) : OutS → OutS
  | .nx env S => .nx (match sl with | some i => env.set i .un | none => env) S
  | .brk env S => .brk (match sl with | some i => env.set i .un | none => env) S
  | .ct env S => .ct (match sl with | some i => env.set i .un | none => env) S
  | .rt d S => .rt d S
  | .exc _ _ _ => .stuck
  | .stuck => .stuck
def bindX (sl : Option Nat) (e : Exn) (env : Env) : Env := match sl with
  | some i => env.set i (.val (.exc e.c e.fs))
  | none => env
def catchD : List Hd → Exn → MS
  | [], e, env, S => .exc e env S
  | h :: r, e, env, S => match h.isx e.c with
    | some true => afterS h.sl (h.su (bindX h.sl e env) S)
    | some false => catchD r e env S
    | none => .stuck
def tryD (body : MS) (l : List Hd) : MS := fun env S => match body env S with
  | .exc e env' S' => catchD l e env' S'
  | o => o
abbrev Wn : WX := fun _ _ _ _ => False
section
variable {X : Cx}
/-- the clauses -/
inductive HdsD (X : Cx) : List ExceptHandler → List Hd → Prop
  | nil : HdsD X [] []
  | none {x : Str} {cv : Value} {h : Hd} {b₀ : Stmt} {suite : List Stmt} {np pos' : Pos} {hds : List ExceptHandler} {l : List Hd} (hc : Names X x cv) (hi : ∀ c C b, X.mg c = some (.ref C) → h.isx c = some b → PySem.W.exmOne X.K (.ref C) cv = some b) (hn : h.sl = .none)
      (hsu : ∀ (a : Addr) (pn : List (Addr × Obj)), SSs (X.suite a pn) Wn (b₀ :: suite) h.su) (r : HdsD X hds l) : HdsD X (.ExceptHandler (some (.Name x np)) .none (b₀ :: suite) pos' :: hds) (h :: l)
  | some {x n : Str} {i : Nat} {cv : Value} {h : Hd} {b₀ : Stmt} {suite : List Stmt} {np pos' : Pos} {hds : List ExceptHandler} {l : List Hd} (hc : Names X x cv) (hi : ∀ c C b, X.mg c = some (.ref C) → h.isx c = some b → PySem.W.exmOne X.K (.ref C) cv = some b) (hs : h.sl = .some i)
      (hN : X.N.Nodup) (hin : X.N[i]? = .some n) (hln : X.env.kindOf n = some .local)
      (hsu : ∀ (a : Addr) (pn : List (Addr × Obj)), SSs (X.suite a pn) Wn (b₀ :: suite) h.su) (r : HdsD X hds l) : HdsD X (.ExceptHandler (some (.Name x np)) (.some n) (b₀ :: suite) pos' :: hds) (h :: l)
variable {pins : List (Addr × Obj)} {σ : L2.St} {H : Hp} {s : Shared}
/-- an object of the air is tracked -/
theorem inv_track {a : Addr} {o : HO} (I : Inv X pins σ H s) (h0 : X.s_0.heap.get? a = none) (ha : H a = none) (nL : a ≠ X.env.locals) (nC : ∀ x c, X.env.cells.lookup x = some c → c ≠ a) (nP : ∀ p ∈ X.pn ++ pins, p.1 ≠ a) (new : ObjOk X.prog X.w (upd H a o) s.heap a o) : Inv X pins σ (upd H a o) s :=
  ⟨I.ok, I.os, I.bare, ⟨fun b u e n hb hx => I.base.keep b u e n hb hx, fun b u e n hb hx => I.base.slot b u e n hb hx, fun b u e n hx => by rw [upd_ne (fun z => by rw [z, h0] at e; cases e)]; exact I.base.free b u e n hx, fun b u e hx => I.base.there b u e hx,
      fun b xs e => by rw [upd_ne (ne_of_none (I.base.tups b xs e) ha)]; exact I.base.tups b xs e, fun b u xs e => by rw [upd_ne (ne_of_none (I.base.frzs b u xs e) ha)]; exact I.base.frzs b u xs e, fun b ps e => by
        obtain ⟨more, q⟩ := I.base.tbls b ps e
        exact ⟨more, by rw [upd_ne (ne_of_none q ha)]; exact q⟩⟩,
    I.loc, I.cell, by rw [upd_ne nL.symm]; exact I.free, fun x c e => by rw [upd_ne (nC x c e)]; exact I.freeC x c e, fun p hp => by
      obtain ⟨h1, h2, h3⟩ := I.pin p hp
      exact ⟨h1, by rw [upd_ne (nP p hp)]; exact h2, h3⟩, I.hok.laidN (fun _ _ q => q) ha new, I.len⟩
theorem inv_suiteD (I : Inv X pins σ H s) (a : Addr) : Inv (X.suite a (X.pn ++ pins)) [] σ H s where
  ok := I.ok.suite _ _
  os := I.os
  bare := I.bare
  base := I.base
  loc := I.loc
  cell := I.cell
  free := I.free
  freeC := I.freeC
  pin := fun p hp => I.pin p (by simpa using hp)
  hok := I.hok
  len := I.len
theorem inv_unsuiteD {a : Addr} {more : List (Addr × Obj)} (ok : X.Ok) (I : Inv (X.suite a (X.pn ++ pins)) more σ H s) : Inv X pins σ H s where
  ok := ok
  os := I.os
  bare := I.bare
  base := I.base
  loc := I.loc
  cell := I.cell
  free := I.free
  freeC := I.freeC
  pin := fun p hp => I.pin p (List.mem_append.mpr (.inl hp))
  hok := I.hok
  len := I.len
theorem excO_ok {a : Addr} {cls : Value} {d : Option Addr} {oe : Obj} {vs : Array Value} {h : Heap} {P : Program} {w : World} (he : h.get? a = some oe) (hz : Zc cls d oe) (hd : oe.data = .fields vs) : ObjOk P w H h a (ExcO a cls d) :=
  ⟨⟨oe, vs, he, hz, hd⟩, ⟨oe, he⟩, fun _ _ ⟨o, v, q, r⟩ k => ⟨o, v, k o q, r⟩⟩
end
/-- the ends of a suite whose clause has a name -/
def endU (i : Nat) (D : Ends) : Ends := { nx := fun σ H => D.nx (σ.set i none) H, rt := D.rt, bk := fun σ H => D.bk (σ.set i none) H, ct := fun σ H => D.ct (σ.set i none) H }
section
variable {g : Gd} {W : WX} {R H R1 H1 : Hp} {ι : List Addr} {S : Sto} {σ σ1 : L2.St} {env env1 : Env} {D : Ends} {out : OutS}
theorem after_none (x : ExtS R H ι S σ env R1 H1 ι S σ1 env1) (post : PostS g W R H ι S σ env (afterS none out) D) : PostS g Wn R1 H1 ι S σ1 env1 out D := by
  cases out with
  | nx env' S' => exact PostS.shift (W := Wn) (out := .nx env' S') x post
  | brk env' S' => exact PostS.shift (W := Wn) (out := .brk env' S') x post
  | ct env' S' => exact PostS.shift (W := Wn) (out := .ct env' S') x post
  | rt d S' => exact PostS.shift (W := Wn) (out := .rt d S') x post
  | exc z env' S' => exact post.elim
  | stuck => exact post.elim
theorem after_some {i : Nat} (x : ExtS R H ι S σ env R1 H1 ι S σ1 env1) (post : PostS g W R H ι S σ env (afterS (some i) out) D) : PostS g Wn R1 H1 ι S σ1 env1 out (endU i D) := by
  cases out with
  | nx env' S' => exact fun σ' R' ι' H' r q y => post (σ'.set i none) R' ι' H' r q.setU ((x.trans y).trans Ext.setU)
  | brk env' S' => exact fun σ' R' ι' H' r q y => post (σ'.set i none) R' ι' H' r q.setU ((x.trans y).trans Ext.setU)
  | ct env' S' => exact fun σ' R' ι' H' r q y => post (σ'.set i none) R' ι' H' r q.setU ((x.trans y).trans Ext.setU)
  | rt d S' => exact PostS.shift (W := Wn) (out := .rt d S') x post
  | exc z env' S' => exact post.elim
  | stuck => exact post.elim
end
section
variable {X : Cx} {W : WX} {body : List Stmt} {h₀ : ExceptHandler} {hds : List ExceptHandler} {l : List Hd} {pos : Pos} {mb : MS}
/-- what the clauses wish -/
def wD (g : Gd) (W : WX) (l : List Hd) (D : Ends) : WX := fun cls d σ H => ∃ R ι S env e, Rep g R H ι S ∧ RepE g R H ι S σ env ∧ ExnOk g R H ι cls d e ∧ PostS g W R H ι S σ env (catchD l e env S) D
/-- an error that flies over this frame, as it was caught: sI is the state without it, s that with it -/
structure Air (X : Cx) (pins : List (Addr × Obj)) (σ : L2.St) (H : Hp) (a : Addr) (B : Heap) (C dx : Addr) (sI s : Shared) : Prop where
  inv : Inv X pins σ H sI
  low : ∀ b o, sI.heap.get? b = some o → b ∉ frs X.stack → B.get? b = some o
  up : sI.heap.UpToSlots s.heap
  fly : HandSPX.FlyingZ B (X.env :: X.outer) a (Zc (.ref C) (some dx)) s.heap
  new : H a = none
  os : s.os = sI.os
  gens : AllBare s.gens
section
variable {pins : List (Addr × Obj)} {σ : L2.St} {H : Hp} {a C dx : Addr} {B : Heap} {sI s : Shared} {D : Ends}
theorem Air.here (Y : Air X pins σ H a B C dx sI s) : Inv X pins σ H s := Y.inv.landed Y.low Y.fly.1 Y.up Y.os Y.gens
theorem Air.notFrame (Y : Air X pins σ H a B C dx sI s) : a ∉ frs (X.env :: X.outer) := fun hm => by
  obtain ⟨oe, vs, q1, _, q2⟩ := Y.fly.there
  obtain ⟨_, o, q3, q4⟩ := Y.fly.2.2.1.mem hm
  rw [q1] at q3
  cases q3
  exact q4 vs q2
theorem Air.unseen (hs : X.stack = X.env :: X.outer) (Y : Air X pins σ H a B C dx sI s) : sI.heap.get? a = none := by
  cases z : sI.heap.get? a with
  | none => rfl
  | some o =>
    have := (Y.low a o z (hs ▸ Y.notFrame)).symm.trans Y.fly.2.1
    cases this
/-- tracked, it is an object like others -/
theorem Air.tracked (hs : X.stack = X.env :: X.outer) (hf : X.env.frame = some X.env.locals) (hex : X.ex = []) (Y : Air X pins σ H a B C dx sI s) : Inv X pins σ (upd H a (ExcO a (.ref C) (some dx))) s := by
  have un := Y.unseen hs
  obtain ⟨oe, vs, q1, q2, q3⟩ := Y.fly.there
  refine inv_track Y.here ?_ Y.new (fun z => Y.notFrame (List.mem_filterMap.mpr ⟨X.env, .head _, by rw [hf, z]⟩)) (fun x c e z => ?_) (fun p hp z => ?_) (excO_ok q1 q2 q3)
  · cases z : X.s_0.heap.get? a with
    | none => rfl
    | some o =>
      obtain ⟨o', q⟩ := Y.inv.base.there a o z (by rw [hex]; simp)
      exact absurd (un.symm.trans q) (by simp)
  · obtain ⟨v, o, q, _⟩ := Y.inv.cell x c e
    exact absurd (un.symm.trans (z ▸ q)) (by simp)
  · exact absurd (un.symm.trans (z ▸ (Y.inv.pin p hp).1)) (by simp)
theorem Air.class (Y : Air X pins σ H a B C dx sI s) : PySem.W.Looks (model X.prog X.w) s.heap (typeOf (.ref a)) (.ref C) := fun _ _ _ _ keep q => by
  obtain ⟨oe, vs, q1, q2, _⟩ := Y.fly.there
  exact wpAny_typeOf_ref (keep _ _ q1) (by rw [q2.1]; exact q)
/-- the heap goes on, all but the slots of frames as it was -/
theorem Air.step {h : Heap} (Y : Air X pins σ H a B C dx sI s) (fly : HandSPX.FlyingZ B (X.env :: X.outer) a (Zc (.ref C) (some dx)) h) (up : s.heap.UpToSlots h) : Air X pins σ H a B C dx sI { s with heap := h } :=
  ⟨Y.inv, Y.low, Y.up.trans up, fly, Y.new, Y.os, Y.gens⟩
/-- no clause takes it -/
theorem air_on (hs : X.stack = X.env :: X.outer) (hf : X.env.frame = some X.env.locals) (tk : Takes X W) (Y : Air X pins σ H a B C dx sI s) (w : W (.ref C) (some dx) σ H) : wpAny (model X.prog X.w) X.A (handleBy (.ref a) X.env []) (SP X pins D) X.xe s := by
  obtain ⟨oe, vs, T, oT, ts, q1, _, q2, q3, _⟩ := Y.fly.2.2.2
  have go : wpAny (model X.prog X.w) X.A (setFlight (.ref a) X.env.frame) (fun _ s' => wpAny (model X.prog X.w) X.A (throw (.ref a) : Sem Flow) (SP X pins D) X.xe s') X.xe s := by
    rw [hf]
    exact HandSPX.setFlight_upZ Y.fly fun h held up => wpAny_throw (tk _ _ ⟨a, B, sI, pins, σ, H, _, _, rfl, Y.inv, Y.low, Y.up.trans up, .inr (.inr (hs ▸ held)), Y.new, Y.os, Y.gens, w⟩)
  refine wpAny_handleBy_nil ?_
  unfold PySem.passOn
  refine wpAny_bind (wpAny_field q1 q2 q3 ?_)
  rw [if_neg (by simp)]
  first
    | exact wpAny_bind (wpAny_pure (wpAny_bind go))
    | exact wpAny_bind go
/-- the class that a clause names -/
theorem air_test {x : Str} {cv : Value} {np : Pos} {Q : Value → Shared → Prop} {E : Value → Shared → Prop} (hc : Names X x cv) (Y : Air X pins σ H a B C dx sI s) (q : Q cv s) : wpAny (model X.prog X.w) (X.A.mark (some (.ref a))) (eval (.Name x np) X.env) Q E s := by
  have I := inv_suiteD Y.here a
  obtain ⟨hg, hd, m | ⟨m, v, n⟩⟩ := hc
  · exact ld_glob (X := X.suite a (X.pn ++ pins)) I hg m q hd
  · exact ld_blt (X := X.suite a (X.pn ++ pins)) I hg m v q n hd
theorem catch_go (hs : X.stack = X.env :: X.outer) (hf : X.env.frame = some X.env.locals) (hex : X.ex = []) (ok : X.Ok) (tk : Takes X W) (Y : Air X pins σ H a B C dx sI s) :
    ∀ {hds : List ExceptHandler} {l : List Hd}, HdsD X hds l → wD (Cx.g X) W l D (.ref C) (some dx) σ H → wpAny (model X.prog X.w) X.A (handleBy (.ref a) X.env hds) (SP X pins D) X.xe s := by
  intro hds l hk
  induction hk with
  | nil =>
    intro ⟨R, ι, S, env, e, r1, r2, ee, post⟩
    exact air_on hs hf tk Y (post _ _ σ R ι H r1 r2 ee Ext.refl)
  | @none x cv h b₀ suite np pos' hds l hc hi hn hsu r ih =>
    intro ⟨R, ι, S, env, e, r1, r2, ee, post⟩
    obtain ⟨C', dx', fvs, z1, z2, hgm, hRd, hfs⟩ := id ee
    cases z1
    cases z2
    unfold catchD at post
    cases qb : h.isx e.c with
    | none =>
      rw [qb] at post
      exact post.elim
    | some b =>
      rw [qb] at post
      refine wpAny_handleBy_cons (codeAny_handlers_test (air_test hc Y ((PySem.W.exm_one Y.here.kIn Y.class (hi _ _ _ hgm qb)).here ?_))) (by intro q; cases q)
      cases b with
      | false => exact ih ⟨R, ι, S, env, e, r1, r2, ee, post⟩
      | true =>
        refine codeAny_handlers_suite (HandSPX.lands_againZ Y.fly fun h4 fly up => ?_)
        have post2 : PostS (Cx.g X) W R H ι S σ env (afterS h.sl (h.su (bindX h.sl e env) S)) D := post
        rw [hn] at post2
        refine wpAny_mono ((hsu a (X.pn ++ pins)).run [] _ σ H D (inv_suiteD (Y.step fly up).here a) ⟨R, ι, S, env, r1, r2, after_none Ext.refl post2⟩) (fun f s6 done => ?_) (fun _ _ z => z.elim)
        cases f with
        | ret u =>
          obtain ⟨v, σ6, H6, I6, rv, q⟩ := done
          exact ⟨v, σ6, H6, inv_unsuiteD ok I6, rv, q⟩
        | next =>
          obtain ⟨σ6, H6, I6, q⟩ := done
          exact ⟨σ6, H6, inv_unsuiteD ok I6, q⟩
        | brk =>
          obtain ⟨σ6, H6, I6, q⟩ := done
          exact ⟨σ6, H6, inv_unsuiteD ok I6, q⟩
        | cont =>
          obtain ⟨σ6, H6, I6, q⟩ := done
          exact ⟨σ6, H6, inv_unsuiteD ok I6, q⟩
  | @some x n i cv h b₀ suite np pos' hds l hc hi hsl hN hin hln hsu r ih =>
    intro ⟨R, ι, S, env, e, r1, r2, ee, post⟩
    obtain ⟨C', dx', fvs, z1, z2, hgm, hRd, hfs⟩ := id ee
    cases z1
    cases z2
    unfold catchD at post
    cases qb : h.isx e.c with
    | none =>
      rw [qb] at post
      exact post.elim
    | some b =>
      rw [qb] at post
      refine wpAny_handleBy_cons (codeAny_handlers_test (air_test hc Y ((PySem.W.exm_one Y.here.kIn Y.class (hi _ _ _ hgm qb)).here ?_))) (by intro q; cases q)
      cases b with
      | false => exact ih ⟨R, ι, S, env, e, r1, r2, ee, post⟩
      | true =>
        refine codeAny_handlers_suite_as (HandSPX.lands_againZ Y.fly fun h4 fly up => ?_)
        have I5 := (Y.step fly up).tracked hs hf hex
        have post2 : PostS (Cx.g X) W R H ι S σ env (afterS h.sl (h.su (bindX h.sl e env) S)) D := post
        rw [hsl] at post2
        have rep4 := r1.newR (o := ExcO a (.ref C) (some dx)) Y.new
        have x4 : ExtL R H ι S (upd R a (ExcO a (.ref C) (some dx))) (upd H a (ExcO a (.ref C) (some dx))) ι S := Ext.newR r1 Y.new
        have dv : Dv (Cx.g X) (upd R a (ExcO a (.ref C) (some dx))) ι (.ref a) (.exc e.c e.fs) := .exc upd_same (x4.rsub _ _ hRd) hgm (hfs.mono x4.rsub fun _ _ q => q)
        refine store_ok (X := X.suite a (X.pn ++ pins)) (v := .ref a) (inv_suiteD I5 a) hN hin (.inl hln) rfl (fun s5 S5 => ?_) (.inr hln)
        refine wpAny_mono ((hsu a (X.pn ++ pins)).run [] s5 _ _ (endU i D) S5 ⟨_, ι, S, env.set i (.val (.exc e.c e.fs)), rep4, (r2.ext x4).setV dv, after_some ((Ext.stm x4).trans Ext.setV) post2⟩) (fun f s6 done => ?_) (fun _ _ z => z.elim)
        have fin : ∀ {σ6 : L2.St} {H6 : Hp} {Q : Shared → Prop}, Inv (X.suite a (X.pn ++ pins)) [] σ6 H6 s6 → (∀ s7, Inv X pins (σ6.set i none) H6 s7 → Q s7) →
            wpAny (model X.prog X.w) X.A (do bindName X.env n .none; unbindBehindTheSuite X.env n pos') (fun _ s7 => Q s7) X.xe s6 := fun {σ6 H6 Q} I6 q => gone_ok (inv_unsuiteD ok I6) hN hin hln q
        cases f with
        | ret u =>
          obtain ⟨v, σ6, H6, I6, rv, q⟩ := done
          exact fin I6 fun s7 I7 => ⟨v, _, H6, I7, rv, q⟩
        | next =>
          obtain ⟨σ6, H6, I6, q⟩ := done
          exact fin I6 fun s7 I7 => ⟨_, H6, I7, q⟩
        | brk =>
          obtain ⟨σ6, H6, I6, q⟩ := done
          exact fin I6 fun s7 I7 => ⟨_, H6, I7, q⟩
        | cont =>
          obtain ⟨σ6, H6, I6, q⟩ := done
          exact fin I6 fun s7 I7 => ⟨_, H6, I7, q⟩
end
/-- a try whose body has a reading of any kind -/
theorem ps_tryD {tb : WX → TS} (hs : X.stack = X.env :: X.outer) (hf : X.env.frame = some X.env.locals) (hex : X.ex = []) (tk : Takes X W)
    (hb : ∀ (W' : WX) (pn : List (Addr × Obj)) (xe : Value → Shared → Prop), Takes (X.tr pn xe) W' → PassesOwn (model X.prog X.w) X.A X.env xe → PSs (X.tr pn xe) body (tb W'))
    (hh : HdsD X (h₀ :: hds) l) : PS X (.Try body (h₀ :: hds) [] [] pos) (fun D σ H => tb (wD (Cx.g X) W l D) D σ H) := by
  refine ⟨fun pins s σ H D I q => wpAny_Try_except ?_⟩
  have ok := I.ok
  have hfr : X.A.frames = some (X.env :: X.outer) := ok.frames.trans (congrArg some hs)
  refine wpAny_mono ((hb (wD (Cx.g X) W l D) (X.pn ++ pins) _ (fun u s' air => ?_) PassesOwn.looking).run [] s σ H D (I.toTry _) q) (fun f s1 done => ?_) (fun e s1 he => he)
  · obtain ⟨a, B, sI, pins', σ', H', cls, d, rfl, J, low, up, sky, new, os, gens, w⟩ := air
    obtain ⟨R, ι, S, env, e, r1, r2, ⟨C, dx, fvs, rfl, rfl, z⟩, post⟩ := w
    refine Sky.land (Z := Zc (.ref C) (some dx)) (B := B) (L := X.env.locals) Zc.steady hfr hf (hs ▸ sky) fun h3 fly up3 => ?_
    have Y : Air X pins σ' H' a B C dx sI { s' with heap := h3 } := ⟨J.ofTry ok, low, up.trans up3, fly, new, os, gens⟩
    exact catch_go hs hf hex ok tk Y hh ⟨R, ι, S, env, e, r1, r2, ⟨C, dx, fvs, rfl, rfl, z⟩, post⟩
  · cases f with
    | next =>
      obtain ⟨σ', H', J, q⟩ := done
      exact wpAny_execs_nil ⟨σ', H', J.ofTry ok, q⟩
    | ret u =>
      obtain ⟨v, σ', H', J, r, q⟩ := done
      exact ⟨v, σ', H', J.ofTry ok, r, q⟩
    | brk =>
      obtain ⟨σ', H', J, q⟩ := done
      exact ⟨σ', H', J.ofTry ok, q⟩
    | cont =>
      obtain ⟨σ', H', J, q⟩ := done
      exact ⟨σ', H', J.ofTry ok, q⟩
theorem ss_try (hs : X.stack = X.env :: X.outer) (hf : X.env.frame = some X.env.locals) (hex : X.ex = []) (tk : Takes X W)
    (hb : ∀ (W' : WX) (pn : List (Addr × Obj)) (xe : Value → Shared → Prop), Takes (X.tr pn xe) W' → PassesOwn (model X.prog X.w) X.A X.env xe → SSs (X.tr pn xe) W' body mb)
    (hh : HdsD X (h₀ :: hds) l) : SS X W (.Try body (h₀ :: hds) [] [] pos) (tryD mb l) := PS.imp (ps_tryD (tb := fun W' => tS (Cx.g X) W' mb) hs hf hex tk hb hh) fun D σ H ⟨R, ι, S, env, rep, repE, post⟩ => by
  refine ⟨R, ι, S, env, rep, repE, ?_⟩
  unfold tryD at post
  cases q : mb env S with
  | exc e env' S' =>
    rw [q] at post
    exact fun cls dd σ' R' ι' H' r1 r2 ee x => ⟨R', ι', S', env', e, r1, r2, ee, PostS.shift x post⟩
  | _ =>
    rw [q] at post
    exact post
end
end Sm

set_option Elab.async false
set_option linter.all false
set_option maxRecDepth 100000
set_option maxHeartbeats 2000000
/-! Sm21: error.field. -/
namespace Sm
open PySem PySem.Spec PyProof.Rows L2

def excOf : D → Option (Str × List (Str × D))
  | .exc c fs => some (c, fs)
  | _ => none
/-- the classes of errors that keep f -/
def XldC (K : PySem.W.Frag) (mg : Str → Option Value) (f : Str) (cs : List Str) : Prop := ∀ c ∈ cs, ∃ C, mg c = some (.ref C) ∧ XfC K C ∧ PySem.W.findIn K (.ref C) f = some none
def xldM (cs : List Str) (f : Str) (x : D) : M D := fun S => optO (excOf x) fun (c, fs) => if c ∈ cs then optO (fs.lookup f) fun d => .ok d S else .stuck
theorem Bw.excs {g : Gd} {R H : Hp} {ι : List Addr} {S : Sto} {v : V} {d : D} {c : Str} {fs : List (Str × D)} (rep : Rep g R H ι S) (h : Bw g R H ι S v d) (e : excOf d = some (c, fs)) :
    ∃ a C dx fvs, v = .ref a ∧ H a = some (ExcO a (.ref C) (some dx)) ∧ H dx = some (.xd fvs) ∧ g.mg c = some (.ref C) ∧ DvF g R ι fvs fs := by
  have h : Dv g R ι v d := h.dv fun xs z => by
    subst z
    cases e
  cases d with
  | exc c' fs' =>
    cases e
    cases h with
    | exc h1 h2 h3 h4 => exact ⟨_, _, _, _, rfl, rep.sub _ _ h1, rep.sub _ _ h2, h3, h4⟩
  | _ => cases e
section
variable {X : Cx} {W : WX} {bw : Bool} {e : Expr} {me : Env → M D} {pos : Pos} {f : Str} {cs : List Str}
def tXd (K : PySem.W.Frag) (f : Str) (te : TE) : TE := fun σ H Q => te σ H fun x H1 => ∃ a C dx fvs v, x = .ref a ∧ H1 a = some (ExcO a (.ref C) (some dx)) ∧ H1 dx = some (.xd fvs) ∧ XfC K C ∧ PySem.W.findIn K (.ref C) f = some none ∧ fvs.lookup f = some v ∧ Q v H1
theorem pe_xd {te : TE} (he : PE X e te) (hb : attributeBase e f X.env (eval e X.env) = eval e X.env := by rfl) : PE X (.Attribute e f pos) (tXd X.K f te) := by
  refine ⟨fun pins s σ H Q I h => ?_⟩
  refine attr_of hb (thn (he.run pins s σ H _ I h) fun u s1 hh => ?_)
  obtain ⟨x, H1, I1, rx, a, C, dx, fvs, v, ex, ea, ed, T, hno, l, q⟩ := hh
  subst ex
  obtain rfl : u = Value.ref a := rx
  have hx : ObjOk X.prog X.w H1 s1.heap dx (.xd fvs) := I1.hok dx _ ed
  have ho : ObjOk X.prog X.w H1 s1.heap a (ExcO a (.ref C) (some dx)) := I1.hok a _ ea
  obtain ⟨⟨oe, vs, hget, hz, hd⟩, _, _⟩ := ho
  obtain ⟨mA, hns, hr⟩ := hx
  obtain ⟨od, ho, hl⟩ := lookIn_ns hns
  obtain ⟨u, hu, ru⟩ := RelO.some_of (v := v) (o := mA f) (by rw [← l]; exact hr f)
  have J : PySem.W.InstAt s1.heap a oe C (some od) := ⟨hget, hz.1, by unfold PySem.W.notCls; rw [hd] <;> rfl, by rw [hz.2]; exact ho⟩
  exact HandSPX.exc_get I1.kIn J T.ga T.gg T.exC (PySem.W.findObj_own T.hdC hno rfl (by rw [hl, hu])) (handed_of ru) ⟨v, H1, I1.tok _, ru, q⟩
theorem se_xld (hc : XldC X.K X.mg f cs) (he : SE X W true e me) (hb : attributeBase e f X.env (eval e X.env) = eval e X.env := by rfl) : SE X W bw (.Attribute e f pos) (fun env => me env >>= xldM cs f) :=
  PE.imp (pe_xd he hb) fun σ H Q ⟨R, ι, S, env, rep, repE, post⟩ => by
    refine tG_then later_E rep repE post fun R1 H1 ι1 S1 v d rep1 repE1 x1 b1 post1 => ?_
    obtain ⟨⟨c, fs⟩, ei, post1⟩ := Post.opt post1
    obtain ⟨hm, post1⟩ := Post.ite post1
    obtain ⟨d', ed, post1⟩ := Post.opt post1
    obtain ⟨a, C, dx, fvs, rfl, h1, h2, h3, h4⟩ := Bw.excs rep1 b1 ei
    obtain ⟨C', m', cl, na⟩ := hc c hm
    have h3 : X.mg c = some (.ref C) := h3
    rw [h3] at m'
    cases m'
    obtain ⟨v, hv, dv⟩ := h4.look ed
    exact ⟨a, C, dx, fvs, v, rfl, h1, h2, cl, na, hv, Post.val rep1 dv post1⟩
end
end Sm

set_option Elab.async false
set_option linter.all false
set_option maxRecDepth 100000
set_option maxHeartbeats 2000000
/-! Sm22: a lambda without parameters handed to a def that calls it within a try. -/
namespace Sm
open PySem PySem.Spec PyProof.Rows L2 LamX

section
variable {X : Cx} {pins : List (Addr × Obj)} {σ : L2.St} {H : Hp} {s : Shared}
/-- how the tracked heap goes on when a lambda is made -/
def Made (H H1 : Hp) (P c : Addr) (q : Str) : Prop := H1 = H ∨ ∃ ps more, H P = some (.tbl ps) ∧ H c = none ∧ H1 = upd (upd H P (.tbl (ps ++ more))) c (CodeO c q)
theorem Made.get {H1 : Hp} {P c : Addr} {q : Str} (m : Made H H1 P c q) {b : Addr} {o : HO} (e : H b = some o) (hb : b ≠ P) : H1 b = some o := by
  rcases m with rfl | ⟨ps, more, h1, h2, rfl⟩
  · exact e
  · rw [upd_ne (ne_of_none e h2), upd_ne hb]
    exact e
theorem Made.was {H1 : Hp} {P c : Addr} {q : Str} (m : Made H H1 P c q) {b : Addr} (e : H1 b = none) : H b = none := by
  rcases m with rfl | ⟨ps, more, h1, h2, rfl⟩
  · exact e
  · by_cases z : b = c
    · rw [z]
      exact h2
    · rw [upd_ne z] at e
      by_cases y : b = P
      · rw [y, upd_same] at e
        cases e
      · rw [upd_ne y] at e
        exact e
theorem lam_new {c P : Addr} {params : Arguments} {body : Expr} {scope : Scope} {pos : Pos} {E : Value → Shared → Prop} {Q : Value → Shared → Prop} (I : Inv X pins σ H s) (TB : TabB X.base X.mg c P) (hcode : X.env.code = .ref c) (hT : TabS H P (X.env.qual ++ "<lambda>"))
    (hdef : defaultsOf params X.env = ([], [])) (hfree : ∀ y ∈ scope.names, y.2 = .free → ∃ c, X.env.cells.lookup y.1 = some c)
    (h : ∀ (f c' : Addr) (pm ctv : Value) (H1 : Hp) (s' : Shared), Inv X pins σ H1 s' → Made H H1 P c' (X.env.qual ++ "<lambda>") → TabS H1 P (X.env.qual ++ "<lambda>") →
      s'.heap.get? f = some (PySem.W.kla_obj "<lambda>" (X.env.qual ++ "<lambda>") params body scope (cloFrom X.env.cells scope.names []) pm c' ctv) → H1 f = none → f ∉ frs X.stack → H1 c' = some (CodeO c' (X.env.qual ++ "<lambda>")) → Q (.ref f) s') :
    wpAny (model X.prog X.w) X.A (eval (.Lambda params body scope pos) X.env) Q E s := by
  obtain ⟨ps, e1, e2, e3⟩ := id hT
  have tab : s.heap.get? P = some { cls := .none, data := .fields ps } := I.hok P _ e1
  have blt : s.heap.BuiltinsAt X.mg P := TB.bm.keeps I.bk
  have glb := I.mod.glob.keeps I.bk
  have hd := TB.code.keeps I.bk
  have out : ∀ f, s.heap.objs.size ≤ f → f ∉ frs X.stack := fun f hf z => by
    rcases List.mem_cons.mp (I.stkSub _ z) with e | e
    · have := I.lt
      rw [← e] at this
      exact absurd (Nat.lt_of_lt_of_le this hf) (Nat.lt_irrefl _)
    · exact I.nofs hf e
  refine PySem.W.kla_eval hdef ?_
  cases am : codeAmong pos ps.toList with
  | some cv =>
    obtain ⟨c', rfl, known⟩ := e3 pos cv am
    refine PySem.W.kla_makeFunctionHit (mg := X.mg) (c := c) (P := P) (ps := ps) (closure_ok hfree) I.ok.glob glb hcode hd tab e2 am blt fun ctv h' tk kp sz => ?_
    exact h h'.objs.size c' _ ctv H _ (I.kept fun b o e => Heap.get?_push_of_some _ (kp b o e)) (.inl rfl) hT (Heap.get?_push_size _ rfl) (I.hok.fresh sz) (out _ sz) known
  | none =>
    refine PySem.W.kla_makeFunction (mg := X.mg) (c := c) (P := P) (ps := ps) (closure_ok hfree) I.ok.glob glb hcode hd tab e2 am TB.gP blt fun c' ctv h' tk kp ge lt rec grown => ?_
    obtain ⟨c2, oc, vs, t, z, r1, r2, r3⟩ := rec
    cases z
    have nC := I.hok.fresh ge
    have sz : s.heap.objs.size ≤ h'.objs.size := Nat.le_trans ge (Nat.le_of_lt lt)
    have J := inv_table (t' := tk) (more := #[rawInt pos.line, rawInt pos.col, .ref c']) (h' := h'.push (PySem.W.kla_obj "<lambda>" (X.env.qual ++ "<lambda>") params body scope (cloFrom X.env.cells scope.names []) ((X.mg "__name__").getD .none) c' ctv)) I e1
      (fun b o n e => Heap.get?_push_of_some _ (kp b o n e)) (Heap.get?_push_of_some _ grown) ge ⟨oc, vs, t, Heap.get?_push_of_some _ r1, r2, r3⟩
    have PnC := ne_of_none e1 nC
    refine h h'.objs.size c' _ ctv _ _ J (.inr ⟨ps, _, e1, nC, rfl⟩) ⟨_, (upd_ne PnC).trans upd_same, ?_, fun p' cv hcv => ?_⟩ (Heap.get?_push_size _ rfl) ?_ (out _ sz) upd_same
    · rw [show (ps ++ #[rawInt pos.line, rawInt pos.col, .ref c']).toList = ps.toList ++ [rawInt pos.line, rawInt pos.col, .ref c'] by simp]
      exact PySem.TriplesOk_snoc _ _ _ _ e2
    · rw [show (ps ++ #[rawInt pos.line, rawInt pos.col, .ref c']).toList = ps.toList ++ [rawInt pos.line, rawInt pos.col, .ref c'] by simp] at hcv
      rcases among_app _ e2 hcv with z | z
      · obtain ⟨c0, z1, z2⟩ := e3 p' cv z
        refine ⟨c0, z1, ?_⟩
        rw [upd_ne (ne_of_none z2 nC), upd_ne (fun y => ?_)]
        · exact z2
        · rw [y, e1] at z2
          exact codeO_ne _ (Option.some.inj z2).symm
      · exact ⟨c', z, upd_same⟩
    · rw [upd_ne (Nat.ne_of_gt lt), upd_ne (Nat.ne_of_gt (Nat.lt_of_lt_of_le (Heap.lt_size tab) sz))]
      exact I.hok.fresh sz
/-- the store as it was -/
theorem Made.rep {g : Gd} {R H1 : Hp} {ι : List Addr} {S : Sto} {id : Nat} {P c : Addr} {q : Str} (m : Made H H1 P c q) (rep : Rep g R H ι S) (hi : ι[id]? = some P) (hs : S[id]? = some (some (.tbl q))) (hT : TabS H1 P q) : Rep g R H1 ι S ∧ ExtL R H ι S R H1 ι S := by
  obtain ⟨⟨hq, hT0⟩, hR⟩ := rep.cell id P _ hi hs
  have getR : ∀ {b : Addr} {o : HO}, R b = some o → H1 b = some o := fun {b o} e => m.get (rep.sub _ _ e) fun z => by
    rw [z, hR] at e
    cases e
  refine ⟨⟨fun _ _ e => getR e, rep.len, fun j a k h1 h2 => ?_, rep.inj⟩, fun _ _ h => h, fun _ _ h => h, fun a o e n => m.get e fun z => n ⟨id, _, by rw [z]; exact hi, hs⟩, fun _ _ h _ _ => h, fun _ h => .inl h, fun _ h => m.was h⟩
  obtain ⟨ok, n⟩ := rep.cell j a k h1 h2
  refine ⟨?_, n⟩
  obtain ⟨ps0, hP, _⟩ := hT0
  have noP : ∀ {b : Addr} {o : HO}, H b = some o → (∀ ps, o ≠ .tbl ps) → b ≠ P := fun {b o} e h z => by
    rw [z, hP] at e
    exact h ps0 (Option.some.inj e).symm
  cases k with
  | list xs =>
    obtain ⟨vs, h, t⟩ := ok
    exact ⟨vs, m.get h (noP h fun _ z => by cases z), t⟩
  | inst cc fs =>
    obtain ⟨C, dx, fvs, h, mm, t⟩ := ok
    exact ⟨C, dx, fvs, m.get h (noP h fun _ z => by cases z), mm, t⟩
  | tbl q2 =>
    by_cases e : a = P
    · subst e
      have := rep.inj j id a _ _ h1 hi h2 hs
      subst this
      rw [hs] at h2
      cases h2
      exact ⟨hq, hT⟩
    · obtain ⟨x1, ps, x2, x3, x4⟩ := ok
      refine ⟨x1, ps, m.get x2 e, x3, fun p cv h => ?_⟩
      obtain ⟨c0, y1, y2⟩ := x4 p cv h
      exact ⟨c0, y1, m.get y2 (noP y2 fun _ => codeO_ne _)⟩
end
/-! ### the lambda called, in the def that got it -/
/-- the context of the def g, called from X at s -/
abbrev askCx (X : Cx) (Ng : List Str) (qg : Str) (sg : Scope) (g : Addr) (cdg : Value) (s : Shared) (H : Hp) (E : XK) : Cx := cxOf (L2.CX X.prog X.w) X.prog X.w X.K X.mg X.base Ng qg sg g cdg X.A X.stack s H E
section
variable {X : Cx} {pins : List (Addr × Obj)} {σ : L2.St} {H : Hp} {s : Shared} {Eg : XK} {Ng : List Str} {qg : Str} {sg : Scope} {g f c' : Addr} {cdg pm ctv : Value} {params : Arguments} {body : Expr} {scope : Scope} {k i : Nat} {a : Str} {pn : List (Addr × Obj)}
  {xe : Value → Shared → Prop} {W : WX} {tb : XK → TE} {p1 p2 : Pos}
theorem pe_ask (I : Inv X pins σ H s) (L : LamS X.env.scope scope) (hf : s.heap.get? f = some (PySem.W.kla_obj "<lambda>" (X.env.qual ++ "<lambda>") params body scope (cloFrom X.env.cells scope.names []) pm c' ctv)) (hfn : H f = none) (hfr : f ∉ frs X.stack)
    (hbind : bindArgs (PySem.W.kla_fn "<lambda>" (X.env.qual ++ "<lambda>") params body scope (cloFrom X.env.cells scope.names []) pm (.ref c') ctv) ⟨[], []⟩ = pure [])
    (tk : Takes ((askCx X Ng qg sg g cdg s H Eg).tr pn xe) W) (hr : RoomG (k + 1) (X.A.deeper (envOfC qg sg s.heap.objs.size g cdg)))
    (hbody : ∀ (A : Around) (outer : List PySem.Env) (s : Shared) (H : Hp) (E : XK), RoomG k (A.deeper (lamEnv X scope s.heap.objs.size f c')) → PE (lamCx X A outer s H E scope f c') body (tb E))
    (hN : Ng[i]? = some a) (hv : Vis sg a) (hd : (a == ("__debug__" : Str)) = false := by decide) (hcd : (a == ("__classdict__" : Str)) = false := by decide) :
    PE ((askCx X Ng qg sg g cdg s H Eg).tr pn xe) (.Call (.Name a p1) [] [] p2) (fun σZ HZ Q => σZ[i]? = some (some (.ref f)) ∧ HZ c' = some (CodeO c' (X.env.qual ++ "<lambda>")) ∧ tb (WE W σZ) σ HZ Q) := by
  refine ⟨fun pinsZ sZ σZ HZ Q IZ ⟨there, code, reading⟩ => ?_⟩
  refine wpAny_Call_Name_kw (thn ((pe_var (pos := p1) (i := i) hN hv hd hcd).run pinsZ sZ σZ HZ (fun v H1 => v = .ref f ∧ H1 = HZ) IZ ⟨.ref f, there, rfl, rfl⟩) fun u s1 ⟨v, H1, I1, r1, e1, e2⟩ => ?_)
  subst e1
  subst e2
  cases r1
  have obj := I1.base.keep f _ hf hfn hfr (by intro z; cases z)
  have un : Un (frs X.stack) [] H H1 s.heap s1.heap := I1.base
  refine PySem.W.callWith_F0 ⟨_, _, _, _, obj⟩ (wpAny_call ?_)
  obtain ⟨⟨oc, vs, t, q1, q2, q3⟩, _, _⟩ := I1.hok c' _ code
  have ran : codeAny (model X.prog X.w) (X.A.deeper (envOfC qg sg s.heap.objs.size g cdg)) (.call (.ref f) ⟨[], []⟩) (CR (L2.CX X.prog X.w) (envOfC qg sg s.heap.objs.size g cdg :: X.stack) X.prog X.w H1 s1 Q (WE W σZ)) s1 := by
    refine PySem.W.kla_callFunE hr.room.depth obj rfl L.co L.gen rfl ⟨c', oc, vs, t, rfl, q1, q2, q3⟩ ?_
    rw [hbind]
    refine wpAny_pure (wpAny_newFunctionEnv (fun y hy => (L.own y hy).2) (fun y hy => absurd hy (by simp)) (fun h1 ns but => ⟨I1.nolimit.fresh _ but, ?_⟩) L.kind)
    have kp : ∀ b o, s1.heap.get? b = some o → h1.get? b = some o := fun b o e => but.extBut b o (Nat.ne_of_lt (Heap.lt_size e)) (Heap.get?_push_of_some _ e)
    have J : Inv (lamCx X (X.A.deeper (envOfC qg sg s.heap.objs.size g cdg)) (envOfC qg sg s.heap.objs.size g cdg :: X.stack) s1 H1 (WE W σZ) scope f c') [] σ H1 { s1 with heap := h1, toks := s1.toks + ([] : List (Str × Value)).length } :=
      lam_start2 I L I1.env0 hr.room.hd un ns kp
    refine PySem.W.kla_codeExpr (wpAny_mono ((hbody _ _ s1 H1 (WE W σZ) (hr.deeper _)).run [] _ _ H1 Q J reading) (fun v s' done => ?_) fun e s' done => done)
    obtain ⟨w', H', J', rv, q⟩ := done
    exact ⟨w', H', J'.os, J'.bare, J'.base, J'.hok, rv, q⟩
  refine codeAny_mono ran fun r s' done => ?_
  cases r with
  | error e => exact passAt tk σZ pinsZ H1 s1 e s' I1 done
  | ok fl =>
    cases fl with
    | ret u => exact I1.after done
    | next => exact done.elim
    | brk => exact done.elim
    | cont => exact done.elim
end
/-! ### x(lambda: body), x a def: v = None; try: a() / except ..; rest -/
def askS (l : List Hd) (rest : MS) (act : M D) : MS := seqS (tryD (dropS fun _ => act) l) rest
def askF (N j : Nat) (l : List Hd) (rest : MS) (act : M D) : M D := fun S => match askS l rest act ((List.replicate N .un).set j (.val .none)) S with
  | .nx _ S' => .ok .none S'
  | .rt d S' => .ok d S'
  | .exc e _ S' => .exc e S'
  | _ => .stuck
def lamM (id : Nat) (q : Str) (m : M D) : M D := fun S => match S[id]? with
  | some (some (.tbl q')) => if q' = q then m S else .stuck
  | _ => .stuck
section
variable {X : Cx} {W : WX} {bw : Bool} {x a : Str} {g c P : Addr} {k id j : Nat} {pg : Arguments} {sg : Scope} {dV kV doc pm cdv ct oc : Value} {an od : Option Addr} {osl : Array (Option Value)} {Ng : List Str}
  {params : Arguments} {body : Expr} {scope : Scope} {st0 : Stmt} {rest : List Stmt} {h₀ : ExceptHandler} {hds : List ExceptHandler} {l : List Hd} {mr : MS} {mb : Env → M D} {p lpos pos p1 p2 p3 p4 : Pos}
theorem no_own {n j : Nat} {σ : L2.St} : ∀ b, ¬ Ow σ ((List.replicate n Sl.un).set j (.val .none)) b := fun b ⟨i, xs, e, _⟩ => by
  rcases get_set e with ⟨_, z, _⟩ | ⟨_, z⟩
  · cases z
  · rw [List.getElem?_replicate] at z
    split at z <;> cases z
theorem ask_env {g : Gd} {R H : Hp} {ι : List Addr} {S : Sto} {j : Nat} {Ng : List Str} {f : Addr} (hn : 1 ≤ Ng.length) : RepE g R H ι S ((L2.start Ng [V.ref f]).set j (some .non)) ((List.replicate Ng.length Sl.un).set j (.val .none)) := by
  refine RepE.setV ⟨?_, fun i sl u e _ => ?_, fun i k xs ys b e _ _ _ => ?_⟩ .non
  · unfold L2.start
    simp only [List.length_replicate, List.length_append, List.length_map, List.length_singleton]
    omega
  · rw [List.getElem?_replicate] at e
    split at e
    · cases e
      trivial
    · cases e
  · rw [List.getElem?_replicate] at e
    split at e <;> cases e
theorem se_lam (hg : Gl X x) (hm : X.mg x = some (.ref g)) (hk : PySem.W.keepIn X.K (.ref g) = true)
    (lk : X.K.lookup g = some ⟨oc, od, .func (PySem.W.fnOf x x pg (st0 :: .Try [.Expr (.Call (.Name a p1) [] [] p2) p3] (h₀ :: hds) [] [] p4 :: rest) sg dV kV doc pm an cdv ct), osl⟩) (hcg : PySem.W.codeIn X.K cdv x = true)
    (hb : L2.Binds X.K (PySem.W.fnOf x x pg (st0 :: .Try [.Expr (.Call (.Name a p1) [] [] p2) p3] (h₀ :: hds) [] [] p4 :: rest) sg dV kV doc pm an cdv ct) [a] []) (Sg : FnScope Ng [a] sg) (hNg : Ng[0]? = some a) (hva : Vis sg a) (hj : 0 < j)
    (hpre : ∀ (s : Shared) (H : Hp) (E : XK), PS (askCx X Ng x sg g cdv s H E) st0 (fun D σ H => D.nx (σ.set j (some .non)) H)) (hh : ∀ (s : Shared) (H : Hp) (E : XK), HdsD (askCx X Ng x sg g cdv s H E) (h₀ :: hds) l)
    (hrest : ∀ (s : Shared) (H : Hp) (E : XK), RoomG (k + 1) (X.A.deeper (envOfC x sg s.heap.objs.size g cdv)) → SSs (askCx X Ng x sg g cdv s H E) (wE E) rest mr)
    (TB : TabB X.base X.mg c P) (hcode : X.env.code = .ref c) (hTI : TabIs (Cx.g X) (X.env.qual ++ "<lambda>") P) (hr : RoomG (k + 2) X.A) (tk : Takes X W) (L : LamS X.env.scope scope) (hdef : defaultsOf params X.env = ([], []))
    (hbind : ∀ (q : Str) (cl : List (Str × Addr)) (pm cv ctv : Value), bindArgs (PySem.W.kla_fn "<lambda>" q params body scope cl pm cv ctv) ⟨[], []⟩ = pure [])
    (hbody : ∀ (A : Around) (outer : List PySem.Env) (s : Shared) (H : Hp) (E : XK) (f c' : Addr), RoomG k (A.deeper (lamEnv X scope s.heap.objs.size f c')) → SE (lamCx X A outer s H E scope f c') (wE E) true body mb)
    (hdb : (x == ("__debug__" : Str)) = false := by decide) (hd : (a == ("__debug__" : Str)) = false := by decide) (hcd : (a == ("__classdict__" : Str)) = false := by decide) :
    SE X W bw (.Call (.Name x p) [.Lambda params body scope lpos] [] pos) (fun env => lamM id (X.env.qual ++ "<lambda>") (askF Ng.length j l mr (mb env))) := by
  refine ⟨fun pins s σ H Q I ⟨R, ι, S, env, rep, repE, post⟩ => ?_⟩
  have hNl : 1 ≤ Ng.length := by
    have := (List.getElem?_eq_some_iff.mp hNg).1
    omega
  have post : Post (Cx.g X) W (relE (Cx.g X) bw) R H ι S σ (lamM id (X.env.qual ++ "<lambda>") (askF Ng.length j l mr (mb env)) S) Q := post
  unfold lamM at post
  have hid : S[id]? = some (some (.tbl (X.env.qual ++ "<lambda>"))) := by
    split at post
    · rename_i q' e
      by_cases z : q' = X.env.qual ++ "<lambda>"
      · rw [← z]
        exact e
      · rw [if_neg z] at post
        exact post.elim
    · exact post.elim
  rw [hid] at post
  simp only [if_true] at post
  have hlt : id < ι.length := by
    rw [rep.len]
    exact (List.getElem?_eq_some_iff.mp hid).1
  obtain ⟨P', hi⟩ : ∃ P', ι[id]? = some P' := ⟨_, List.getElem?_eq_getElem hlt⟩
  have cell := (rep.cell id P' _ hi hid).1
  have eP : P' = P := TabIs.eq cell.1 hTI
  subst eP
  refine wpAny_Call_Name_kw (ld_glob I hg hm ?_ hdb)
  refine PySem.W.callWith_K (h₀ := X.base) I.ok.mod.kin hk ?_ (by rfl) (by rfl)
  refine Calls.spliced_cons (rest := backTo pos (starEach [] X.env)) (lam_new I TB hcode cell.2 hdef (L.has I.ok) fun f c' pm' ctv H1 s' I1 made T1 hf hfn hfr hco => ?_)
  refine Calls.spliced_nil ⟨I1.kIn, ?_⟩
  obtain ⟨rep1, x1⟩ := made.rep rep hi hid T1
  have post1 := Post.shift later_E x1 post
  have ran : codeAny (model X.prog X.w) X.A (.call (.ref g) ⟨[.ref f], []⟩) (CR (L2.CX X.prog X.w) X.stack X.prog X.w H1 s' Q (WE W σ)) s' := by
    refine run_ofS (N := Ng) (ps := [a]) (us := [.ref f]) (vs := [.ref f]) lk hcg Sg hr.room I1.env0 (hb s' [.ref f] I1.kIn rfl) (.cons rfl .nil) rfl fun hr' => ?_
    have hrG : RoomG (k + 1) (X.A.deeper (envOfC x sg s'.heap.objs.size g cdv)) := hr.deeper _
    refine ⟨_, pss_cons (hpre s' H1 (WE W σ)) (pss_cons (ps_tryD (W := wE (WE W σ)) (tb := fun W' => tDrop fun σZ HZ Q => σZ[0]? = some (some (.ref f)) ∧ HZ c' = some (CodeO c' (X.env.qual ++ "<lambda>")) ∧ tG (Cx.g X) (wE (WE W' σZ)) (relE (Cx.g X) true) mb σ HZ Q)
      rfl rfl rfl (takes_of (E := WE W σ) rfl rfl rfl rfl) (fun W' pn xe tk' _ => pss_one (ps_expr (pe_ask (i := 0) (tb := fun E => tG (Cx.g X) (wE E) (relE (Cx.g X) true) mb) I1 L hf hfn hfr (hbind _ _ _ _ _) tk' hrG (fun A outer s H E hr2 => hbody A outer s H E f c' hr2) hNg hva hd hcd))) (hh s' H1 (WE W σ))) (hrest s' H1 (WE W σ) hrG)), ?_⟩
    have repZ : RepE (Cx.g X) R H1 ι S ((L2.start Ng [V.ref f]).set j (some .non)) ((List.replicate Ng.length Sl.un).set j (.val .none)) := ask_env hNl
    have fin : PostS (Cx.g X) (wE (WE W σ)) R H1 ι S ((L2.start Ng [V.ref f]).set j (some .non)) ((List.replicate Ng.length Sl.un).set j (.val .none)) (askS l mr (mb env) ((List.replicate Ng.length Sl.un).set j (.val .none)) S) { nx := fun _ H' => Q .non H', rt := Q } := by
      unfold askF at post1
      have lo : ∀ b, Lo ι S ((L2.start Ng [V.ref f]).set j (some .non)) ((List.replicate Ng.length Sl.un).set j (.val .none)) b → Lv ι S b := fun b h => h.elim (fun z => z) fun z => absurd z (no_own b)
      cases q : askS l mr (mb env) ((List.replicate Ng.length Sl.un).set j (.val .none)) S with
      | nx env' S' =>
        rw [q] at post1
        exact fun σ' R' ι' H' r1 r2 y => post1 .non R' ι' H' r1 (Ext.more y lo fun z hz => (y.own z (.inl hz)).imp (lo z) fun y => y) (VD.of .non)
      | rt d S' =>
        rw [q] at post1
        exact fun v R' ι' H' r1 dv y => post1 v R' ι' H' r1 (Ext.more y lo fun z hz => (y.own z hz).imp (lo z) fun y => y) (VD.of dv)
      | exc e env' S' =>
        rw [q] at post1
        exact fun cls dd σ' R' ι' H' r1 r2 ee y => post1 cls dd R' ι' H' r1 (Ext.more y lo fun z hz => (y.own z (.inl hz)).imp (lo z) fun y => y) ee
      | brk env' S' =>
        rw [q] at post1
        exact post1.elim
      | ct env' S' =>
        rw [q] at post1
        exact post1.elim
      | stuck =>
        rw [q] at post1
        exact post1.elim
    refine ⟨?_, hco, R, ι, S, env, rep1, repE.ext x1, ?_⟩
    · rw [List.getElem?_set_ne (by omega)]
      rfl
    · unfold askS seqS tryD dropS bindS at fin
      cases q : mb env S with
      | stuck =>
        simp only [q] at fin
        exact fin.elim
      | ok d S' =>
        simp only [q] at fin
        exact fun v R' ι' H' r1 y _ => ⟨R', ι', S', _, r1, repZ.ext y, PostS.shift (Ext.stm y) fin⟩
      | exc e S' =>
        simp only [q] at fin
        refine fun cls dd R' ι' H' r1 y ee => ⟨R', ι', S', _, e, r1, repZ.ext y, ee, ?_⟩
        have fin := PostS.shift (Ext.stm y) fin
        cases qc : catchD l e ((List.replicate Ng.length Sl.un).set j (.val .none)) S' with
        | nx env' S2 =>
          simp only [qc] at fin
          exact fun σ' R2 ι2 H2 r1 r2 x => ⟨R2, ι2, S2, env', r1, r2, PostS.shift x fin⟩
        | rt d S2 =>
          simp only [qc] at fin
          exact fin
        | exc z env' S2 =>
          simp only [qc] at fin
          exact fin
        | brk env' S2 =>
          simp only [qc] at fin
          exact fin
        | ct env' S2 =>
          simp only [qc] at fin
          exact fin
        | stuck =>
          simp only [qc] at fin
          exact fin
  refine wpAny_call (codeAny_mono ran fun r s2 done => ?_)
  cases r with
  | error e => exact passAt tk σ pins H1 s' e s2 I1 done
  | ok fl =>
    cases fl with
    | ret u => exact I1.after done
    | next => exact done.elim
    | brk => exact done.elim
    | cont => exact done.elim
end
end Sm

set_option Elab.async false
set_option linter.all false
set_option maxRecDepth 100000
set_option maxHeartbeats 2000000
/-! Sm23: isinstance of own classes, of errors too. -/
namespace Sm
open PySem PySem.Spec PyProof.Rows L2

section
variable {prog : Program} {w : World} {A : Around} {E : Value → Shared → Prop} {s : Shared} {K : PySem.W.Frag} {x D : Addr} {ox od : Obj}
/-- the class that an error with fields tells -/
theorem exc_class {Q : Option Value → Shared → Prop} (T : ExcC K D) (kin : K.In s.heap) (J : PySem.W.InstAt s.heap x ox D (some od)) (q : Q (some (.ref D)) { s with toks := s.toks + 1 }) : wpAny (model prog w) A (getAttr? (.ref x) "__class__") Q E s := by
  have isC : (PySem.W.clsIn K D).isSome = true := by
    obtain ⟨cd, e, _⟩ := PySem.W.any_some T.hd
    rw [e]
    rfl
  have found := PySem.W.looks_find (M := model prog w) kin J (PySem.W.findObj_data isC T.ha T.hn T.ht)
  have typ := J.type (M := model prog w)
  have sub : PySem.W.Looks (model prog w) s.heap (isInstance (.ref x) (.type "BaseException")) true := typ.andThen (PySem.W.looks_subIn kin T.hs)
  have other : (Value.builtin "BaseException.__getattribute__" == Value.builtin "object.__getattribute__") = false := by decide +kernel
  obtain ⟨hp, gs, dr, tk, os⟩ := s
  unfold getAttr? getAttrBy? getAttrBy
  refine wpAny_bind (wpAny_mkText (wpAny_bind (wpAny_attempt (wpAny_holding (wpAny_bind (typ.at (wpAny_bind ((PySem.W.looks_findIn (M := model prog w) kin T.hg).at ?_))))))))
  show wpAny _ _ (if (onTheHeap (Value.ref D) && (Value.builtin "BaseException.__getattribute__" == Value.builtin "object.__getattribute__")) = true then _ else _) _ _ _
  rw [other, Bool.and_false, if_neg Bool.false_ne_true]
  unfold getAttrByItsOwn hookBefore
  refine wpAny_bind ?_
  rw [if_pos (show onTheHeap (Value.ref D) = true by rfl)]
  refine (PySem.W.looks_findIn (M := model prog w) kin T.hk).at (wpAny_bind (wpAny_attempt (wpAny_holding ?_)))
  unfold callGetattribute
  rw [show (false && onTheHeap (Value.builtin "BaseException.__getattribute__")) = false by rfl, if_neg Bool.false_ne_true]
  unfold boundAndCalled
  rw [PySem.F.excAttr_ValueError.ga.bind (.ref x)]
  refine wpAny_bind (wpAny_pure ?_)
  show wpAny _ _ (call (.builtin "BaseException.__getattribute__") [.ref x, .str "__class__" tk]) _ _ _
  refine wpAny_call (codeAny_call_builtin PySem.F.excAttr_ValueError.ga.plain PySem.F.entry_bexc_ga (@PySem.W.check_slot (model prog w) _ _ ⟨hp, gs, dr, tk + 1, os⟩ "BaseException.__getattribute__" "BaseException" "__getattribute__" (.ref x) [.str "__class__" tk] [] _ (by decide +kernel) (by decide +kernel) sub (PySem.F.args_bexc_ga (.ref x) (.str "__class__" tk)) ?_))
  unfold Builtin.«object.__getattribute__»
  refine wpAny_bind (wpAny_of_eq (a := ((Value.ref x : Value), [Value.str "__class__" tk])) (by first | rfl | (simp only [slotArgs]; rfl)) (wpAny_bind (wpAny_pure (wpAny_bind (typ.at (wpAny_bind (found.at ?_)))))))
  show wpAny _ _ (holding [Value.builtin "object.__class__"] (call (.builtin "getset_descriptor.__get__") [.builtin "object.__class__", .ref x, .ref D]) >>= ret) _ _ _
  refine wpAny_bind (wpAny_holding (wpAny_call (PySem.W.class_get (s := ⟨hp, gs, dr, tk + 1, os⟩) (ox := ox) (od := some od) kin J T.hm (wpAny_pure ?_))))
  show wpAny _ _ (handedOut (.ref D)) _ _ _
  rw [PySem.W.handedOut_of (v := .ref D) rfl]
  first
    | exact wpAny_pure (wpAny_pure q)
    | exact wpAny_pure q
    | exact wpAny_pure (wpAny_bind (wpAny_pure (wpAny_pure q)))
theorem kitx_exc (T : ExcC K D) : PySem.W.KitX K (.ref x) (.ref D) (fun h => ∃ ox od, PySem.W.InstAt h x ox D (some od)) where
  ty := fun _ _ _ ⟨_, _, J⟩ => J.type
  it := fun _ h kin _ => by
    obtain ⟨cd, e, _⟩ := PySem.W.any_some T.hd
    obtain ⟨o, h1, h2⟩ : ∃ o, h.get? D = some o ∧ o.data = .cls cd := by
      unfold PySem.W.clsIn at e
      split at e
      · rename_i ho
        cases e
        exact ⟨_, kin _ _ ho, rfl⟩
      · cases e
    intro _ _ _ _ keep q
    unfold isType loadHead
    refine wpAny_bind (wpAny_loadPart (keep _ _ h1) ?_)
    rw [h2]
    exact wpAny_pure q
  ne := fun h tp dd its n sl kin htp => Bool.eq_false_iff.mpr fun z => by
    obtain ⟨cd, e, _⟩ := PySem.W.any_some T.hd
    cases Value.ref.inj (beq_iff_eq.mp z)
    unfold PySem.W.clsIn at e
    split at e
    · rename_i ho
      have := (kin _ _ ho).symm.trans htp
      cases this
    · cases e
  ca := fun kin ⟨_, _, J⟩ q => exc_class T kin J q
end

/-! ### values and the classes that they are of -/
/-- what isinstance may be asked about -/
inductive Kl where
  | ty (t : Ty) | own (c : Str)
/-- of which class a value is: a built-in one, an own one -/
def klD (es is : List Str) (d : D) (S : Sto) : Option Kl := match d with
  | .exc c _ => if c ∈ es then some (.own c) else none
  | .inst c _ => if c ∈ is then some (.own c) else none
  | .obj id => (match S[id]? with
    | some (some (.inst c _)) => if c ∈ is then some (.own c) else none
    | _ => (tyD d S).map .ty)
  | _ => (tyD d S).map .ty
def oneK (sub : Str → Str → Option Bool) : Kl → Kl → Option Bool
  | .ty a, .ty b => some (a.sub b)
  | .own c, .own c' => sub c c'
  | _, _ => some false
def anyK (sub : Str → Str → Option Bool) (t : Kl) : List Kl → Option Bool
  | [] => some false
  | c :: r => match oneK sub t c with
    | some true => some true
    | some false => anyK sub t r
    | none => none
def isoM (es is : List Str) (sub : Str → Str → Option Bool) (ts : List Kl) (d : D) : M D := fun S => optO (klD es is d S) fun t => optO (anyK sub t ts) fun b => .ok (.bool b) S
def KlV (mg : Str → Option Value) : Kl → Value → Prop
  | .ty t, v => v = .type t.name
  | .own c, v => ∃ C, mg c = some (.ref C) ∧ v = .ref C
/-- what the written part says of own classes -/
structure IsC (K : PySem.W.Frag) (C : Addr) : Prop where
  cl : Cls K C
  ha : PySem.W.findIn K (.ref C) "__class__" = some (some (.builtin "object.__class__"))
  hn : PySem.W.specialIn K (.builtin "object.__class__") "__get__" = some (some (.builtin "getset_descriptor.__get__"))
  ht : PySem.W.takesIn K (.builtin "object.__class__") = some true
  hm : PySem.W.mroIn K C (.type "object") = some true
structure KlF (K : PySem.W.Frag) (mg : Str → Option Value) (es is : List Str) (sub : Str → Str → Option Bool) (ts : List Kl) : Prop where
  exc : ∀ c ∈ es, ∃ C, mg c = some (.ref C) ∧ ExcC K C
  ins : ∀ c ∈ is, ∃ C, mg c = some (.ref C) ∧ IsC K C
  kit : ∀ (t c : Kl) (tv cv : Value) (b : Bool), (∀ x, t = .own x → x ∈ es ∨ x ∈ is) → c ∈ ts → KlV mg t tv → KlV mg c cv → oneK sub t c = some b → PySem.W.kitOne K tv cv = some b
/-- how the library's rules see a value -/
def KitV (X : Cx) (H : Hp) (v : V) (tv : Value) : Prop := ∀ (pins : List (Addr × Obj)) (σ : L2.St) (s : Shared) (u : Value), L2.Inv X pins σ H s → RelV v u → ∃ P : Heap → Prop, PySem.W.KitX X.K u tv P ∧ P s.heap ∧ u ≠ .builtin "__main__.__loader__#opaque"
section
variable {X : Cx} {W : WX} {bw : Bool} {es is : List Str} {sub : Str → Str → Option Bool} {ts : List Kl}
theorem kitV_ty {H : Hp} {v : V} {tv : Value} (h : TyX X.K H v tv) : KitV X H v tv := fun _ _ _ _ I r => kit_of I r h
theorem kitV_exc {H : Hp} {a C dx : Addr} {fs : List (Str × V)} (T : ExcC X.K C) (h1 : H a = some (ExcO a (.ref C) (some dx))) (h2 : H dx = some (.xd fs)) : KitV X H (.ref a) (.ref C) := fun _ _ s u I r => by
  have r : u = Value.ref a := r
  subst r
  refine ⟨_, kitx_exc (x := a) T, ?_, fun z => nomatch z⟩
  have e1 : ObjOk X.prog X.w H s.heap a (ExcO a (.ref C) (some dx)) := I.hok a _ h1
  have e2 : ObjOk X.prog X.w H s.heap dx (.xd fs) := I.hok dx _ h2
  obtain ⟨⟨oe, vs, q1, q2, q3⟩, _⟩ := e1
  obtain ⟨mA, hns, _⟩ := e2
  obtain ⟨od, q4, _⟩ := lookIn_ns hns
  exact ⟨oe, od, q1, q2.1, by unfold PySem.W.notCls; rw [q3] <;> rfl, by rw [q2.2]; exact q4⟩
theorem Bw.kl {R H : Hp} {ι : List Addr} {S : Sto} {v : V} {d : D} {t : Kl} (F : KlF X.K X.mg es is sub ts) (rep : Rep (Cx.g X) R H ι S) (h : Bw (Cx.g X) R H ι S v d) (e : klD es is d S = some t) : ∃ tv, KlV X.mg t tv ∧ KitV X H v tv ∧ ∀ x, t = .own x → x ∈ es ∨ x ∈ is := by
  have base : (tyD d S).map Kl.ty = some t → ∃ tv, KlV X.mg t tv ∧ KitV X H v tv ∧ ∀ x, t = .own x → x ∈ es ∨ x ∈ is := fun e => by
    obtain ⟨t', e1, rfl⟩ := Option.map_eq_some_iff.mp e
    exact ⟨_, rfl, kitV_ty (h.ty rep e1), fun _ z => by cases z⟩
  have own : ∀ {c : Str} {fs : List (Str × D)}, instOf d S = some (c, fs) → (if c ∈ is then some (Kl.own c) else none) = some t → ∃ tv, KlV X.mg t tv ∧ KitV X H v tv ∧ ∀ x, t = .own x → x ∈ es ∨ x ∈ is := fun {c fs} ei e => by
    by_cases hm : c ∈ is
    · rw [if_pos hm] at e
      cases e
      obtain ⟨a, C, dx, fvs, rfl, h1, h2, _⟩ := Bw.insts rep h ei
      obtain ⟨C', m', T⟩ := F.ins c hm
      have h2 : X.mg c = some (.ref C) := h2
      rw [h2] at m'
      cases m'
      exact ⟨.ref C, ⟨C, h2, rfl⟩, kitV_ty (.base (.ins h1 T.cl T.ha T.hn T.ht T.hm)), fun x z => by cases z; exact .inr hm⟩
    · rw [if_neg hm] at e
      cases e
  cases d with
  | exc c fs =>
    have e : (if c ∈ es then some (Kl.own c) else none) = some t := e
    by_cases hm : c ∈ es
    · rw [if_pos hm] at e
      cases e
      obtain ⟨a, C, dx, fvs, rfl, h1, h2, h3, _⟩ := Bw.excs rep h rfl
      obtain ⟨C', m', T⟩ := F.exc c hm
      have h3 : X.mg c = some (.ref C) := h3
      rw [h3] at m'
      cases m'
      exact ⟨.ref C, ⟨C, h3, rfl⟩, kitV_exc T h1 h2, fun x z => by cases z; exact .inl hm⟩
    · rw [if_neg hm] at e
      cases e
  | inst c fs => exact own rfl e
  | obj id =>
    unfold klD at e
    cases hs : S[id]? with
    | none =>
      simp only [hs] at e
      exact base e
    | some o =>
      cases o with
      | none =>
        simp only [hs] at e
        exact base e
      | some c =>
        cases c with
        | inst c fs =>
          simp only [hs] at e
          exact own (fs := fs) (by unfold instOf; simp only [hs]) e
        | list xs =>
          simp only [hs] at e
          exact base e
        | tbl q =>
          simp only [hs] at e
          exact base e
  | _ => exact base e
def rIsV (X : Cx) : List V → Hp → VK → Prop := fun xs H Q => ∃ (v c : V) (tv cv : Value) (b : Bool), xs = [v, c] ∧ ClsV c cv ∧ KitV X H v tv ∧ PySem.W.kitOne X.K tv cv = some b ∧ Q (.bl b) H
theorem call_isV : CallR X (.builtin "isinstance") (rIsV X) := by
  intro pins s σ H xs us Q I r ⟨v, c, tv, cv, b, e0, k, kv, e, q⟩
  subst e0
  obtain ⟨u1, u2, rfl, r1, r2⟩ := vals2 r
  cases k.eq r2
  obtain ⟨P, Z, here, n⟩ := kv pins σ s u1 I r1
  exact PySem.W.kia_one Z I.kIn here e n fun tk => ⟨V.bl b, H, I.tok tk, rfl, q⟩
def rIsVT (X : Cx) : List V → Hp → VK → Prop := fun xs H Q => ∃ (v : V) (p : Addr) (cs : List V) (tv : Value) (us : List Value) (b : Bool), xs = [v, .ref p] ∧ H p = some (.tup cs) ∧ Paired ClsV cs us ∧ KitV X H v tv ∧ PySem.W.kitAny X.K tv us = some b ∧ Q (.bl b) H
theorem call_isVT : CallR X (.builtin "isinstance") (rIsVT X) := by
  intro pins s σ H xs us Q I r ⟨v, p, cs, tv, ws, b, e0, hp, k, kv, e, q⟩
  subst e0
  obtain ⟨u1, u2, rfl, r1, r2⟩ := vals2 r
  have r2 : u2 = Value.ref p := r2
  subst r2
  obtain ⟨P, Z, here, n⟩ := kv pins σ s u1 I r1
  have tup : ObjOk X.prog X.w H s.heap p (.tup cs) := I.hok p _ hp
  obtain ⟨_, its, rv, ⟨c0, d0, dt, sl⟩, q1, q2, m, q3⟩ := tup
  cases ClsV.all k rv
  dsimp only at q2 q3
  subst q2
  subst q3
  exact PySem.W.kia_tup Z I.kIn here q1 e n fun tk => ⟨V.bl b, H, I.tok tk, rfl, q⟩
theorem kitAny_kl {F : KlF X.K X.mg es is sub ts} {t : Kl} {tv : Value} (ht : KlV X.mg t tv) (hx : ∀ x, t = .own x → x ∈ es ∨ x ∈ is) : ∀ {cs : List Kl} {us : List Value} {b : Bool}, (∀ c ∈ cs, c ∈ ts) → Paired (fun c u => KlV X.mg c u) cs us → anyK sub t cs = some b → PySem.W.kitAny X.K tv us = some b
  | [], _, b, _, .nil, e => e
  | c :: cs, _, b, hm, .cons h r, e => by
    unfold anyK at e
    cases q : oneK sub t c with
    | none =>
      rw [q] at e
      cases e
    | some k =>
      have h1 := F.kit t c tv _ k hx (hm c List.mem_cons_self) ht h q
      rw [q] at e
      refine kitAny_cons h1 (fun hk => ?_) fun hk => ?_
      · subst hk
        exact kitAny_kl (F := F) ht hx (fun c hc => hm c (List.mem_cons_of_mem _ hc)) r e
      · subst hk
        exact (Option.some.inj e).symm
def tVals : List V → TA
  | [] => tNil
  | c :: cs => tCons (tC c) (tVals cs)
theorem tVals_go {σ : L2.St} {H : Hp} : ∀ {cs : List V} {Q : List V → Hp → Prop}, Q cs H → tVals cs σ H Q
  | [], _, q => q
  | c :: cs, Q, q => tVals_go (cs := cs) (Q := fun xs H2 => Q (c :: xs) H2) q
variable {e : Expr} {me : Env → M D} {x : Str} {p p2 pos : Pos} {cv : V} {cu : Value} {kl : Kl} {exs : List Expr} {cvs : List V} {cus : List Value} {k : Nat}
theorem se_iso (F : KlF X.K X.mg es is sub [kl]) (hg : Gl X "isinstance") (hm : X.mg "isinstance" = none) (hv : bootBuiltins "isinstance" = some (.builtin "isinstance")) (hT : PE X (.Name x p2) (tC cv)) (hc : ClsV cv cu) (hk : KlV X.mg kl cu) (he : SE X W true e me)
    (h1 : starEach [e, .Name x p2] X.env = (false, eval e X.env) :: starEach [.Name x p2] X.env := by rfl) (h2 : starEach [.Name x p2] X.env = (false, eval (.Name x p2) X.env) :: starEach [] X.env := by rfl) (hpl : (backTo pos (starEach [.Name x p2] X.env)).any (·.1) = false := by rfl) :
    SE X W bw (.Call (.Name "isinstance" p) [e, .Name x p2] [] pos) (fun env => me env >>= isoM es is sub [kl]) :=
  PE.imp (pe_callB call_isV hg hm hv (pa_cons he (pa_cons hT pa_nil h2) h1) (by decide) (by decide) h1 hpl) fun σ H Q ⟨R, ι, S, env, rep, repE, post⟩ => by
    refine tG_then later_E rep repE post fun R1 H1 ι1 S1 v d rep1 repE1 x1 b1 post1 => ?_
    obtain ⟨t, et, post1⟩ := Post.opt post1
    obtain ⟨b, eb, post1⟩ := Post.opt post1
    have b1 : Bw (Cx.g X) R1 H1 ι1 S1 v d := b1
    obtain ⟨tv, h3, h4, h5⟩ := Bw.kl F rep1 b1 et
    have e1 : oneK sub t kl = some b := by
      unfold anyK at eb
      cases q : oneK sub t kl with
      | none =>
        rw [q] at eb
        cases eb
      | some z =>
        rw [q] at eb
        cases z <;> exact eb
    exact ⟨v, cv, tv, cu, b, rfl, hc, h4, F.kit t kl tv cu b h5 List.mem_cons_self h3 hk e1, Post.val rep1 .bl post1⟩
theorem se_isoT (F : KlF X.K X.mg es is sub ts) (hz : ts.length ≤ 100) (hg : Gl X "isinstance") (hm : X.mg "isinstance" = none) (hv : bootBuiltins "isinstance" = some (.builtin "isinstance")) (hT : PA X exs (tVals cvs)) (hc : Paired ClsV cvs cus) (hk : Paired (fun c u => KlV X.mg c u) ts cus) (he : SE X W true e me)
    (h1 : starEach [e, .Tuple exs k p2] X.env = (false, eval e X.env) :: starEach [.Tuple exs k p2] X.env := by rfl) (h2 : starEach [.Tuple exs k p2] X.env = (false, eval (.Tuple exs k p2) X.env) :: starEach [] X.env := by rfl) (hpl : (backTo pos (starEach [.Tuple exs k p2] X.env)).any (·.1) = false := by rfl) :
    SE X W bw (.Call (.Name "isinstance" p) [e, .Tuple exs k p2] [] pos) (fun env => me env >>= isoM es is sub ts) :=
  PE.imp (pe_callB call_isVT hg hm hv (pa_cons he (pa_cons (pe_tup hT) pa_nil h2) h1) (by decide) (by decide) h1 hpl) fun σ H Q ⟨R, ι, S, env, rep, repE, post⟩ => by
    refine tG_then later_E rep repE post fun R1 H1 ι1 S1 v d rep1 repE1 x1 b1 post1 => ?_
    obtain ⟨t, et, post1⟩ := Post.opt post1
    obtain ⟨b, eb, post1⟩ := Post.opt post1
    have b1 : Bw (Cx.g X) R1 H1 ι1 S1 v d := b1
    refine tVals_go ⟨?_, fun q hq => ?_⟩
    · rw [Paired.length hc, ← Paired.length hk]
      exact Nat.le_trans hz (by decide)
    · have rep2 : Rep (Cx.g X) R1 (upd H1 q (.tup cvs)) ι1 S1 := rep1.newH hq
      have x2 : ExtL R1 H1 ι1 S1 R1 (upd H1 q (.tup cvs)) ι1 S1 := Ext.newH hq
      obtain ⟨tv, h3, h4, h5⟩ := Bw.kl F rep2 (b1.ext x2) et
      exact ⟨v, q, cvs, tv, cus, b, rfl, upd_same, hc, h4, kitAny_kl (F := F) h3 h5 (fun _ h => h) hk eb, Post.val rep2 .bl (Post.shift later_E x2 post1)⟩
end
end Sm

set_option Elab.async false
set_option linter.all false
set_option maxRecDepth 100000
set_option maxHeartbeats 2000000
/-! Sm24: a law's end with tables of code objects. -/
namespace Sm
open PySem PySem.Spec PyProof.Rows L2 LamX

/-- a def's table: its qualified lambda name, its code object, its table -/
structure TabF where
  q : Str
  c : Addr
  P : Addr
theorem tabIs_in {K : PySem.W.Frag} {m : Str → Option Value} {h : Heap} {x : Str} {c P : Addr} (X : K.In h) (G : h.Ns mainGlobals m) (e : PySem.W.tabIn K x = some (c, P)) : TabIs ⟨K, m⟩ ((x ++ ".<locals>.") ++ "<lambda>") P ∧ ∀ f fd oc od sl, m x = some (.ref f) → K.lookup f = some ⟨oc, od, .func fd, sl⟩ → fd.code = .ref c := by
  unfold PySem.W.tabIn at e
  split at e
  · rename_i f hf
    have hm := PySem.W.mg_of X G hf
    split at e
    · rename_i hfo
      split at e
      · rename_i c2 hc
        split at e
        · rename_i hco
          split at e
          · rename_i P2 hv
            cases e
            refine ⟨⟨x, f, _, _, _, _, _, rfl, hm, hfo, rfl, hc, hco, rfl, hv⟩, fun f' fd' oc od sl h1 h2 => ?_⟩
            rw [hm] at h1
            cases h1
            rw [hfo] at h2
            cases h2
            exact hc
          · cases e
        · cases e
      · cases e
    · cases e
  · cases e
theorem law_endT {P : Program} {w : World} {K : PySem.W.Frag} {m m2 : Str → Option Value} {k : Nat} {f a : Addr} {fd : FuncData} {x : Str} {t : Shared} {vs : List Value} {ns : List Int} {F : List D → M D} {tbs : List TabF}
    (kin : K.In t.heap) (gl : t.heap.Ns mainGlobals m) (bn : t.heap.Ns builtinsNs m2) (bb : ∀ y : Str, y ≠ "__name__" → m2 y = bootBuiltins y) (nl : t.heap.NoLimit) (ng : t.gens = #[])
    (bm : ∃ (mo : Addr) (ob : Obj), m "__builtins__" = some (.ref mo) ∧ mo ≠ builtinsNs ∧ t.heap.get? mo = some ob ∧ ob.cls = .type "module" ∧ ob.dict = some builtinsNs ∧ ob.data = .plain)
    (at_t : ∀ p ∈ tbs, t.heap.get? p.P = some { cls := .none, data := .fields #[] }) (hd : ∀ p ∈ tbs, PySem.W.CodeHd t.heap p.c p.P) (ti : ∀ p ∈ tbs, TabIs ⟨K, m⟩ p.q p.P) (nd : (tbs.map (·.P)).Nodup) (nk : ∀ p ∈ tbs, K.lookup p.P = none)
    (at_a : t.heap.get? a = some { cls := .type "list", data := .seq vs.toArray }) (are : IntsAre vs ns) (le : ns.length ≤ sizeLine) (room : RoomG k callerA)
    (fn : ∀ base : Heap, K.In base → base.Ns mainGlobals m → (∀ p ∈ tbs, TabB base m p.c p.P) → FnG P w K m base k f fd [x] (spS ⟨K, m⟩ 1 F)) (bnd : ∀ (u : Shared) (v : Value), BindsTo u fd ⟨[v], []⟩ [(x, v)])
    (true_ : ∃ S, F [.frl (ns.map D.int)] (tbs.map fun p => some (.tbl p.q)) = .ok (.bool true) S) :
    codeAny (model P w) callerA (.call (.ref f) ⟨[.ref a], []⟩) (fun r t' => r = .ok (.ret (.bool true)) ∧ OldK t.heap t'.heap ∧ t'.os = t.os ∧ AllBare t'.gens) t := by
  have vv := vals_ints are
  have nn := are.length
  have aP : ∀ p ∈ tbs, p.P ≠ a := fun p hp z => by
    have := at_t p hp
    rw [z, at_a] at this
    cases this
  have isT : ∀ b, b ∈ tbs.map (·.P) → t.heap.get? b = some { cls := .none, data := .fields #[] } := fun b hb => by
    obtain ⟨p, hp, e⟩ := List.mem_map.mp hb
    rw [← e]
    exact at_t p hp
  have aT : a ∉ tbs.map (·.P) := fun z => by
    obtain ⟨p, hp, e⟩ := List.mem_map.mp z
    exact aP p hp e
  -- R: what is frozen (the script, perhaps); H: that and the tables
  have go : ∀ R : Hp, (∀ b o, R b = some o → b = a ∧ ∃ ob xs, o = .frz ob (.lst xs)) → SqL K R a (ns.map V.int) → (∀ b o, R b = some o → ObjOk P w R t.heap b o) → (R a ≠ none → K.lookup a = none) →
      codeAny (model P w) callerA (.call (.ref f) ⟨[.ref a], []⟩) (fun r t' => r = .ok (.ret (.bool true)) ∧ OldK t.heap t'.heap ∧ t'.os = t.os ∧ AllBare t'.gens) t := by
    intro R only sq okR dis
    let H : Hp := fun b => if b ∈ tbs.map (·.P) then some (.tbl #[]) else R b
    have hT : ∀ {b : Addr}, b ∈ tbs.map (·.P) → H b = some (.tbl #[]) := fun {b} hb => if_pos hb
    have hR : ∀ {b : Addr}, b ∉ tbs.map (·.P) → H b = R b := fun {b} hb => if_neg hb
    have RH : ∀ b o, R b = some o → H b = some o := fun b o e => by
      rw [hR (by rw [(only b o e).1]; exact aT)]
      exact e
    have ok : HOk P w H t.heap := fun b o e => by
      by_cases hb : b ∈ tbs.map (·.P)
      · rw [hT hb] at e
        cases e
        exact isT b hb
      · rw [hR hb] at e
        obtain ⟨rfl, ob, xs, rfl⟩ := only b o e
        exact okR _ _ e
    have none_ : ∀ {b : Addr}, b ≠ a → b ∉ tbs.map (·.P) → H b = none := fun {b} h1 h2 => by
      rw [hR h2]
      cases e : R b with
      | none => rfl
      | some o => exact absurd (only b o e).1 h1
    have plain : ∀ {b : Addr} {o : Obj}, t.heap.get? b = some o → (∀ us n, o.data ≠ .seq us n) → o.data ≠ .fields #[] → H b = none := fun {b o} e h1 h2 => none_ (fun z => by
        rw [z, at_a] at e
        cases e
        exact h1 _ _ rfl) fun z => by
        rw [isT b z] at e
        cases e
        exact h2 rfl
    have ns_in : ∀ {b : Addr} {mm : Str → Option Value}, t.heap.Ns b mm → (hidT t.heap H).Ns b mm := fun {b mm} ⟨o, es, ep, e, d, r⟩ => ⟨o, es, ep, hidT_get e (plain e (fun us n z => by rw [d] at z; cases z) fun z => by rw [d] at z; cases z), d, r⟩
    have kb : K.In (hidT t.heap H) := fun b o e => hidT_get (kin b o e) (by
      by_cases h1 : b ∈ tbs.map (·.P)
      · obtain ⟨p, hp, ep⟩ := List.mem_map.mp h1
        rw [← ep, nk p hp] at e
        cases e
      · by_cases h2 : b = a
        · subst h2
          rw [hR h1]
          cases q : R b with
          | none => rfl
          | some u =>
            rw [dis (by rw [q]; simp)] at e
            cases e
        · exact none_ h2 h1)
    have TB : ∀ p ∈ tbs, TabB (hidT t.heap H) m p.c p.P := fun p hp => by
      obtain ⟨mo, ob, b1, b2, b3, b4, b5, b6⟩ := bm
      obtain ⟨o, us, file, tf, flags, tg, inF, text, tt, e1, r1, r2, r3, r4, r5, r6, r7, r8, ne⟩ := hd p hp
      have tp := at_t p hp
      refine ⟨⟨o, us, file, tf, flags, tg, inF, text, tt, hidT_get e1 (plain e1 (fun _ _ z => by rw [r2] at z; cases z) fun z => by rw [r2] at z; cases z; simp at r3), r1, r2, r3, r4, r5, r6, r7, r8, ne⟩, ⟨mo, ob, b1, b2, fun z => ?_, fun z => ?_, hidT_get b3 (plain b3 (fun _ _ z => by rw [b6] at z; cases z) fun z => by rw [b6] at z; cases z), b4, b5, b6⟩, fun z => ?_⟩
      · obtain ⟨o2, es, ep, e, d, _⟩ := gl
        rw [z, e] at b3
        cases b3
        rw [d] at b6
        cases b6
      · rw [z, tp] at b3
        cases b3
        cases b6
      · obtain ⟨o2, es, ep, e, d, _⟩ := gl
        rw [z, tp] at e
        cases e
        cases d
    obtain ⟨mc, l1, l2⟩ := nl
    have mod : Mod K m (hidT t.heap H) := ⟨kb, ns_in gl, ⟨m2, ns_in bn, bb⟩, mc, ns_in l1, l2⟩
    have env0 : Env0 P w K m (hidT t.heap H) callerA [] t H := ⟨rfl, mod, fun b o e => of_hidT e, Nat.le_of_eq (hidT_size _ _), trivial, fun b hb => absurd (show b ∈ ([] : List Addr) from hb) (by simp), ok, .of_eq ng⟩
    obtain ⟨S, tr⟩ := true_
    have at_i : ∀ {i : Nat} {b : Addr} {c : Cell}, (tbs.map (·.P))[i]? = some b → (tbs.map fun p => some (Cell.tbl p.q))[i]? = some (some c) → ∃ p ∈ tbs, b = p.P ∧ c = .tbl p.q := fun {i b c} h1 h2 => by
      rw [List.getElem?_map] at h1 h2
      cases q : tbs[i]? with
      | none =>
        rw [q] at h1
        cases h1
      | some p =>
        rw [q] at h1 h2
        cases h1
        cases h2
        exact ⟨p, List.mem_of_getElem? q, rfl, rfl⟩
    have rep : Rep ⟨K, m⟩ R H (tbs.map (·.P)) (tbs.map fun p => some (.tbl p.q)) := by
      refine ⟨RH, by rw [List.length_map, List.length_map], fun i b c h1 h2 => ?_, fun i j b c c' h1 h2 _ _ => ?_⟩
      · obtain ⟨p, hp, rfl, rfl⟩ := at_i h1 h2
        refine ⟨⟨ti p hp, TabS.nil (hT (List.mem_map.mpr ⟨p, hp, rfl⟩))⟩, ?_⟩
        cases q : R p.P with
        | none => rfl
        | some o => exact absurd (only _ o q).1 (aP p hp)
      · exact (List.getElem?_inj (List.getElem?_eq_some_iff.mp h1).1 nd).mp (h1.trans h2.symm)
    have sp : spS ⟨K, m⟩ 1 F [.ref a] H (fun v _ => v = .bl true) fun _ _ _ => False := by
      refine ⟨rfl, R, tbs.map (·.P), _, [.frl (ns.map D.int)], rep, .cons (.frl sq (DvAll.ints ns)) .nil, ?_⟩
      rw [tr]
      intro v R1 ι1 H1 _ _ y
      have y : Dv ⟨K, m⟩ R1 ι1 v (.bool true) := y
      cases y
      rfl
    refine codeAny_mono ((fn _ kb (ns_in gl) TB).run callerA [] t H ⟨[.ref a], []⟩ [.ref a] [.ref a] _ _ room env0 (bnd t (.ref a)) (.cons rfl .nil) sp) fun r t' y => ?_
    match r, y with
    | .error e, y =>
      obtain ⟨_, _, _, _, _, _, _, _, z⟩ := y
      exact z.2.2.2.2.elim
    | .ok .next, y => exact y.elim
    | .ok .brk, y => exact y.elim
    | .ok .cont, y => exact y.elim
    | .ok (.ret u), y =>
      obtain ⟨v, H', os, bare, un, ok2, rv, q⟩ := y
      have q : v = .bl true := q
      subst q
      have rv : u = Value.bool true := rv
      subst rv
      have stay : ∀ b o, b ∉ tbs.map (·.P) → t.heap.get? b = some o → t'.heap.get? b = some o := fun b o hb e => by
        cases q : H b with
        | none => exact un.keep b o e q (fun z => absurd (show b ∈ ([] : List Addr) from z) (by simp)) (by simp)
        | some u =>
          have q' := q
          rw [hR hb] at q'
          obtain ⟨rfl, ob, xs, rfl⟩ := only b u q'
          obtain ⟨e1, _⟩ := ok b _ q
          obtain ⟨e2, _⟩ := ok2 b _ (un.frzs b ob _ q)
          rw [e] at e1
          cases e1
          exact e2
      have more : ∀ p ∈ tbs, ∃ us : Array Value, t'.heap.get? p.P = some { cls := .none, data := .fields us } := fun p hp => by
        obtain ⟨us, z⟩ := un.tbls p.P #[] (hT (List.mem_map.mpr ⟨p, hp, rfl⟩))
        exact ⟨_, ok2 p.P _ z⟩
      refine ⟨rfl, ⟨fun b o e => ?_, fun b o e => ?_⟩, os, bare⟩
      · by_cases hb : b ∈ tbs.map (·.P)
        · obtain ⟨p, hp, ep⟩ := List.mem_map.mp hb
          obtain ⟨us, hu⟩ := more p hp
          subst ep
          have e0 := at_t p hp
          rw [e0] at e
          cases e
          exact .inr (.inl ⟨((hd p hp).tab e0).isCodeTable, rfl, #[], us, rfl, by rw [Array.empty_append]; exact hu⟩)
        · exact .inl (stay b o hb e)
      · by_cases hb : b ∈ tbs.map (·.P)
        · obtain ⟨p, hp, ep⟩ := List.mem_map.mp hb
          obtain ⟨us, hu⟩ := more p hp
          subst ep
          exact ⟨_, hu⟩
        · exact ⟨o, stay b o hb e⟩
  cases hk : K.lookup a with
  | some o =>
    have e := kin a o hk
    rw [at_a] at e
    cases e
    exact go (fun _ => none) (fun b o z => by cases z) (.inr ⟨_, vs.toArray, _, hk, rfl, rfl, rfl, by rw [List.size_toArray, nn]; exact le, by simpa using vv⟩) (fun b o z => by cases z) fun z => absurd rfl z
  | none =>
    let Ra : Hp := fun b => if b = a then some (.frz { cls := .type "list", data := .seq vs.toArray } (.lst (ns.map V.int))) else none
    have at1 : Ra a = some (.frz { cls := .type "list", data := .seq vs.toArray } (.lst (ns.map V.int))) := if_pos rfl
    have which : ∀ b o, Ra b = some o → b = a ∧ o = .frz { cls := .type "list", data := .seq vs.toArray } (.lst (ns.map V.int)) := fun b o e => by
      by_cases hb : b = a
      · subst hb
        rw [at1] at e
        cases e
        exact ⟨rfl, rfl⟩
      · have : Ra b = none := if_neg hb
        rw [this] at e
        cases e
    refine go Ra (fun b o e => ⟨(which b o e).1, _, _, (which b o e).2⟩) (.inl (.inr ⟨_, at1⟩)) (fun b o e => ?_) fun _ => hk
    obtain ⟨rfl, rfl⟩ := which b o e
    exact ⟨at_a, by rw [List.length_map]; exact le, vs, _, vv, at_a⟩
abbrev lamQ (x : Str) : Str := (x ++ ".<locals>.") ++ "<lambda>"
/-- what k_head leaves, of a law whose defs ts make lambdas -/
theorem walkGT {l : PySem.W.OpenLaw} {n k : Nat} {q : Program} {loose : List Str} {XP : (Str → Option Value) → Heap → Prop} {YP : World → Heap → Prop} {d : DefRec} {K : Params → PySem.W.Frag} {x : Str}
    (hn : l.most = some n) (hn2 : n ≤ sizeLine) (hdf : d.params.defaults = []) (hr : RoomG k callerA) (hY : ∀ (w : World) (h : Heap), YP w h → (K w.params).In h)
    (fn : ∀ (w : World) (m : Str → Option Value) (f : Addr) (h : Heap), YP w h → (K w.params).In h → h.Ns mainGlobals m → m d.name = some (.ref f) →
      ∃ ts : List (Str × Addr × Addr), (∀ p ∈ ts, PySem.W.tabIn (K w.params) p.1 = some p.2 ∧ PySem.W.codeHdIn (K w.params) p.2.1 p.2.2 = true ∧ h.get? p.2.2 = some { cls := .none, data := .fields #[] } ∧ (K w.params).lookup p.2.2 = none) ∧ (ts.map fun p => p.2.2).Nodup ∧
      ∃ fd : FuncData, (∀ (s : Shared) (u : Value), BindsTo s fd ⟨[u], []⟩ [(x, u)]) ∧ ∃ F : List D → M D, (∀ ns : List Int, ns.length ≤ n → (∀ z ∈ ns, Builtin.Int.intBits z ≤ 1048576) → ∃ S, F [.frl (ns.map D.int)] (ts.map fun p => some (.tbl (lamQ p.1))) = .ok (.bool true) S) ∧
        ∀ base : Heap, (K w.params).In base → base.Ns mainGlobals m → (∀ p ∈ ts, TabB base m p.2.1 p.2.2) → FnG l.prog w (K w.params) m base k f fd [x] (spS ⟨K w.params, m⟩ 1 F)) :
    PySem.W.WalkO q loose XP YP l.row.toRowW d [] (fun f vs => PySem.call f vs) :=
  Att.attach_callB hn hdf fun w s₀ s m mb f o pm cd doc a vs ns G Y ho hd hcd hm hobj hints hlen bits hg => by
    have kin := hY w _ Y
    obtain ⟨ts, h1, h2, fd, hb, F, tr, hF⟩ := fn w m f _ Y kin G.T.g hm
    have tab : ∀ p ∈ ts, PySem.W.CodeHd s.heap p.2.1 p.2.2 ∧ s.heap.get? p.2.2 = some { cls := .none, data := .fields #[] } := fun p hp => ⟨PySem.W.codeHd_of_K kin (h1 p hp).2.1, (h1 p hp).2.2.1⟩
    let mk : Str × Addr × Addr → TabF := fun p => ⟨lamQ p.1, p.2.1, p.2.2⟩
    have ti : ∀ p ∈ ts.map mk, TabIs ⟨K w.params, m⟩ p.q p.P := fun p hp => by
      obtain ⟨⟨y, c, P⟩, hp2, rfl⟩ := List.mem_map.mp hp
      exact (tabIs_in kin G.T.g (h1 _ hp2).1).1
    have at_ : ∀ p ∈ ts.map mk, s.heap.get? p.P = some { cls := .none, data := .fields #[] } := fun p hp => by
      obtain ⟨p, hp2, rfl⟩ := List.mem_map.mp hp
      exact (tab p hp2).2
    have hdr : ∀ p ∈ ts.map mk, PySem.W.CodeHd s.heap p.c p.P := fun p hp => by
      obtain ⟨p, hp2, rfl⟩ := List.mem_map.mp hp
      exact (tab p hp2).1
    have nd : ((ts.map mk).map (·.P)).Nodup := by
      rw [List.map_map]
      exact h2
    have nk : ∀ p ∈ ts.map mk, (K w.params).lookup p.P = none := fun p hp => by
      obtain ⟨p, hp2, rfl⟩ := List.mem_map.mp hp
      exact (h1 p hp2).2.2.2
    have sto : ((ts.map mk).map fun p => some (Cell.tbl p.q)) = ts.map fun p => some (Cell.tbl (lamQ p.1)) := by
      rw [List.map_map]
      rfl
    have fn' : ∀ base : Heap, (K w.params).In base → base.Ns mainGlobals m → (∀ p ∈ ts.map mk, TabB base m p.c p.P) → FnG l.prog w (K w.params) m base k f fd [x] (spS ⟨K w.params, m⟩ 1 F) := fun base b1 b2 b3 => hF base b1 b2 fun p hp => b3 (mk p) (List.mem_map.mpr ⟨p, hp, rfl⟩)
    have tr' : ∃ S, F [.frl (ns.map D.int)] ((ts.map mk).map fun p => some (Cell.tbl p.q)) = .ok (.bool true) S := by
      rw [sto]
      exact tr ns hlen bits
    exact law_endT (tbs := ts.map mk) kin G.T.g G.T.b G.T.builtins G.T.nolimit hg G.T.bmain at_ hdr ti nd nk hobj hints (Nat.le_trans hlen hn2) hr fn' hb tr'
end Sm

set_option Elab.async false
set_option linter.all false
set_option maxRecDepth 100000
set_option maxHeartbeats 2000000
/-! Sm25: what printed texts use of errors and lambdas. -/
namespace Sm
open PySem PySem.Spec PyProof.Rows L2 LamX

theorem fn_any {P : Program} {w : World} {K : PySem.W.Frag} {mg : Str → Option Value} {base : Heap} {k : Nat} {f : Addr} {fd : FuncData} {ps : List Str} : FnG P w K mg base k f fd ps (spS ⟨K, mg⟩ ps.length fun _ => Mstuck) := fn_zero.mono (Nat.zero_le k)
theorem takes_lam {X : Cx} {A : Around} {outer : List PySem.Env} {s : Shared} {H : Hp} {E : XK} {scope : Scope} {f c' : Addr} : Takes (lamCx X A outer s H E scope f c') (wE E) := takes_of (E := E) rfl rfl rfl rfl
theorem passes_lam {X : Cx} {A : Around} {outer : List PySem.Env} {s : Shared} {H : Hp} {E : XK} {scope : Scope} {f c' : Addr} : PassesOwn (model (lamCx X A outer s H E scope f c').prog (lamCx X A outer s H E scope f c').w) (lamCx X A outer s H E scope f c').A (lamCx X A outer s H E scope f c').env (lamCx X A outer s H E scope f c').xe := passes_of rfl
/-- an own error class, from what the top has left -/
theorem errC_mk {P : Program} {K : PySem.W.Frag} {h : Heap} {mg : Str → Option Value} {c : Str} {fls : List Str} {C fI cda cc : Addr} {qual : Str} {st : Stmt} {ss : List Stmt} {oc kV doc pm ct ccl cl : Value} {an od cdd cld : Option Addr} {osl ccs csl : Array (Option Value)} {ar : Arg} {vs : Array Value} {tf : Tok} {txt : Str} {j : Nat} {p0 p1 p2 p3 p4 p5 : Pos}
    {nm q : Str} {N : Addr} {bs bm : List Value} {sn : List Str} {sub : List Value} {ab : Bool} {col : Option Bool} {dd : Option Addr} {k0 k1 k2 k3 k5 : Option Value}
    (Y : K.In h) (G : h.Ns mainGlobals mg) (aC : PySem.W.nsIn K mainGlobals c = some (some (.ref C))) (cls : K.lookup C = some (excClassObj nm q C N bs bm true sn sub ab col dd k0 k1 k2 k3 k5 "ValueError.__new__")) (hbm : PySem.HandSPX.refsVE bm = true)
    (sa : PySem.W.findIn K (.ref C) "__setattr__" = some (some (.builtin "object.__setattr__"))) (eC : PySem.W.subIn K (.ref C) (.type "BaseException") = some true) (tC : PySem.W.typeIn K (.ref C) = some (.type "type")) (kC : PySem.W.keepIn K (.ref C) = true)
    (xi : PySem.W.excInitIn K C [.type "ValueError", .type "Exception", .type "BaseException", .type "object"] "ValueError.__new__" = true) (sv : PySem.W.subIn K (.ref C) (.type "ValueError") = some true) (sup : PySem.W.ks_superIn K C C "__init__" = some (some (.builtin "ValueError.__init__")))
    (sf : PySem.W.mroIn K C (.ref C) = some true) (opq : PySem.W.nsIn K cStatics "thirdparty.any" = some none) (gs : PySem.W.nsIn K mainGlobals "super" = some none) (fl : ∀ f ∈ fls, PySem.W.findIn K (.ref C) f = some none ∧ (f == ("__debug__" : Str)) = false)
    (i1 : PySem.W.findIn K (.ref C) "__init__" = some (some (.ref fI))) (i2 : PySem.W.typeIn K (.ref fI) = some (.type "function"))
    (i3 : K.lookup fI = some ⟨oc, od, .func (PySem.W.ksFn "__init__" qual (defArgs st) (defBody st) (defScope st) .none kV doc pm an (.ref cda) ct cc), osl⟩) (i4 : PySem.W.codeIn K (.ref cda) qual = true)
    (i5 : K.lookup cda = some ⟨ccl, cdd, .fields vs, ccs⟩) (i6 : vs[2]? = some (.str P.main.file tf)) (i7 : K.lookup cc = some ⟨cl, cld, .cell (some (.ref C)), csl⟩)
    (d0 : (("self" : Str) :: fls).Nodup := by decide) (d1 : fls.length < 100 := by decide) (d2 : fls ≠ [] := by decide)
    (i8 : ((defArgs st).posonlyargs ++ (defArgs st).args).head? = some ar := by rfl) (i9 : ar.arg = "self" := by rfl) (i10 : (P.main.scope.names.lookup ("super" : Str)).isSome = false := by rfl)
    (hb : defBody st = .Expr (.Call (.Attribute (.Call (.Name "super" p0) [] [] p1) "__init__" p2) [.Constant (.str txt) j p3] [] p4) p5 :: ss := by rfl) (hk : Kept ss fls) (hl : (p2.endLine == p4.line) = true := by rfl)
    (s1 : (defScope st).names.lookup ("super" : Str) = some .globalImplicit := by rfl) (s2 : (defScope st).names.lookup ("__class__" : Str) = some .free := by rfl) (s3 : (defScope st).kind = .function := by rfl) (s4 : (defScope st).isCoroutine = false := by rfl) (s5 : (defScope st).isGenerator = false := by rfl)
    (s6 : ∀ x ∈ (defScope st).names, x.2 ≠ .cell := by decide +kernel) (s7 : ∀ f ∈ ("self" : Str) :: fls, (defScope st).names.lookup f = some .local := by decide +kernel)
    (s8 : ∀ L : Addr, interactive (PySem.W.ksEnv qual (defScope st) L fI (.ref cda) cc) = false ∧ swapsWith (.Call (.Attribute (.Call (.Name "super" p0) [] [] p1) "__init__" p2) [.Constant (.str txt) j p3] [] p4) none p5.line (PySem.W.ksEnv qual (defScope st) L fI (.ref cda) cc) = pure false := by exact fun _ => ⟨rfl, rfl⟩)
    (s9 : ∀ us : List Value, us.length = fls.length + 1 → bindArgs (PySem.W.ksFn "__init__" qual (defArgs st) (defBody st) (defScope st) .none kV doc pm an (.ref cda) ct cc) ⟨us, []⟩ = pure ((("self" : Str) :: fls).zip us)) : ErrC P K mg c fls C where
  gC := PySem.W.mg_of Y G aC
  oex := ⟨⟨nm, q, N, bs, bm, sn, sub, ab, col, dd, k0, k1, k2, k3, k5, cls, hbm⟩, sa, eC, tC, kC⟩
  xi := xi
  sub := sv
  sup := sup
  self_ := sf
  opq := opq
  gsup := PySem.W.mg_none_of Y G gs
  flds := fl
  dist := d0
  few := d1
  some_ := d2
  ini := ⟨fI, cda, cc, qual, defArgs st, defScope st, defBody st, ss, oc, kV, doc, pm, ct, ccl, cl, an, od, cdd, cld, osl, ccs, csl, ar, vs, tf, txt, j, p0, p1, p2, p3, p4, p5, i1, i2, i3, i4, i5, i6, i7, i8, i9, i10, hb, hk, hl, s1, s2, s3, s4, s5, s6, s7, s8, s9⟩
/-- the kinds' facts, from single ones -/
theorem klF_of {K : PySem.W.Frag} {mg : Str → Option Value} {es is : List Str} {sub : Str → Str → Option Bool} {ts : List Kl} (h0 : ∀ c ∈ es, ∃ C, mg c = some (.ref C) ∧ ExcC K C) (h0' : ∀ c ∈ is, ∃ C, mg c = some (.ref C) ∧ IsC K C) (hn : ∀ t, Kl.ty t ∈ ts → t ≠ .non)
    (h1 : ∀ c C, Kl.own c ∈ ts → mg c = some (.ref C) → ∀ t : Ty, PySem.W.kitOne K (.type t.name) (.ref C) = some false) (h2 : ∀ c c' C C' b, c ∈ es ∨ c ∈ is → Kl.own c' ∈ ts → mg c = some (.ref C) → mg c' = some (.ref C') → sub c c' = some b → PySem.W.kitOne K (.ref C) (.ref C') = some b)
    (h3 : ∀ c C t, c ∈ es ∨ c ∈ is → Kl.ty t ∈ ts → mg c = some (.ref C) → PySem.W.kitOne K (.ref C) (.type t.name) = some false) : KlF K mg es is sub ts :=
  ⟨h0, h0', fun t c tv cv b hx hc ht hcv e => by
    cases t with
    | ty t =>
      cases ht
      cases c with
      | ty t' =>
        cases hcv
        cases e
        exact kit_ty (Ty.kit t t' (hn t' hc))
      | own c =>
        obtain ⟨C, m, rfl⟩ := hcv
        cases e
        exact h1 c C hc m t
    | own x =>
      obtain ⟨C, m, rfl⟩ := ht
      cases c with
      | ty t' =>
        cases hcv
        cases e
        exact h3 x C t' (hx x rfl) hc m
      | own c =>
        obtain ⟨C', m', rfl⟩ := hcv
        exact h2 x c C C' b (hx x rfl) hc m m' e⟩
end Sm

set_option Elab.async false
set_option linter.all false
set_option maxRecDepth 100000
set_option maxHeartbeats 2000000
/-! Sm26: tables of classes in except clauses; facts of pairs of classes. -/
namespace Sm
open PySem PySem.Spec PyProof.Rows L2

def tabX (l : List (Str × Bool)) (c : Str) : Option Bool := l.lookup c
section
variable {K : PySem.W.Frag} {mg : Str → Option Value} {cv : Value} {l : List (Str × Bool)} {c : Str} {C : Addr} {b : Bool}
abbrev HiT (K : PySem.W.Frag) (mg : Str → Option Value) (cv : Value) (l : List (Str × Bool)) : Prop := ∀ c C b, mg c = some (.ref C) → tabX l c = some b → PySem.W.exmOne K (.ref C) cv = some b
theorem hi_nil : HiT K mg cv [] := fun _ _ _ _ e => by cases e
theorem hi_cons (h : mg c = some (.ref C)) (x : PySem.W.exmOne K (.ref C) cv = some b) (r : HiT K mg cv l) : HiT K mg cv ((c, b) :: l) := fun c' C' b' h' e => by
  unfold tabX at e
  rw [List.lookup_cons] at e
  by_cases z : c' = c
  · subst z
    rw [h] at h'
    cases h'
    rw [beq_self_eq_true] at e
    cases e
    exact x
  · rw [beq_eq_false_iff_ne.mpr z] at e
    exact r c' C' b' h' e
theorem one_of {h : Heap} {R : Addr → Prop} (Y : K.In h) (G : h.Ns mainGlobals mg) (a : PySem.W.nsIn K mainGlobals c = some (some (.ref C))) (e : R C) : ∀ D, mg c = some (.ref D) → R D := fun D h => by
  rw [PySem.W.mg_of Y G a] at h
  cases h
  exact e
theorem cls_at {h : Heap} (Y : K.In h) (G : h.Ns mainGlobals mg) (a : PySem.W.nsIn K mainGlobals c = some (some (.ref C))) : ∃ D, mg c = some (.ref D) := ⟨C, PySem.W.mg_of Y G a⟩
theorem pair_of {h : Heap} {c' : Str} {C' : Addr} {R : Addr → Addr → Prop} (Y : K.In h) (G : h.Ns mainGlobals mg) (a : PySem.W.nsIn K mainGlobals c = some (some (.ref C))) (a' : PySem.W.nsIn K mainGlobals c' = some (some (.ref C'))) (e : R C C') : ∀ D D', mg c = some (.ref D) → mg c' = some (.ref D') → R D D' := fun D D' h h' => by
  rw [PySem.W.mg_of Y G a] at h
  cases h
  rw [PySem.W.mg_of Y G a'] at h'
  cases h'
  exact e
end
section
variable {X : Cx} {W : WX} {bw : Bool} {pos : Pos}
theorem se_dict0 : SE X W bw (.Dict [] [] pos) (fun _ => pure (.dict [])) := PE.imp pe_dnewK fun σ H Q ⟨R, ι, S, env, rep, repE, post⟩ => by
  intro p hp
  have post : Post (Cx.g X) W (relE (Cx.g X) bw) R H ι S σ (.ok (.dict []) S) Q := post
  exact post (.ref p) (upd R p (.dK [])) ι _ (rep.newR hp) (Ext.newR rep hp) (VD.of (.dict upd_same .nil))
end
section
variable {K : PySem.W.Frag} {C D c P f : Addr} {b : Bool} {t : Value} {x : Str} {oc ccl : Value} {od cdd : Option Addr} {osl ccs : Array (Option Value)} {fd : FuncData} {vs : Array Value}
theorem kit_own (h : (t == .ref C) = false) (hd : PySem.W.hasDictIn K C = true) (ht : PySem.W.typeIn K (.ref C) = some (.type "type")) (hs : PySem.W.subIn K t (.ref C) = some b) : PySem.W.kitOne K t (.ref C) = some b := by
  obtain ⟨cd, hc, _⟩ := PySem.W.any_some hd
  unfold PySem.W.kitOne
  rw [h, if_neg Bool.false_ne_true]
  unfold PySem.W.kitCls
  dsimp only
  have e2 : ((PySem.W.clsIn K C).isSome && PySem.W.typeIn K (.ref C) == some (.type "type")) = true := by rw [hc, ht] <;> rfl
  rw [if_pos e2]
  exact hs
theorem kit_self : PySem.W.kitOne K (.ref C) (.ref C) = some true := by
  unfold PySem.W.kitOne
  rw [if_pos (beq_self_eq_true _)]
theorem tab_mk (a : PySem.W.nsIn K mainGlobals x = some (some (.ref f))) (l : K.lookup f = some ⟨oc, od, .func fd, osl⟩) (hc : fd.code = .ref c) (lc : K.lookup c = some ⟨ccl, cdd, .fields vs, ccs⟩) (hv : vs[11]? = some (.ref P)) : PySem.W.tabIn K x = some (c, P) := by
  unfold PySem.W.tabIn
  rw [a]
  simp only [l, hc, lc, hv]
theorem codeHd_mk (lc : K.lookup c = some ⟨ccl, cdd, .fields vs, ccs⟩) (e : PySem.W.codeHdIn [(c, ⟨ccl, cdd, .fields vs, ccs⟩)] c P = true) : PySem.W.codeHdIn K c P = true := by
  unfold PySem.W.codeHdIn at e ⊢
  rw [lc]
  simpa [List.lookup] using e
/-- a table, from what the top has left -/
theorem tabs_mk {h : Heap} {m : Str → Option Value} (a : PySem.W.nsIn K mainGlobals x = some (some (.ref f))) (l : K.lookup f = some ⟨oc, od, .func fd, osl⟩) (hc : fd.code = .ref c) (lc : K.lookup c = some ⟨ccl, cdd, .fields vs, ccs⟩) (hv : vs[11]? = some (.ref P))
    (e : PySem.W.codeHdIn [(c, ⟨ccl, cdd, .fields vs, ccs⟩)] c P = true) (hh : h.get? P = some { cls := .none, data := .fields #[] }) (n : K.lookup P = none) :
    ∃ c Q, PySem.W.tabIn K x = some (c, Q) ∧ PySem.W.codeHdIn K c Q = true ∧ h.get? Q = some { cls := .none, data := .fields #[] } ∧ K.lookup Q = none :=
  ⟨c, P, tab_mk a l hc lc hv, codeHd_mk lc e, hh, n⟩
end
/-- // by a divisor of any sign -/
def cDivZ (_ j : Int) : Bool := decide (j ≠ 0 ∧ j.natAbs.log2 < 9000)
abbrev fdivZ : D → D → M D := int2 cDivZ fun i j => i.fdiv j
theorem op_fdivZ0 {X : Cx} : OpR X (binaryOp .FloorDiv) (rI (fun _ j => j ≠ 0 ∧ j.natAbs.log2 < 9000) fun i j => .int (i.fdiv j)) := opI fun _ _ _ _ _ _ _ c q => floordiv_int c.1 q (.inl (PyProof.noPylong_of_log2 c.2))
theorem op_fdivZ {X : Cx} {W : WX} : OpM X W (binaryOp .FloorDiv) fdivZ := op_int2 op_fdivZ0 fun _ j c => of_decide_eq_true (show decide (j ≠ 0 ∧ j.natAbs.log2 < 9000) = true from c)
end Sm

set_option Elab.async false
set_option linter.all false
set_option maxRecDepth 100000
set_option maxHeartbeats 2000000
/-! Sm27: more rules for plain laws: // by any sign, texts at sight, what repr shows, calls that ask. -/
namespace Sm
open PySem L2
section
variable {S : Sto} {Q : D → Sto → Prop} {X : Exn → Sto → Prop} {i j : Int} {s t : Str} {xs : List D}
theorem sat_fdivZ (h : j ≠ 0) (h2 : j.natAbs.log2 < 9000) (q : Q (.int (i.fdiv j)) S) : Sat (fdivZ (.int i) (.int j) S) Q X := by
  refine sat_ok (a := .int (i.fdiv j)) (S := S) ?_ q
  show (if cDivZ i j = true then Out.ok (D.int (i.fdiv j)) S else .stuck) = _
  rw [if_pos (show cDivZ i j = true from decide_eq_true ⟨h, h2⟩)]
theorem log_lt {n : Int} (h0 : n ≠ 0) (h1 : -(2 ^ 100) < n) (h2 : n < 2 ^ 100) : n.natAbs.log2 < 9000 := by
  have h3 : n.natAbs ≠ 0 := by omega
  have h4 : n.natAbs < 2 ^ 100 := by omega
  exact Nat.lt_of_lt_of_le ((Nat.log2_lt h3).mpr h4) (by decide)
theorem sat_inTt (h : xs.all flatD = true) (e : memD (.str s) xs = true) (q : Q (.bool true) S) : Sat (inX false (.str s) (.tup xs) S) Q X := sat_inT h fun b hb => by
  rw [e] at hb
  subst hb
  exact q
theorem sat_inTf (h : xs.all flatD = true) (e : memD (.str s) xs = false) (q : Q (.bool false) S) : Sat (inX false (.str s) (.tup xs) S) Q X := sat_inT h fun b hb => by
  rw [e] at hb
  subst hb
  exact q
theorem sat_ninTt (h : xs.all flatD = true) (e : memD (.str s) xs = true) (q : Q (.bool false) S) : Sat (inX true (.str s) (.tup xs) S) Q X := sat_ninT h fun b hb => by
  rw [e] at hb
  subst hb
  exact q
theorem sat_ninTf (h : xs.all flatD = true) (e : memD (.str s) xs = false) (q : Q (.bool true) S) : Sat (inX true (.str s) (.tup xs) S) Q X := sat_ninT h fun b hb => by
  rw [e] at hb
  subst hb
  exact q
theorem sat_eqSt (q : Q (.bool true) S) : Sat (eqM (.str s) (.str s) S) Q X := sat_eqS (by rw [decide_eq_true rfl]; exact q)
theorem sat_eqSf (h : s ≠ t) (q : Q (.bool false) S) : Sat (eqM (.str s) (.str t) S) Q X := sat_eqS (by rw [decide_eq_false h]; exact q)
theorem sat_neSt (q : Q (.bool false) S) : Sat (neM (.str s) (.str s) S) Q X := sat_neS (by rw [decide_eq_false (fun z => z rfl)]; exact q)
theorem sat_neSf (h : s ≠ t) (q : Q (.bool true) S) : Sat (neM (.str s) (.str t) S) Q X := sat_neS (by rw [decide_eq_true h]; exact q)
theorem sat_eqBB {a b : Bool} (q : Q (.bool (a == b)) S) : Sat (eqM (.bool a) (.bool b) S) Q X := by
  refine sat_ok (a := .bool (a == b)) (S := S) ?_ q
  show Out.ok (D.bool ((a == b) ^^ false)) S = _
  rw [Bool.xor_false]
end
theorem fdiv_p {a b q : Int} (hb : 0 < b) (h1 : q * b ≤ a) (h2 : a < q * b + b) : a.fdiv b = q := by
  rw [Int.fdiv_eq_ediv_of_nonneg _ (Int.le_of_lt hb)]
  exact ((Int.ediv_emod_unique (a := a) (b := b) (r := a - b * q) (q := q) hb).mpr ⟨Int.sub_add_cancel _ _, by rw [Int.mul_comm]; omega, by rw [Int.mul_comm]; omega⟩).1
theorem fd1 {A B : Int} (hB : 0 < B) : A.fdiv B = A / B := Int.fdiv_eq_ediv_of_nonneg _ (Int.le_of_lt hB)
theorem fd2 {A B : Int} (hB : 0 < B) (h : A / B * B = A) : (-A).fdiv B = -(A / B) := fdiv_p hB (by rw [Int.neg_mul, h]; exact Int.le_refl _) (by rw [Int.neg_mul, h]; omega)
theorem fd3 {A B : Int} (hB : 0 < B) (h : A / B * B ≠ A) : (-A).fdiv B = -(A / B) - 1 := by
  have h1 := Int.emod_nonneg A (show B ≠ 0 by omega)
  have h2 := Int.emod_lt_of_pos A hB
  have h3 : A % B + A / B * B = A := Int.emod_add_ediv_mul A B
  refine fdiv_p hB ?_ ?_ <;> rw [Int.sub_mul, Int.neg_mul, Int.one_mul] <;> omega
/-! ### what repr shows -/
theorem toPS_toP {d : D} {p : PyData} {S : Sto} (h : toP d = some p) : toPS d S = some p := by
  cases d with
  | list xs =>
    rw [toP] at h
    unfold toPS Sm.asRead Sm.asList
    exact h
  | frl xs =>
    rw [toP] at h
    unfold toPS Sm.asRead Sm.asList
    exact h
  | tup xs =>
    unfold toPS Sm.asRead Sm.asList
    exact h
  | obj id => cases h
  | _ => exact h
/-- d is shown by a text that is not long -/
def Sho (n W : Nat) (d : D) : Prop := ∃ p, toP d = some p ∧ p.showable = true ∧ p.hasDict = false ∧ p.depth ≤ n ∧ p.leavesShort 13 = true ∧ p.weight ≤ W
theorem sho_str {s : Str} {n W : Nat} (h : s.length ≤ W) (hc : s.cps.toList.all (fun c => decide (c < 16 ^ 8)) = true) : Sho n W (.str s) :=
  ⟨.str s, by rw [toP], by rw [PyData.showable], by rw [PyData.hasDict], by rw [PyData.depth]; omega, by rw [PyData.leavesShort]; exact hc, by rw [PyData.weight]; exact h⟩
theorem sho_bool {b : Bool} {n : Nat} : Sho n 40 (.bool b) := ⟨.bool b, by rw [toP], by cases b <;> rfl, by rw [PyData.hasDict], by rw [PyData.depth]; omega, by cases b <;> rfl, by cases b <;> decide⟩
theorem sho_none {n : Nat} : Sho n 40 .none := ⟨.none, by rw [toP], rfl, by rw [PyData.hasDict], by rw [PyData.depth]; omega, rfl, by decide⟩
theorem sho_int {i : Int} {n : Nat} (h1 : -4294967296 ≤ i) (h2 : i ≤ 4294967296) : Sho n 40 (.int i) := by
  have hw : i.natAbs.log2 + 1 ≤ 40 := by
    by_cases h : i.natAbs = 0
    · rw [h]
      decide
    · have : i.natAbs.log2 < 39 := (Nat.log2_lt h).mpr (by omega)
      omega
  refine ⟨.int i, by rw [toP], by rw [PyData.showable]; exact decide_eq_true (by omega), by rw [PyData.hasDict], by rw [PyData.depth]; omega, ?_, ?_⟩
  · rw [PyData.leavesShort]
    exact decide_eq_true (PyData.shown_int_le (by omega))
  · rw [PyData.weight]
    split <;> omega
theorem sho_list {n W : Nat} : ∀ {xs : List D}, (∀ x ∈ xs, Sho n W x) → ∃ ps, toPs xs = some ps ∧ PyData.showableAll ps = true ∧ PyData.hasDictAll ps = false ∧ PyData.depthAll ps ≤ n ∧ PyData.leavesShortAll 13 ps = true ∧ PyData.weightAll ps ≤ xs.length * (W + 1)
  | [], _ => ⟨[], by rw [toPs], rfl, rfl, Nat.zero_le _, rfl, Nat.zero_le _⟩
  | x :: xs, h => by
    obtain ⟨p, a1, a2, a3, a4, a5, a6⟩ := h x List.mem_cons_self
    obtain ⟨ps, b1, b2, b3, b4, b5, b6⟩ := sho_list (n := n) (W := W) (xs := xs) fun y hy => h y (List.mem_cons_of_mem _ hy)
    refine ⟨p :: ps, by rw [toPs, a1, b1], by rw [PyData.showableAll, a2, b2]; rfl, by rw [PyData.hasDictAll, a3, b3]; rfl, by rw [PyData.depthAll]; omega, by rw [PyData.leavesShortAll, a5, b5]; rfl, ?_⟩
    rw [PyData.weightAll, List.length_cons, Nat.succ_mul]
    omega
theorem sho_lst {n W : Nat} {xs : List D} (h : ∀ x ∈ xs, Sho n W x) : Sho (n + 1) (xs.length * (W + 1)) (.list xs) := by
  obtain ⟨ps, b1, b2, b3, b4, b5, b6⟩ := sho_list h
  exact ⟨.list ps, by rw [toP, b1]; rfl, by rw [PyData.showable]; exact b2, by rw [PyData.hasDict]; exact b3, by rw [PyData.depth]; omega, by rw [PyData.leavesShort]; exact b5, by rw [PyData.weight]; exact b6⟩
theorem sho_tup {n W : Nat} {xs : List D} (h : ∀ x ∈ xs, Sho n W x) : Sho (n + 1) (xs.length * (W + 1)) (.tup xs) := by
  obtain ⟨ps, b1, b2, b3, b4, b5, b6⟩ := sho_list h
  exact ⟨.tuple ps, by rw [toP, b1]; rfl, by rw [PyData.showable]; exact b2, by rw [PyData.hasDict]; exact b3, by rw [PyData.depth]; omega, by rw [PyData.leavesShort]; exact b5, by rw [PyData.weight]; exact b6⟩
theorem Sho.up {n W m V : Nat} {d : D} (h : Sho n W d) (h1 : n ≤ m) (h2 : W ≤ V) : Sho m V d := by
  obtain ⟨p, a1, a2, a3, a4, a5, a6⟩ := h
  exact ⟨p, a1, a2, a3, Nat.le_trans a4 h1, a5, Nat.le_trans a6 h2⟩
/-- the text that repr gives -/
def reprD (d : D) : Str := match toP d with
  | some p => p.shown
  | none => ""
theorem sat_reprD {d : D} {n W : Nat} {S : Sto} {Q : D → Sto → Prop} {X : Exn → Sto → Prop} (h : Sho n W d) (hn : n ≤ 60) (hW : W ≤ 100000) (q : Q (.str (reprD d)) S) : Sat (one reprM [d] S) Q X := by
  obtain ⟨p, a1, a2, a3, a4, a5, a6⟩ := h
  have hl : p.shown.length ≤ 15 * W + 13 := by
    have h1 := PyData.shown_le 13 (by decide) p a5
    have h2 : (13 + 2) * p.weight ≤ 15 * W := Nat.mul_le_mul (by decide) a6
    omega
  have hk : showOk p = true := by
    unfold showOk
    rw [a2, a3, decide_eq_true (show p.depth ≤ 60 by omega), decide_eq_true (show p.shown.length ≤ sizeLine from Nat.le_trans (show p.shown.length ≤ 2000000 by omega) (by decide))]
    rfl
  refine sat_ok (a := .str p.shown) (S := S) ?_ ?_
  · show reprM d S = _
    unfold reprM
    rw [toPS_toP a1]
    show (if showOk p = true then _ else _) = _
    rw [if_pos hk]
  · unfold reprD at q
    rw [a1] at q
    exact q
/-! ### calls that ask -/
section
variable {N j : Nat} {l : List Hd} {rest : MS} {act : M D} {S : Sto} {Q : D → Sto → Prop} {X : Exn → Sto → Prop}
theorem sat_ask (h : Sat (act S) (fun _ S1 => SatS (rest ((List.replicate N .un).set j (.val .none)) S1) { nx := fun _ S' => Q .none S', rt := Q, ex := fun z _ S' => X z S' })
    (fun z S1 => SatS (catchD l z ((List.replicate N .un).set j (.val .none)) S1) { nx := fun e S2 => SatS (rest e S2) { nx := fun _ S' => Q .none S', rt := Q, ex := fun z _ S' => X z S' }, rt := Q, ex := fun z _ S' => X z S' })) : Sat (askF N j l rest act S) Q X := by
  have go : SatS (askS l rest act ((List.replicate N .un).set j (.val .none)) S) { nx := fun _ S' => Q .none S', rt := Q, ex := fun z _ S' => X z S' } := by
    unfold askS
    refine sats_seq ?_
    unfold tryD dropS bindS
    dsimp only
    cases e : act S with
    | ok d S1 =>
      rw [e] at h
      exact h
    | exc z S1 =>
      rw [e] at h
      exact h
    | stuck =>
      rw [e] at h
      exact h.elim
  unfold askF
  cases e : askS l rest act ((List.replicate N .un).set j (.val .none)) S with
  | nx e' S' =>
    rw [e] at go
    exact go
  | rt e' S' =>
    rw [e] at go
    exact go
  | exc z e' S' =>
    rw [e] at go
    exact go
  | ct e' S' =>
    rw [e] at go
    exact go.elim
  | brk e' S' =>
    rw [e] at go
    exact go.elim
  | stuck =>
    rw [e] at go
    exact go.elim
theorem sat_lam {id : Nat} {q : Str} {m : M D} (h : S[id]? = some (some (.tbl q))) (g : Sat (m S) Q X) : Sat (lamM id q m S) Q X := by
  unfold lamM
  rw [h]
  show Sat (if q = q then m S else .stuck) Q X
  rw [if_pos rfl]
  exact g
/-- raise: nothing goes on -/
theorem sats_raise {c : Str} {fls : List Str} {m : Env → M (List D)} {env : Env} {q : PQ} (h : Sat (m env S) (fun ds S' => ds.length = fls.length ∧ q.ex ⟨c, (fls.zip ds).reverse⟩ env S') (fun z S' => q.ex z env S')) : SatS (raiseD c fls m env S) q := by
  unfold raiseD
  cases e : m env S with
  | ok ds S' =>
    rw [e] at h
    obtain ⟨h1, h2⟩ := h
    show SatS (if ds.length = fls.length then _ else _) q
    rw [if_pos h1]
    exact h2
  | exc z S' =>
    rw [e] at h
    exact h
  | stuck =>
    rw [e] at h
    exact h.elim
end
end Sm

set_option Elab.async false
set_option linter.all false
set_option maxRecDepth 100000
set_option maxHeartbeats 2000000
/-! Sm28: a lambda with one constant default, handed to a def that calls it within a try. -/
namespace Sm
open PySem PySem.Spec PyProof.Rows L2 LamX
/-- a lambda's function, its defaults at dV -/
abbrev dFn (qual : Str) (ps : Arguments) (bd : Expr) (sc : Scope) (cl : List (Str × Addr)) (dV pm cv ct : Value) : FuncData := { PySem.W.kla_fn "<lambda>" qual ps bd sc cl pm cv ct with defaults := dV }
abbrev dObj (qual : Str) (ps : Arguments) (bd : Expr) (sc : Scope) (cl : List (Str × Addr)) (dV pm cv ct : Value) : Obj := { cls := .type "function", data := .func (dFn qual ps bd sc cl dV pm cv ct) }
theorem dl_tail {M : Model} {A : Around} {E : Value → Shared → Prop} {s : Shared} {qual : Str} {prs : Arguments} {bd : Expr} {sc : Scope} {ev : PySem.Env} {c P : Addr} {tab : Array Value} {pos : Pos} {ln : Nat} {mg : Str → Option Value} {cls : List (Str × Addr)} {dV : Value} {Q : Value → Shared → Prop}
    (hcl : closureFor sc ev = pure cls) (hge : ev.globals = mainGlobals) (hg : s.heap.Ns mainGlobals mg) (hco : ev.code = .ref c) (C : PySem.W.CodeHd s.heap c P) (hP : s.heap.get? P = some (PySem.W.tabObj tab)) (ht : TriplesOk tab.toList) (hb : s.heap.BuiltinsAt mg P) (hgP : mainGlobals ≠ P)
    (miss : codeAmong pos tab.toList = none → ∀ (c' : Addr) (ctv : Value) (hp : Heap) (tk : Nat), Heap.ExtBut P s.heap hp → s.heap.objs.size ≤ c' → c' < hp.objs.size → hp.CodeRec (.ref c') qual → hp.get? P = some (PySem.W.tabObj (tab ++ #[rawInt pos.line, rawInt pos.col, .ref c'])) →
      Q (.ref hp.objs.size) { s with heap := hp.push (dObj qual prs bd sc cls dV ((mg "__name__").getD .none) (.ref c') ctv), toks := tk })
    (hit : ∀ cv, codeAmong pos tab.toList = some cv → ∀ (ctv : Value) (hp : Heap) (tk : Nat), (∀ b o, s.heap.get? b = some o → hp.get? b = some o) → s.heap.objs.size ≤ hp.objs.size →
      Q (.ref hp.objs.size) { s with heap := hp.push (dObj qual prs bd sc cls dV ((mg "__name__").getD .none) cv ctv), toks := tk }) :
    wpAny M A (makeTail "<lambda>" qual prs (.expr bd) sc ev dV .none none pos ln) Q E s := by
  obtain ⟨bm, ob, e1, e2, _, e4, e5, e6, e7, e8⟩ := hb
  unfold makeTail
  rw [hcl, hge]
  have go : ∀ (ctv : Value) (hq : Heap), (∀ b o, s.heap.get? b = some o → hq.get? b = some o) → s.heap.objs.size ≤ hq.objs.size → hq.Ns mainGlobals mg → wpAny M A (do
      let cd ← functionCode ev pos ln "<lambda>" qual prs sc (.expr bd)
      let bi ← builtinsFor mainGlobals ev.builtins
      let pm ← nsGet mainGlobals "__name__"
      let dc ← pure Value.none
      newObj (.type "function") (.func { name := "<lambda>", qualname := qual, params := prs, body := .expr bd, scope := sc, globals := mainGlobals, closure := cls, defaults := dV, kwdefaults := .none, doc := dc, pyModule := pm.getD .none, annotations := none, code := cd, closureTuple := ctv, builtins := bi })) Q E { s with heap := hq } := by
    intro ctv hq kp sz hgq
    have Cq := C.keeps kp
    cases am : codeAmong pos tab.toList with
    | none =>
      refine wpAny_bind (wpAny_functionCodeX hco (Cq.code (kp _ _ hP) ht) (Cq.tab (kp _ _ hP)) am fun c' hp tk x1 x2 x3 _ x4 x5 _ => ?_)
      have hgp := hgq.extBut x1 hgP
      have y1 : Heap.ExtBut P s.heap hp := fun b o nb e => x1 b o nb (kp _ _ e)
      refine wpAny_bind (wpAny_builtinsFor hgp e1 e2 (y1 _ _ e4 e5) e6 e7 e8 (wpAny_bind (wpAny_nsGet hgp ?_)))
      exact wpAny_bind (wpAny_pure (wpAny_newObj_type (miss am c' ctv hp tk y1 (Nat.le_trans sz x2) x3 x4 x5.2) (by size_fits)))
    | some cv =>
      refine wpAny_bind (wpAny_functionCode_hit hco (Cq.code (kp _ _ hP) ht) am ?_)
      refine wpAny_bind (wpAny_builtinsFor hgq e1 e2 (kp _ _ e5) e6 e7 e8 (wpAny_bind (wpAny_nsGet hgq ?_)))
      exact wpAny_bind (wpAny_pure (wpAny_newObj_type (hit cv am ctv hq s.toks kp sz) (by size_fits)))
  refine wpAny_bind (wpAny_pure ?_)
  cases cls with
  | nil =>
    simp only [List.isEmpty_nil, if_true]
    exact wpAny_bind (wpAny_pure (go .none s.heap (fun _ _ e => e) (Nat.le_refl _) hg))
  | cons q r =>
    simp only [List.isEmpty_cons, Bool.false_eq_true, if_false]
    exact wpAny_bind (wpAny_newTextTuple (go _ _ (fun b o e => Heap.get?_push_of_some _ e) (by rw [Heap.size_push]; omega) (hg.push _)))
/-- one parameter y0 with a default, which the body does not name -/
structure LamD (N : List Str) (y0 : Str) (sc scope : Scope) : Prop where
  kind : scope.kind = .function
  co : scope.isCoroutine = false
  gen : scope.isGenerator = false
  one : scope.names.lookup y0 = some .local
  nocell : ∀ y ∈ scope.names, y.2 ≠ .cell
  away : ∀ y ∈ scope.names, y.2 = .local → y.1 ∉ N
  free : ∀ y ∈ scope.names, y.2 = .free → sc.names.lookup y.1 = some .cell ∨ sc.names.lookup y.1 = some .free
def lamDB (N : List Str) (y0 : Str) (sc scope : Scope) : Bool :=
  decide (scope.kind = .function) && !scope.isCoroutine && !scope.isGenerator && decide (scope.names.lookup y0 = some .local) && scope.names.all fun y => !decide (y.2 = .cell) && (!decide (y.2 = .local) || !N.contains y.1) && (!decide (y.2 = .free) || decide (sc.names.lookup y.1 = some .cell) || decide (sc.names.lookup y.1 = some .free))
theorem lamD_by {N : List Str} {y0 : Str} {sc scope : Scope} (h : lamDB N y0 sc scope = true) : LamD N y0 sc scope := by
  unfold lamDB at h
  simp only [Bool.and_eq_true, Bool.or_eq_true, Bool.not_eq_true', decide_eq_true_eq, decide_eq_false_iff_not, List.all_eq_true] at h
  obtain ⟨⟨⟨⟨h1, h2⟩, h3⟩, h4⟩, h5⟩ := h
  refine ⟨h1, h2, h3, h4, fun y hy => (h5 y hy).1.1, fun y hy e hm => ?_, fun y hy e => ?_⟩
  · rcases (h5 y hy).1.2 with z | z
    · exact z e
    · rw [List.contains_iff_mem.mpr hm] at z
      cases z
  · rcases (h5 y hy).2 with (z | z) | z
    · exact absurd e z
    · exact .inl z
    · exact .inr z
theorem LamD.has {N : List Str} {y0 : Str} {X : Cx} {scope : Scope} (L : LamD N y0 X.env.scope scope) (ok : X.Ok) : ∀ y ∈ scope.names, y.2 = .free → ∃ c, X.env.cells.lookup y.1 = some c := fun y hy e => (L.free y hy e).elim (fun k => ok.has _ (.inl k)) fun k => ok.has _ (.inr k)
section
variable {X : Cx} {pins : List (Addr × Obj)} {σ : L2.St} {H HZ : Hp} {s s1 : Shared} {y0 : Str}
theorem lam_startD {A : Around} {outer : List PySem.Env} {E : XK} {scope : Scope} {f c' : Addr} {hn : Heap} {tk : Nat} {m : Str → Option Value} (I : Inv X pins σ H s) (L : LamD X.N y0 X.env.scope scope) (e0 : Env0 X.prog X.w X.K X.mg X.base A outer s1 HZ) (hd : A.handled = none)
    (uu : Un (frs X.stack) [] H HZ s.heap s1.heap) (ns : hn.Ns s1.heap.objs.size m) (kk : ∀ b o, s1.heap.get? b = some o → hn.get? b = some o) : Inv (lamCx X A outer s1 HZ E scope f c') [] σ HZ { s1 with heap := hn, toks := tk } := by
  have fre := L.has I.ok
  have cut : ∀ {y c}, (cloFrom X.env.cells scope.names []).lookup y = some c → X.env.cells.lookup y = some c := fun {y c} e => by
    rcases cloFrom_mem (PySem.mem_of_lookup e) with z | ⟨z1, z2⟩
    · cases z
    · obtain ⟨c1, q⟩ := fre _ z1 rfl
      have q : X.env.cells.lookup y = some c1 := q
      rw [q] at z2
      have e2 : c = c1 := z2
      rw [e2]
      exact q
  have seen : ∀ {y}, scope.names.lookup y = some .free → ∃ c, (cloFrom X.env.cells scope.names []).lookup y = some c := fun {y} hl => mem_lookup (cloFrom_has (cells := X.env.cells) (acc := []) (show (y, NameKind.free) ∈ scope.names from PySem.mem_of_lookup hl))
  have stay : ∀ {c : Addr} {v : Option Value}, H c = none → s.heap.IsCell c v → hn.IsCell c v := fun {c v} n ⟨o, ho, e⟩ => by
    obtain ⟨sl, q⟩ := uu.any ho n (by simp)
    exact ⟨_, kk _ _ q, e⟩
  have none0 : ∀ b : Addr, b ∉ (lamCx X A outer s1 HZ E scope f c').ex := fun b z => by cases z
  refine ⟨⟨e0.mod, L.kind, rfl, rfl, Nat.le_refl _, fun y z c a1 a2 => I.ok.inj y z c (cut a1) (cut a2), fun y hy => ?_, fun y c z _ => ?_, fun _ => hd, Around.frames_deeper e0.frames, .inr ⟨rfl, rfl⟩, fun b z => absurd z (none0 b), e0.bs, e0.bsz, fun b _ _ => none0 b,
      fun b z => absurd z (none0 b), e0.funs, e0.frf⟩, rfl, e0.bare, Un.kept kk, ⟨_, ns, fun i y v a1 a2 a3 => ?_⟩, fun y c e => ?_, e0.hok.fresh (Nat.le_refl _), fun y c e => ?_, fun q hq => absurd (id hq : q ∈ ([] : List (Addr × Obj))) (by simp), e0.hok.kept kk, I.len⟩
  · rcases (show scope.names.lookup y = some .cell ∨ scope.names.lookup y = some .free from hy) with z | z
    · exact absurd rfl (L.nocell _ (PySem.mem_of_lookup z))
    · exact seen z
  · cases (show false = true from z)
  · rcases (show Vis scope y from a3) with z | z | z
    · exact absurd (List.mem_of_getElem? a1) (L.away _ (PySem.mem_of_lookup z) rfl)
    · exact absurd rfl (L.nocell _ (PySem.mem_of_lookup z))
    · obtain ⟨m0, _, hl⟩ := I.loc
      have fr := L.free _ (PySem.mem_of_lookup z) rfl
      have vis : Vis X.env.scope y := fr.elim (fun k => .inr (.inl k)) fun k => .inr (.inr k)
      obtain ⟨w', r, q⟩ := hl i y v a1 a2 vis
      obtain ⟨c2, h2⟩ := seen z
      refine ⟨w', r, .inr ⟨.inr z, c2, h2, ?_⟩⟩
      have h3 := cut h2
      rcases q with ⟨k', _⟩ | ⟨_, c3, h4, h5⟩
      · have k' : X.env.scope.names.lookup y = some .local := k'
        rcases fr with k2 | k2
        · cases k'.symm.trans (show X.env.scope.names.lookup y = _ from k2)
        · cases k'.symm.trans (show X.env.scope.names.lookup y = _ from k2)
      · cases h3.symm.trans h4
        exact stay (I.freeC y _ h3) h5
  · obtain ⟨w', z⟩ := I.cell y c (cut e)
    exact ⟨w', stay (I.freeC y c (cut e)) z⟩
  · obtain ⟨v, o, ho, _⟩ := I.cell y c (cut e)
    exact uu.free c o ho (I.freeC y c (cut e)) (by simp)
theorem lam_newD {c P : Addr} {params : Arguments} {body de : Expr} {scope : Scope} {pos : Pos} {E : Value → Shared → Prop} {Q : Value → Shared → Prop} (I : Inv X pins σ H s) (TB : TabB X.base X.mg c P) (hcode : X.env.code = .ref c) (hT : TabS H P (X.env.qual ++ "<lambda>"))
    (hdef : defaultsOf params X.env = (evalEach [de] X.env, [])) (hdc : de.isPlainConst = true) (hfree : ∀ y ∈ scope.names, y.2 = .free → ∃ c, X.env.cells.lookup y.1 = some c)
    (h : ∀ (f c' dt : Addr) (ud pm ctv : Value) (H1 : Hp) (s' : Shared), Inv X pins σ H1 s' → Made H H1 P c' (X.env.qual ++ "<lambda>") → TabS H1 P (X.env.qual ++ "<lambda>") →
      s'.heap.get? f = some (dObj (X.env.qual ++ "<lambda>") params body scope (cloFrom X.env.cells scope.names []) (.ref dt) pm (.ref c') ctv) → H1 f = none → f ∉ frs X.stack →
      s'.heap.get? dt = some { cls := .type "tuple", data := .seq #[ud] } → H1 dt = none → dt ∉ frs X.stack → H1 c' = some (CodeO c' (X.env.qual ++ "<lambda>")) → Q (.ref f) s') :
    wpAny (model X.prog X.w) X.A (eval (.Lambda params body scope pos) X.env) Q E s := by
  rw [arm_eval_Lambda, hdef]
  show wpAny _ _ (do let dv ← evalAll (evalEach [de] X.env); let kdv ← holding dv (evalAllOpt []); makeFunction "<lambda>" (X.env.qual ++ "<lambda>") params (.expr body) scope X.env dv kdv [] pos pos.line) Q E s
  refine wpAny_bind (wpAny_evalAll_consts [de] s _ (fun e he => by rw [List.mem_singleton.mp he]; exact hdc) fun vs tk hv => ?_)
  obtain ⟨ud, rfl⟩ : ∃ ud, vs = [ud] := by
    match vs, hv with
    | [ud], _ => exact ⟨ud, rfl⟩
    | [], hv => exact hv.elim
    | _ :: _ :: _, hv => exact hv.2.elim
  refine wpAny_bind (wpAny_holding (wpAny_pure ?_))
  rw [makeFunction_eq]
  simp only [List.zip_nil_right, List.filterMap_nil, List.isEmpty_nil, List.isEmpty_cons, Bool.false_eq_true, if_false, if_true, pure_bind]
  refine wpAny_bind (wpAny_newTextTuple ?_)
  have push : ∀ b o, s.heap.get? b = some o → (s.heap.push { cls := .type "tuple", data := .seq [ud].toArray }).get? b = some o := fun b o e => Heap.get?_push_of_some _ e
  have I2 : Inv X pins σ H { s with heap := s.heap.push { cls := .type "tuple", data := .seq [ud].toArray }, toks := tk } := I.kept push
  have t0 : (s.heap.push { cls := .type "tuple", data := .seq [ud].toArray }).get? s.heap.objs.size = some { cls := .type "tuple", data := .seq [ud].toArray } := Heap.get?_push_size _ rfl
  obtain ⟨ps, e1, e2, e3⟩ := id hT
  have tab : s.heap.get? P = some { cls := .none, data := .fields ps } := I.hok P _ e1
  have dtP : s.heap.objs.size ≠ P := Nat.ne_of_gt (Heap.lt_size tab)
  have sz0 : s.heap.objs.size ≤ (s.heap.push { cls := .type "tuple", data := .seq [ud].toArray }).objs.size := by
    rw [Heap.size_push]
    omega
  have dlt : s.heap.objs.size < (s.heap.push { cls := .type "tuple", data := .seq [ud].toArray }).objs.size := by
    rw [Heap.size_push]
    omega
  have out : ∀ f, s.heap.objs.size ≤ f → f ∉ frs X.stack := fun f hf z => (List.mem_cons.mp (I.stkSub _ z)).elim (fun e => absurd (Nat.lt_of_lt_of_le (e ▸ I.lt) hf) (Nat.lt_irrefl _)) fun e => I.nofs hf e
  refine dl_tail (mg := X.mg) (c := c) (P := P) (tab := ps) (closure_ok hfree) I.ok.glob (I2.mod.glob.keeps I2.bk) hcode (TB.code.keeps I2.bk) (push _ _ tab) e2 (TB.bm.keeps I2.bk) TB.gP (fun am c' ctv hp tk' kp ge lt rec grown => ?_) fun cv am ctv hp tk' kp sz => ?_
  · obtain ⟨c2, oc, vs, t, z, r1, r2, r3⟩ := rec
    cases z
    have nC := I2.hok.fresh ge
    have sz : (s.heap.push { cls := .type "tuple", data := .seq [ud].toArray }).objs.size ≤ hp.objs.size := Nat.le_trans ge (Nat.le_of_lt lt)
    have J := inv_table (t' := tk') (more := #[rawInt pos.line, rawInt pos.col, .ref c']) (h' := hp.push (dObj (X.env.qual ++ "<lambda>") params body scope (cloFrom X.env.cells scope.names []) (.ref s.heap.objs.size) ((X.mg "__name__").getD .none) (.ref c') ctv)) I2 e1
      (fun b o n e => Heap.get?_push_of_some _ (kp b o n e)) (Heap.get?_push_of_some _ grown) ge ⟨oc, vs, t, Heap.get?_push_of_some _ r1, r2, r3⟩
    have PnC := ne_of_none e1 nC
    refine h hp.objs.size c' s.heap.objs.size ud _ ctv _ _ J (.inr ⟨ps, _, e1, nC, rfl⟩) ⟨_, (upd_ne PnC).trans upd_same, ?_, fun p' cv hcv => ?_⟩ (Heap.get?_push_size _ rfl) ?_ (out _ (Nat.le_trans sz0 sz)) (Heap.get?_push_of_some _ (kp _ _ dtP t0)) ?_ (out _ (Nat.le_refl _)) upd_same
    · rw [show (ps ++ #[rawInt pos.line, rawInt pos.col, .ref c']).toList = ps.toList ++ [rawInt pos.line, rawInt pos.col, .ref c'] by simp]
      exact PySem.TriplesOk_snoc _ _ _ _ e2
    · rw [show (ps ++ #[rawInt pos.line, rawInt pos.col, .ref c']).toList = ps.toList ++ [rawInt pos.line, rawInt pos.col, .ref c'] by simp] at hcv
      rcases among_app _ e2 hcv with z | z
      · obtain ⟨c0, z1, z2⟩ := e3 p' cv z
        refine ⟨c0, z1, ?_⟩
        rw [upd_ne (ne_of_none z2 nC), upd_ne (fun y => ?_)]
        · exact z2
        · rw [y, e1] at z2
          exact codeO_ne _ (Option.some.inj z2).symm
      · exact ⟨c', z, upd_same⟩
    · rw [upd_ne (Nat.ne_of_gt lt), upd_ne (Nat.ne_of_gt (Nat.lt_of_lt_of_le (Heap.lt_size tab) (Nat.le_trans sz0 sz)))]
      exact I2.hok.fresh sz
    · rw [upd_ne (Nat.ne_of_lt (Nat.lt_of_lt_of_le dlt ge)), upd_ne dtP]
      exact I.hok.fresh (Nat.le_refl _)
  · obtain ⟨c', rfl, known⟩ := e3 pos cv am
    exact h hp.objs.size c' s.heap.objs.size ud _ ctv H _ (I2.kept fun b o e => Heap.get?_push_of_some _ (kp b o e)) (.inl rfl) hT (Heap.get?_push_size _ rfl) (I2.hok.fresh sz) (out _ (Nat.le_trans sz0 sz)) (Heap.get?_push_of_some _ (kp _ _ t0)) (I.hok.fresh (Nat.le_refl _)) (out _ (Nat.le_refl _)) known
end
section
variable {X : Cx} {pins : List (Addr × Obj)} {σ : L2.St} {H : Hp} {s : Shared} {Eg : XK} {Ng : List Str} {qg : Str} {sg : Scope} {g f c' : Addr} {cdg pm ctv : Value} {params : Arguments} {body : Expr} {scope : Scope} {k i : Nat} {a : Str} {pn : List (Addr × Obj)}
  {xe : Value → Shared → Prop} {W : WX} {tb : XK → TE} {p1 p2 : Pos} {y0 : Str} {dt : Addr} {ud : Value}
theorem pe_askD (I : Inv X pins σ H s) (L : LamD X.N y0 X.env.scope scope) (hf : s.heap.get? f = some (dObj (X.env.qual ++ "<lambda>") params body scope (cloFrom X.env.cells scope.names []) (.ref dt) pm (.ref c') ctv)) (hfn : H f = none) (hfr : f ∉ frs X.stack) (hd1 : s.heap.get? dt = some { cls := .type "tuple", data := .seq #[ud] }) (hd2 : H dt = none) (hd3 : dt ∉ frs X.stack)
    (hbind : ∃ kk, bindArgs (dFn (X.env.qual ++ "<lambda>") params body scope (cloFrom X.env.cells scope.names []) (.ref dt) pm (.ref c') ctv) ⟨[], []⟩ = seqItems? (.ref dt) >>= kk ∧ kk (some #[ud]) = pure [(y0, ud)])
    (tk : Takes ((askCx X Ng qg sg g cdg s H Eg).tr pn xe) W) (hr : RoomG (k + 1) (X.A.deeper (envOfC qg sg s.heap.objs.size g cdg)))
    (hbody : ∀ (A : Around) (outer : List PySem.Env) (s : Shared) (H : Hp) (E : XK), RoomG k (A.deeper (lamEnv X scope s.heap.objs.size f c')) → PE (lamCx X A outer s H E scope f c') body (tb E))
    (hN : Ng[i]? = some a) (hv : Vis sg a) (hd : (a == ("__debug__" : Str)) = false := by decide) (hcd : (a == ("__classdict__" : Str)) = false := by decide) :
    PE ((askCx X Ng qg sg g cdg s H Eg).tr pn xe) (.Call (.Name a p1) [] [] p2) (fun σZ HZ Q => σZ[i]? = some (some (.ref f)) ∧ HZ c' = some (CodeO c' (X.env.qual ++ "<lambda>")) ∧ tb (WE W σZ) σ HZ Q) := by
  refine ⟨fun pinsZ sZ σZ HZ Q IZ ⟨there, code, reading⟩ => ?_⟩
  refine wpAny_Call_Name_kw (thn ((pe_var (pos := p1) (i := i) hN hv hd hcd).run pinsZ sZ σZ HZ (fun v H1 => v = .ref f ∧ H1 = HZ) IZ ⟨.ref f, there, rfl, rfl⟩) fun u s1 ⟨v, H1, I1, r1, e1, e2⟩ => ?_)
  subst e1
  subst e2
  cases r1
  have obj := I1.base.keep f _ hf hfn hfr (by intro z; cases z)
  have obj2 := I1.base.keep dt _ hd1 hd2 hd3 (by intro z; cases z)
  obtain ⟨kk, hb1, hb2⟩ := hbind
  have un : Un (frs X.stack) [] H H1 s.heap s1.heap := I1.base
  refine PySem.W.callWith_F0 ⟨_, _, _, _, obj⟩ (wpAny_call ?_)
  obtain ⟨⟨oc, vs, t, q1, q2, q3⟩, _, _⟩ := I1.hok c' _ code
  have ran : codeAny (model X.prog X.w) (X.A.deeper (envOfC qg sg s.heap.objs.size g cdg)) (.call (.ref f) ⟨[], []⟩) (CR (L2.CX X.prog X.w) (envOfC qg sg s.heap.objs.size g cdg :: X.stack) X.prog X.w H1 s1 Q (WE W σZ)) s1 := by
    refine PySem.W.kla_callFunE hr.room.depth obj rfl L.co L.gen rfl ⟨c', oc, vs, t, rfl, q1, q2, q3⟩ ?_
    rw [hb1]
    refine wpAny_bind (wpAny_seqItems obj2 rfl ?_)
    rw [hb2]
    refine wpAny_pure (wpAny_newFunctionEnv L.nocell (fun y hy => ?_) (fun h1 ns but => ⟨I1.nolimit.fresh _ but, ?_⟩) L.kind)
    · rw [List.mem_singleton.mp hy]
      exact L.one
    · have kp : ∀ b o, s1.heap.get? b = some o → h1.get? b = some o := fun b o e => but.extBut b o (Nat.ne_of_lt (Heap.lt_size e)) (Heap.get?_push_of_some _ e)
      have J : Inv (lamCx X (X.A.deeper (envOfC qg sg s.heap.objs.size g cdg)) (envOfC qg sg s.heap.objs.size g cdg :: X.stack) s1 H1 (WE W σZ) scope f c') [] σ H1 { s1 with heap := h1, toks := s1.toks + [(y0, ud)].length } :=
        lam_startD I L I1.env0 hr.room.hd un ns kp
      refine PySem.W.kla_codeExpr (wpAny_mono ((hbody _ _ s1 H1 (WE W σZ) (hr.deeper _)).run [] _ _ H1 Q J reading) (fun v s' done => ?_) fun e s' done => done)
      obtain ⟨w', H', J', rv, q⟩ := done
      exact ⟨w', H', J'.os, J'.bare, J'.base, J'.hok, rv, q⟩
  refine codeAny_mono ran fun r s' done => ?_
  cases r with
  | error e => exact passAt tk σZ pinsZ H1 s1 e s' I1 done
  | ok fl =>
    cases fl with
    | ret u => exact I1.after done
    | next => exact done.elim
    | brk => exact done.elim
    | cont => exact done.elim
end
section
variable {X : Cx} {W : WX} {bw : Bool} {x a : Str} {g c P : Addr} {k id j : Nat} {pg : Arguments} {sg : Scope} {dV kV doc pm cdv ct oc : Value} {an od : Option Addr} {osl : Array (Option Value)} {Ng : List Str}
  {params : Arguments} {body : Expr} {scope : Scope} {st0 : Stmt} {rest : List Stmt} {h₀ : ExceptHandler} {hds : List ExceptHandler} {l : List Hd} {mr : MS} {mb : Env → M D} {p lpos pos p1 p2 p3 p4 : Pos} {y0 : Str} {de : Expr}
theorem se_lamD (hg : Gl X x) (hm : X.mg x = some (.ref g)) (hk : PySem.W.keepIn X.K (.ref g) = true)
    (lk : X.K.lookup g = some ⟨oc, od, .func (PySem.W.fnOf x x pg (st0 :: .Try [.Expr (.Call (.Name a p1) [] [] p2) p3] (h₀ :: hds) [] [] p4 :: rest) sg dV kV doc pm an cdv ct), osl⟩) (hcg : PySem.W.codeIn X.K cdv x = true)
    (hb : L2.Binds X.K (PySem.W.fnOf x x pg (st0 :: .Try [.Expr (.Call (.Name a p1) [] [] p2) p3] (h₀ :: hds) [] [] p4 :: rest) sg dV kV doc pm an cdv ct) [a] []) (Sg : FnScope Ng [a] sg) (hNg : Ng[0]? = some a) (hva : Vis sg a) (hj : 0 < j)
    (hpre : ∀ (s : Shared) (H : Hp) (E : XK), PS (askCx X Ng x sg g cdv s H E) st0 (fun D σ H => D.nx (σ.set j (some .non)) H)) (hh : ∀ (s : Shared) (H : Hp) (E : XK), HdsD (askCx X Ng x sg g cdv s H E) (h₀ :: hds) l)
    (hrest : ∀ (s : Shared) (H : Hp) (E : XK), RoomG (k + 1) (X.A.deeper (envOfC x sg s.heap.objs.size g cdv)) → SSs (askCx X Ng x sg g cdv s H E) (wE E) rest mr)
    (TB : TabB X.base X.mg c P) (hcode : X.env.code = .ref c) (hTI : TabIs (Cx.g X) (X.env.qual ++ "<lambda>") P) (hr : RoomG (k + 2) X.A) (tk : Takes X W) (L : LamD X.N y0 X.env.scope scope) (hdef : defaultsOf params X.env = (evalEach [de] X.env, [])) (hdc : de.isPlainConst = true)
    (hbind : ∀ (q : Str) (cl : List (Str × Addr)) (pm cv ctv : Value) (dt : Addr) (u : Value), ∃ kk, bindArgs (dFn q params body scope cl (.ref dt) pm cv ctv) ⟨[], []⟩ = seqItems? (.ref dt) >>= kk ∧ kk (some #[u]) = pure [(y0, u)])
    (hbody : ∀ (A : Around) (outer : List PySem.Env) (s : Shared) (H : Hp) (E : XK) (f c' : Addr), RoomG k (A.deeper (lamEnv X scope s.heap.objs.size f c')) → SE (lamCx X A outer s H E scope f c') (wE E) true body mb)
    (hdb : (x == ("__debug__" : Str)) = false := by decide) (hd : (a == ("__debug__" : Str)) = false := by decide) (hcd : (a == ("__classdict__" : Str)) = false := by decide) :
    SE X W bw (.Call (.Name x p) [.Lambda params body scope lpos] [] pos) (fun env => lamM id (X.env.qual ++ "<lambda>") (askF Ng.length j l mr (mb env))) := by
  refine ⟨fun pins s σ H Q I ⟨R, ι, S, env, rep, repE, post⟩ => ?_⟩
  have hNl : 1 ≤ Ng.length := by
    have := (List.getElem?_eq_some_iff.mp hNg).1
    omega
  have post : Post (Cx.g X) W (relE (Cx.g X) bw) R H ι S σ (lamM id (X.env.qual ++ "<lambda>") (askF Ng.length j l mr (mb env)) S) Q := post
  unfold lamM at post
  have hid : S[id]? = some (some (.tbl (X.env.qual ++ "<lambda>"))) := by
    split at post
    · rename_i q' e
      by_cases z : q' = X.env.qual ++ "<lambda>"
      · rw [← z]
        exact e
      · rw [if_neg z] at post
        exact post.elim
    · exact post.elim
  rw [hid] at post
  simp only [if_true] at post
  have hlt : id < ι.length := by
    rw [rep.len]
    exact (List.getElem?_eq_some_iff.mp hid).1
  obtain ⟨P', hi⟩ : ∃ P', ι[id]? = some P' := ⟨_, List.getElem?_eq_getElem hlt⟩
  have cell := (rep.cell id P' _ hi hid).1
  have eP : P' = P := TabIs.eq cell.1 hTI
  subst eP
  refine wpAny_Call_Name_kw (ld_glob I hg hm ?_ hdb)
  refine PySem.W.callWith_K (h₀ := X.base) I.ok.mod.kin hk ?_ (by rfl) (by rfl)
  refine Calls.spliced_cons (rest := backTo pos (starEach [] X.env)) (lam_newD I TB hcode cell.2 hdef hdc (L.has I.ok) fun f c' dt ud pm' ctv H1 s' I1 made T1 hf hfn hfr hd1 hd2 hd3 hco => ?_)
  refine Calls.spliced_nil ⟨I1.kIn, ?_⟩
  obtain ⟨rep1, x1⟩ := made.rep rep hi hid T1
  have post1 := Post.shift later_E x1 post
  have ran : codeAny (model X.prog X.w) X.A (.call (.ref g) ⟨[.ref f], []⟩) (CR (L2.CX X.prog X.w) X.stack X.prog X.w H1 s' Q (WE W σ)) s' := by
    refine run_ofS (N := Ng) (ps := [a]) (us := [.ref f]) (vs := [.ref f]) lk hcg Sg hr.room I1.env0 (hb s' [.ref f] I1.kIn rfl) (.cons rfl .nil) rfl fun hr' => ?_
    have hrG : RoomG (k + 1) (X.A.deeper (envOfC x sg s'.heap.objs.size g cdv)) := hr.deeper _
    refine ⟨_, pss_cons (hpre s' H1 (WE W σ)) (pss_cons (ps_tryD (W := wE (WE W σ)) (tb := fun W' => tDrop fun σZ HZ Q => σZ[0]? = some (some (.ref f)) ∧ HZ c' = some (CodeO c' (X.env.qual ++ "<lambda>")) ∧ tG (Cx.g X) (wE (WE W' σZ)) (relE (Cx.g X) true) mb σ HZ Q)
      rfl rfl rfl (takes_of (E := WE W σ) rfl rfl rfl rfl) (fun W' pn xe tk' _ => pss_one (ps_expr (pe_askD (i := 0) (tb := fun E => tG (Cx.g X) (wE E) (relE (Cx.g X) true) mb) I1 L hf hfn hfr hd1 hd2 hd3 (hbind _ _ _ _ _ _ _) tk' hrG (fun A outer s H E hr2 => hbody A outer s H E f c' hr2) hNg hva hd hcd))) (hh s' H1 (WE W σ))) (hrest s' H1 (WE W σ) hrG)), ?_⟩
    have repZ : RepE (Cx.g X) R H1 ι S ((L2.start Ng [V.ref f]).set j (some .non)) ((List.replicate Ng.length Sl.un).set j (.val .none)) := ask_env hNl
    have fin : PostS (Cx.g X) (wE (WE W σ)) R H1 ι S ((L2.start Ng [V.ref f]).set j (some .non)) ((List.replicate Ng.length Sl.un).set j (.val .none)) (askS l mr (mb env) ((List.replicate Ng.length Sl.un).set j (.val .none)) S) { nx := fun _ H' => Q .non H', rt := Q } := by
      unfold askF at post1
      have lo : ∀ b, Lo ι S ((L2.start Ng [V.ref f]).set j (some .non)) ((List.replicate Ng.length Sl.un).set j (.val .none)) b → Lv ι S b := fun b h => h.elim (fun z => z) fun z => absurd z (no_own b)
      cases q : askS l mr (mb env) ((List.replicate Ng.length Sl.un).set j (.val .none)) S with
      | nx env' S' =>
        rw [q] at post1
        exact fun σ' R' ι' H' r1 r2 y => post1 .non R' ι' H' r1 (Ext.more y lo fun z hz => (y.own z (.inl hz)).imp (lo z) fun y => y) (VD.of .non)
      | rt d S' =>
        rw [q] at post1
        exact fun v R' ι' H' r1 dv y => post1 v R' ι' H' r1 (Ext.more y lo fun z hz => (y.own z hz).imp (lo z) fun y => y) (VD.of dv)
      | exc e env' S' =>
        rw [q] at post1
        exact fun cls dd σ' R' ι' H' r1 r2 ee y => post1 cls dd R' ι' H' r1 (Ext.more y lo fun z hz => (y.own z (.inl hz)).imp (lo z) fun y => y) ee
      | brk env' S' =>
        rw [q] at post1
        exact post1.elim
      | ct env' S' =>
        rw [q] at post1
        exact post1.elim
      | stuck =>
        rw [q] at post1
        exact post1.elim
    refine ⟨?_, hco, R, ι, S, env, rep1, repE.ext x1, ?_⟩
    · rw [List.getElem?_set_ne (by omega)]
      rfl
    · unfold askS seqS tryD dropS bindS at fin
      cases q : mb env S with
      | stuck =>
        simp only [q] at fin
        exact fin.elim
      | ok d S' =>
        simp only [q] at fin
        exact fun v R' ι' H' r1 y _ => ⟨R', ι', S', _, r1, repZ.ext y, PostS.shift (Ext.stm y) fin⟩
      | exc e S' =>
        simp only [q] at fin
        refine fun cls dd R' ι' H' r1 y ee => ⟨R', ι', S', _, e, r1, repZ.ext y, ee, ?_⟩
        have fin := PostS.shift (Ext.stm y) fin
        cases qc : catchD l e ((List.replicate Ng.length Sl.un).set j (.val .none)) S' with
        | nx env' S2 =>
          simp only [qc] at fin
          exact fun σ' R2 ι2 H2 r1 r2 x => ⟨R2, ι2, S2, env', r1, r2, PostS.shift x fin⟩
        | rt d S2 =>
          simp only [qc] at fin
          exact fin
        | exc z env' S2 =>
          simp only [qc] at fin
          exact fin
        | brk env' S2 =>
          simp only [qc] at fin
          exact fin
        | ct env' S2 =>
          simp only [qc] at fin
          exact fin
        | stuck =>
          simp only [qc] at fin
          exact fin
  refine wpAny_call (codeAny_mono ran fun r s2 done => ?_)
  cases r with
  | error e => exact passAt tk σ pins H1 s' e s2 I1 done
  | ok fl =>
    cases fl with
    | ret u => exact I1.after done
    | next => exact done.elim
    | brk => exact done.elim
    | cont => exact done.elim
end
end Sm

set_option Elab.async false
set_option linter.all false
set_option maxRecDepth 100000
set_option maxHeartbeats 2000000
/-! Sm29: more rules for plain laws: kinds of values, equal lists, own lists' items, draws with tables. -/
namespace Sm
open PySem L2
section
variable {S : Sto} {Q : D → Sto → Prop} {X : Exn → Sto → Prop} {d : D} {t : Ty} {ts : List Ty}
theorem sat_isi (h : tyD d S = some t) (q : Q (.bool (ts.any fun c => t.sub c)) S) : Sat (isiM ts d S) Q X := by
  unfold isiM
  rw [h]
  exact q
/-- a value whose kind does not hang on the store -/
def Kd (d : D) (t : Ty) : Prop := ∀ S, tyD d S = some t
theorem sat_isk (h : Kd d t) (q : Q (.bool (ts.any fun c => t.sub c)) S) : Sat (isiM ts d S) Q X := sat_isi (h S) q
theorem sat_isf (h : Kd d t) (e : (ts.any fun c => t.sub c) = false) (q : Q (.bool false) S) : Sat (isiM ts d S) Q X := sat_isk h (by rw [e]; exact q)
theorem kd_i {i : Int} : Kd (.int i) .int := fun _ => rfl
theorem kd_s {s : Str} : Kd (.str s) .str := fun _ => rfl
theorem kd_int (h : Kd d .int) : ∃ i, d = .int i := by
  have h := h []
  cases d with
  | int i => exact ⟨i, rfl⟩
  | obj id => cases h
  | _ => cases h
theorem kd_str (h : Kd d .str) : ∃ i, d = .str i := by
  have h := h []
  cases d with
  | str i => exact ⟨i, rfl⟩
  | obj id => cases h
  | _ => cases h
/-- an integer within bounds -/
def withD (d : D) (lo hi : Option Int) : Bool := match d with
  | .int i => (match lo with | some l => decide (l ≤ i) | none => true) && (match hi with | some h => decide (i ≤ h) | none => true)
  | _ => false
theorem kd_not {lo hi : Option Int} (h : Kd d t) (n : t ≠ .int) : withD d lo hi = false := by
  have h := h []
  cases d with
  | int i =>
    cases h
    exact absurd rfl n
  | _ => rfl
theorem sat_iteV {α : Type} {b : Bool} {m n : M α} {x y : α} {Q : α → Sto → Prop} (h1 : m S = .ok x S) (h2 : n S = .ok y S) (q : Q (if b then x else y) S) : Sat ((if b = true then m else n) S) Q X := by
  cases b with
  | true => exact sat_ok h1 q
  | false => exact sat_ok h2 q
theorem sat_neIe {i j : Int} (h : i = j) (q : Q (.bool false) S) : Sat (neM (.int i) (.int j) S) Q X := sat_neI (by rw [decide_eq_false (fun z => z h)]; exact q)
theorem sat_eqIf {i j : Int} (h : i ≠ j) (q : Q (.bool false) S) : Sat (eqM (.int i) (.int j) S) Q X := sat_eqI (by rw [decide_eq_false h]; exact q)
theorem sat_min2 {i j : Int} (q : Q (.int (if j < i then j else i)) S) : Sat (two min2M [.int i, .int j] S) Q X := q
theorem asInts_map : ∀ ns : List Int, asInts (ns.map D.int) = some ns
  | [] => rfl
  | n :: ns => by
    have := asInts_map ns
    simp only [List.map_cons, asInts, this]
    rfl
theorem sat_sum {ns : List Int} (q : Q (.int ns.sum) S) : Sat (one sumM [.list (ns.map D.int)] S) Q X := by
  refine sat_ok (a := .int ns.sum) (S := S) ?_ q
  show optO (asInts (ns.map D.int)) _ = _
  rw [asInts_map]
  rfl
theorem ints_of {n : Int} : ∀ {xs : List D}, (∀ x ∈ xs, ∃ i, x = .int i ∧ 0 ≤ i ∧ i < n) → ∃ is : List Int, xs = is.map D.int ∧ 0 ≤ is.sum ∧ is.sum ≤ (n - 1) * (xs.length : Int)
  | [], _ => ⟨[], rfl, by simp, by simp⟩
  | x :: xs, h => by
    obtain ⟨i, rfl, h1, h2⟩ := h x List.mem_cons_self
    obtain ⟨is, rfl, h3, h4⟩ := ints_of (n := n) fun y hy => h y (List.mem_cons_of_mem _ hy)
    refine ⟨i :: is, rfl, by rw [List.sum_cons]; omega, ?_⟩
    have e : ((n - 1) * ((D.int i :: is.map D.int).length : Int)) = (n - 1) * ((is.map D.int).length : Int) + (n - 1) := by
      rw [List.length_cons]
      simp only [Int.natCast_add, Int.natCast_one, Int.mul_add, Int.mul_one]
    rw [List.sum_cons, e]
    omega
/-- a value that may be compared as a whole -/
def Lay (n : Nat) (d : D) : Prop := ∃ p, toP d = some p ∧ p.canLay0 = true ∧ p.depth ≤ n
theorem lay_str {s : Str} {n : Nat} (h : PyData.strOk s = true) : Lay n (.str s) := ⟨.str s, by rw [toP], by rw [PyData.canLay0]; exact h, by rw [PyData.depth]; omega⟩
theorem lay_int {i : Int} {n : Nat} : Lay n (.int i) := ⟨.int i, by rw [toP], by rw [PyData.canLay0], by rw [PyData.depth]; omega⟩
theorem lay_none {n : Nat} : Lay n .none := ⟨.none, by rw [toP], by rw [PyData.canLay0], by rw [PyData.depth]; omega⟩
theorem lay_all {n : Nat} : ∀ {xs : List D}, (∀ x ∈ xs, Lay n x) → ∃ ps, toPs xs = some ps ∧ PyData.canLayAll0 ps = true ∧ PyData.depthAll ps ≤ n
  | [], _ => ⟨[], by rw [toPs], rfl, Nat.zero_le _⟩
  | x :: xs, h => by
    obtain ⟨p, a1, a2, a3⟩ := h x List.mem_cons_self
    obtain ⟨ps, b1, b2, b3⟩ := lay_all (n := n) (xs := xs) fun y hy => h y (List.mem_cons_of_mem _ hy)
    exact ⟨p :: ps, by rw [toPs, a1, b1], by rw [PyData.canLayAll0, a2, b2]; rfl, by rw [PyData.depthAll]; omega⟩
theorem lay_list {n : Nat} {xs : List D} (h : ∀ x ∈ xs, Lay n x) : Lay (n + 1) (.list xs) := by
  obtain ⟨ps, b1, b2, b3⟩ := lay_all h
  exact ⟨.list ps, by rw [toP, b1]; rfl, by rw [PyData.canLay0]; exact b2, by rw [PyData.depth]; omega⟩
theorem lay_tup {n : Nat} {xs : List D} (h : ∀ x ∈ xs, Lay n x) : Lay (n + 1) (.tup xs) := by
  obtain ⟨ps, b1, b2, b3⟩ := lay_all h
  exact ⟨.tuple ps, by rw [toP, b1]; rfl, by rw [PyData.canLay0]; exact b2, by rw [PyData.depth]; omega⟩
theorem sat_eqList {n : Nat} {xs : List D} (h : Lay n (.list xs)) (hn : n ≤ 64) (q : Q (.bool true) S) : Sat (eqM (.list xs) (.list xs) S) Q X := by
  refine sat_ok (a := .bool true) (S := S) ?_ q
  obtain ⟨p, a1, a2, a3⟩ := h
  show (match flatEq (.list xs) (.list xs) with
    | some b => Out.ok (D.bool (b ^^ false)) S
    | none => if lenNe (.list xs) (.list xs) S = true then .ok (.bool false) S else optO (toPS (.list xs) S) fun p => optO (toPS (.list xs) S) fun q => if SeqAt.shaped p = true ∧ SeqAt.shaped q = true then .ok (.bool (PyData.eqv p q ^^ false)) S else .stuck) = _
  have f : flatEq (.list xs) (.list xs) = none := rfl
  have g : lenNe (.list xs) (.list xs) S = false := by
    show (xs.length != xs.length) = false
    simp
  have hs : SeqAt.shaped p = true := by
    unfold SeqAt.shaped
    rw [a2, decide_eq_true (show p.depth ≤ 64 by omega)]
    rfl
  rw [f, g, toPS_toP a1]
  show (if _ then _ else _) = _
  rw [if_neg Bool.false_ne_true]
  show (if SeqAt.shaped _ = true ∧ SeqAt.shaped _ = true then _ else _) = _
  rw [if_pos ⟨hs, hs⟩, SeqAt.eqv_refl p a2]
  rfl
end
section
variable {S : Sto} {env : Env} {q : PQ} {xs : List D} {i : Nat} {me mi : Env → M D}
theorem sats_setI (h : env[i]? = some (.own xs)) (hm : Sat (me env S) (fun d S1 => Sat (mi env S1) (fun k S2 => ∃ (z : Int) (j : Nat), k = .int z ∧ ixN xs.length z = some j ∧ q.nx (env.set i (.own (xs.set j d))) S2) (fun z S' => q.ex z env S')) (fun z S' => q.ex z env S')) : SatS (setI' i me mi env S) q := by
  unfold setI'
  simp only [h]
  unfold setI
  refine sats_bind (hm.mono (fun d S1 hm => sats_bind (hm.mono (fun k S2 ⟨z, j, e1, e2, e3⟩ => ?_) fun _ _ z => z)) fun _ _ z => z)
  subst e1
  simp only [h, e2]
  exact e3
theorem sats_extO (h : env[i]? = some (.own xs)) (hm : Sat (me env S) (fun d S' => ∃ ys, asList d S' = some ys ∧ xs.length + ys.length ≤ sizeLine ∧ q.nx (env.set i (.own (xs ++ ys))) S') (fun z S' => q.ex z env S')) : SatS (extO i me env S) q := by
  unfold extO
  simp only [h]
  refine sats_bind (hm.mono (fun d S' ⟨ys, e1, e2, e3⟩ => ?_) fun _ _ z => z)
  simp only [h, e1, e2, if_true]
  exact e3
end
/-! ### draws; the tables stand where they stood -/
def CloudL (T : List Str) (b : Nat) (S : Sto) (c : Nat) : Prop := Cloud b S c ∧ T.length ≤ c ∧ ∀ (i : Nat) (q : Str), T[i]? = some q → S[i]? = some (some (.tbl q))
theorem CloudL.le {T : List Str} {b b' : Nat} {S : Sto} {c : Nat} (h : CloudL T b S c) (e : b' ≤ b) : CloudL T b' S c := ⟨Cloud.le h.1 e, h.2⟩
theorem CloudL.tab {T : List Str} {b : Nat} {S : Sto} {c i : Nat} {q : Str} (h : CloudL T b S c) (e : T[i]? = some q) : S[i]? = some (some (.tbl q)) := h.2.2 i q e
theorem tabs_set {T : List Str} {S S' : Sto} {c : Nat} {x : Option Cell} (e : S' = S.set c x) (h : T.length ≤ c) (q : ∀ (i : Nat) (q : Str), T[i]? = some q → S[i]? = some (some (.tbl q))) : ∀ (i : Nat) (q : Str), T[i]? = some q → S'[i]? = some (some (.tbl q)) := fun i r hr => by
  subst e
  have := (List.getElem?_eq_some_iff.mp hr).1
  rw [List.getElem?_set_ne (by omega)]
  exact q i r hr
theorem cut_map {α β : Type} (f : α → β) (xs : List α) (l h : Option Int) : cutD (xs.map f) l h = (cutD xs l h).map f := by
  unfold cutD
  rw [List.length_map, List.map_take, List.map_drop]
theorem cut_len {α : Type} (xs : List α) (l h : Option Int) : (cutD xs l h).length ≤ xs.length := by
  unfold cutD
  rw [List.length_take, List.length_drop]
  omega
theorem sat_lcI {f : D → Env → Option Env} {em : Env → M D} {vs : List Nat} {xs : List D} {env : Env} {S : Sto} {Q : List D → Sto → Prop} {X : Exn → Sto → Prop} (I : List D → List D → Sto → Prop)
    (hs : ∀ acc d rest S, I acc (d :: rest) S → ∃ env1, f d (wipeE env vs) = some env1 ∧ Sat (em env1 S) (fun y S2 => acc.length < sizeLine ∧ I (acc ++ [y]) rest S2) noX) (he : ∀ acc S, I acc [] S → Q acc S) (h : I [] xs S) : Sat (lcM f okT em vs xs env S) Q X :=
  sat_lcA (Q := Q) (X := X) I (fun acc d rest S h => by
    obtain ⟨env1, h1, h2⟩ := hs acc d rest S h
    exact ⟨env1, h1, sat_ok (a := true) (S := S) rfl (ite_T h2)⟩) he h
/-- a comprehension of drawn values, by a range -/
theorem sat_drawnL {T : List Str} {P : D → Prop} {f : D → Env → Option Env} {em : Env → M D} {vs : List Nat} {env : Env} {S : Sto} {Q : List D → Sto → Prop} {X : Exn → Sto → Prop} {b U c n : Nat} (hn : n ≤ 1000) (hc : CloudL T (b + n * U) S c)
    (hs : ∀ (d : D) (b : Nat) (S : Sto), CloudL T (b + U) S c → ∃ env1, f d (wipeE env vs) = some env1 ∧ Sat (em env1 S) (fun y S' => P y ∧ CloudL T b S' c) noX)
    (he : ∀ (xs : List D) (S : Sto), (∀ x ∈ xs, P x) → xs.length = n → CloudL T b S c → Q xs S) : Sat (lcM f okT em vs (rangeD 0 n) env S) Q X := by
  have hl : (rangeD 0 n).length = n := by simp [rangeD]
  refine sat_lcI (fun acc rest S => (∀ x ∈ acc, P x) ∧ acc.length + rest.length = n ∧ CloudL T (b + rest.length * U) S c) (fun acc d rest S ⟨h1, h2, h3⟩ => ?_) (fun acc S ⟨h1, h2, h3⟩ => ?_) ⟨fun x hx => (by cases hx), by rw [hl]; simp, by rw [hl]; exact hc⟩
  · rw [List.length_cons, Nat.succ_mul] at h3
    rw [List.length_cons] at h2
    obtain ⟨env1, e1, h4⟩ := hs d (b + rest.length * U) S (h3.le (by omega))
    refine ⟨env1, e1, Sat.to h4 fun r S' hr => ⟨Nat.lt_of_le_of_lt (show acc.length ≤ 1000 by omega) (by decide), fun x hx => ?_, by rw [List.length_append, List.length_singleton]; omega, hr.2⟩⟩
    rcases List.mem_append.mp hx with hx | hx
    · exact h1 x hx
    · rw [List.mem_singleton.mp hx]
      exact hr.1
  · rw [List.length_nil, Nat.zero_mul, Nat.add_zero] at h3
    exact he acc S h1 (by simpa using h2) h3
end Sm

set_option Elab.async false
set_option linter.all false
set_option maxRecDepth 100000
set_option maxHeartbeats 4000000
/-! printed by gen.py: K35 -/
namespace K35
open PySem PySem.Spec PyProof.Rows L2 Sm
def topS (i : Nat) : Stmt := PySem.Challenge.pw_fairweather_k35_letters_wanted.main.body.getD i (.Pass ⟨0, 0, 0, 0⟩)
abbrev s_p_is_integer : Stmt := topS 5
abbrev s_p_is_within : Stmt := topS 6
abbrev s_p_need_number : Stmt := topS 7
abbrev s_p_need_m : Stmt := topS 11
abbrev s_p_is_wanted : Stmt := topS 14
abbrev s_pen : Stmt := topS 16
abbrev s_draw : Stmt := topS 17
abbrev s_one_of : Stmt := topS 18
abbrev s_all_right : Stmt := topS 19
abbrev s_elder_right : Stmt := topS 20
abbrev s_refused_right : Stmt := topS 22
abbrev s_p_law : Stmt := topS 23
abbrev s_heard : Stmt := topS 21
abbrev si_BadNumber : Stmt := inClass (topS 2) 0
abbrev si_Misfit : Stmt := inClass (topS 3) 0
abbrev raisedC : List Str := ["BadNumber", "Misfit"]
def subT (c d : Str) : Option Bool := if c = "BadNumber" ∧ d = "BadNumber" then some true else if c = "BadNumber" ∧ d = "Misfit" then some false else if c = "Misfit" ∧ d = "BadNumber" then some false else if c = "Misfit" ∧ d = "Misfit" then some true else none
def c_LEAST_M : D := (D.int 2)
def c_MOST_M : D := (D.int 64)
def c_ROWS : D := (D.tup [(D.int 0), (D.int 1), (D.int 2), (D.int 3), (D.int 4), (D.int 5), (D.int 6), (D.int 7)])
def ko_p_is_wanted_0_m_number_has_done {α : Type} (xs zs : List α) : Option (List α) := match xs, zs with
  | [], [z0, z1, z2, z3] => some [z3, z2, z1, z0]
  | _, _ => none
structure Fns where
  p_is_integer : List D → M D
  p_is_within : List D → M D
  p_need_number : List D → M D
  p_need_m : List D → M D
  p_is_wanted : List D → M D
  pen : List D → M D
  draw : List D → M D
  one_of : List D → M D
  all_right : List D → M D
  elder_right : List D → M D
  refused_right : List D → M D
  p_law : List D → M D
def hd_heard : List Hd := [⟨tabX [("BadNumber", true), ("Misfit", true)], some 2, (setS 1 (getv 2))⟩]
def r_heard : MS := (seqS (ifS (fun env => (fun env => (getv 1) env >>= isoM raisedC [] subT [.own "BadNumber", .own "Misfit"]) env >>= asB) (retS (fun env => (fun env => (fun env => (fun env => (fun env => (getv 1) env >>= isoM raisedC [] subT [.own "BadNumber"]) env >>= asB) env >>= fun k => if k = true then (fun _ => pure (D.str "number")) env else (fun _ => pure (D.str "misfit")) env) env >>= fun x => (fun env => (fun env => (getv 1) env >>= xldM ["BadNumber", "Misfit"] "part") env >>= fun x => (fun _ => pure []) env >>= fun xs => pure (x :: xs)) env >>= fun xs => pure (x :: xs)) env >>= listM)) skipS)
    (retS (fun env => (fun env => (getv 1) env >>= fun x => (fun _ => pure D.none) env >>= fun y => isM x y >>= asB) env >>= fun k => if k = true then (fun _ => pure D.none) env else (fun env => (fun env => (fun _ => pure (D.str "other")) env >>= fun x => (fun env => (fun _ => pure D.none) env >>= fun x => (fun _ => pure []) env >>= fun xs => pure (x :: xs)) env >>= fun xs => pure (x :: xs)) env >>= listM) env)))
def m_p_is_integer (G G2 : Fns) : MS := (retS (fun env => (fun env => (getv 0) env >>= isiM [.int]) env >>= fun x => ifB x ((fun env => (fun env => (getv 0) env >>= isiM [.bool]) env >>= notM) env) (pure (D.bool false))))
def m_p_is_within (G G2 : Fns) : MS := (seqS (ifS (fun env => (fun env => (fun env => (fun env => (getv 0) env >>= fun x => (fun _ => pure []) env >>= fun xs => pure (x :: xs)) env >>= G.p_is_integer) env >>= asB) env >>= fun k => pure (!k)) (retS (fun _ => pure (D.bool false))) skipS)
    (retS (fun env => (fun env => (fun env => (getv 1) env >>= fun x => (fun _ => pure D.none) env >>= fun y => isM x y) env >>= fun x => ifB x (pure (D.bool true)) ((fun env => (getv 0) env >>= fun x => (getv 1) env >>= fun y => geM x y) env)) env >>= fun x => ifB x ((fun env => (fun env => (getv 2) env >>= fun x => (fun _ => pure D.none) env >>= fun y => isM x y) env >>= fun x => ifB x (pure (D.bool true)) ((fun env => (getv 0) env >>= fun x => (getv 2) env >>= fun y => leM x y) env)) env) (pure (D.bool false)))))
def m_p_need_number (G G2 : Fns) : MS := (ifS (fun env => (fun env => (fun env => (fun env => (getv 0) env >>= fun x => (fun env => (getv 2) env >>= fun x => (fun env => (getv 3) env >>= fun x => (fun _ => pure []) env >>= fun xs => pure (x :: xs)) env >>= fun xs => pure (x :: xs)) env >>= fun xs => pure (x :: xs)) env >>= G.p_is_within) env >>= asB) env >>= fun k => pure (!k)) (raiseD "BadNumber" ["part"] (fun env => (getv 1) env >>= fun x => (fun _ => pure []) env >>= fun xs => pure (x :: xs))) skipS)
def m_p_need_m (G G2 : Fns) : MS := (dropS (fun env => (fun env => (getv 0) env >>= fun x => (fun env => (fun _ => pure (D.str "m")) env >>= fun x => (fun env => (fun _ => pure c_LEAST_M) env >>= fun x => (fun env => (fun _ => pure c_MOST_M) env >>= fun x => (fun _ => pure []) env >>= fun xs => pure (x :: xs)) env >>= fun xs => pure (x :: xs)) env >>= fun xs => pure (x :: xs)) env >>= fun xs => pure (x :: xs)) env >>= G.p_need_number))
def m_p_is_wanted (G G2 : Fns) : MS := (seqS (dropS (fun env => (fun env => (getv 0) env >>= fun x => (fun env => (fun _ => pure (D.str "done")) env >>= fun x => (fun env => (fun _ => pure (D.int 0)) env >>= fun x => (fun env => (fun _ => pure D.none) env >>= fun x => (fun _ => pure []) env >>= fun xs => pure (x :: xs)) env >>= fun xs => pure (x :: xs)) env >>= fun xs => pure (x :: xs)) env >>= fun xs => pure (x :: xs)) env >>= G.p_need_number))
    (seqS (dropS (fun env => (fun env => (getv 1) env >>= fun x => (fun env => (fun _ => pure (D.str "has")) env >>= fun x => (fun env => (fun _ => pure (D.int 0)) env >>= fun x => (fun env => (fun _ => pure (D.int 1)) env >>= fun x => (fun _ => pure []) env >>= fun xs => pure (x :: xs)) env >>= fun xs => pure (x :: xs)) env >>= fun xs => pure (x :: xs)) env >>= fun xs => pure (x :: xs)) env >>= G.p_need_number))
    (seqS (dropS (fun env => (fun env => (getv 2) env >>= fun x => (fun env => (fun _ => pure (D.str "number")) env >>= fun x => (fun env => (fun _ => pure (D.int 0)) env >>= fun x => (fun env => (fun env => (fun _ => pure c_MOST_M) env >>= fun x => (fun _ => pure (D.int 1)) env >>= fun y => subM x y) env >>= fun x => (fun _ => pure []) env >>= fun xs => pure (x :: xs)) env >>= fun xs => pure (x :: xs)) env >>= fun xs => pure (x :: xs)) env >>= fun xs => pure (x :: xs)) env >>= G.p_need_number))
    (seqS (dropS (fun env => (fun env => (getv 3) env >>= fun x => (fun _ => pure []) env >>= fun xs => pure (x :: xs)) env >>= G.p_need_m))
    (seqS (ifS (fun env => (getv 2) env >>= fun x => (getv 3) env >>= fun y => geM x y >>= asB) (raiseD "Misfit" ["part"] (fun env => (fun _ => pure (D.str "number")) env >>= fun x => (fun _ => pure []) env >>= fun xs => pure (x :: xs))) skipS)
    (seqS (ifS (fun env => (getv 2) env >>= fun x => (fun env => (fun env => (fun env => (fun env => (getv 0) env >>= fun x => (fun _ => pure (D.int 1)) env >>= fun y => addM x y) env >>= fun x => (fun _ => pure []) env >>= fun xs => pure (x :: xs)) env >>= one intM) env >>= fun x => (getv 3) env >>= fun y => modM x y) env >>= fun y => eqM x y >>= asB) (retS (fun _ => pure (D.int 1))) skipS)
    (retS (fun env => (fun env => (fun env => (getv 2) env >>= fun x => (fun env => (fun env => (fun env => (getv 0) env >>= fun x => (fun _ => pure []) env >>= fun xs => pure (x :: xs)) env >>= one intM) env >>= fun x => (getv 3) env >>= fun y => modM x y) env >>= fun y => eqM x y >>= asB) env >>= fun k => if k = true then (fun env => (getv 1) env >>= fun x => (fun _ => pure (D.int 0)) env >>= fun y => eqM x y >>= asB) env else pure false) env >>= fun k => if k = true then (fun _ => pure (D.int 0)) env else (fun _ => pure D.none) env))))))))
def m_pen (G G2 : Fns) : MS := (retS (fun env => (fun env => (fun env => (fun env => (lcQ (fun env => (getv 0) env >>= fun x => (fun _ => pure none) env >>= fun l => (fun env => (fun _ => pure (D.int 63)) env >>= asI) env >>= fun h => slM x l h) (tgN 1) okT (fun env => (fun env => (getv 1) env >>= fun x => (fun _ => pure []) env >>= fun xs => pure (x :: xs)) env >>= one intM) [1]) env >>= frzM) env >>= fun x => (fun env => (fun _ => pure (D.int 0)) env >>= fun x => (fun env => (fun _ => pure (D.int 0)) env >>= fun x => (fun _ => pure []) env >>= fun xs => pure (x :: xs)) env >>= fun xs => pure (x :: xs)) env >>= fun xs => pure (x :: xs)) env >>= small) env >>= newO))
def m_draw (G G2 : Fns) : MS := (seqS (setS 2 (fun env => (fun env => (fun env => (getv 0) env >>= fun x => (fun _ => pure (D.int 2)) env >>= fun y => ixM x y) env >>= fun x => (fun _ => pure []) env >>= fun xs => pure (x :: xs)) env >>= one intM))
    (seqS (ifS (fun env => (getv 2) env >>= fun x => (fun _ => pure (D.int 0)) env >>= fun y => gtM x y >>= asB) (seqS (setC (fun env => (getv 2) env >>= fun x => (getv 1) env >>= fun y => fdivM x y) (getv 0) (fun _ => pure (D.int 2)))
    (retS (fun env => (getv 2) env >>= fun x => (getv 1) env >>= fun y => modM x y))) skipS)
    (seqS (setS 3 (fun env => (getv 0) env >>= fun x => (fun _ => pure (D.int 1)) env >>= fun y => ixM x y))
    (seqS (setC (fun env => (getv 3) env >>= fun x => (fun _ => pure (D.int 1)) env >>= fun y => addM x y) (getv 0) (fun _ => pure (D.int 1)))
    (seqS (setS 4 (fun env => (fun env => (fun _ => pure (D.int 71023)) env >>= fun x => (getv 3) env >>= fun y => mulX x y) env >>= fun x => (fun _ => pure (D.int 4217)) env >>= fun y => addM x y))
    (seqS (ifS (fun env => (fun env => (getv 0) env >>= fun x => (fun _ => pure (D.int 0)) env >>= fun y => ixM x y) env >>= fun x => (fun env => (fun _ => pure []) env >>= listM) env >>= fun y => neM x y >>= asB) (setS 4 (fun env => (fun env => (getv 0) env >>= fun x => (fun _ => pure (D.int 0)) env >>= fun y => ixM x y) env >>= fun x => (fun env => (fun env => (fun env => (getv 3) env >>= fun x => (fun _ => pure []) env >>= fun xs => pure (x :: xs)) env >>= one intM) env >>= fun x => (fun env => (fun env => (fun env => (getv 0) env >>= fun x => (fun _ => pure (D.int 0)) env >>= fun y => ixM x y) env >>= fun x => (fun _ => pure []) env >>= fun xs => pure (x :: xs)) env >>= one lenM) env >>= fun y => modM x y) env >>= fun y => ixM x y)) skipS)
    (seqS (ifS (fun env => (fun env => (getv 3) env >>= fun x => (fun env => (fun env => (fun env => (getv 0) env >>= fun x => (fun _ => pure (D.int 0)) env >>= fun y => ixM x y) env >>= fun x => (fun _ => pure []) env >>= fun xs => pure (x :: xs)) env >>= one lenM) env >>= fun y => ltM x y >>= asB) env >>= fun k => if k = true then (fun env => (fun env => (fun env => (getv 4) env >>= fun x => (fun _ => pure []) env >>= fun xs => pure (x :: xs)) env >>= one absM) env >>= fun x => (fun env => (fun _ => pure (D.int 10)) env >>= fun x => (fun _ => pure (D.int 18)) env >>= fun y => powM x y) env >>= fun y => geM x y >>= asB) env else pure false) (seqS (setS 2 (fun env => (fun env => (fun _ => pure (D.int 2)) env >>= fun x => (fun env => (fun env => (fun env => (getv 4) env >>= fun x => (fun _ => pure []) env >>= fun xs => pure (x :: xs)) env >>= one absM) env >>= fun x => (fun env => (fun _ => pure (D.int 10)) env >>= fun x => (fun _ => pure (D.int 18)) env >>= fun y => powM x y) env >>= fun y => subM x y) env >>= fun y => mulX x y) env >>= fun x => (fun env => (fun env => (fun env => (getv 4) env >>= fun x => (fun _ => pure (D.int 0)) env >>= fun y => ltM x y) env >>= fun x => (fun _ => pure []) env >>= fun xs => pure (x :: xs)) env >>= one intM) env >>= fun y => addM x y))
    (seqS (setC (fun env => (getv 2) env >>= fun x => (getv 1) env >>= fun y => fdivM x y) (getv 0) (fun _ => pure (D.int 2)))
    (retS (fun env => (getv 2) env >>= fun x => (getv 1) env >>= fun y => modM x y)))) skipS)
    (seqS (setS 5 (fun env => (fun env => (fun env => (fun env => (fun env => (fun env => (fun env => (fun env => (fun env => (getv 4) env >>= fun x => (fun _ => pure []) env >>= fun xs => pure (x :: xs)) env >>= one intM) env >>= fun x => (fun _ => pure (D.int 2147483563)) env >>= fun y => modM x y) env >>= fun x => (fun env => (fun _ => pure (D.int 50329)) env >>= fun x => (getv 3) env >>= fun y => mulX x y) env >>= fun y => addM x y) env >>= fun x => (fun _ => pure (D.int 4217)) env >>= fun y => addM x y) env >>= fun x => (fun _ => pure (D.int 5)) env >>= fun y => powM x y) env >>= fun x => (fun _ => pure []) env >>= fun xs => pure (x :: xs)) env >>= one intM) env >>= fun x => (fun _ => pure (D.int 2147483629)) env >>= fun y => modM x y))
    (seqS (setS 5 (fun env => (fun env => (fun env => (fun env => (fun env => (fun env => (fun env => (getv 5) env >>= fun x => (fun env => (fun env => (fun _ => pure (D.int 2)) env >>= fun x => (getv 3) env >>= fun y => mulX x y) env >>= fun x => (fun _ => pure (D.int 6211)) env >>= fun y => addM x y) env >>= fun y => mulX x y) env >>= fun x => (fun env => (fun env => (fun _ => pure (D.int 50329)) env >>= fun x => (getv 3) env >>= fun y => mulX x y) env >>= fun x => (getv 3) env >>= fun y => mulX x y) env >>= fun y => addM x y) env >>= fun x => (fun _ => pure (D.int 71023)) env >>= fun y => addM x y) env >>= fun x => (fun _ => pure (D.int 3)) env >>= fun y => powM x y) env >>= fun x => (fun _ => pure []) env >>= fun xs => pure (x :: xs)) env >>= one intM) env >>= fun x => (fun _ => pure (D.int 2147483587)) env >>= fun y => modM x y))
    (retS (fun env => (fun env => (fun env => (fun env => (getv 5) env >>= fun x => (fun _ => pure (D.int 128)) env >>= fun y => fdivM x y) env >>= fun x => (fun _ => pure []) env >>= fun xs => pure (x :: xs)) env >>= one intM) env >>= fun x => (getv 1) env >>= fun y => modM x y)))))))))))
def m_one_of (G G2 : Fns) : MS := (retS (fun env => (getv 1) env >>= fun x => (fun env => (fun env => (getv 0) env >>= fun x => (fun env => (fun env => (fun env => (getv 1) env >>= fun x => (fun _ => pure []) env >>= fun xs => pure (x :: xs)) env >>= one lenM) env >>= fun x => (fun _ => pure []) env >>= fun xs => pure (x :: xs)) env >>= fun xs => pure (x :: xs)) env >>= G.draw) env >>= fun y => ixM x y))
def m_all_right (G G2 : Fns) : MS := (seqS (setS 1 (fun env => (fun env => (getv 0) env >>= fun x => (fun env => (fun env => (fun env => (fun _ => pure (D.int 2)) env >>= fun x => (fun env => (fun _ => pure (D.int 3)) env >>= fun x => (fun env => (fun _ => pure (D.int 4)) env >>= fun x => (fun env => (fun _ => pure (D.int 7)) env >>= fun x => (fun env => (fun _ => pure (D.int 64)) env >>= fun x => (fun env => (fun env => (fun _ => pure (D.int 2)) env >>= fun x => (fun env => (fun env => (getv 0) env >>= fun x => (fun env => (fun _ => pure (D.int 63)) env >>= fun x => (fun _ => pure []) env >>= fun xs => pure (x :: xs)) env >>= fun xs => pure (x :: xs)) env >>= G.draw) env >>= fun y => addM x y) env >>= fun x => (fun _ => pure []) env >>= fun xs => pure (x :: xs)) env >>= fun xs => pure (x :: xs)) env >>= fun xs => pure (x :: xs)) env >>= fun xs => pure (x :: xs)) env >>= fun xs => pure (x :: xs)) env >>= fun xs => pure (x :: xs)) env >>= listM) env >>= fun x => (fun _ => pure []) env >>= fun xs => pure (x :: xs)) env >>= fun xs => pure (x :: xs)) env >>= G.one_of))
    (seqS (setS 2 (fun env => (fun env => (getv 0) env >>= fun x => (fun env => (fun env => (fun env => (fun _ => pure (D.int 0)) env >>= fun x => (fun env => (fun _ => pure (D.int 1)) env >>= fun x => (fun env => (fun env => (getv 1) env >>= fun x => (fun _ => pure (D.int 1)) env >>= fun y => subM x y) env >>= fun x => (fun env => (getv 1) env >>= fun x => (fun env => (fun env => (fun env => (getv 0) env >>= fun x => (fun env => (fun _ => pure (D.int 300)) env >>= fun x => (fun _ => pure []) env >>= fun xs => pure (x :: xs)) env >>= fun xs => pure (x :: xs)) env >>= G.draw) env >>= fun x => (fun env => (fun env => (fun env => (fun _ => pure (D.int 10)) env >>= fun x => (fun _ => pure (D.int 9)) env >>= fun y => powM x y) env >>= fun x => (fun env => (fun env => (getv 0) env >>= fun x => (fun env => (fun _ => pure (D.int 64)) env >>= fun x => (fun _ => pure []) env >>= fun xs => pure (x :: xs)) env >>= fun xs => pure (x :: xs)) env >>= G.draw) env >>= fun y => addM x y) env >>= fun x => (fun env => (fun env => (fun _ => pure (D.int 10)) env >>= fun x => (fun _ => pure (D.int 30)) env >>= fun y => powM x y) env >>= fun x => (fun _ => pure []) env >>= fun xs => pure (x :: xs)) env >>= fun xs => pure (x :: xs)) env >>= fun xs => pure (x :: xs)) env >>= fun xs => pure (x :: xs)) env >>= fun xs => pure (x :: xs)) env >>= fun xs => pure (x :: xs)) env >>= fun xs => pure (x :: xs)) env >>= listM) env >>= fun x => (fun _ => pure []) env >>= fun xs => pure (x :: xs)) env >>= fun xs => pure (x :: xs)) env >>= G.one_of))
    (seqS (forQ (tgN 3) (seqS (setS 4 (fun env => (lcR (fun env => (getv 1) env >>= fun x => (fun _ => pure []) env >>= fun xs => pure (x :: xs)) (tgN 6) okT (fun env => (fun env => (getv 2) env >>= fun x => (fun env => (getv 3) env >>= fun x => (fun env => (getv 6) env >>= fun x => (fun env => (getv 1) env >>= fun x => (fun _ => pure []) env >>= fun xs => pure (x :: xs)) env >>= fun xs => pure (x :: xs)) env >>= fun xs => pure (x :: xs)) env >>= fun xs => pure (x :: xs)) env >>= G.p_is_wanted) [6]) env >>= frzM))
    (seqS (setO 5 (lcR (fun env => (getv 1) env >>= fun x => (fun _ => pure []) env >>= fun xs => pure (x :: xs)) (tgN 6) okT (fun _ => pure D.none) [6]))
    (seqS (ifS (fun env => (getv 3) env >>= fun x => (fun _ => pure (D.int 0)) env >>= fun y => eqM x y >>= asB) (setI' 5 (fun _ => pure (D.int 0)) (fun env => (fun env => (fun env => (getv 2) env >>= fun x => (fun _ => pure []) env >>= fun xs => pure (x :: xs)) env >>= one intM) env >>= fun x => (getv 1) env >>= fun y => modM x y)) skipS)
    (seqS (setI' 5 (fun _ => pure (D.int 1)) (fun env => (fun env => (fun env => (fun env => (getv 2) env >>= fun x => (fun _ => pure (D.int 1)) env >>= fun y => addM x y) env >>= fun x => (fun _ => pure []) env >>= fun xs => pure (x :: xs)) env >>= one intM) env >>= fun x => (getv 1) env >>= fun y => modM x y))
    (ifS (fun env => (fun env => (fun env => (fun env => (getv 4) env >>= fun x => (fun _ => pure []) env >>= fun xs => pure (x :: xs)) env >>= one reprM) env >>= fun x => (fun env => (fun env => (getb 5) env >>= fun x => (fun _ => pure []) env >>= fun xs => pure (x :: xs)) env >>= one reprM) env >>= fun y => neM x y >>= asB) env >>= fun k => if k = true then pure true else (fun env => (fun env => (fun env => (fun env => (fun env => (getv 1) env >>= fun x => (fun env => (fun env => (getv 1) env >>= fun x => (fun _ => pure (D.int 1)) env >>= fun y => subM x y) env >>= fun x => (fun env => (getv 3) env >>= fun x => (fun env => (getv 2) env >>= fun x => (fun _ => pure []) env >>= fun xs => pure (x :: xs)) env >>= fun xs => pure (x :: xs)) env >>= fun xs => pure (x :: xs)) env >>= fun xs => pure (x :: xs)) env >>= fun zs => optM (ko_p_is_wanted_0_m_number_has_done [] zs) >>= G.p_is_wanted) env >>= fun x => (fun _ => pure []) env >>= fun xs => pure (x :: xs)) env >>= one reprM) env >>= fun x => (fun env => (fun env => (fun env => (getb 5) env >>= fun x => (fun env => (getv 1) env >>= fun x => (fun _ => pure (D.int 1)) env >>= fun y => subM x y) env >>= fun y => ixM x y) env >>= fun x => (fun _ => pure []) env >>= fun xs => pure (x :: xs)) env >>= one reprM) env >>= fun y => neM x y >>= asB) env) (retS (fun _ => pure (D.bool false))) skipS))))) (fun env => (fun env => (fun _ => pure (D.int 0)) env >>= fun x => (fun env => (fun _ => pure (D.int 1)) env >>= fun x => (fun _ => pure []) env >>= fun xs => pure (x :: xs)) env >>= fun xs => pure (x :: xs)) env >>= tupM))
    (retS (fun _ => pure (D.bool true))))))
def m_elder_right (G G2 : Fns) : MS := (seqS (par2 1 2 (fun env => (fun env => (fun env => (getv 0) env >>= fun x => (fun env => (fun _ => pure (D.int 9)) env >>= fun x => (fun _ => pure []) env >>= fun xs => pure (x :: xs)) env >>= fun xs => pure (x :: xs)) env >>= G.draw) env >>= fun x => (fun env => (fun env => (fun env => (getv 0) env >>= fun x => (fun env => (fun _ => pure (D.int 40)) env >>= fun x => (fun _ => pure []) env >>= fun xs => pure (x :: xs)) env >>= fun xs => pure (x :: xs)) env >>= G.draw) env >>= fun x => (fun _ => pure []) env >>= fun xs => pure (x :: xs)) env >>= fun xs => pure (x :: xs)))
    (seqS (setS 3 (fun env => (fun env => (fun _ => pure (D.int 64)) env >>= fun x => (fun env => (fun env => (fun env => (fun env => (fun _ => pure (D.int 2)) env >>= fun x => (getv 1) env >>= fun y => mulX x y) env >>= fun x => (fun _ => pure (D.int 3)) env >>= fun y => addM x y) env >>= fun x => (fun env => (fun env => (getv 0) env >>= fun x => (fun env => (fun _ => pure (D.int 4)) env >>= fun x => (fun _ => pure []) env >>= fun xs => pure (x :: xs)) env >>= fun xs => pure (x :: xs)) env >>= G.draw) env >>= fun y => addM x y) env >>= fun x => (fun _ => pure []) env >>= fun xs => pure (x :: xs)) env >>= fun xs => pure (x :: xs)) env >>= two min2M))
    (seqS (setS 4 (fun env => (fun env => (getv 2) env >>= fun x => (fun _ => pure (D.int 1)) env >>= fun y => addM x y) env >>= fun x => (fun env => (fun env => (fun env => (lcR (fun env => (getv 1) env >>= fun x => (fun _ => pure []) env >>= fun xs => pure (x :: xs)) (tgN 5) okT (fun env => (fun env => (getv 0) env >>= fun x => (fun env => (fun _ => pure (D.int 3)) env >>= fun x => (fun _ => pure []) env >>= fun xs => pure (x :: xs)) env >>= fun xs => pure (x :: xs)) env >>= G.draw) [5]) env >>= frzM) env >>= fun x => (fun _ => pure []) env >>= fun xs => pure (x :: xs)) env >>= one sumM) env >>= fun y => addM x y))
    (retS (fun env => (fun env => (fun env => (getv 4) env >>= fun x => (fun env => (fun env => (fun env => (getv 0) env >>= fun x => (fun env => (fun _ => pure (D.int 2)) env >>= fun x => (fun _ => pure []) env >>= fun xs => pure (x :: xs)) env >>= fun xs => pure (x :: xs)) env >>= G.draw) env >>= fun x => (fun env => (fun env => (fun env => (fun env => (getv 2) env >>= fun x => (fun _ => pure []) env >>= fun xs => pure (x :: xs)) env >>= one intM) env >>= fun x => (getv 3) env >>= fun y => modM x y) env >>= fun x => (fun env => (getv 3) env >>= fun x => (fun _ => pure []) env >>= fun xs => pure (x :: xs)) env >>= fun xs => pure (x :: xs)) env >>= fun xs => pure (x :: xs)) env >>= fun xs => pure (x :: xs)) env >>= G.p_is_wanted) env >>= fun x => (fun _ => pure D.none) env >>= fun y => isM x y)))))
def m_refused_right (G G2 : Fns) : MS := (seqS (setT (tgT [5, 3]) (fun env => (fun env => (fun env => (fun env => (getv 0) env >>= fun x => (fun env => (fun env => (fun env => (fun _ => pure D.none) env >>= fun x => (fun env => (fun _ => pure (D.bool true)) env >>= fun x => (fun env => (fun _ => pure (D.bool false)) env >>= fun x => (fun env => (fun _ => pure (D.str "1")) env >>= fun x => (fun env => (fun env => (fun env => (fun _ => pure (D.int 1)) env >>= fun x => (fun _ => pure []) env >>= fun xs => pure (x :: xs)) env >>= listM) env >>= fun x => (fun env => (fun env => (fun env => (fun _ => pure (D.int 0)) env >>= fun x => (fun _ => pure []) env >>= fun xs => pure (x :: xs)) env >>= tupM) env >>= fun x => (fun env => (fun _ => pure (D.dict [])) env >>= fun x => (fun _ => pure []) env >>= fun xs => pure (x :: xs)) env >>= fun xs => pure (x :: xs)) env >>= fun xs => pure (x :: xs)) env >>= fun xs => pure (x :: xs)) env >>= fun xs => pure (x :: xs)) env >>= fun xs => pure (x :: xs)) env >>= fun xs => pure (x :: xs)) env >>= listM) env >>= fun x => (fun _ => pure []) env >>= fun xs => pure (x :: xs)) env >>= fun xs => pure (x :: xs)) env >>= G.one_of) env >>= fun x => (fun env => (fun env => (fun env => (getv 0) env >>= fun x => (fun env => (fun env => (fun env => (fun env => (fun _ => pure (D.int 1)) env >>= negM) env >>= fun x => (fun env => (fun env => (fun env => (fun _ => pure (D.int 10)) env >>= fun x => (fun _ => pure (D.int 20)) env >>= fun y => powM x y) env >>= negM) env >>= fun x => (fun _ => pure []) env >>= fun xs => pure (x :: xs)) env >>= fun xs => pure (x :: xs)) env >>= listM) env >>= fun x => (fun _ => pure []) env >>= fun xs => pure (x :: xs)) env >>= fun xs => pure (x :: xs)) env >>= G.one_of) env >>= fun x => (fun _ => pure []) env >>= fun xs => pure (x :: xs)) env >>= fun xs => pure (x :: xs)) env >>= tupM))
    (seqS (setO 1 (fun env => (fun env => (fun env => lamM 0 (lamQ "_law_refused_right") (askF 3 1 hd_heard r_heard ((fun env => (fun env => (getv 5) env >>= fun x => (fun env => (getv 5) env >>= fun x => (fun env => (getv 5) env >>= fun x => (fun env => (getv 5) env >>= fun x => (fun _ => pure []) env >>= fun xs => pure (x :: xs)) env >>= fun xs => pure (x :: xs)) env >>= fun xs => pure (x :: xs)) env >>= fun xs => pure (x :: xs)) env >>= G2.p_is_wanted) env))) env >>= fun x => (fun env => (fun env => lamM 0 (lamQ "_law_refused_right") (askF 3 1 hd_heard r_heard ((fun env => (fun env => (getv 3) env >>= fun x => (fun env => (fun _ => pure (D.int 0)) env >>= fun x => (fun env => (fun _ => pure (D.int 0)) env >>= fun x => (fun env => (fun _ => pure (D.int 3)) env >>= fun x => (fun _ => pure []) env >>= fun xs => pure (x :: xs)) env >>= fun xs => pure (x :: xs)) env >>= fun xs => pure (x :: xs)) env >>= fun xs => pure (x :: xs)) env >>= G2.p_is_wanted) env))) env >>= fun x => (fun env => (fun env => lamM 0 (lamQ "_law_refused_right") (askF 3 1 hd_heard r_heard ((fun env => (fun env => (fun _ => pure (D.int 3)) env >>= fun x => (fun env => (getv 5) env >>= fun x => (fun env => (getv 5) env >>= fun x => (fun env => (getv 5) env >>= fun x => (fun _ => pure []) env >>= fun xs => pure (x :: xs)) env >>= fun xs => pure (x :: xs)) env >>= fun xs => pure (x :: xs)) env >>= fun xs => pure (x :: xs)) env >>= G2.p_is_wanted) env))) env >>= fun x => (fun _ => pure []) env >>= fun xs => pure (x :: xs)) env >>= fun xs => pure (x :: xs)) env >>= fun xs => pure (x :: xs)) env >>= small))
    (seqS (extO 1 (fun env => (fun env => (fun env => lamM 0 (lamQ "_law_refused_right") (askF 3 1 hd_heard r_heard ((fun env => (fun env => (fun _ => pure (D.int 3)) env >>= fun x => (fun env => (fun _ => pure (D.int 2)) env >>= fun x => (fun env => (fun _ => pure (D.int 64)) env >>= fun x => (fun env => (fun _ => pure (D.int 3)) env >>= fun x => (fun _ => pure []) env >>= fun xs => pure (x :: xs)) env >>= fun xs => pure (x :: xs)) env >>= fun xs => pure (x :: xs)) env >>= fun xs => pure (x :: xs)) env >>= G2.p_is_wanted) env))) env >>= fun x => (fun env => (fun env => lamM 0 (lamQ "_law_refused_right") (askF 3 1 hd_heard r_heard ((fun env => (fun env => (fun _ => pure (D.int 3)) env >>= fun x => (fun env => (getv 3) env >>= fun x => (fun env => (fun _ => pure (D.int 0)) env >>= fun x => (fun env => (fun _ => pure (D.int 3)) env >>= fun x => (fun _ => pure []) env >>= fun xs => pure (x :: xs)) env >>= fun xs => pure (x :: xs)) env >>= fun xs => pure (x :: xs)) env >>= fun xs => pure (x :: xs)) env >>= G2.p_is_wanted) env))) env >>= fun x => (fun env => (fun env => lamM 0 (lamQ "_law_refused_right") (askF 3 1 hd_heard r_heard ((fun env => (fun env => (fun _ => pure (D.int 3)) env >>= fun x => (fun env => (fun _ => pure (D.int 0)) env >>= fun x => (fun env => (getv 5) env >>= fun x => (fun env => (getv 5) env >>= fun x => (fun _ => pure []) env >>= fun xs => pure (x :: xs)) env >>= fun xs => pure (x :: xs)) env >>= fun xs => pure (x :: xs)) env >>= fun xs => pure (x :: xs)) env >>= G2.p_is_wanted) env))) env >>= fun x => (fun _ => pure []) env >>= fun xs => pure (x :: xs)) env >>= fun xs => pure (x :: xs)) env >>= fun xs => pure (x :: xs)) env >>= listM))
    (seqS (extO 1 (fun env => (fun env => (fun env => lamM 0 (lamQ "_law_refused_right") (askF 3 1 hd_heard r_heard ((fun env => (fun env => (fun _ => pure (D.int 3)) env >>= fun x => (fun env => (fun _ => pure (D.int 0)) env >>= fun x => (fun env => (fun _ => pure (D.int 64)) env >>= fun x => (fun env => (fun _ => pure (D.int 1)) env >>= fun x => (fun _ => pure []) env >>= fun xs => pure (x :: xs)) env >>= fun xs => pure (x :: xs)) env >>= fun xs => pure (x :: xs)) env >>= fun xs => pure (x :: xs)) env >>= G2.p_is_wanted) env))) env >>= fun x => (fun env => (fun env => lamM 0 (lamQ "_law_refused_right") (askF 3 1 hd_heard r_heard ((fun env => (fun env => (fun _ => pure (D.int 3)) env >>= fun x => (fun env => (fun _ => pure (D.int 0)) env >>= fun x => (fun env => (getv 3) env >>= fun x => (fun env => (fun _ => pure (D.int 65)) env >>= fun x => (fun _ => pure []) env >>= fun xs => pure (x :: xs)) env >>= fun xs => pure (x :: xs)) env >>= fun xs => pure (x :: xs)) env >>= fun xs => pure (x :: xs)) env >>= G2.p_is_wanted) env))) env >>= fun x => (fun env => (fun env => lamM 0 (lamQ "_law_refused_right") (askF 3 1 hd_heard r_heard ((fun env => (fun env => (fun _ => pure (D.int 3)) env >>= fun x => (fun env => (fun _ => pure (D.int 0)) env >>= fun x => (fun env => (fun _ => pure (D.int 1)) env >>= fun x => (fun env => (getv 5) env >>= fun x => (fun _ => pure []) env >>= fun xs => pure (x :: xs)) env >>= fun xs => pure (x :: xs)) env >>= fun xs => pure (x :: xs)) env >>= fun xs => pure (x :: xs)) env >>= G2.p_is_wanted) env))) env >>= fun x => (fun _ => pure []) env >>= fun xs => pure (x :: xs)) env >>= fun xs => pure (x :: xs)) env >>= fun xs => pure (x :: xs)) env >>= listM))
    (seqS (setS 4 (fun env => (fun env => (getv 0) env >>= fun x => (fun env => (fun env => (fun env => (fun _ => pure (D.int 1)) env >>= fun x => (fun env => (fun _ => pure (D.int 0)) env >>= fun x => (fun env => (fun env => (fun _ => pure (D.int 3)) env >>= negM) env >>= fun x => (fun env => (fun _ => pure (D.int 65)) env >>= fun x => (fun env => (fun env => (fun _ => pure (D.int 10)) env >>= fun x => (fun _ => pure (D.int 20)) env >>= fun y => powM x y) env >>= fun x => (fun _ => pure []) env >>= fun xs => pure (x :: xs)) env >>= fun xs => pure (x :: xs)) env >>= fun xs => pure (x :: xs)) env >>= fun xs => pure (x :: xs)) env >>= fun xs => pure (x :: xs)) env >>= listM) env >>= fun x => (fun _ => pure []) env >>= fun xs => pure (x :: xs)) env >>= fun xs => pure (x :: xs)) env >>= G.one_of))
    (seqS (extO 1 (fun env => (fun env => (fun env => lamM 0 (lamQ "_law_refused_right") (askF 3 1 hd_heard r_heard ((fun env => (fun env => (fun _ => pure (D.int 3)) env >>= fun x => (fun env => (fun _ => pure (D.int 0)) env >>= fun x => (fun env => (fun _ => pure (D.int 63)) env >>= fun x => (fun env => (getv 4) env >>= fun x => (fun _ => pure []) env >>= fun xs => pure (x :: xs)) env >>= fun xs => pure (x :: xs)) env >>= fun xs => pure (x :: xs)) env >>= fun xs => pure (x :: xs)) env >>= G2.p_is_wanted) env))) env >>= fun x => (fun env => (fun env => lamM 0 (lamQ "_law_refused_right") (askF 3 1 hd_heard r_heard ((fun env => (fun env => (fun _ => pure (D.int 3)) env >>= fun x => (fun env => (fun _ => pure (D.int 0)) env >>= fun x => (fun env => (fun _ => pure (D.int 63)) env >>= fun x => (fun env => (fun _ => pure (D.int 63)) env >>= fun x => (fun _ => pure []) env >>= fun xs => pure (x :: xs)) env >>= fun xs => pure (x :: xs)) env >>= fun xs => pure (x :: xs)) env >>= fun xs => pure (x :: xs)) env >>= G2.p_is_wanted) env))) env >>= fun x => (fun env => (fun env => lamM 0 (lamQ "_law_refused_right") (askF 3 1 hd_heard r_heard ((fun env => (fun env => (fun _ => pure (D.int 3)) env >>= fun x => (fun env => (fun _ => pure (D.int 1)) env >>= fun x => (fun env => (fun _ => pure (D.int 2)) env >>= fun x => (fun env => (fun _ => pure (D.int 2)) env >>= fun x => (fun _ => pure []) env >>= fun xs => pure (x :: xs)) env >>= fun xs => pure (x :: xs)) env >>= fun xs => pure (x :: xs)) env >>= fun xs => pure (x :: xs)) env >>= G2.p_is_wanted) env))) env >>= fun x => (fun _ => pure []) env >>= fun xs => pure (x :: xs)) env >>= fun xs => pure (x :: xs)) env >>= fun xs => pure (x :: xs)) env >>= listM))
    (seqS (setS 2 (fun env => (fun env => (fun env => (fun env => (fun env => (fun env => (fun env => (fun env => (fun env => (fun _ => pure (D.str "number")) env >>= fun x => (fun env => (fun _ => pure (D.str "done")) env >>= fun x => (fun _ => pure []) env >>= fun xs => pure (x :: xs)) env >>= fun xs => pure (x :: xs)) env >>= listM) env >>= fun x => (fun _ => pure []) env >>= fun xs => pure (x :: xs)) env >>= listM) env >>= fun x => (fun _ => pure (D.int 2)) env >>= fun y => mulX x y) env >>= fun x => (fun env => (fun env => (fun env => (fun env => (fun env => (fun _ => pure (D.str "number")) env >>= fun x => (fun env => (fun _ => pure (D.str "has")) env >>= fun x => (fun _ => pure []) env >>= fun xs => pure (x :: xs)) env >>= fun xs => pure (x :: xs)) env >>= listM) env >>= fun x => (fun _ => pure []) env >>= fun xs => pure (x :: xs)) env >>= listM) env >>= fun x => (fun _ => pure (D.int 3)) env >>= fun y => mulX x y) env >>= fun y => addM x y) env >>= fun x => (fun env => (fun env => (fun env => (fun env => (fun env => (fun _ => pure (D.str "number")) env >>= fun x => (fun env => (fun _ => pure (D.str "number")) env >>= fun x => (fun _ => pure []) env >>= fun xs => pure (x :: xs)) env >>= fun xs => pure (x :: xs)) env >>= listM) env >>= fun x => (fun _ => pure []) env >>= fun xs => pure (x :: xs)) env >>= listM) env >>= fun x => (fun _ => pure (D.int 3)) env >>= fun y => mulX x y) env >>= fun y => addM x y) env >>= fun x => (fun env => (fun env => (fun env => (fun env => (fun env => (fun _ => pure (D.str "number")) env >>= fun x => (fun env => (fun _ => pure (D.str "m")) env >>= fun x => (fun _ => pure []) env >>= fun xs => pure (x :: xs)) env >>= fun xs => pure (x :: xs)) env >>= listM) env >>= fun x => (fun _ => pure []) env >>= fun xs => pure (x :: xs)) env >>= listM) env >>= fun x => (fun _ => pure (D.int 2)) env >>= fun y => mulX x y) env >>= fun y => addM x y) env >>= fun x => (fun env => (fun env => (fun env => (fun env => (fun env => (fun _ => pure (D.str "misfit")) env >>= fun x => (fun env => (fun _ => pure (D.str "number")) env >>= fun x => (fun _ => pure []) env >>= fun xs => pure (x :: xs)) env >>= fun xs => pure (x :: xs)) env >>= listM) env >>= fun x => (fun _ => pure []) env >>= fun xs => pure (x :: xs)) env >>= listM) env >>= fun x => (fun _ => pure (D.int 2)) env >>= fun y => mulX x y) env >>= fun y => addM x y))
    (fun env => (retS (fun env => (getb 1) env >>= fun x => (getv 2) env >>= fun y => eqM x y)) (frz 1 env)))))))))
def m_p_law (G G2 : Fns) : MS := (seqS (setS 1 (fun env => (fun env => (getv 0) env >>= fun x => (fun _ => pure []) env >>= fun xs => pure (x :: xs)) env >>= G.pen))
    (seqS (forR1 (tgN 2) (ifS (fun env => (fun env => (fun env => (fun env => (fun env => (getv 1) env >>= fun x => (fun _ => pure []) env >>= fun xs => pure (x :: xs)) env >>= G.all_right) env >>= asB) env >>= fun k => pure (!k)) env >>= fun k => if k = true then pure true else (fun env => (fun env => (fun env => (fun env => (getv 1) env >>= fun x => (fun _ => pure []) env >>= fun xs => pure (x :: xs)) env >>= G.elder_right) env >>= asB) env >>= fun k => pure (!k)) env) (retS (fun _ => pure (D.bool false))) skipS) (fun env => (fun _ => pure (D.int 4)) env >>= fun x => (fun _ => pure []) env >>= fun xs => pure (x :: xs)))
    (retS (fun env => (fun env => (fun env => (fun env => (fun _ => pure c_ROWS) env >>= fun x => (fun _ => pure []) env >>= fun xs => pure (x :: xs)) env >>= one reprM) env >>= fun x => (fun env => (fun env => (fun env => (fun env => (fun _ => pure (D.int 0)) env >>= fun x => (fun env => (fun _ => pure (D.int 1)) env >>= fun x => (fun env => (fun _ => pure (D.int 2)) env >>= fun x => (fun env => (fun _ => pure (D.int 3)) env >>= fun x => (fun env => (fun _ => pure (D.int 4)) env >>= fun x => (fun env => (fun _ => pure (D.int 5)) env >>= fun x => (fun env => (fun _ => pure (D.int 6)) env >>= fun x => (fun env => (fun _ => pure (D.int 7)) env >>= fun x => (fun _ => pure []) env >>= fun xs => pure (x :: xs)) env >>= fun xs => pure (x :: xs)) env >>= fun xs => pure (x :: xs)) env >>= fun xs => pure (x :: xs)) env >>= fun xs => pure (x :: xs)) env >>= fun xs => pure (x :: xs)) env >>= fun xs => pure (x :: xs)) env >>= fun xs => pure (x :: xs)) env >>= tupM) env >>= fun x => (fun _ => pure []) env >>= fun xs => pure (x :: xs)) env >>= one reprM) env >>= fun y => eqM x y) env >>= fun x => ifB x ((fun env => (fun env => (getv 1) env >>= fun x => (fun _ => pure []) env >>= fun xs => pure (x :: xs)) env >>= G.refused_right) env) (pure (D.bool false))))))
def fns0 : Fns := ⟨fun _ => Mstuck, fun _ => Mstuck, fun _ => Mstuck, fun _ => Mstuck, fun _ => Mstuck, fun _ => Mstuck, fun _ => Mstuck, fun _ => Mstuck, fun _ => Mstuck, fun _ => Mstuck, fun _ => Mstuck, fun _ => Mstuck⟩
def fns : Nat → Fns
  | 0 => fns0
  | 1 => fns0
  | 2 => fns0
  | k + 3 => ⟨runF 1 1 (m_p_is_integer (fns (k + 2)) (fns k)), runF 3 3 (m_p_is_within (fns (k + 2)) (fns k)), runF 4 4 (m_p_need_number (fns (k + 2)) (fns k)), runF 1 1 (m_p_need_m (fns (k + 2)) (fns k)), runF 4 4 (m_p_is_wanted (fns (k + 2)) (fns k)), runF 2 1 (m_pen (fns (k + 2)) (fns k)), runF 6 2 (m_draw (fns (k + 2)) (fns k)), runF 2 2 (m_one_of (fns (k + 2)) (fns k)), runF 7 1 (m_all_right (fns (k + 2)) (fns k)), runF 6 1 (m_elder_right (fns (k + 2)) (fns k)), runF 6 1 (m_refused_right (fns (k + 2)) (fns k)), runF 3 1 (m_p_law (fns (k + 2)) (fns k))⟩
theorem sc_p_is_integer : FnScope ["value"] ["value"] (defScope s_p_is_integer) := ⟨rfl, rfl, rfl, by decide +kernel, rfl, by decide +kernel, by decide +kernel⟩
theorem ar_p_is_integer : ∀ k, Ar 1 (fns k).p_is_integer
  | 0 => ar_stuck
  | 1 => ar_stuck
  | 2 => ar_stuck
  | _ + 3 => ar_run
theorem sc_p_is_within : FnScope ["value", "least", "most"] ["value", "least", "most"] (defScope s_p_is_within) := ⟨rfl, rfl, rfl, by decide +kernel, rfl, by decide +kernel, by decide +kernel⟩
theorem ar_p_is_within : ∀ k, Ar 3 (fns k).p_is_within
  | 0 => ar_stuck
  | 1 => ar_stuck
  | 2 => ar_stuck
  | _ + 3 => ar_run
theorem sc_p_need_number : FnScope ["value", "part", "least", "most"] ["value", "part", "least", "most"] (defScope s_p_need_number) := ⟨rfl, rfl, rfl, by decide +kernel, rfl, by decide +kernel, by decide +kernel⟩
theorem ar_p_need_number : ∀ k, Ar 4 (fns k).p_need_number
  | 0 => ar_stuck
  | 1 => ar_stuck
  | 2 => ar_stuck
  | _ + 3 => ar_run
theorem sc_p_need_m : FnScope ["value"] ["value"] (defScope s_p_need_m) := ⟨rfl, rfl, rfl, by decide +kernel, rfl, by decide +kernel, by decide +kernel⟩
theorem ar_p_need_m : ∀ k, Ar 1 (fns k).p_need_m
  | 0 => ar_stuck
  | 1 => ar_stuck
  | 2 => ar_stuck
  | _ + 3 => ar_run
theorem sc_p_is_wanted : FnScope ["done", "has", "number", "m"] ["done", "has", "number", "m"] (defScope s_p_is_wanted) := ⟨rfl, rfl, rfl, by decide +kernel, rfl, by decide +kernel, by decide +kernel⟩
theorem ar_p_is_wanted : ∀ k, Ar 4 (fns k).p_is_wanted
  | 0 => ar_stuck
  | 1 => ar_stuck
  | 2 => ar_stuck
  | _ + 3 => ar_run
theorem sc_pen : FnScope ["_law_script", "_law_cell"] ["_law_script"] (defScope s_pen) := ⟨rfl, rfl, rfl, by decide +kernel, rfl, by decide +kernel, by decide +kernel⟩
theorem ar_pen : ∀ k, Ar 1 (fns k).pen
  | 0 => ar_stuck
  | 1 => ar_stuck
  | 2 => ar_stuck
  | _ + 3 => ar_run
theorem sc_draw : FnScope ["_law_pen_here", "_law_many", "_law_rest", "_law_at", "_law_cell", "_law_mixed"] ["_law_pen_here", "_law_many"] (defScope s_draw) := ⟨rfl, rfl, rfl, by decide +kernel, rfl, by decide +kernel, by decide +kernel⟩
theorem ar_draw : ∀ k, Ar 2 (fns k).draw
  | 0 => ar_stuck
  | 1 => ar_stuck
  | 2 => ar_stuck
  | _ + 3 => ar_run
theorem sc_one_of : FnScope ["_law_pen_here", "_law_some"] ["_law_pen_here", "_law_some"] (defScope s_one_of) := ⟨rfl, rfl, rfl, by decide +kernel, rfl, by decide +kernel, by decide +kernel⟩
theorem ar_one_of : ∀ k, Ar 2 (fns k).one_of
  | 0 => ar_stuck
  | 1 => ar_stuck
  | 2 => ar_stuck
  | _ + 3 => ar_run
theorem sc_all_right : FnScope ["_law_pen_here", "_law_m", "_law_done", "_law_has", "_law_told", "_law_due", "_law_number"] ["_law_pen_here"] (defScope s_all_right) := ⟨rfl, rfl, rfl, by decide +kernel, rfl, by decide +kernel, by decide +kernel⟩
theorem ar_all_right : ∀ k, Ar 1 (fns k).all_right
  | 0 => ar_stuck
  | 1 => ar_stuck
  | 2 => ar_stuck
  | _ + 3 => ar_run
theorem sc_elder_right : FnScope ["_law_pen_here", "_law_late", "_law_least", "_law_m", "_law_done", "_law_turn"] ["_law_pen_here"] (defScope s_elder_right) := ⟨rfl, rfl, rfl, by decide +kernel, rfl, by decide +kernel, by decide +kernel⟩
theorem ar_elder_right : ∀ k, Ar 1 (fns k).elder_right
  | 0 => ar_stuck
  | 1 => ar_stuck
  | 2 => ar_stuck
  | _ + 3 => ar_run
theorem sc_refused_right : FnScope ["_law_pen_here", "_law_heard_here", "_law_due", "_law_both", "_law_low", "_law_odd"] ["_law_pen_here"] (defScope s_refused_right) := ⟨rfl, rfl, rfl, by decide +kernel, rfl, by decide +kernel, by decide +kernel⟩
theorem ar_refused_right : ∀ k, Ar 1 (fns k).refused_right
  | 0 => ar_stuck
  | 1 => ar_stuck
  | 2 => ar_stuck
  | _ + 3 => ar_run
theorem sc_p_law : FnScope ["_law_script", "_law_pen_here", "_law_turn"] ["_law_script"] (defScope s_p_law) := ⟨rfl, rfl, rfl, by decide +kernel, rfl, by decide +kernel, by decide +kernel⟩
theorem ar_p_law : ∀ k, Ar 1 (fns k).p_law
  | 0 => ar_stuck
  | 1 => ar_stuck
  | 2 => ar_stuck
  | _ + 3 => ar_run
theorem u_p_is_integer (k : Nat) : (fns (k + 3)).p_is_integer = runF 1 1 (m_p_is_integer (fns (k + 2)) (fns k)) := rfl
theorem u_p_is_within (k : Nat) : (fns (k + 3)).p_is_within = runF 3 3 (m_p_is_within (fns (k + 2)) (fns k)) := rfl
theorem u_p_need_number (k : Nat) : (fns (k + 3)).p_need_number = runF 4 4 (m_p_need_number (fns (k + 2)) (fns k)) := rfl
theorem u_p_need_m (k : Nat) : (fns (k + 3)).p_need_m = runF 1 1 (m_p_need_m (fns (k + 2)) (fns k)) := rfl
theorem u_p_is_wanted (k : Nat) : (fns (k + 3)).p_is_wanted = runF 4 4 (m_p_is_wanted (fns (k + 2)) (fns k)) := rfl
theorem u_pen (k : Nat) : (fns (k + 3)).pen = runF 2 1 (m_pen (fns (k + 2)) (fns k)) := rfl
theorem u_draw (k : Nat) : (fns (k + 3)).draw = runF 6 2 (m_draw (fns (k + 2)) (fns k)) := rfl
theorem u_one_of (k : Nat) : (fns (k + 3)).one_of = runF 2 2 (m_one_of (fns (k + 2)) (fns k)) := rfl
theorem u_all_right (k : Nat) : (fns (k + 3)).all_right = runF 7 1 (m_all_right (fns (k + 2)) (fns k)) := rfl
theorem u_elder_right (k : Nat) : (fns (k + 3)).elder_right = runF 6 1 (m_elder_right (fns (k + 2)) (fns k)) := rfl
theorem u_refused_right (k : Nat) : (fns (k + 3)).refused_right = runF 6 1 (m_refused_right (fns (k + 2)) (fns k)) := rfl
theorem u_p_law (k : Nat) : (fns (k + 3)).p_law = runF 3 1 (m_p_law (fns (k + 2)) (fns k)) := rfl
theorem sc_heard : FnScope ["_law_ask", "_law_caught", "error"] ["_law_ask"] (defScope s_heard) := ⟨rfl, rfl, rfl, by decide +kernel, rfl, by decide +kernel, by decide +kernel⟩
/-- what the top has left -/
structure Mods (P : Program) (K : PySem.W.Frag) (mg : Str → Option Value) where
  f_p_is_integer : Addr
  d_p_is_integer : FuncData
  F_p_is_integer : Fun K "is_integer" "is_integer" s_p_is_integer f_p_is_integer d_p_is_integer
  b_p_is_integer : Binds K d_p_is_integer ["value"] []
  g_p_is_integer : mg "is_integer" = some (.ref f_p_is_integer)
  f_p_is_within : Addr
  d_p_is_within : FuncData
  F_p_is_within : Fun K "is_within" "is_within" s_p_is_within f_p_is_within d_p_is_within
  b_p_is_within : Binds K d_p_is_within ["value", "least", "most"] []
  g_p_is_within : mg "is_within" = some (.ref f_p_is_within)
  f_p_need_number : Addr
  d_p_need_number : FuncData
  F_p_need_number : Fun K "need_number" "need_number" s_p_need_number f_p_need_number d_p_need_number
  b_p_need_number : Binds K d_p_need_number ["value", "part", "least", "most"] []
  g_p_need_number : mg "need_number" = some (.ref f_p_need_number)
  f_p_need_m : Addr
  d_p_need_m : FuncData
  F_p_need_m : Fun K "need_m" "need_m" s_p_need_m f_p_need_m d_p_need_m
  b_p_need_m : Binds K d_p_need_m ["value"] []
  g_p_need_m : mg "need_m" = some (.ref f_p_need_m)
  f_p_is_wanted : Addr
  d_p_is_wanted : FuncData
  F_p_is_wanted : Fun K "is_wanted" "is_wanted" s_p_is_wanted f_p_is_wanted d_p_is_wanted
  b_p_is_wanted : Binds K d_p_is_wanted ["done", "has", "number", "m"] []
  g_p_is_wanted : mg "is_wanted" = some (.ref f_p_is_wanted)
  f_pen : Addr
  d_pen : FuncData
  F_pen : Fun K "_law_pen" "_law_pen" s_pen f_pen d_pen
  b_pen : Binds K d_pen ["_law_script"] []
  g_pen : mg "_law_pen" = some (.ref f_pen)
  f_draw : Addr
  d_draw : FuncData
  F_draw : Fun K "_law_draw" "_law_draw" s_draw f_draw d_draw
  b_draw : Binds K d_draw ["_law_pen_here", "_law_many"] []
  g_draw : mg "_law_draw" = some (.ref f_draw)
  f_one_of : Addr
  d_one_of : FuncData
  F_one_of : Fun K "_law_one_of" "_law_one_of" s_one_of f_one_of d_one_of
  b_one_of : Binds K d_one_of ["_law_pen_here", "_law_some"] []
  g_one_of : mg "_law_one_of" = some (.ref f_one_of)
  f_all_right : Addr
  d_all_right : FuncData
  F_all_right : Fun K "_law_all_right" "_law_all_right" s_all_right f_all_right d_all_right
  b_all_right : Binds K d_all_right ["_law_pen_here"] []
  g_all_right : mg "_law_all_right" = some (.ref f_all_right)
  f_elder_right : Addr
  d_elder_right : FuncData
  F_elder_right : Fun K "_law_elder_right" "_law_elder_right" s_elder_right f_elder_right d_elder_right
  b_elder_right : Binds K d_elder_right ["_law_pen_here"] []
  g_elder_right : mg "_law_elder_right" = some (.ref f_elder_right)
  f_refused_right : Addr
  d_refused_right : FuncData
  F_refused_right : Fun K "_law_refused_right" "_law_refused_right" s_refused_right f_refused_right d_refused_right
  b_refused_right : Binds K d_refused_right ["_law_pen_here"] []
  g_refused_right : mg "_law_refused_right" = some (.ref f_refused_right)
  f_p_law : Addr
  d_p_law : FuncData
  F_p_law : Fun K "law" "law" s_p_law f_p_law d_p_law
  b_p_law : Binds K d_p_law ["_law_script"] []
  g_p_law : mg "law" = some (.ref f_p_law)
  f_heard : Addr
  d_heard : FuncData
  F_heard : Fun K "_law_heard" "_law_heard" s_heard f_heard d_heard
  b_heard : Binds K d_heard ["_law_ask"] []
  g_heard : mg "_law_heard" = some (.ref f_heard)
  kb_p_is_wanted_0_m_number_has_done : KBindG K d_p_is_wanted ["done", "has", "number", "m"] ["m", "number", "has", "done"] ko_p_is_wanted_0_m_number_has_done
  z_isinstance : mg "isinstance" = none
  z_int : mg "int" = none
  z_bool : mg "bool" = none
  z_len : mg "len" = none
  z_abs : mg "abs" = none
  z_range : mg "range" = none
  z_repr : mg "repr" = none
  z_min : mg "min" = none
  z_sum : mg "sum" = none
  c_LEAST_M : GC K mg "LEAST_M" c_LEAST_M
  c_MOST_M : GC K mg "MOST_M" c_MOST_M
  c_ROWS : GC K mg "ROWS" c_ROWS
  C_BadNumber : Addr
  g_BadNumber : mg "BadNumber" = some (.ref C_BadNumber)
  C_Misfit : Addr
  g_Misfit : mg "Misfit" = some (.ref C_Misfit)
  C_WeatherError : Addr
  g_WeatherError : mg "WeatherError" = some (.ref C_WeatherError)
  e_BadNumber : ErrC P K mg "BadNumber" ["part"] C_BadNumber
  e_Misfit : ErrC P K mg "Misfit" ["part"] C_Misfit
  x_BadNumber_WeatherError : PySem.W.exmOne K (.ref C_BadNumber) (.ref C_WeatherError) = some true
  x_Misfit_WeatherError : PySem.W.exmOne K (.ref C_Misfit) (.ref C_WeatherError) = some true
  kl_BadNumber_Misfit : KlF K mg raisedC [] subT [.own "BadNumber", .own "Misfit"]
  kl_BadNumber : KlF K mg raisedC [] subT [.own "BadNumber"]
  xf_part : XldC K mg "part" ["BadNumber", "Misfit"]
  cd_refused_right : Addr
  P_refused_right : Addr
  tc_refused_right : d_refused_right.code = .ref cd_refused_right
  ti_refused_right : TabIs ⟨K, mg⟩ (lamQ "_law_refused_right") P_refused_right
structure TabZ {P : Program} {K : PySem.W.Frag} {mg : Str → Option Value} (base : Heap) (Z : Mods P K mg) : Prop where
  tb_refused_right : LamX.TabB base mg Z.cd_refused_right Z.P_refused_right
end K35

set_option Elab.async false
set_option linter.all false
set_option maxRecDepth 100000
set_option maxHeartbeats 4000000
namespace K35
open PySem PySem.Spec PyProof.Rows L2 Sm
section
variable {P : Program} {w : World} {K : PySem.W.Frag} {mg : Str → Option Value} {base : Heap} {k : Nat}
structure Ok (P : Program) (w : World) {K : PySem.W.Frag} {mg : Str → Option Value} (base : Heap) (Z : Mods P K mg) (k : Nat) : Prop where
  p_is_integer : FnG P w K mg base k Z.f_p_is_integer Z.d_p_is_integer ["value"] (spS ⟨K, mg⟩ 1 (fns k).p_is_integer)
  p_is_within : FnG P w K mg base k Z.f_p_is_within Z.d_p_is_within ["value", "least", "most"] (spS ⟨K, mg⟩ 3 (fns k).p_is_within)
  p_need_number : FnG P w K mg base k Z.f_p_need_number Z.d_p_need_number ["value", "part", "least", "most"] (spS ⟨K, mg⟩ 4 (fns k).p_need_number)
  p_need_m : FnG P w K mg base k Z.f_p_need_m Z.d_p_need_m ["value"] (spS ⟨K, mg⟩ 1 (fns k).p_need_m)
  p_is_wanted : FnG P w K mg base k Z.f_p_is_wanted Z.d_p_is_wanted ["done", "has", "number", "m"] (spS ⟨K, mg⟩ 4 (fns k).p_is_wanted)
  pen : FnG P w K mg base k Z.f_pen Z.d_pen ["_law_script"] (spS ⟨K, mg⟩ 1 (fns k).pen)
  draw : FnG P w K mg base k Z.f_draw Z.d_draw ["_law_pen_here", "_law_many"] (spS ⟨K, mg⟩ 2 (fns k).draw)
  one_of : FnG P w K mg base k Z.f_one_of Z.d_one_of ["_law_pen_here", "_law_some"] (spS ⟨K, mg⟩ 2 (fns k).one_of)
  all_right : FnG P w K mg base k Z.f_all_right Z.d_all_right ["_law_pen_here"] (spS ⟨K, mg⟩ 1 (fns k).all_right)
  elder_right : FnG P w K mg base k Z.f_elder_right Z.d_elder_right ["_law_pen_here"] (spS ⟨K, mg⟩ 1 (fns k).elder_right)
  refused_right : FnG P w K mg base k Z.f_refused_right Z.d_refused_right ["_law_pen_here"] (spS ⟨K, mg⟩ 1 (fns k).refused_right)
  p_law : FnG P w K mg base k Z.f_p_law Z.d_p_law ["_law_script"] (spS ⟨K, mg⟩ 1 (fns k).p_law)
theorem lam_heard {X : Cx} {W : WX} {bw : Bool} (Z : Mods X.prog X.K X.mg) {c Q : Addr} {id : Nat} {params : Arguments} {body : Expr} {scope : Scope} {mb : Sm.Env → M D} {p lpos pos : Pos} (hg : Gl X "_law_heard") (TB : LamX.TabB X.base X.mg c Q) (hcode : X.env.code = .ref c) (hTI : TabIs (Cx.g X) (X.env.qual ++ "<lambda>") Q)
    (hr : RoomG (k + 2) X.A) (tk : Takes X W) (L : LamX.LamS X.env.scope scope) (hdef : defaultsOf params X.env = ([], [])) (hbind : ∀ (q : Str) (cl : List (Str × Addr)) (pm cv ctv : Value), bindArgs (PySem.W.kla_fn "<lambda>" q params body scope cl pm cv ctv) ⟨[], []⟩ = pure [])
    (hbody : ∀ (A : Around) (outer : List PySem.Env) (s : Shared) (H : Hp) (E : XK) (f c' : Addr), RoomG k (A.deeper (LamX.lamEnv X scope s.heap.objs.size f c')) → SE (LamX.lamCx X A outer s H E scope f c') (wE E) true body mb) :
    SE X W bw (.Call (.Name "_law_heard" p) [.Lambda params body scope lpos] [] pos) (fun env => lamM id (X.env.qual ++ "<lambda>") (askF 3 1 hd_heard r_heard (mb env))) := by
  obtain ⟨oc, od, kV, doc, pm, an, cdv, ct, osl, hfd, hlk, hcg⟩ := Z.F_heard.ex
  have hb := Z.b_heard
  have nd := sc_heard.nd
  rw [hfd] at hlk hb
  exact se_lam hg Z.g_heard Z.F_heard.kp hlk hcg hb sc_heard rfl (.inl rfl) (by decide) (fun s H E => PS.imp (ps_set (i := 1) nd rfl (.inl rfl) pe_non) fun D σ H h => h)
    (fun s H E => (.some (i := 2) ⟨rfl, rfl, .inl Z.g_WeatherError⟩ (hi_cons Z.g_BadNumber Z.x_BadNumber_WeatherError (hi_cons Z.g_Misfit Z.x_Misfit_WeatherError hi_nil)) rfl nd rfl rfl (fun a pn => (sss_one (ss_asg (fun t h => ps_set (i := 1) nd rfl (.inl rfl) h) (se_var (pv 2))))) .nil))
    (fun s H E hr => have tk := takes_of (X := askCx X ["_law_ask", "_law_caught", "error"] "_law_heard" (defScope s_heard) Z.f_heard cdv s H E) (E := E) rfl rfl rfl rfl; (sss_cons (ss_if (st_val (se_isoT (cvs := [.ref Z.C_BadNumber, .ref Z.C_Misfit]) Z.kl_BadNumber_Misfit (by decide) rfl Z.z_isinstance bt_isinstance (pa_cons (pe_glob (v := .ref Z.C_BadNumber) (by exact rfl) Z.g_BadNumber rfl) (pa_cons (pe_glob (v := .ref Z.C_Misfit) (by exact rfl) Z.g_Misfit rfl) pa_nil)) (.cons (.own _) (.cons (.own _) .nil)) (.cons ⟨_, Z.g_BadNumber, rfl⟩ (.cons ⟨_, Z.g_Misfit, rfl⟩ .nil)) (se_var (pv 1)))) (sss_one (ss_ret (se_lst (sa_cons (se_if (st_val (se_iso Z.kl_BadNumber rfl Z.z_isinstance bt_isinstance (pe_glob (v := .ref Z.C_BadNumber) rfl Z.g_BadNumber rfl) (.own _) ⟨_, Z.g_BadNumber, rfl⟩ (se_var (pv 1)))) se_str se_str) (sa_cons (se_xld Z.xf_part (se_var (pv 1))) sa_nil))))) sss_nil)
    (sss_one (ss_ret (se_if (st_cmp op_isM (se_var (pv 1)) se_non (nomark _)) se_non (se_lst (sa_cons se_str (sa_cons se_non sa_nil)))))))) TB hcode hTI hr tk L hdef hbind hbody
theorem lamD_heard {X : Cx} {W : WX} {bw : Bool} (Z : Mods X.prog X.K X.mg) {c Q : Addr} {id : Nat} {params : Arguments} {body : Expr} {scope : Scope} {mb : Sm.Env → M D} {p lpos pos : Pos} {y0 : Str} {de : Expr} (hg : Gl X "_law_heard") (TB : LamX.TabB X.base X.mg c Q) (hcode : X.env.code = .ref c) (hTI : TabIs (Cx.g X) (X.env.qual ++ "<lambda>") Q)
    (hr : RoomG (k + 2) X.A) (tk : Takes X W) (L : LamD X.N y0 X.env.scope scope) (hdef : defaultsOf params X.env = (evalEach [de] X.env, [])) (hdc : de.isPlainConst = true) (hbind : ∀ (q : Str) (cl : List (Str × Addr)) (pm cv ctv : Value) (dt : Addr) (u : Value), ∃ kk, bindArgs (dFn q params body scope cl (.ref dt) pm cv ctv) ⟨[], []⟩ = seqItems? (.ref dt) >>= kk ∧ kk (some #[u]) = pure [(y0, u)])
    (hbody : ∀ (A : Around) (outer : List PySem.Env) (s : Shared) (H : Hp) (E : XK) (f c' : Addr), RoomG k (A.deeper (LamX.lamEnv X scope s.heap.objs.size f c')) → SE (LamX.lamCx X A outer s H E scope f c') (wE E) true body mb) :
    SE X W bw (.Call (.Name "_law_heard" p) [.Lambda params body scope lpos] [] pos) (fun env => lamM id (X.env.qual ++ "<lambda>") (askF 3 1 hd_heard r_heard (mb env))) := by
  obtain ⟨oc, od, kV, doc, pm, an, cdv, ct, osl, hfd, hlk, hcg⟩ := Z.F_heard.ex
  have hb := Z.b_heard
  have nd := sc_heard.nd
  rw [hfd] at hlk hb
  exact se_lamD hg Z.g_heard Z.F_heard.kp hlk hcg hb sc_heard rfl (.inl rfl) (by decide) (fun s H E => PS.imp (ps_set (i := 1) nd rfl (.inl rfl) pe_non) fun D σ H h => h)
    (fun s H E => (.some (i := 2) ⟨rfl, rfl, .inl Z.g_WeatherError⟩ (hi_cons Z.g_BadNumber Z.x_BadNumber_WeatherError (hi_cons Z.g_Misfit Z.x_Misfit_WeatherError hi_nil)) rfl nd rfl rfl (fun a pn => (sss_one (ss_asg (fun t h => ps_set (i := 1) nd rfl (.inl rfl) h) (se_var (pv 2))))) .nil))
    (fun s H E hr => have tk := takes_of (X := askCx X ["_law_ask", "_law_caught", "error"] "_law_heard" (defScope s_heard) Z.f_heard cdv s H E) (E := E) rfl rfl rfl rfl; (sss_cons (ss_if (st_val (se_isoT (cvs := [.ref Z.C_BadNumber, .ref Z.C_Misfit]) Z.kl_BadNumber_Misfit (by decide) rfl Z.z_isinstance bt_isinstance (pa_cons (pe_glob (v := .ref Z.C_BadNumber) (by exact rfl) Z.g_BadNumber rfl) (pa_cons (pe_glob (v := .ref Z.C_Misfit) (by exact rfl) Z.g_Misfit rfl) pa_nil)) (.cons (.own _) (.cons (.own _) .nil)) (.cons ⟨_, Z.g_BadNumber, rfl⟩ (.cons ⟨_, Z.g_Misfit, rfl⟩ .nil)) (se_var (pv 1)))) (sss_one (ss_ret (se_lst (sa_cons (se_if (st_val (se_iso Z.kl_BadNumber rfl Z.z_isinstance bt_isinstance (pe_glob (v := .ref Z.C_BadNumber) rfl Z.g_BadNumber rfl) (.own _) ⟨_, Z.g_BadNumber, rfl⟩ (se_var (pv 1)))) se_str se_str) (sa_cons (se_xld Z.xf_part (se_var (pv 1))) sa_nil))))) sss_nil)
    (sss_one (ss_ret (se_if (st_cmp op_isM (se_var (pv 1)) se_non (nomark _)) se_non (se_lst (sa_cons se_str (sa_cons se_non sa_nil)))))))) TB hcode hTI hr tk L hdef hdc hbind hbody
theorem ok_p_is_integer (Z : Mods P K mg) (T : TabZ base Z) (G : Ok P w base Z (k + 2)) (G2 : Ok P w base Z k) : FnG P w K mg base (k + 3) Z.f_p_is_integer Z.d_p_is_integer ["value"] (spS ⟨K, mg⟩ 1 (fns (k + 3)).p_is_integer) := fn_sim Z.F_p_is_integer sc_p_is_integer (by decide) fun cdv hcd A outer s H E hr =>
  have nd := sc_p_is_integer.nd
  have tk := takes_of (X := bodyCx P w K mg base ["value"] "is_integer" s_p_is_integer Z.f_p_is_integer cdv A outer s H E) (E := E) rfl rfl rfl rfl
  have po := passes_of (X := bodyCx P w K mg base ["value"] "is_integer" s_p_is_integer Z.f_p_is_integer cdv A outer s H E) rfl
  (sss_one (ss_ret (se_and (se_isi (T := .int) (by decide) rfl Z.z_isinstance bt_isinstance (pe_bltn rfl Z.z_int bt_int rfl) (se_var (pv 0))) (se_one (se_not (se_isi (T := .bool) (by decide) rfl Z.z_isinstance bt_isinstance (pe_bltn rfl Z.z_bool bt_bool rfl) (se_var (pv 0))))))))
theorem ok_p_is_within (Z : Mods P K mg) (T : TabZ base Z) (G : Ok P w base Z (k + 2)) (G2 : Ok P w base Z k) : FnG P w K mg base (k + 3) Z.f_p_is_within Z.d_p_is_within ["value", "least", "most"] (spS ⟨K, mg⟩ 3 (fns (k + 3)).p_is_within) := fn_sim Z.F_p_is_within sc_p_is_within (by decide) fun cdv hcd A outer s H E hr =>
  have nd := sc_p_is_within.nd
  have tk := takes_of (X := bodyCx P w K mg base ["value", "least", "most"] "is_within" s_p_is_within Z.f_p_is_within cdv A outer s H E) (E := E) rfl rfl rfl rfl
  have po := passes_of (X := bodyCx P w K mg base ["value", "least", "most"] "is_within" s_p_is_within Z.f_p_is_within cdv A outer s H E) rfl
  (sss_cons (ss_if (st_not (st_val (se_call G.p_is_integer (ar_p_is_integer _) hr rfl Z.g_p_is_integer Z.F_p_is_integer.kp Z.b_p_is_integer tk (sa_cons (se_var (pv 0)) sa_nil)))) (sss_one (ss_ret se_bl)) sss_nil)
    (sss_one (ss_ret (se_and (se_or (se_cmp op_isM (se_var (pv 1)) se_non (nomark _)) (se_one (se_cmp op_geM (se_var (pv 0)) (se_var (pv 1)) (nomark _)))) (se_one (se_or (se_cmp op_isM (se_var (pv 2)) se_non (nomark _)) (se_one (se_cmp op_leM (se_var (pv 0)) (se_var (pv 2)) (nomark _)))))))))
theorem ok_p_need_number (Z : Mods P K mg) (T : TabZ base Z) (G : Ok P w base Z (k + 2)) (G2 : Ok P w base Z k) : FnG P w K mg base (k + 3) Z.f_p_need_number Z.d_p_need_number ["value", "part", "least", "most"] (spS ⟨K, mg⟩ 4 (fns (k + 3)).p_need_number) := fn_sim Z.F_p_need_number sc_p_need_number (by decide) fun cdv hcd A outer s H E hr =>
  have nd := sc_p_need_number.nd
  have tk := takes_of (X := bodyCx P w K mg base ["value", "part", "least", "most"] "need_number" s_p_need_number Z.f_p_need_number cdv A outer s H E) (E := E) rfl rfl rfl rfl
  have po := passes_of (X := bodyCx P w K mg base ["value", "part", "least", "most"] "need_number" s_p_need_number Z.f_p_need_number cdv A outer s H E) rfl
  (sss_one (ss_if (st_not (st_val (se_call G.p_is_within (ar_p_is_within _) hr rfl Z.g_p_is_within Z.F_p_is_within.kp Z.b_p_is_within tk (sa_cons (se_var (pv 0)) (sa_cons (se_var (pv 2)) (sa_cons (se_var (pv 3)) sa_nil)))))) (sss_one (ss_raise Z.e_BadNumber hr rfl tk rfl (sa_cons (se_var (pv 1)) sa_nil))) sss_nil))
theorem ok_p_need_m (Z : Mods P K mg) (T : TabZ base Z) (G : Ok P w base Z (k + 2)) (G2 : Ok P w base Z k) : FnG P w K mg base (k + 3) Z.f_p_need_m Z.d_p_need_m ["value"] (spS ⟨K, mg⟩ 1 (fns (k + 3)).p_need_m) := fn_sim Z.F_p_need_m sc_p_need_m (by decide) fun cdv hcd A outer s H E hr =>
  have nd := sc_p_need_m.nd
  have tk := takes_of (X := bodyCx P w K mg base ["value"] "need_m" s_p_need_m Z.f_p_need_m cdv A outer s H E) (E := E) rfl rfl rfl rfl
  have po := passes_of (X := bodyCx P w K mg base ["value"] "need_m" s_p_need_m Z.f_p_need_m cdv A outer s H E) rfl
  (sss_one (ss_expr (se_call G.p_need_number (ar_p_need_number _) hr rfl Z.g_p_need_number Z.F_p_need_number.kp Z.b_p_need_number tk (sa_cons (se_var (pv 0)) (sa_cons se_str (sa_cons (se_gc rfl Z.c_LEAST_M) (sa_cons (se_gc rfl Z.c_MOST_M) sa_nil)))))))
theorem ok_p_is_wanted (Z : Mods P K mg) (T : TabZ base Z) (G : Ok P w base Z (k + 2)) (G2 : Ok P w base Z k) : FnG P w K mg base (k + 3) Z.f_p_is_wanted Z.d_p_is_wanted ["done", "has", "number", "m"] (spS ⟨K, mg⟩ 4 (fns (k + 3)).p_is_wanted) := fn_sim Z.F_p_is_wanted sc_p_is_wanted (by decide) fun cdv hcd A outer s H E hr =>
  have nd := sc_p_is_wanted.nd
  have tk := takes_of (X := bodyCx P w K mg base ["done", "has", "number", "m"] "is_wanted" s_p_is_wanted Z.f_p_is_wanted cdv A outer s H E) (E := E) rfl rfl rfl rfl
  have po := passes_of (X := bodyCx P w K mg base ["done", "has", "number", "m"] "is_wanted" s_p_is_wanted Z.f_p_is_wanted cdv A outer s H E) rfl
  (sss_cons (ss_expr (se_call G.p_need_number (ar_p_need_number _) hr rfl Z.g_p_need_number Z.F_p_need_number.kp Z.b_p_need_number tk (sa_cons (se_var (pv 0)) (sa_cons se_str (sa_cons se_int (sa_cons se_non sa_nil))))))
    (sss_cons (ss_expr (se_call G.p_need_number (ar_p_need_number _) hr rfl Z.g_p_need_number Z.F_p_need_number.kp Z.b_p_need_number tk (sa_cons (se_var (pv 1)) (sa_cons se_str (sa_cons se_int (sa_cons se_int sa_nil))))))
    (sss_cons (ss_expr (se_call G.p_need_number (ar_p_need_number _) hr rfl Z.g_p_need_number Z.F_p_need_number.kp Z.b_p_need_number tk (sa_cons (se_var (pv 2)) (sa_cons se_str (sa_cons se_int (sa_cons (se_bin op_subM (se_gc rfl Z.c_MOST_M) se_int) sa_nil))))))
    (sss_cons (ss_expr (se_call G.p_need_m (ar_p_need_m _) hr rfl Z.g_p_need_m Z.F_p_need_m.kp Z.b_p_need_m tk (sa_cons (se_var (pv 3)) sa_nil)))
    (sss_cons (ss_if (st_cmp op_geM (se_var (pv 2)) (se_var (pv 3)) (nomark _)) (sss_one (ss_raise Z.e_Misfit hr rfl tk rfl (sa_cons se_str sa_nil))) sss_nil)
    (sss_cons (ss_if (st_cmp (op_eqM (hu64 hr)) (se_var (pv 2)) (se_bin op_modM (se_callTy c_int rfl Z.z_int bt_int (sb_cons (se_bin op_addM (se_var (pv 0)) se_int) sb_nil)) (se_var (pv 3))) (nomark _)) (sss_one (ss_ret se_int)) sss_nil)
    (sss_one (ss_ret (se_if (sw_t (sw_and (st_cmp (op_eqM (hu64 hr)) (se_var (pv 2)) (se_bin op_modM (se_callTy c_int rfl Z.z_int bt_int (sb_cons (se_var (pv 0)) sb_nil)) (se_var (pv 3))) (nomark _)) (sw_and1 (st_cmp (op_eqM (hu64 hr)) (se_var (pv 1)) se_int (nomark _))))) se_int se_non)))))))))
theorem ok_pen (Z : Mods P K mg) (T : TabZ base Z) (G : Ok P w base Z (k + 2)) (G2 : Ok P w base Z k) : FnG P w K mg base (k + 3) Z.f_pen Z.d_pen ["_law_script"] (spS ⟨K, mg⟩ 1 (fns (k + 3)).pen) := fn_sim Z.F_pen sc_pen (by decide) fun cdv hcd A outer s H E hr =>
  have nd := sc_pen.nd
  have tk := takes_of (X := bodyCx P w K mg base ["_law_script", "_law_cell"] "_law_pen" s_pen Z.f_pen cdv A outer s H E) (E := E) rfl rfl rfl rfl
  have po := passes_of (X := bodyCx P w K mg base ["_law_script", "_law_cell"] "_law_pen" s_pen Z.f_pen cdv A outer s H E) rfl
  (sss_one (ss_ret (SF.obj (sf_lst (sa_cons (SF.se (sf_lcQ (own := [("_law_cell", 1)]) rfl nd (se_slice (se_var (pv 0)) so_none (so_some se_int)) (blkN (i := 1) (blkOk_by (by kernel_rfl)) (by decide) (fun _ _ _ _ _ => pg_name nd rfl (.inl rfl)) (fun _ _ _ _ _ => pts_all) (fun _ _ _ _ _ => (se_callTy c_int rfl Z.z_int bt_int (sb_cons (se_var (pv 1)) sb_nil)))))) (sa_cons se_int (sa_cons se_int sa_nil)))))))
theorem ok_draw (Z : Mods P K mg) (T : TabZ base Z) (G : Ok P w base Z (k + 2)) (G2 : Ok P w base Z k) : FnG P w K mg base (k + 3) Z.f_draw Z.d_draw ["_law_pen_here", "_law_many"] (spS ⟨K, mg⟩ 2 (fns (k + 3)).draw) := fn_sim Z.F_draw sc_draw (by decide) fun cdv hcd A outer s H E hr =>
  have nd := sc_draw.nd
  have tk := takes_of (X := bodyCx P w K mg base ["_law_pen_here", "_law_many", "_law_rest", "_law_at", "_law_cell", "_law_mixed"] "_law_draw" s_draw Z.f_draw cdv A outer s H E) (E := E) rfl rfl rfl rfl
  have po := passes_of (X := bodyCx P w K mg base ["_law_pen_here", "_law_many", "_law_rest", "_law_at", "_law_cell", "_law_mixed"] "_law_draw" s_draw Z.f_draw cdv A outer s H E) rfl
  (sss_cons (ss_asg (fun t h => ps_set (i := 2) nd rfl (.inl rfl) h) (se_callTy c_int rfl Z.z_int bt_int (sb_cons (se_ix (se_var (pv 0)) se_int (fun _ _ => rfl)) sb_nil)))
    (sss_cons (ss_if (st_cmp op_gtM (se_var (pv 2)) se_int (nomark _)) (sss_cons (ss_setC (ps_asg (se_bin op_fdivM (se_var (pv 2)) (se_var (pv 1))) (pg_sub (se_var (pv 0)) se_int set_list)))
    (sss_one (ss_ret (se_bin op_modM (se_var (pv 2)) (se_var (pv 1)))))) sss_nil)
    (sss_cons (ss_asg (fun t h => ps_set (i := 3) nd rfl (.inl rfl) h) (se_ix (se_var (pv 0)) se_int (fun _ _ => rfl)))
    (sss_cons (ss_setC (ps_asg (se_bin op_addM (se_var (pv 3)) se_int) (pg_sub (se_var (pv 0)) se_int set_list)))
    (sss_cons (ss_asg (fun t h => ps_set (i := 4) nd rfl (.inl rfl) h) (se_bin op_addM (se_bin op_mulX se_int (se_var (pv 3))) se_int))
    (sss_cons (ss_if (st_cmp (op_neM (hu64 hr)) (se_ix (se_var (pv 0)) se_int (fun _ _ => rfl)) (se_lst sa_nil) (nomark _)) (sss_one (ss_asg (fun t h => ps_set (i := 4) nd rfl (.inl rfl) h) (se_ix (se_ix (se_var (pv 0)) se_int (fun _ _ => rfl)) (se_bin op_modM (se_callTy c_int rfl Z.z_int bt_int (sb_cons (se_var (pv 3)) sb_nil)) (se_callB c_len rfl Z.z_len bt_len (sb_cons (se_ix (se_var (pv 0)) se_int (fun _ _ => rfl)) sb_nil))) (fun _ _ => rfl)))) sss_nil)
    (sss_cons (ss_if (sw_t (sw_and (st_cmp op_ltM (se_var (pv 3)) (se_callB c_len rfl Z.z_len bt_len (sb_cons (se_ix (se_var (pv 0)) se_int (fun _ _ => rfl)) sb_nil)) (nomark _)) (sw_and1 (st_cmp op_geM (se_callB c_abs rfl Z.z_abs bt_abs (sb_cons (se_var (pv 4)) sb_nil)) (se_bin op_powM se_int se_int) (nomark _))))) (sss_cons (ss_asg (fun t h => ps_set (i := 2) nd rfl (.inl rfl) h) (se_bin op_addM (se_bin op_mulX se_int (se_bin op_subM (se_callB c_abs rfl Z.z_abs bt_abs (sb_cons (se_var (pv 4)) sb_nil)) (se_bin op_powM se_int se_int))) (se_callTy c_int rfl Z.z_int bt_int (sb_cons (se_cmp op_ltM (se_var (pv 4)) se_int (nomark _)) sb_nil))))
    (sss_cons (ss_setC (ps_asg (se_bin op_fdivM (se_var (pv 2)) (se_var (pv 1))) (pg_sub (se_var (pv 0)) se_int set_list)))
    (sss_one (ss_ret (se_bin op_modM (se_var (pv 2)) (se_var (pv 1))))))) sss_nil)
    (sss_cons (ss_asg (fun t h => ps_set (i := 5) nd rfl (.inl rfl) h) (se_bin op_modM (se_callTy c_int rfl Z.z_int bt_int (sb_cons (se_bin op_powM (se_bin op_addM (se_bin op_addM (se_bin op_modM (se_callTy c_int rfl Z.z_int bt_int (sb_cons (se_var (pv 4)) sb_nil)) se_int) (se_bin op_mulX se_int (se_var (pv 3)))) se_int) se_int) sb_nil)) se_int))
    (sss_cons (ss_asg (fun t h => ps_set (i := 5) nd rfl (.inl rfl) h) (se_bin op_modM (se_callTy c_int rfl Z.z_int bt_int (sb_cons (se_bin op_powM (se_bin op_addM (se_bin op_addM (se_bin op_mulX (se_var (pv 5)) (se_bin op_addM (se_bin op_mulX se_int (se_var (pv 3))) se_int)) (se_bin op_mulX (se_bin op_mulX se_int (se_var (pv 3))) (se_var (pv 3)))) se_int) se_int) sb_nil)) se_int))
    (sss_one (ss_ret (se_bin op_modM (se_callTy c_int rfl Z.z_int bt_int (sb_cons (se_bin op_fdivM (se_var (pv 5)) se_int) sb_nil)) (se_var (pv 1))))))))))))))
theorem ok_one_of (Z : Mods P K mg) (T : TabZ base Z) (G : Ok P w base Z (k + 2)) (G2 : Ok P w base Z k) : FnG P w K mg base (k + 3) Z.f_one_of Z.d_one_of ["_law_pen_here", "_law_some"] (spS ⟨K, mg⟩ 2 (fns (k + 3)).one_of) := fn_sim Z.F_one_of sc_one_of (by decide) fun cdv hcd A outer s H E hr =>
  have nd := sc_one_of.nd
  have tk := takes_of (X := bodyCx P w K mg base ["_law_pen_here", "_law_some"] "_law_one_of" s_one_of Z.f_one_of cdv A outer s H E) (E := E) rfl rfl rfl rfl
  have po := passes_of (X := bodyCx P w K mg base ["_law_pen_here", "_law_some"] "_law_one_of" s_one_of Z.f_one_of cdv A outer s H E) rfl
  (sss_one (ss_ret (se_ix (se_var (pv 1)) (se_call G.draw (ar_draw _) hr rfl Z.g_draw Z.F_draw.kp Z.b_draw tk (sa_cons (se_var (pv 0)) (sa_cons (se_callB c_len rfl Z.z_len bt_len (sb_cons (se_var (pv 1)) sb_nil)) sa_nil))) (fun _ _ => rfl))))
theorem ok_all_right (Z : Mods P K mg) (T : TabZ base Z) (G : Ok P w base Z (k + 2)) (G2 : Ok P w base Z k) : FnG P w K mg base (k + 3) Z.f_all_right Z.d_all_right ["_law_pen_here"] (spS ⟨K, mg⟩ 1 (fns (k + 3)).all_right) := fn_sim Z.F_all_right sc_all_right (by decide) fun cdv hcd A outer s H E hr =>
  have nd := sc_all_right.nd
  have tk := takes_of (X := bodyCx P w K mg base ["_law_pen_here", "_law_m", "_law_done", "_law_has", "_law_told", "_law_due", "_law_number"] "_law_all_right" s_all_right Z.f_all_right cdv A outer s H E) (E := E) rfl rfl rfl rfl
  have po := passes_of (X := bodyCx P w K mg base ["_law_pen_here", "_law_m", "_law_done", "_law_has", "_law_told", "_law_due", "_law_number"] "_law_all_right" s_all_right Z.f_all_right cdv A outer s H E) rfl
  (sss_cons (ss_asg (fun t h => ps_set (i := 1) nd rfl (.inr rfl) h) (se_call G.one_of (ar_one_of _) hr rfl Z.g_one_of Z.F_one_of.kp Z.b_one_of tk (sa_cons (se_var (pv 0)) (sa_cons (se_lst (sa_cons se_int (sa_cons se_int (sa_cons se_int (sa_cons se_int (sa_cons se_int (sa_cons (se_bin op_addM se_int (se_call G.draw (ar_draw _) hr rfl Z.g_draw Z.F_draw.kp Z.b_draw tk (sa_cons (se_var (pv 0)) (sa_cons se_int sa_nil)))) sa_nil))))))) sa_nil))))
    (sss_cons (ss_asg (fun t h => ps_set (i := 2) nd rfl (.inr rfl) h) (se_call G.one_of (ar_one_of _) hr rfl Z.g_one_of Z.F_one_of.kp Z.b_one_of tk (sa_cons (se_var (pv 0)) (sa_cons (se_lst (sa_cons se_int (sa_cons se_int (sa_cons (se_bin op_subM (se_var (pv 1)) se_int) (sa_cons (se_var (pv 1)) (sa_cons (se_call G.draw (ar_draw _) hr rfl Z.g_draw Z.F_draw.kp Z.b_draw tk (sa_cons (se_var (pv 0)) (sa_cons se_int sa_nil))) (sa_cons (se_bin op_addM (se_bin op_powM se_int se_int) (se_call G.draw (ar_draw _) hr rfl Z.g_draw Z.F_draw.kp Z.b_draw tk (sa_cons (se_var (pv 0)) (sa_cons se_int sa_nil)))) (sa_cons (se_bin op_powM se_int se_int) sa_nil)))))))) sa_nil))))
    (sss_cons (ss_forQ po rfl (tg_name (i := 3) (pg_name nd rfl (.inr rfl))) (se_tup (sa_cons se_int (sa_cons se_int sa_nil))) (sss_cons (ss_lcR_F (i := 4) (own := [("_law_number", 6)]) rfl nd rfl rfl rfl rfl Z.z_range (sb_cons (se_var (pv 1)) sb_nil) (blkN (i := 6) (blkOk_by (by kernel_rfl)) (by decide) (fun _ _ _ _ _ => pg_name nd rfl (.inl rfl)) (fun _ _ _ _ _ => pts_all) (fun _ _ _ _ _ => (se_call G.p_is_wanted (ar_p_is_wanted _) hr rfl Z.g_p_is_wanted Z.F_p_is_wanted.kp Z.b_p_is_wanted tk0 (sa_cons (se_var (pv 2)) (sa_cons (se_var (pv 3)) (sa_cons (se_var (pv 6)) (sa_cons (se_var (pv 1)) sa_nil))))))))
    (sss_cons (ss_lcR_O (i := 5) (own := [("_law_number", 6)]) rfl nd rfl rfl rfl rfl Z.z_range (sb_cons (se_var (pv 1)) sb_nil) (blkN (i := 6) (blkOk_by (by kernel_rfl)) (by decide) (fun _ _ _ _ _ => pg_name nd rfl (.inl rfl)) (fun _ _ _ _ _ => pts_all) (fun _ _ _ _ _ => se_non)))
    (sss_cons (ss_if (st_cmp (op_eqM (hu64 hr)) (se_var (pv 3)) se_int (nomark _)) (sss_one (ss_setI (i := 5) (ps_asg se_int (pg_sub (pv 5) (se_bin op_modM (se_callTy c_int rfl Z.z_int bt_int (sb_cons (se_var (pv 2)) sb_nil)) (se_var (pv 1))) set_list)))) sss_nil)
    (sss_cons (ss_setI (i := 5) (ps_asg se_int (pg_sub (pv 5) (se_bin op_modM (se_callTy c_int rfl Z.z_int bt_int (sb_cons (se_bin op_addM (se_var (pv 2)) se_int) sb_nil)) (se_var (pv 1))) set_list)))
    (sss_one (ss_if (sw_t (sw_or (st_cmp (op_neM (hu64 hr)) (se_callB (c_repr hr.gd (hu100 hr)) rfl Z.z_repr bt_repr (sb_cons (se_var (pv 4)) sb_nil)) (se_callB (c_repr hr.gd (hu100 hr)) rfl Z.z_repr bt_repr (sb_cons (se_varB (pv 5)) sb_nil)) (nomark _)) (sw_or1 (st_cmp (op_neM (hu64 hr)) (se_callB (c_repr hr.gd (hu100 hr)) rfl Z.z_repr bt_repr (sb_cons (se_callKW G.p_is_wanted (ar_p_is_wanted _) hr rfl Z.g_p_is_wanted Z.F_p_is_wanted.kp Z.kb_p_is_wanted_0_m_number_has_done tk (sk_cons (se_var (pv 1)) (sk_cons (se_bin op_subM (se_var (pv 1)) se_int) (sk_cons (se_var (pv 3)) (sk_cons (se_var (pv 2)) sk_nil))))) sb_nil)) (se_callB (c_repr hr.gd (hu100 hr)) rfl Z.z_repr bt_repr (sb_cons (se_ix (se_varB (pv 5)) (se_bin op_subM (se_var (pv 1)) se_int) (fun _ _ => rfl)) sb_nil)) (nomark _))))) (sss_one (ss_ret se_bl)) sss_nil)))))))
    (sss_one (ss_ret se_bl)))))
theorem ok_elder_right (Z : Mods P K mg) (T : TabZ base Z) (G : Ok P w base Z (k + 2)) (G2 : Ok P w base Z k) : FnG P w K mg base (k + 3) Z.f_elder_right Z.d_elder_right ["_law_pen_here"] (spS ⟨K, mg⟩ 1 (fns (k + 3)).elder_right) := fn_sim Z.F_elder_right sc_elder_right (by decide) fun cdv hcd A outer s H E hr =>
  have nd := sc_elder_right.nd
  have tk := takes_of (X := bodyCx P w K mg base ["_law_pen_here", "_law_late", "_law_least", "_law_m", "_law_done", "_law_turn"] "_law_elder_right" s_elder_right Z.f_elder_right cdv A outer s H E) (E := E) rfl rfl rfl rfl
  have po := passes_of (X := bodyCx P w K mg base ["_law_pen_here", "_law_late", "_law_least", "_law_m", "_law_done", "_law_turn"] "_law_elder_right" s_elder_right Z.f_elder_right cdv A outer s H E) rfl
  (sss_cons (ss_par (fun t h => ps_par rfl nd rfl rfl (by decide) rfl rfl h rfl) (sa_cons (se_call G.draw (ar_draw _) hr rfl Z.g_draw Z.F_draw.kp Z.b_draw tk (sa_cons (se_var (pv 0)) (sa_cons se_int sa_nil))) (sa_cons (se_call G.draw (ar_draw _) hr rfl Z.g_draw Z.F_draw.kp Z.b_draw tk (sa_cons (se_var (pv 0)) (sa_cons se_int sa_nil))) sa_nil)))
    (sss_cons (ss_asg (fun t h => ps_set (i := 3) nd rfl (.inl rfl) h) (se_callB (c_min2 rfl) rfl Z.z_min bt_min (sb_cons se_int (sb_cons (se_bin op_addM (se_bin op_addM (se_bin op_mulX se_int (se_var (pv 1))) se_int) (se_call G.draw (ar_draw _) hr rfl Z.g_draw Z.F_draw.kp Z.b_draw tk (sa_cons (se_var (pv 0)) (sa_cons se_int sa_nil)))) sb_nil))))
    (sss_cons (ss_asg (fun t h => ps_set (i := 4) nd rfl (.inl rfl) h) (se_bin op_addM (se_bin op_addM (se_var (pv 2)) se_int) (se_callB (c_sum rfl) rfl Z.z_sum bt_sum (sb_cons (SF.se (sf_lcR (own := [("_law_turn", 5)]) rfl nd rfl Z.z_range (sb_cons (se_var (pv 1)) sb_nil) (blkN (i := 5) (blkOk_by (by kernel_rfl)) (by decide) (fun _ _ _ _ _ => pg_name nd rfl (.inl rfl)) (fun _ _ _ _ _ => pts_all) (fun _ _ _ _ _ => (se_call G.draw (ar_draw _) hr rfl Z.g_draw Z.F_draw.kp Z.b_draw tk0 (sa_cons (se_var (pv 0)) (sa_cons se_int sa_nil))))))) sb_nil))))
    (sss_one (ss_ret (se_cmp op_isM (se_call G.p_is_wanted (ar_p_is_wanted _) hr rfl Z.g_p_is_wanted Z.F_p_is_wanted.kp Z.b_p_is_wanted tk (sa_cons (se_var (pv 4)) (sa_cons (se_call G.draw (ar_draw _) hr rfl Z.g_draw Z.F_draw.kp Z.b_draw tk (sa_cons (se_var (pv 0)) (sa_cons se_int sa_nil))) (sa_cons (se_bin op_modM (se_callTy c_int rfl Z.z_int bt_int (sb_cons (se_var (pv 2)) sb_nil)) (se_var (pv 3))) (sa_cons (se_var (pv 3)) sa_nil))))) se_non (nomark _)))))))
theorem ok_refused_right (Z : Mods P K mg) (T : TabZ base Z) (G : Ok P w base Z (k + 2)) (G2 : Ok P w base Z k) : FnG P w K mg base (k + 3) Z.f_refused_right Z.d_refused_right ["_law_pen_here"] (spS ⟨K, mg⟩ 1 (fns (k + 3)).refused_right) := fn_sim Z.F_refused_right sc_refused_right (by decide) fun cdv hcd A outer s H E hr =>
  have nd := sc_refused_right.nd
  have tk := takes_of (X := bodyCx P w K mg base ["_law_pen_here", "_law_heard_here", "_law_due", "_law_both", "_law_low", "_law_odd"] "_law_refused_right" s_refused_right Z.f_refused_right cdv A outer s H E) (E := E) rfl rfl rfl rfl
  have po := passes_of (X := bodyCx P w K mg base ["_law_pen_here", "_law_heard_here", "_law_due", "_law_both", "_law_low", "_law_odd"] "_law_refused_right" s_refused_right Z.f_refused_right cdv A outer s H E) rfl
  (sss_cons (ss_asgT (tg_tup (is := [5, 3]) (pg_tup rfl (pgs_cons (pg_name (i := 5) nd rfl (.inr rfl)) (pgs_cons (pg_name (i := 3) nd rfl (.inr rfl)) pgs_nil)))) (se_tup (sa_cons (se_call G.one_of (ar_one_of _) hr rfl Z.g_one_of Z.F_one_of.kp Z.b_one_of tk (sa_cons (se_var (pv 0)) (sa_cons (se_lst (sa_cons se_non (sa_cons se_bl (sa_cons se_bl (sa_cons se_str (sa_cons (se_lst (sa_cons se_int sa_nil)) (sa_cons (se_tup (sa_cons se_int sa_nil)) (sa_cons se_dict0 sa_nil)))))))) sa_nil))) (sa_cons (se_call G.one_of (ar_one_of _) hr rfl Z.g_one_of Z.F_one_of.kp Z.b_one_of tk (sa_cons (se_var (pv 0)) (sa_cons (se_lst (sa_cons (se_neg se_int) (sa_cons (se_neg (se_bin op_powM se_int se_int)) sa_nil))) sa_nil))) sa_nil))))
    (sss_cons (ss_asgO (fun t h => ps_set (i := 1) nd rfl (.inl rfl) h) (sf_lst (sa_cons (lam_heard (X := bodyCx P w K mg base ["_law_pen_here", "_law_heard_here", "_law_due", "_law_both", "_law_low", "_law_odd"] "_law_refused_right" s_refused_right Z.f_refused_right cdv A outer s H E) Z (id := 0) rfl T.tb_refused_right (hcd.symm.trans Z.tc_refused_right) Z.ti_refused_right hr tk (LamX.lamS_by rfl) rfl (fun _ _ _ _ _ => rfl) (fun A outer s H E f c hl => (se_call G2.p_is_wanted (ar_p_is_wanted _) hl rfl Z.g_p_is_wanted Z.F_p_is_wanted.kp Z.b_p_is_wanted takes_lam (sa_cons (se_var (pv 5)) (sa_cons (se_var (pv 5)) (sa_cons (se_var (pv 5)) (sa_cons (se_var (pv 5)) sa_nil))))))) (sa_cons (lamD_heard (X := bodyCx P w K mg base ["_law_pen_here", "_law_heard_here", "_law_due", "_law_both", "_law_low", "_law_odd"] "_law_refused_right" s_refused_right Z.f_refused_right cdv A outer s H E) Z (id := 0) (y0 := "_law_x1") rfl T.tb_refused_right (hcd.symm.trans Z.tc_refused_right) Z.ti_refused_right hr tk (lamD_by rfl) rfl rfl (fun _ _ _ _ _ _ _ => ⟨_, rfl, rfl⟩) (fun A outer s H E f c hl => (se_call G2.p_is_wanted (ar_p_is_wanted _) hl rfl Z.g_p_is_wanted Z.F_p_is_wanted.kp Z.b_p_is_wanted takes_lam (sa_cons (se_var (pv 3)) (sa_cons se_int (sa_cons se_int (sa_cons se_int sa_nil))))))) (sa_cons (lamD_heard (X := bodyCx P w K mg base ["_law_pen_here", "_law_heard_here", "_law_due", "_law_both", "_law_low", "_law_odd"] "_law_refused_right" s_refused_right Z.f_refused_right cdv A outer s H E) Z (id := 0) (y0 := "_law_x2") rfl T.tb_refused_right (hcd.symm.trans Z.tc_refused_right) Z.ti_refused_right hr tk (lamD_by rfl) rfl rfl (fun _ _ _ _ _ _ _ => ⟨_, rfl, rfl⟩) (fun A outer s H E f c hl => (se_call G2.p_is_wanted (ar_p_is_wanted _) hl rfl Z.g_p_is_wanted Z.F_p_is_wanted.kp Z.b_p_is_wanted takes_lam (sa_cons se_int (sa_cons (se_var (pv 5)) (sa_cons (se_var (pv 5)) (sa_cons (se_var (pv 5)) sa_nil))))))) sa_nil)))))
    (sss_cons (ss_extO (i := 1) (ps_expr (pe_bm PySem.F.plainAttrs_list PySem.F.slot_list_extend PySem.F.type_list_extend mt_extend (pv 1) (pa_cons (se_lst (sa_cons (lam_heard (X := bodyCx P w K mg base ["_law_pen_here", "_law_heard_here", "_law_due", "_law_both", "_law_low", "_law_odd"] "_law_refused_right" s_refused_right Z.f_refused_right cdv A outer s H E) Z (id := 0) rfl T.tb_refused_right (hcd.symm.trans Z.tc_refused_right) Z.ti_refused_right hr tk (LamX.lamS_by rfl) rfl (fun _ _ _ _ _ => rfl) (fun A outer s H E f c hl => (se_call G2.p_is_wanted (ar_p_is_wanted _) hl rfl Z.g_p_is_wanted Z.F_p_is_wanted.kp Z.b_p_is_wanted takes_lam (sa_cons se_int (sa_cons se_int (sa_cons se_int (sa_cons se_int sa_nil))))))) (sa_cons (lamD_heard (X := bodyCx P w K mg base ["_law_pen_here", "_law_heard_here", "_law_due", "_law_both", "_law_low", "_law_odd"] "_law_refused_right" s_refused_right Z.f_refused_right cdv A outer s H E) Z (id := 0) (y0 := "_law_x3") rfl T.tb_refused_right (hcd.symm.trans Z.tc_refused_right) Z.ti_refused_right hr tk (lamD_by rfl) rfl rfl (fun _ _ _ _ _ _ _ => ⟨_, rfl, rfl⟩) (fun A outer s H E f c hl => (se_call G2.p_is_wanted (ar_p_is_wanted _) hl rfl Z.g_p_is_wanted Z.F_p_is_wanted.kp Z.b_p_is_wanted takes_lam (sa_cons se_int (sa_cons (se_var (pv 3)) (sa_cons se_int (sa_cons se_int sa_nil))))))) (sa_cons (lamD_heard (X := bodyCx P w K mg base ["_law_pen_here", "_law_heard_here", "_law_due", "_law_both", "_law_low", "_law_odd"] "_law_refused_right" s_refused_right Z.f_refused_right cdv A outer s H E) Z (id := 0) (y0 := "_law_x4") rfl T.tb_refused_right (hcd.symm.trans Z.tc_refused_right) Z.ti_refused_right hr tk (lamD_by rfl) rfl rfl (fun _ _ _ _ _ _ _ => ⟨_, rfl, rfl⟩) (fun A outer s H E f c hl => (se_call G2.p_is_wanted (ar_p_is_wanted _) hl rfl Z.g_p_is_wanted Z.F_p_is_wanted.kp Z.b_p_is_wanted takes_lam (sa_cons se_int (sa_cons se_int (sa_cons (se_var (pv 5)) (sa_cons (se_var (pv 5)) sa_nil))))))) sa_nil)))) pa_nil))))
    (sss_cons (ss_extO (i := 1) (ps_expr (pe_bm PySem.F.plainAttrs_list PySem.F.slot_list_extend PySem.F.type_list_extend mt_extend (pv 1) (pa_cons (se_lst (sa_cons (lam_heard (X := bodyCx P w K mg base ["_law_pen_here", "_law_heard_here", "_law_due", "_law_both", "_law_low", "_law_odd"] "_law_refused_right" s_refused_right Z.f_refused_right cdv A outer s H E) Z (id := 0) rfl T.tb_refused_right (hcd.symm.trans Z.tc_refused_right) Z.ti_refused_right hr tk (LamX.lamS_by rfl) rfl (fun _ _ _ _ _ => rfl) (fun A outer s H E f c hl => (se_call G2.p_is_wanted (ar_p_is_wanted _) hl rfl Z.g_p_is_wanted Z.F_p_is_wanted.kp Z.b_p_is_wanted takes_lam (sa_cons se_int (sa_cons se_int (sa_cons se_int (sa_cons se_int sa_nil))))))) (sa_cons (lamD_heard (X := bodyCx P w K mg base ["_law_pen_here", "_law_heard_here", "_law_due", "_law_both", "_law_low", "_law_odd"] "_law_refused_right" s_refused_right Z.f_refused_right cdv A outer s H E) Z (id := 0) (y0 := "_law_x5") rfl T.tb_refused_right (hcd.symm.trans Z.tc_refused_right) Z.ti_refused_right hr tk (lamD_by rfl) rfl rfl (fun _ _ _ _ _ _ _ => ⟨_, rfl, rfl⟩) (fun A outer s H E f c hl => (se_call G2.p_is_wanted (ar_p_is_wanted _) hl rfl Z.g_p_is_wanted Z.F_p_is_wanted.kp Z.b_p_is_wanted takes_lam (sa_cons se_int (sa_cons se_int (sa_cons (se_var (pv 3)) (sa_cons se_int sa_nil))))))) (sa_cons (lamD_heard (X := bodyCx P w K mg base ["_law_pen_here", "_law_heard_here", "_law_due", "_law_both", "_law_low", "_law_odd"] "_law_refused_right" s_refused_right Z.f_refused_right cdv A outer s H E) Z (id := 0) (y0 := "_law_x6") rfl T.tb_refused_right (hcd.symm.trans Z.tc_refused_right) Z.ti_refused_right hr tk (lamD_by rfl) rfl rfl (fun _ _ _ _ _ _ _ => ⟨_, rfl, rfl⟩) (fun A outer s H E f c hl => (se_call G2.p_is_wanted (ar_p_is_wanted _) hl rfl Z.g_p_is_wanted Z.F_p_is_wanted.kp Z.b_p_is_wanted takes_lam (sa_cons se_int (sa_cons se_int (sa_cons se_int (sa_cons (se_var (pv 5)) sa_nil))))))) sa_nil)))) pa_nil))))
    (sss_cons (ss_asg (fun t h => ps_set (i := 4) nd rfl (.inr rfl) h) (se_call G.one_of (ar_one_of _) hr rfl Z.g_one_of Z.F_one_of.kp Z.b_one_of tk (sa_cons (se_var (pv 0)) (sa_cons (se_lst (sa_cons se_int (sa_cons se_int (sa_cons (se_neg se_int) (sa_cons se_int (sa_cons (se_bin op_powM se_int se_int) sa_nil)))))) sa_nil))))
    (sss_cons (ss_extO (i := 1) (ps_expr (pe_bm PySem.F.plainAttrs_list PySem.F.slot_list_extend PySem.F.type_list_extend mt_extend (pv 1) (pa_cons (se_lst (sa_cons (lam_heard (X := bodyCx P w K mg base ["_law_pen_here", "_law_heard_here", "_law_due", "_law_both", "_law_low", "_law_odd"] "_law_refused_right" s_refused_right Z.f_refused_right cdv A outer s H E) Z (id := 0) rfl T.tb_refused_right (hcd.symm.trans Z.tc_refused_right) Z.ti_refused_right hr tk (LamX.lamS_by rfl) rfl (fun _ _ _ _ _ => rfl) (fun A outer s H E f c hl => (se_call G2.p_is_wanted (ar_p_is_wanted _) hl rfl Z.g_p_is_wanted Z.F_p_is_wanted.kp Z.b_p_is_wanted takes_lam (sa_cons se_int (sa_cons se_int (sa_cons se_int (sa_cons (se_var (pv 4)) sa_nil))))))) (sa_cons (lamD_heard (X := bodyCx P w K mg base ["_law_pen_here", "_law_heard_here", "_law_due", "_law_both", "_law_low", "_law_odd"] "_law_refused_right" s_refused_right Z.f_refused_right cdv A outer s H E) Z (id := 0) (y0 := "_law_x7") rfl T.tb_refused_right (hcd.symm.trans Z.tc_refused_right) Z.ti_refused_right hr tk (lamD_by rfl) rfl rfl (fun _ _ _ _ _ _ _ => ⟨_, rfl, rfl⟩) (fun A outer s H E f c hl => (se_call G2.p_is_wanted (ar_p_is_wanted _) hl rfl Z.g_p_is_wanted Z.F_p_is_wanted.kp Z.b_p_is_wanted takes_lam (sa_cons se_int (sa_cons se_int (sa_cons se_int (sa_cons se_int sa_nil))))))) (sa_cons (lamD_heard (X := bodyCx P w K mg base ["_law_pen_here", "_law_heard_here", "_law_due", "_law_both", "_law_low", "_law_odd"] "_law_refused_right" s_refused_right Z.f_refused_right cdv A outer s H E) Z (id := 0) (y0 := "_law_x8") rfl T.tb_refused_right (hcd.symm.trans Z.tc_refused_right) Z.ti_refused_right hr tk (lamD_by rfl) rfl rfl (fun _ _ _ _ _ _ _ => ⟨_, rfl, rfl⟩) (fun A outer s H E f c hl => (se_call G2.p_is_wanted (ar_p_is_wanted _) hl rfl Z.g_p_is_wanted Z.F_p_is_wanted.kp Z.b_p_is_wanted takes_lam (sa_cons se_int (sa_cons se_int (sa_cons se_int (sa_cons se_int sa_nil))))))) sa_nil)))) pa_nil))))
    (sss_cons (ss_asg (fun t h => ps_set (i := 2) nd rfl (.inl rfl) h) (se_bin op_addM (se_bin op_addM (se_bin op_addM (se_bin op_addM (se_bin op_mulX (se_lst (sa_cons (se_lst (sa_cons se_str (sa_cons se_str sa_nil))) sa_nil)) se_int) (se_bin op_mulX (se_lst (sa_cons (se_lst (sa_cons se_str (sa_cons se_str sa_nil))) sa_nil)) se_int)) (se_bin op_mulX (se_lst (sa_cons (se_lst (sa_cons se_str (sa_cons se_str sa_nil))) sa_nil)) se_int)) (se_bin op_mulX (se_lst (sa_cons (se_lst (sa_cons se_str (sa_cons se_str sa_nil))) sa_nil)) se_int)) (se_bin op_mulX (se_lst (sa_cons (se_lst (sa_cons se_str (sa_cons se_str sa_nil))) sa_nil)) se_int)))
    (sss_frz 1 (sss_one (ss_ret (se_cmp (op_eqM (hu64 hr)) (se_varB (pv 1)) (se_var (pv 2)) (nomark _))))))))))))
theorem ok_p_law (Z : Mods P K mg) (T : TabZ base Z) (G : Ok P w base Z (k + 2)) (G2 : Ok P w base Z k) : FnG P w K mg base (k + 3) Z.f_p_law Z.d_p_law ["_law_script"] (spS ⟨K, mg⟩ 1 (fns (k + 3)).p_law) := fn_sim Z.F_p_law sc_p_law (by decide) fun cdv hcd A outer s H E hr =>
  have nd := sc_p_law.nd
  have tk := takes_of (X := bodyCx P w K mg base ["_law_script", "_law_pen_here", "_law_turn"] "law" s_p_law Z.f_p_law cdv A outer s H E) (E := E) rfl rfl rfl rfl
  have po := passes_of (X := bodyCx P w K mg base ["_law_script", "_law_pen_here", "_law_turn"] "law" s_p_law Z.f_p_law cdv A outer s H E) rfl
  (sss_cons (ss_asg (fun t h => ps_set (i := 1) nd rfl (.inl rfl) h) (se_call G.pen (ar_pen _) hr rfl Z.g_pen Z.F_pen.kp Z.b_pen tk (sa_cons (se_var (pv 0)) sa_nil)))
    (sss_cons (ss_forR1 po rfl (tg_name (i := 2) (pg_name nd rfl (.inl rfl))) rfl Z.z_range (sb_cons se_int sb_nil) (sss_one (ss_if (sw_t (sw_or (st_not (st_val (se_call G.all_right (ar_all_right _) hr rfl Z.g_all_right Z.F_all_right.kp Z.b_all_right tk (sa_cons (se_var (pv 1)) sa_nil)))) (sw_or1 (st_not (st_val (se_call G.elder_right (ar_elder_right _) hr rfl Z.g_elder_right Z.F_elder_right.kp Z.b_elder_right tk (sa_cons (se_var (pv 1)) sa_nil))))))) (sss_one (ss_ret se_bl)) sss_nil)))
    (sss_one (ss_ret (se_and (se_cmp (op_eqM (hu64 hr)) (se_callB (c_repr hr.gd (hu100 hr)) rfl Z.z_repr bt_repr (sb_cons (se_gc rfl Z.c_ROWS) sb_nil)) (se_callB (c_repr hr.gd (hu100 hr)) rfl Z.z_repr bt_repr (sb_cons (se_tup (sa_cons se_int (sa_cons se_int (sa_cons se_int (sa_cons se_int (sa_cons se_int (sa_cons se_int (sa_cons se_int (sa_cons se_int sa_nil))))))))) sb_nil)) (nomark _)) (se_one (se_call G.refused_right (ar_refused_right _) hr rfl Z.g_refused_right Z.F_refused_right.kp Z.b_refused_right tk (sa_cons (se_var (pv 1)) sa_nil))))))))
theorem ok (Z : Mods P K mg) (T : TabZ base Z) : ∀ k, Ok P w base Z k
  | 0 => ⟨fn_any, fn_any, fn_any, fn_any, fn_any, fn_any, fn_any, fn_any, fn_any, fn_any, fn_any, fn_any⟩
  | 1 => ⟨fn_any, fn_any, fn_any, fn_any, fn_any, fn_any, fn_any, fn_any, fn_any, fn_any, fn_any, fn_any⟩
  | 2 => ⟨fn_any, fn_any, fn_any, fn_any, fn_any, fn_any, fn_any, fn_any, fn_any, fn_any, fn_any, fn_any⟩
  | k + 3 => ⟨ok_p_is_integer Z T (ok Z T (k + 2)) (ok Z T k), ok_p_is_within Z T (ok Z T (k + 2)) (ok Z T k), ok_p_need_number Z T (ok Z T (k + 2)) (ok Z T k), ok_p_need_m Z T (ok Z T (k + 2)) (ok Z T k), ok_p_is_wanted Z T (ok Z T (k + 2)) (ok Z T k), ok_pen Z T (ok Z T (k + 2)) (ok Z T k), ok_draw Z T (ok Z T (k + 2)) (ok Z T k), ok_one_of Z T (ok Z T (k + 2)) (ok Z T k), ok_all_right Z T (ok Z T (k + 2)) (ok Z T k), ok_elder_right Z T (ok Z T (k + 2)) (ok Z T k), ok_refused_right Z T (ok Z T (k + 2)) (ok Z T k), ok_p_law Z T (ok Z T (k + 2)) (ok Z T k)⟩
end
end K35

set_option Elab.async false
set_option linter.all false
set_option maxRecDepth 100000
set_option maxHeartbeats 1000000
namespace K35
open PySem PySem.Spec PyProof.Rows L2 Sm
abbrev TL : List Str := [lamQ "_law_refused_right"]
abbrev isI (n : Int) (b c : Nat) : D → Sto → Prop := fun d S => ∃ i : Int, d = .int i ∧ 0 ≤ i ∧ i < n ∧ CloudL TL b S c
theorem gust_ok {k b c : Nat} {n : Int} {S : Sto} (hc : CloudL TL (b + B (k + 1)) S c) (hn : 0 < n) (h2 : n.natAbs.log2 < 9000) : Sat ((fns (k + 3)).draw [.obj c, .int n] S) (isI n b c) noX := by
  obtain ⟨⟨ns, a, r, hS, ha, hb, hr⟩, hp, ht⟩ := hc
  have hB := B_pos (k + 1)
  rw [u_draw]
  refine sat_run rfl ?_
  unfold m_draw
  repeat' ((first | (refine ⟨_, _, _, _, rfl, rfl, by assumption, rfl, fun S' hS' hZ => ?_⟩; (try simp only [List.set_cons_succ, List.set_cons_zero, Int.reduceToNat] at hS'); replace ht := tabs_set hZ hp ht; clear hZ) | with_reducible refine sat_bind ?_ | with_reducible refine sat_pure ?_ | ((with_reducible refine' sat_getv ?hh ?_); (case hh => exact rfl)) | with_reducible refine sat_mul (by first | decide | omega | exact .inr (bits3 ⟨by omega, by omega⟩ (by decide))) ?_ | with_reducible refine sat_add ?_ | with_reducible refine sat_sub ?_ | with_reducible refine sat_lt ?_ | with_reducible refine sat_le ?_ | with_reducible refine sat_gt ?_ | with_reducible refine sat_ge ?_ | with_reducible refine sat_eqI ?_ | with_reducible refine sat_neI ?_ | with_reducible refine sat_eqS ?_ | with_reducible refine sat_neS ?_ | with_reducible refine sat_eqNil ?_ | with_reducible refine sat_ifBD (fun _ => ?_) (fun _ => ?_) | with_reducible refine sat_asB ?_ | with_reducible refine sat_not ?_ | with_reducible refine sat_int ?_ | with_reducible refine sat_intB ?_ | with_reducible refine sat_abs ?_ | with_reducible refine ite_F ?_ | with_reducible refine ite_T ?_ | with_reducible refine ite_Dn (fun _ => ?_) (fun _ => ?_) | with_reducible refine sats_seq ?_ | with_reducible refine sats_if ?_ | with_reducible refine sats_set ?_ | with_reducible refine sats_setO ?_ | with_reducible refine sats_ret ?_ | with_reducible refine sats_skip ?_ | with_reducible refine sats_drop ?_ | with_reducible refine sats_setCc ?_ | with_reducible refine sat_iteD (fun _ => ?_) (fun _ => ?_) | with_reducible refine sat_lenInts ?_ | with_reducible refine sat_neNil ?_ | with_reducible refine ite_D (fun _ => ?_) (fun _ => ?_) | ((with_reducible refine' sat_getbO ?hh ?_); (case hh => exact rfl)) | ((with_reducible refine' sat_getb ?hh ?_); (case hh => exact rfl)) | with_reducible refine sat_fdiv (by first | assumption | omega | decide) (by first | assumption | omega | decide) ?_ | with_reducible refine sat_mod (by first | assumption | omega | decide) ?_ | with_reducible refine sat_ixO (by assumption) rfl ?_ | with_reducible refine sat_ixMod (by omega) (fun _ => ?_) | with_reducible refine sat_ixInts ⟨by omega, by omega⟩ (fun _ => ?_) | with_reducible refine sat_pow (by first | decide | exact ⟨by decide, by decide, bits1 ⟨by omega, by omega⟩ ⟨by omega, by omega⟩ (by decide) (by decide)⟩ | exact ⟨by decide, by decide, bits2 ⟨by omega, by omega⟩ ⟨by omega, by omega⟩ (by decide) (by decide) (by decide)⟩) ?_ | (refine ⟨_, _, _, _, rfl, rfl, by assumption, rfl, fun S' hS' _ => ?_⟩; try simp only [List.set_cons_succ, List.set_cons_zero, Int.reduceToNat] at hS') | ((with_reducible refine' sat_ixL0 ?hh ?_); (case hh => exact rfl)) | ((with_reducible refine' sat_ixT0 ?hh ?_); (case hh => exact rfl)) | ((with_reducible refine' sat_ixL1 ?hh ?_); (case hh => exact rfl)) | ((with_reducible refine' sat_ixT1 ?hh ?_); (case hh => exact rfl)) | ((with_reducible refine' sat_ixL2 ?hh ?_); (case hh => exact rfl)) | ((with_reducible refine' sat_ixT2 ?hh ?_); (case hh => exact rfl)) | ((with_reducible refine' sat_ixL3 ?hh ?_); (case hh => exact rfl)) | ((with_reducible refine' sat_ixT3 ?hh ?_); (case hh => exact rfl)) | ((with_reducible refine' sat_ixL4 ?hh ?_); (case hh => exact rfl)) | ((with_reducible refine' sat_ixT4 ?hh ?_); (case hh => exact rfl)) | ((with_reducible refine' sat_ifBt ?hh ?_); (case hh => exact rfl)) | ((with_reducible refine' sat_ifBf ?hh ?_); (case hh => exact rfl)) | ((with_reducible refine' ite_bt ?hh ?_); (case hh => exact rfl)) | ((with_reducible refine' ite_bf ?hh ?_); (case hh => exact rfl)) | ((with_reducible refine' sat_ite_bt ?hh ?_); (case hh => exact rfl)) | ((with_reducible refine' sat_ite_bf ?hh ?_); (case hh => exact rfl)) | ((with_reducible refine' sat_inT ?hh (fun bb hbb => ?_)); (case hh => exact rfl)) | ((with_reducible refine' sat_ninT ?hh (fun bb hbb => ?_)); (case hh => exact rfl)) | ((with_reducible refine' sat_inLs ?hh (fun bb hbb => ?_)); (case hh => exact rfl)) | ((with_reducible refine' sat_ninLs ?hh (fun bb hbb => ?_)); (case hh => exact rfl)) | with_reducible refine sat_addLL (by first | omega | (simp; done) | (simp; omega)) ?_ | with_reducible refine sat_mulL (by decide) (by first | omega | (simp; done) | (simp; omega)) ?_ | with_reducible refine sat_lenS (le_line (by assumption)) ?_ | with_reducible refine sat_lcQ ?_ | refine sat_ok rfl ?_ | with_reducible refine ite_B (fun _ => ?_) (fun _ => ?_) | with_reducible refine sat_ite (fun _ => ?_) (fun _ => ?_) | with_reducible refine sat_ifB (fun _ => ?_) (fun _ => ?_) | fail); try dsimp only)
  all_goals refine ⟨_, rfl, Int.emod_nonneg _ (by omega), Int.emod_lt_of_pos _ hn, ⟨ns, _, _, by assumption, ?_, ?_, ?_⟩, hp, by assumption⟩
  all_goals first | omega | (refine Int.ediv_nonneg ?_ (Int.le_of_lt hn); first | exact Int.le_of_lt (by assumption) | exact big_nn (by assumption))
theorem log_small {n : Int} (h : 0 < n) (h2 : n < 2 ^ 100) : n.natAbs.log2 < 9000 := log_lt (by omega) (by omega) h2
abbrev isC (P : D → Prop) (b c : Nat) : D → Sto → Prop := fun d S => P d ∧ CloudL TL b S c
theorem pluck_ok {k b c : Nat} {xs : List D} {S : Sto} (hc : CloudL TL (b + B (k + 2)) S c) (hx : 0 < xs.length) (hl : xs.length ≤ 100000) : Sat ((fns (k + 4)).one_of [.obj c, .list xs] S) (isC (fun d => d ∈ xs) b c) noX := by
  have hB : B (k + 2) = 1048576 * B (k + 1) := B_succ (k + 1)
  have hc : CloudL TL (b + B (k + 1)) S c := hc.le (by omega)
  rw [u_one_of]
  refine sat_run rfl ?_
  unfold m_one_of
  repeat' ((first | ((with_reducible refine Sat.to (gust_ok (k := k) hc (by first | omega | decide | (simp; done) | (simp; omega)) (log_small (by first | omega | decide | (simp; done) | (simp; omega)) (by first | omega | decide | (simp; done) | (simp; omega)))) (fun r S' hr => ?_)); obtain ⟨i, e, h0, h1, hc⟩ := hr; subst e) | with_reducible refine sat_bind ?_ | with_reducible refine sat_pure ?_ | ((with_reducible refine' sat_getv ?hh ?_); (case hh => exact rfl)) | with_reducible refine sat_mul (by first | decide | omega | exact .inr (bits3 ⟨by omega, by omega⟩ (by decide))) ?_ | with_reducible refine sat_add ?_ | with_reducible refine sat_sub ?_ | with_reducible refine sat_lt ?_ | with_reducible refine sat_le ?_ | with_reducible refine sat_gt ?_ | with_reducible refine sat_ge ?_ | with_reducible refine sat_eqI ?_ | with_reducible refine sat_neI ?_ | with_reducible refine sat_eqS ?_ | with_reducible refine sat_neS ?_ | with_reducible refine sat_eqNil ?_ | with_reducible refine sat_ifBD (fun _ => ?_) (fun _ => ?_) | with_reducible refine sat_asB ?_ | with_reducible refine sat_not ?_ | with_reducible refine sat_int ?_ | with_reducible refine sat_intB ?_ | with_reducible refine sat_abs ?_ | with_reducible refine ite_F ?_ | with_reducible refine ite_T ?_ | with_reducible refine ite_Dn (fun _ => ?_) (fun _ => ?_) | with_reducible refine sats_seq ?_ | with_reducible refine sats_if ?_ | with_reducible refine sats_set ?_ | with_reducible refine sats_setO ?_ | with_reducible refine sats_ret ?_ | with_reducible refine sats_skip ?_ | with_reducible refine sats_drop ?_ | with_reducible refine sats_setCc ?_ | with_reducible refine sat_iteD (fun _ => ?_) (fun _ => ?_) | with_reducible refine sat_lenInts ?_ | with_reducible refine sat_neNil ?_ | with_reducible refine ite_D (fun _ => ?_) (fun _ => ?_) | ((with_reducible refine' sat_getbO ?hh ?_); (case hh => exact rfl)) | ((with_reducible refine' sat_getb ?hh ?_); (case hh => exact rfl)) | with_reducible refine sat_fdiv (by first | assumption | omega | decide) (by first | assumption | omega | decide) ?_ | with_reducible refine sat_mod (by first | assumption | omega | decide) ?_ | with_reducible refine sat_ixO (by assumption) rfl ?_ | with_reducible refine sat_ixMod (by omega) (fun _ => ?_) | with_reducible refine sat_ixInts ⟨by omega, by omega⟩ (fun _ => ?_) | with_reducible refine sat_pow (by first | decide | exact ⟨by decide, by decide, bits1 ⟨by omega, by omega⟩ ⟨by omega, by omega⟩ (by decide) (by decide)⟩ | exact ⟨by decide, by decide, bits2 ⟨by omega, by omega⟩ ⟨by omega, by omega⟩ (by decide) (by decide) (by decide)⟩) ?_ | (refine ⟨_, _, _, _, rfl, rfl, by assumption, rfl, fun S' hS' _ => ?_⟩; try simp only [List.set_cons_succ, List.set_cons_zero, Int.reduceToNat] at hS') | ((with_reducible refine' sat_ixL0 ?hh ?_); (case hh => exact rfl)) | ((with_reducible refine' sat_ixT0 ?hh ?_); (case hh => exact rfl)) | ((with_reducible refine' sat_ixL1 ?hh ?_); (case hh => exact rfl)) | ((with_reducible refine' sat_ixT1 ?hh ?_); (case hh => exact rfl)) | ((with_reducible refine' sat_ixL2 ?hh ?_); (case hh => exact rfl)) | ((with_reducible refine' sat_ixT2 ?hh ?_); (case hh => exact rfl)) | ((with_reducible refine' sat_ixL3 ?hh ?_); (case hh => exact rfl)) | ((with_reducible refine' sat_ixT3 ?hh ?_); (case hh => exact rfl)) | ((with_reducible refine' sat_ixL4 ?hh ?_); (case hh => exact rfl)) | ((with_reducible refine' sat_ixT4 ?hh ?_); (case hh => exact rfl)) | ((with_reducible refine' sat_ifBt ?hh ?_); (case hh => exact rfl)) | ((with_reducible refine' sat_ifBf ?hh ?_); (case hh => exact rfl)) | ((with_reducible refine' ite_bt ?hh ?_); (case hh => exact rfl)) | ((with_reducible refine' ite_bf ?hh ?_); (case hh => exact rfl)) | ((with_reducible refine' sat_ite_bt ?hh ?_); (case hh => exact rfl)) | ((with_reducible refine' sat_ite_bf ?hh ?_); (case hh => exact rfl)) | ((with_reducible refine' sat_inT ?hh (fun bb hbb => ?_)); (case hh => exact rfl)) | ((with_reducible refine' sat_ninT ?hh (fun bb hbb => ?_)); (case hh => exact rfl)) | ((with_reducible refine' sat_inLs ?hh (fun bb hbb => ?_)); (case hh => exact rfl)) | ((with_reducible refine' sat_ninLs ?hh (fun bb hbb => ?_)); (case hh => exact rfl)) | with_reducible refine sat_addLL (by first | omega | (simp; done) | (simp; omega)) ?_ | with_reducible refine sat_mulL (by decide) (by first | omega | (simp; done) | (simp; omega)) ?_ | with_reducible refine sat_lenS (le_line (by assumption)) ?_ | with_reducible refine sat_lcQ ?_ | refine sat_ok rfl ?_ | with_reducible refine ite_B (fun _ => ?_) (fun _ => ?_) | with_reducible refine sat_ite (fun _ => ?_) (fun _ => ?_) | with_reducible refine sat_ifB (fun _ => ?_) (fun _ => ?_) | fail); try dsimp only)
  obtain ⟨x, e1, e2⟩ := atI_lt h0 h1
  refine sat_ix rfl (fun _ z => by cases z) e1 ?_
  exact ⟨List.mem_of_getElem? e2, hc⟩
theorem pen_ok {k : Nat} {ns : List Int} {S : Sto} (hl : ns.length ≤ 63) (hs : S = [some (.tbl (lamQ "_law_refused_right"))]) : Sat ((fns (k + 3)).pen [.frl (ns.map D.int)] S) (fun d S' => d = .obj 1 ∧ ∀ b, b ≤ topN → CloudL TL b S' 1) noX := by
  subst hs
  rw [u_pen]
  refine sat_run rfl ?_
  unfold m_pen
  have hc := cut_len ns none (some 63)
  repeat' ((first | with_reducible refine sat_bind ?_ | with_reducible refine sat_pure ?_ | ((with_reducible refine' sat_getv ?hh ?_); (case hh => exact rfl)) | with_reducible refine sat_mul (by first | decide | omega | exact .inr (bits3 ⟨by omega, by omega⟩ (by decide))) ?_ | with_reducible refine sat_add ?_ | with_reducible refine sat_sub ?_ | with_reducible refine sat_lt ?_ | with_reducible refine sat_le ?_ | with_reducible refine sat_gt ?_ | with_reducible refine sat_ge ?_ | with_reducible refine sat_eqI ?_ | with_reducible refine sat_neI ?_ | with_reducible refine sat_eqS ?_ | with_reducible refine sat_neS ?_ | with_reducible refine sat_eqNil ?_ | with_reducible refine sat_ifBD (fun _ => ?_) (fun _ => ?_) | with_reducible refine sat_asB ?_ | with_reducible refine sat_not ?_ | with_reducible refine sat_int ?_ | with_reducible refine sat_intB ?_ | with_reducible refine sat_abs ?_ | with_reducible refine ite_F ?_ | with_reducible refine ite_T ?_ | with_reducible refine ite_Dn (fun _ => ?_) (fun _ => ?_) | with_reducible refine sats_seq ?_ | with_reducible refine sats_if ?_ | with_reducible refine sats_set ?_ | with_reducible refine sats_setO ?_ | with_reducible refine sats_ret ?_ | with_reducible refine sats_skip ?_ | with_reducible refine sats_drop ?_ | with_reducible refine sats_setCc ?_ | with_reducible refine sat_iteD (fun _ => ?_) (fun _ => ?_) | with_reducible refine sat_lenInts ?_ | with_reducible refine sat_neNil ?_ | with_reducible refine ite_D (fun _ => ?_) (fun _ => ?_) | ((with_reducible refine' sat_getbO ?hh ?_); (case hh => exact rfl)) | ((with_reducible refine' sat_getb ?hh ?_); (case hh => exact rfl)) | with_reducible refine sat_fdiv (by first | assumption | omega | decide) (by first | assumption | omega | decide) ?_ | with_reducible refine sat_mod (by first | assumption | omega | decide) ?_ | with_reducible refine sat_ixO (by assumption) rfl ?_ | with_reducible refine sat_ixMod (by omega) (fun _ => ?_) | with_reducible refine sat_ixInts ⟨by omega, by omega⟩ (fun _ => ?_) | with_reducible refine sat_pow (by first | decide | exact ⟨by decide, by decide, bits1 ⟨by omega, by omega⟩ ⟨by omega, by omega⟩ (by decide) (by decide)⟩ | exact ⟨by decide, by decide, bits2 ⟨by omega, by omega⟩ ⟨by omega, by omega⟩ (by decide) (by decide) (by decide)⟩) ?_ | (refine ⟨_, _, _, _, rfl, rfl, by assumption, rfl, fun S' hS' _ => ?_⟩; try simp only [List.set_cons_succ, List.set_cons_zero, Int.reduceToNat] at hS') | ((with_reducible refine' sat_ixL0 ?hh ?_); (case hh => exact rfl)) | ((with_reducible refine' sat_ixT0 ?hh ?_); (case hh => exact rfl)) | ((with_reducible refine' sat_ixL1 ?hh ?_); (case hh => exact rfl)) | ((with_reducible refine' sat_ixT1 ?hh ?_); (case hh => exact rfl)) | ((with_reducible refine' sat_ixL2 ?hh ?_); (case hh => exact rfl)) | ((with_reducible refine' sat_ixT2 ?hh ?_); (case hh => exact rfl)) | ((with_reducible refine' sat_ixL3 ?hh ?_); (case hh => exact rfl)) | ((with_reducible refine' sat_ixT3 ?hh ?_); (case hh => exact rfl)) | ((with_reducible refine' sat_ixL4 ?hh ?_); (case hh => exact rfl)) | ((with_reducible refine' sat_ixT4 ?hh ?_); (case hh => exact rfl)) | ((with_reducible refine' sat_ifBt ?hh ?_); (case hh => exact rfl)) | ((with_reducible refine' sat_ifBf ?hh ?_); (case hh => exact rfl)) | ((with_reducible refine' ite_bt ?hh ?_); (case hh => exact rfl)) | ((with_reducible refine' ite_bf ?hh ?_); (case hh => exact rfl)) | ((with_reducible refine' sat_ite_bt ?hh ?_); (case hh => exact rfl)) | ((with_reducible refine' sat_ite_bf ?hh ?_); (case hh => exact rfl)) | ((with_reducible refine' sat_inT ?hh (fun bb hbb => ?_)); (case hh => exact rfl)) | ((with_reducible refine' sat_ninT ?hh (fun bb hbb => ?_)); (case hh => exact rfl)) | ((with_reducible refine' sat_inLs ?hh (fun bb hbb => ?_)); (case hh => exact rfl)) | ((with_reducible refine' sat_ninLs ?hh (fun bb hbb => ?_)); (case hh => exact rfl)) | with_reducible refine sat_addLL (by first | omega | (simp; done) | (simp; omega)) ?_ | with_reducible refine sat_mulL (by decide) (by first | omega | (simp; done) | (simp; omega)) ?_ | with_reducible refine sat_lenS (le_line (by assumption)) ?_ | with_reducible refine sat_lcQ ?_ | refine sat_ok rfl ?_ | with_reducible refine ite_B (fun _ => ?_) (fun _ => ?_) | with_reducible refine sat_ite (fun _ => ?_) (fun _ => ?_) | with_reducible refine sat_ifB (fun _ => ?_) (fun _ => ?_) | fail); try dsimp only)
  refine ⟨_, rfl, ?_⟩
  rw [cut_map]
  refine sat_map (fun d => d) (le_line (by rw [List.length_map]; omega)) (fun d hd => ⟨_, rfl, ?_⟩) ?_
  · obtain ⟨z, _, rfl⟩ := List.mem_map.mp hd
    repeat' ((first | with_reducible refine sat_bind ?_ | with_reducible refine sat_pure ?_ | ((with_reducible refine' sat_getv ?hh ?_); (case hh => exact rfl)) | with_reducible refine sat_mul (by first | decide | omega | exact .inr (bits3 ⟨by omega, by omega⟩ (by decide))) ?_ | with_reducible refine sat_add ?_ | with_reducible refine sat_sub ?_ | with_reducible refine sat_lt ?_ | with_reducible refine sat_le ?_ | with_reducible refine sat_gt ?_ | with_reducible refine sat_ge ?_ | with_reducible refine sat_eqI ?_ | with_reducible refine sat_neI ?_ | with_reducible refine sat_eqS ?_ | with_reducible refine sat_neS ?_ | with_reducible refine sat_eqNil ?_ | with_reducible refine sat_ifBD (fun _ => ?_) (fun _ => ?_) | with_reducible refine sat_asB ?_ | with_reducible refine sat_not ?_ | with_reducible refine sat_int ?_ | with_reducible refine sat_intB ?_ | with_reducible refine sat_abs ?_ | with_reducible refine ite_F ?_ | with_reducible refine ite_T ?_ | with_reducible refine ite_Dn (fun _ => ?_) (fun _ => ?_) | with_reducible refine sats_seq ?_ | with_reducible refine sats_if ?_ | with_reducible refine sats_set ?_ | with_reducible refine sats_setO ?_ | with_reducible refine sats_ret ?_ | with_reducible refine sats_skip ?_ | with_reducible refine sats_drop ?_ | with_reducible refine sats_setCc ?_ | with_reducible refine sat_iteD (fun _ => ?_) (fun _ => ?_) | with_reducible refine sat_lenInts ?_ | with_reducible refine sat_neNil ?_ | with_reducible refine ite_D (fun _ => ?_) (fun _ => ?_) | ((with_reducible refine' sat_getbO ?hh ?_); (case hh => exact rfl)) | ((with_reducible refine' sat_getb ?hh ?_); (case hh => exact rfl)) | with_reducible refine sat_fdiv (by first | assumption | omega | decide) (by first | assumption | omega | decide) ?_ | with_reducible refine sat_mod (by first | assumption | omega | decide) ?_ | with_reducible refine sat_ixO (by assumption) rfl ?_ | with_reducible refine sat_ixMod (by omega) (fun _ => ?_) | with_reducible refine sat_ixInts ⟨by omega, by omega⟩ (fun _ => ?_) | with_reducible refine sat_pow (by first | decide | exact ⟨by decide, by decide, bits1 ⟨by omega, by omega⟩ ⟨by omega, by omega⟩ (by decide) (by decide)⟩ | exact ⟨by decide, by decide, bits2 ⟨by omega, by omega⟩ ⟨by omega, by omega⟩ (by decide) (by decide) (by decide)⟩) ?_ | (refine ⟨_, _, _, _, rfl, rfl, by assumption, rfl, fun S' hS' _ => ?_⟩; try simp only [List.set_cons_succ, List.set_cons_zero, Int.reduceToNat] at hS') | ((with_reducible refine' sat_ixL0 ?hh ?_); (case hh => exact rfl)) | ((with_reducible refine' sat_ixT0 ?hh ?_); (case hh => exact rfl)) | ((with_reducible refine' sat_ixL1 ?hh ?_); (case hh => exact rfl)) | ((with_reducible refine' sat_ixT1 ?hh ?_); (case hh => exact rfl)) | ((with_reducible refine' sat_ixL2 ?hh ?_); (case hh => exact rfl)) | ((with_reducible refine' sat_ixT2 ?hh ?_); (case hh => exact rfl)) | ((with_reducible refine' sat_ixL3 ?hh ?_); (case hh => exact rfl)) | ((with_reducible refine' sat_ixT3 ?hh ?_); (case hh => exact rfl)) | ((with_reducible refine' sat_ixL4 ?hh ?_); (case hh => exact rfl)) | ((with_reducible refine' sat_ixT4 ?hh ?_); (case hh => exact rfl)) | ((with_reducible refine' sat_ifBt ?hh ?_); (case hh => exact rfl)) | ((with_reducible refine' sat_ifBf ?hh ?_); (case hh => exact rfl)) | ((with_reducible refine' ite_bt ?hh ?_); (case hh => exact rfl)) | ((with_reducible refine' ite_bf ?hh ?_); (case hh => exact rfl)) | ((with_reducible refine' sat_ite_bt ?hh ?_); (case hh => exact rfl)) | ((with_reducible refine' sat_ite_bf ?hh ?_); (case hh => exact rfl)) | ((with_reducible refine' sat_inT ?hh (fun bb hbb => ?_)); (case hh => exact rfl)) | ((with_reducible refine' sat_ninT ?hh (fun bb hbb => ?_)); (case hh => exact rfl)) | ((with_reducible refine' sat_inLs ?hh (fun bb hbb => ?_)); (case hh => exact rfl)) | ((with_reducible refine' sat_ninLs ?hh (fun bb hbb => ?_)); (case hh => exact rfl)) | with_reducible refine sat_addLL (by first | omega | (simp; done) | (simp; omega)) ?_ | with_reducible refine sat_mulL (by decide) (by first | omega | (simp; done) | (simp; omega)) ?_ | with_reducible refine sat_lenS (le_line (by assumption)) ?_ | with_reducible refine sat_lcQ ?_ | refine sat_ok rfl ?_ | with_reducible refine ite_B (fun _ => ?_) (fun _ => ?_) | with_reducible refine sat_ite (fun _ => ?_) (fun _ => ?_) | with_reducible refine sat_ifB (fun _ => ?_) (fun _ => ?_) | fail); try dsimp only)
    exact ⟨rfl, rfl⟩
  · rw [List.map_id']
    repeat' ((first | with_reducible refine sat_bind ?_ | with_reducible refine sat_pure ?_ | ((with_reducible refine' sat_getv ?hh ?_); (case hh => exact rfl)) | with_reducible refine sat_mul (by first | decide | omega | exact .inr (bits3 ⟨by omega, by omega⟩ (by decide))) ?_ | with_reducible refine sat_add ?_ | with_reducible refine sat_sub ?_ | with_reducible refine sat_lt ?_ | with_reducible refine sat_le ?_ | with_reducible refine sat_gt ?_ | with_reducible refine sat_ge ?_ | with_reducible refine sat_eqI ?_ | with_reducible refine sat_neI ?_ | with_reducible refine sat_eqS ?_ | with_reducible refine sat_neS ?_ | with_reducible refine sat_eqNil ?_ | with_reducible refine sat_ifBD (fun _ => ?_) (fun _ => ?_) | with_reducible refine sat_asB ?_ | with_reducible refine sat_not ?_ | with_reducible refine sat_int ?_ | with_reducible refine sat_intB ?_ | with_reducible refine sat_abs ?_ | with_reducible refine ite_F ?_ | with_reducible refine ite_T ?_ | with_reducible refine ite_Dn (fun _ => ?_) (fun _ => ?_) | with_reducible refine sats_seq ?_ | with_reducible refine sats_if ?_ | with_reducible refine sats_set ?_ | with_reducible refine sats_setO ?_ | with_reducible refine sats_ret ?_ | with_reducible refine sats_skip ?_ | with_reducible refine sats_drop ?_ | with_reducible refine sats_setCc ?_ | with_reducible refine sat_iteD (fun _ => ?_) (fun _ => ?_) | with_reducible refine sat_lenInts ?_ | with_reducible refine sat_neNil ?_ | with_reducible refine ite_D (fun _ => ?_) (fun _ => ?_) | ((with_reducible refine' sat_getbO ?hh ?_); (case hh => exact rfl)) | ((with_reducible refine' sat_getb ?hh ?_); (case hh => exact rfl)) | with_reducible refine sat_fdiv (by first | assumption | omega | decide) (by first | assumption | omega | decide) ?_ | with_reducible refine sat_mod (by first | assumption | omega | decide) ?_ | with_reducible refine sat_ixO (by assumption) rfl ?_ | with_reducible refine sat_ixMod (by omega) (fun _ => ?_) | with_reducible refine sat_ixInts ⟨by omega, by omega⟩ (fun _ => ?_) | with_reducible refine sat_pow (by first | decide | exact ⟨by decide, by decide, bits1 ⟨by omega, by omega⟩ ⟨by omega, by omega⟩ (by decide) (by decide)⟩ | exact ⟨by decide, by decide, bits2 ⟨by omega, by omega⟩ ⟨by omega, by omega⟩ (by decide) (by decide) (by decide)⟩) ?_ | (refine ⟨_, _, _, _, rfl, rfl, by assumption, rfl, fun S' hS' _ => ?_⟩; try simp only [List.set_cons_succ, List.set_cons_zero, Int.reduceToNat] at hS') | ((with_reducible refine' sat_ixL0 ?hh ?_); (case hh => exact rfl)) | ((with_reducible refine' sat_ixT0 ?hh ?_); (case hh => exact rfl)) | ((with_reducible refine' sat_ixL1 ?hh ?_); (case hh => exact rfl)) | ((with_reducible refine' sat_ixT1 ?hh ?_); (case hh => exact rfl)) | ((with_reducible refine' sat_ixL2 ?hh ?_); (case hh => exact rfl)) | ((with_reducible refine' sat_ixT2 ?hh ?_); (case hh => exact rfl)) | ((with_reducible refine' sat_ixL3 ?hh ?_); (case hh => exact rfl)) | ((with_reducible refine' sat_ixT3 ?hh ?_); (case hh => exact rfl)) | ((with_reducible refine' sat_ixL4 ?hh ?_); (case hh => exact rfl)) | ((with_reducible refine' sat_ixT4 ?hh ?_); (case hh => exact rfl)) | ((with_reducible refine' sat_ifBt ?hh ?_); (case hh => exact rfl)) | ((with_reducible refine' sat_ifBf ?hh ?_); (case hh => exact rfl)) | ((with_reducible refine' ite_bt ?hh ?_); (case hh => exact rfl)) | ((with_reducible refine' ite_bf ?hh ?_); (case hh => exact rfl)) | ((with_reducible refine' sat_ite_bt ?hh ?_); (case hh => exact rfl)) | ((with_reducible refine' sat_ite_bf ?hh ?_); (case hh => exact rfl)) | ((with_reducible refine' sat_inT ?hh (fun bb hbb => ?_)); (case hh => exact rfl)) | ((with_reducible refine' sat_ninT ?hh (fun bb hbb => ?_)); (case hh => exact rfl)) | ((with_reducible refine' sat_inLs ?hh (fun bb hbb => ?_)); (case hh => exact rfl)) | ((with_reducible refine' sat_ninLs ?hh (fun bb hbb => ?_)); (case hh => exact rfl)) | with_reducible refine sat_addLL (by first | omega | (simp; done) | (simp; omega)) ?_ | with_reducible refine sat_mulL (by decide) (by first | omega | (simp; done) | (simp; omega)) ?_ | with_reducible refine sat_lenS (le_line (by assumption)) ?_ | with_reducible refine sat_lcQ ?_ | refine sat_ok rfl ?_ | with_reducible refine ite_B (fun _ => ?_) (fun _ => ?_) | with_reducible refine sat_ite (fun _ => ?_) (fun _ => ?_) | with_reducible refine sat_ifB (fun _ => ?_) (fun _ => ?_) | fail); try dsimp only)
    refine ⟨rfl, fun b hb => ⟨⟨Sm.cutD ns none (some 63), 0, 0, rfl, by decide, by omega, by decide⟩, by decide, fun i q e => ?_⟩⟩
    match i, e with
    | 0, e =>
      cases e
      rfl
    | i + 1, e => cases e
end K35

set_option Elab.async false
set_option linter.all false
set_option maxRecDepth 100000
set_option maxHeartbeats 2000000
namespace K35
open PySem PySem.Spec PyProof.Rows L2 Sm
abbrev isV (d0 : D) (S0 : Sto) : D → Sto → Prop := fun d S => d = d0 ∧ S = S0
theorem isint_ok {k : Nat} {S : Sto} {d : D} {t : Ty} (h : Kd d t) : Sat ((fns (k + 3)).p_is_integer [d] S) (isV (.bool (decide (t = .int))) S) noX := by
  rw [u_p_is_integer]
  refine sat_run rfl ?_
  unfold m_p_is_integer
  cases t <;> (repeat' ((first | with_reducible refine sat_isk h ?_ | with_reducible refine sat_bind ?_ | with_reducible refine sat_pure ?_ | ((with_reducible refine' sat_getv ?hh ?_); (case hh => exact rfl)) | with_reducible refine sat_mul (by first | decide | omega | exact .inr (bits3 ⟨by omega, by omega⟩ (by decide))) ?_ | with_reducible refine sat_add ?_ | with_reducible refine sat_sub ?_ | with_reducible refine sat_lt ?_ | with_reducible refine sat_le ?_ | with_reducible refine sat_gt ?_ | with_reducible refine sat_ge ?_ | with_reducible refine sat_eqI ?_ | with_reducible refine sat_neI ?_ | with_reducible refine sat_eqS ?_ | with_reducible refine sat_neS ?_ | with_reducible refine sat_eqNil ?_ | with_reducible refine sat_ifBD (fun _ => ?_) (fun _ => ?_) | with_reducible refine sat_asB ?_ | with_reducible refine sat_not ?_ | with_reducible refine sat_int ?_ | with_reducible refine sat_intB ?_ | with_reducible refine sat_abs ?_ | with_reducible refine ite_F ?_ | with_reducible refine ite_T ?_ | with_reducible refine ite_Dn (fun _ => ?_) (fun _ => ?_) | with_reducible refine sats_seq ?_ | with_reducible refine sats_if ?_ | with_reducible refine sats_set ?_ | with_reducible refine sats_setO ?_ | with_reducible refine sats_ret ?_ | with_reducible refine sats_skip ?_ | with_reducible refine sats_drop ?_ | with_reducible refine sats_setCc ?_ | with_reducible refine sat_iteD (fun _ => ?_) (fun _ => ?_) | with_reducible refine sat_lenInts ?_ | with_reducible refine sat_neNil ?_ | with_reducible refine ite_D (fun _ => ?_) (fun _ => ?_) | ((with_reducible refine' sat_getbO ?hh ?_); (case hh => exact rfl)) | ((with_reducible refine' sat_getb ?hh ?_); (case hh => exact rfl)) | with_reducible refine sat_fdiv (by first | assumption | omega | decide) (by first | assumption | omega | decide) ?_ | with_reducible refine sat_mod (by first | assumption | omega | decide) ?_ | with_reducible refine sat_ixO (by assumption) rfl ?_ | with_reducible refine sat_ixMod (by omega) (fun _ => ?_) | with_reducible refine sat_ixInts ⟨by omega, by omega⟩ (fun _ => ?_) | with_reducible refine sat_pow (by first | decide | exact ⟨by decide, by decide, bits1 ⟨by omega, by omega⟩ ⟨by omega, by omega⟩ (by decide) (by decide)⟩ | exact ⟨by decide, by decide, bits2 ⟨by omega, by omega⟩ ⟨by omega, by omega⟩ (by decide) (by decide) (by decide)⟩) ?_ | (refine ⟨_, _, _, _, rfl, rfl, by assumption, rfl, fun S' hS' _ => ?_⟩; try simp only [List.set_cons_succ, List.set_cons_zero, Int.reduceToNat] at hS') | ((with_reducible refine' sat_ixL0 ?hh ?_); (case hh => exact rfl)) | ((with_reducible refine' sat_ixT0 ?hh ?_); (case hh => exact rfl)) | ((with_reducible refine' sat_ixL1 ?hh ?_); (case hh => exact rfl)) | ((with_reducible refine' sat_ixT1 ?hh ?_); (case hh => exact rfl)) | ((with_reducible refine' sat_ixL2 ?hh ?_); (case hh => exact rfl)) | ((with_reducible refine' sat_ixT2 ?hh ?_); (case hh => exact rfl)) | ((with_reducible refine' sat_ixL3 ?hh ?_); (case hh => exact rfl)) | ((with_reducible refine' sat_ixT3 ?hh ?_); (case hh => exact rfl)) | ((with_reducible refine' sat_ixL4 ?hh ?_); (case hh => exact rfl)) | ((with_reducible refine' sat_ixT4 ?hh ?_); (case hh => exact rfl)) | ((with_reducible refine' sat_ifBt ?hh ?_); (case hh => exact rfl)) | ((with_reducible refine' sat_ifBf ?hh ?_); (case hh => exact rfl)) | ((with_reducible refine' ite_bt ?hh ?_); (case hh => exact rfl)) | ((with_reducible refine' ite_bf ?hh ?_); (case hh => exact rfl)) | ((with_reducible refine' sat_ite_bt ?hh ?_); (case hh => exact rfl)) | ((with_reducible refine' sat_ite_bf ?hh ?_); (case hh => exact rfl)) | ((with_reducible refine' sat_inT ?hh (fun bb hbb => ?_)); (case hh => exact rfl)) | ((with_reducible refine' sat_ninT ?hh (fun bb hbb => ?_)); (case hh => exact rfl)) | ((with_reducible refine' sat_inLs ?hh (fun bb hbb => ?_)); (case hh => exact rfl)) | ((with_reducible refine' sat_ninLs ?hh (fun bb hbb => ?_)); (case hh => exact rfl)) | with_reducible refine sat_addLL (by first | omega | (simp; done) | (simp; omega)) ?_ | with_reducible refine sat_mulL (by decide) (by first | omega | (simp; done) | (simp; omega)) ?_ | with_reducible refine sat_lenS (le_line (by assumption)) ?_ | with_reducible refine sat_lcQ ?_ | refine sat_ok rfl ?_ | with_reducible refine ite_B (fun _ => ?_) (fun _ => ?_) | with_reducible refine sat_ite (fun _ => ?_) (fun _ => ?_) | with_reducible refine sat_ifB (fun _ => ?_) (fun _ => ?_) | fail); try dsimp only)) <;> exact ⟨rfl, rfl⟩
def bndD : Option Int → D
  | none => .none
  | some i => .int i
theorem within_ok {k : Nat} {S : Sto} {d : D} {t : Ty} {lo hi : Option Int} (h : Kd d t) : Sat ((fns (k + 4)).p_is_within [d, bndD lo, bndD hi] S) (isV (.bool (withD d lo hi)) S) noX := by
  rw [u_p_is_within]
  refine sat_run rfl ?_
  unfold m_p_is_within
  by_cases n : t = .int
  · subst n
    obtain ⟨i, rfl⟩ := kd_int h
    cases lo <;> cases hi <;> unfold bndD <;> (repeat' ((first | ((with_reducible refine Sat.to (isint_ok (k := k) h) (fun r S' hr => ?_)); obtain ⟨e1, e2⟩ := hr; subst e1; subst e2) | with_reducible refine sat_bind ?_ | with_reducible refine sat_pure ?_ | ((with_reducible refine' sat_getv ?hh ?_); (case hh => exact rfl)) | with_reducible refine sat_mul (by first | decide | omega | exact .inr (bits3 ⟨by omega, by omega⟩ (by decide))) ?_ | with_reducible refine sat_add ?_ | with_reducible refine sat_sub ?_ | with_reducible refine sat_lt ?_ | with_reducible refine sat_le ?_ | with_reducible refine sat_gt ?_ | with_reducible refine sat_ge ?_ | with_reducible refine sat_eqI ?_ | with_reducible refine sat_neI ?_ | with_reducible refine sat_eqS ?_ | with_reducible refine sat_neS ?_ | with_reducible refine sat_eqNil ?_ | with_reducible refine sat_ifBD (fun _ => ?_) (fun _ => ?_) | with_reducible refine sat_asB ?_ | with_reducible refine sat_not ?_ | with_reducible refine sat_int ?_ | with_reducible refine sat_intB ?_ | with_reducible refine sat_abs ?_ | with_reducible refine ite_F ?_ | with_reducible refine ite_T ?_ | with_reducible refine ite_Dn (fun _ => ?_) (fun _ => ?_) | with_reducible refine sats_seq ?_ | with_reducible refine sats_if ?_ | with_reducible refine sats_set ?_ | with_reducible refine sats_setO ?_ | with_reducible refine sats_ret ?_ | with_reducible refine sats_skip ?_ | with_reducible refine sats_drop ?_ | with_reducible refine sats_setCc ?_ | with_reducible refine sat_iteD (fun _ => ?_) (fun _ => ?_) | with_reducible refine sat_lenInts ?_ | with_reducible refine sat_neNil ?_ | with_reducible refine ite_D (fun _ => ?_) (fun _ => ?_) | ((with_reducible refine' sat_getbO ?hh ?_); (case hh => exact rfl)) | ((with_reducible refine' sat_getb ?hh ?_); (case hh => exact rfl)) | with_reducible refine sat_fdiv (by first | assumption | omega | decide) (by first | assumption | omega | decide) ?_ | with_reducible refine sat_mod (by first | assumption | omega | decide) ?_ | with_reducible refine sat_ixO (by assumption) rfl ?_ | with_reducible refine sat_ixMod (by omega) (fun _ => ?_) | with_reducible refine sat_ixInts ⟨by omega, by omega⟩ (fun _ => ?_) | with_reducible refine sat_pow (by first | decide | exact ⟨by decide, by decide, bits1 ⟨by omega, by omega⟩ ⟨by omega, by omega⟩ (by decide) (by decide)⟩ | exact ⟨by decide, by decide, bits2 ⟨by omega, by omega⟩ ⟨by omega, by omega⟩ (by decide) (by decide) (by decide)⟩) ?_ | (refine ⟨_, _, _, _, rfl, rfl, by assumption, rfl, fun S' hS' _ => ?_⟩; try simp only [List.set_cons_succ, List.set_cons_zero, Int.reduceToNat] at hS') | ((with_reducible refine' sat_ixL0 ?hh ?_); (case hh => exact rfl)) | ((with_reducible refine' sat_ixT0 ?hh ?_); (case hh => exact rfl)) | ((with_reducible refine' sat_ixL1 ?hh ?_); (case hh => exact rfl)) | ((with_reducible refine' sat_ixT1 ?hh ?_); (case hh => exact rfl)) | ((with_reducible refine' sat_ixL2 ?hh ?_); (case hh => exact rfl)) | ((with_reducible refine' sat_ixT2 ?hh ?_); (case hh => exact rfl)) | ((with_reducible refine' sat_ixL3 ?hh ?_); (case hh => exact rfl)) | ((with_reducible refine' sat_ixT3 ?hh ?_); (case hh => exact rfl)) | ((with_reducible refine' sat_ixL4 ?hh ?_); (case hh => exact rfl)) | ((with_reducible refine' sat_ixT4 ?hh ?_); (case hh => exact rfl)) | ((with_reducible refine' sat_ifBt ?hh ?_); (case hh => exact rfl)) | ((with_reducible refine' sat_ifBf ?hh ?_); (case hh => exact rfl)) | ((with_reducible refine' ite_bt ?hh ?_); (case hh => exact rfl)) | ((with_reducible refine' ite_bf ?hh ?_); (case hh => exact rfl)) | ((with_reducible refine' sat_ite_bt ?hh ?_); (case hh => exact rfl)) | ((with_reducible refine' sat_ite_bf ?hh ?_); (case hh => exact rfl)) | ((with_reducible refine' sat_inT ?hh (fun bb hbb => ?_)); (case hh => exact rfl)) | ((with_reducible refine' sat_ninT ?hh (fun bb hbb => ?_)); (case hh => exact rfl)) | ((with_reducible refine' sat_inLs ?hh (fun bb hbb => ?_)); (case hh => exact rfl)) | ((with_reducible refine' sat_ninLs ?hh (fun bb hbb => ?_)); (case hh => exact rfl)) | with_reducible refine sat_addLL (by first | omega | (simp; done) | (simp; omega)) ?_ | with_reducible refine sat_mulL (by decide) (by first | omega | (simp; done) | (simp; omega)) ?_ | with_reducible refine sat_lenS (le_line (by assumption)) ?_ | with_reducible refine sat_lcQ ?_ | refine sat_ok rfl ?_ | with_reducible refine ite_B (fun _ => ?_) (fun _ => ?_) | with_reducible refine sat_ite (fun _ => ?_) (fun _ => ?_) | with_reducible refine sat_ifB (fun _ => ?_) (fun _ => ?_) | fail); try dsimp only))
    all_goals refine ⟨congrArg D.bool ?_, rfl⟩
    all_goals (unfold withD; simp_all <;> omega)
  · have e := kd_not (lo := lo) (hi := hi) h n
    rw [e]
    have e2 : decide (t = Ty.int) = false := decide_eq_false n
    have hi : ∀ {S : Sto}, Sat ((fns (k + 3)).p_is_integer [d] S) (isV (.bool false) S) noX := fun {S} => by
      rw [← e2]
      exact isint_ok h
    repeat' ((first | ((with_reducible refine Sat.to (hi) (fun r S' hr => ?_)); obtain ⟨e1, e2⟩ := hr; subst e1; subst e2) | with_reducible refine sat_bind ?_ | with_reducible refine sat_pure ?_ | ((with_reducible refine' sat_getv ?hh ?_); (case hh => exact rfl)) | with_reducible refine sat_mul (by first | decide | omega | exact .inr (bits3 ⟨by omega, by omega⟩ (by decide))) ?_ | with_reducible refine sat_add ?_ | with_reducible refine sat_sub ?_ | with_reducible refine sat_lt ?_ | with_reducible refine sat_le ?_ | with_reducible refine sat_gt ?_ | with_reducible refine sat_ge ?_ | with_reducible refine sat_eqI ?_ | with_reducible refine sat_neI ?_ | with_reducible refine sat_eqS ?_ | with_reducible refine sat_neS ?_ | with_reducible refine sat_eqNil ?_ | with_reducible refine sat_ifBD (fun _ => ?_) (fun _ => ?_) | with_reducible refine sat_asB ?_ | with_reducible refine sat_not ?_ | with_reducible refine sat_int ?_ | with_reducible refine sat_intB ?_ | with_reducible refine sat_abs ?_ | with_reducible refine ite_F ?_ | with_reducible refine ite_T ?_ | with_reducible refine ite_Dn (fun _ => ?_) (fun _ => ?_) | with_reducible refine sats_seq ?_ | with_reducible refine sats_if ?_ | with_reducible refine sats_set ?_ | with_reducible refine sats_setO ?_ | with_reducible refine sats_ret ?_ | with_reducible refine sats_skip ?_ | with_reducible refine sats_drop ?_ | with_reducible refine sats_setCc ?_ | with_reducible refine sat_iteD (fun _ => ?_) (fun _ => ?_) | with_reducible refine sat_lenInts ?_ | with_reducible refine sat_neNil ?_ | with_reducible refine ite_D (fun _ => ?_) (fun _ => ?_) | ((with_reducible refine' sat_getbO ?hh ?_); (case hh => exact rfl)) | ((with_reducible refine' sat_getb ?hh ?_); (case hh => exact rfl)) | with_reducible refine sat_fdiv (by first | assumption | omega | decide) (by first | assumption | omega | decide) ?_ | with_reducible refine sat_mod (by first | assumption | omega | decide) ?_ | with_reducible refine sat_ixO (by assumption) rfl ?_ | with_reducible refine sat_ixMod (by omega) (fun _ => ?_) | with_reducible refine sat_ixInts ⟨by omega, by omega⟩ (fun _ => ?_) | with_reducible refine sat_pow (by first | decide | exact ⟨by decide, by decide, bits1 ⟨by omega, by omega⟩ ⟨by omega, by omega⟩ (by decide) (by decide)⟩ | exact ⟨by decide, by decide, bits2 ⟨by omega, by omega⟩ ⟨by omega, by omega⟩ (by decide) (by decide) (by decide)⟩) ?_ | (refine ⟨_, _, _, _, rfl, rfl, by assumption, rfl, fun S' hS' _ => ?_⟩; try simp only [List.set_cons_succ, List.set_cons_zero, Int.reduceToNat] at hS') | ((with_reducible refine' sat_ixL0 ?hh ?_); (case hh => exact rfl)) | ((with_reducible refine' sat_ixT0 ?hh ?_); (case hh => exact rfl)) | ((with_reducible refine' sat_ixL1 ?hh ?_); (case hh => exact rfl)) | ((with_reducible refine' sat_ixT1 ?hh ?_); (case hh => exact rfl)) | ((with_reducible refine' sat_ixL2 ?hh ?_); (case hh => exact rfl)) | ((with_reducible refine' sat_ixT2 ?hh ?_); (case hh => exact rfl)) | ((with_reducible refine' sat_ixL3 ?hh ?_); (case hh => exact rfl)) | ((with_reducible refine' sat_ixT3 ?hh ?_); (case hh => exact rfl)) | ((with_reducible refine' sat_ixL4 ?hh ?_); (case hh => exact rfl)) | ((with_reducible refine' sat_ixT4 ?hh ?_); (case hh => exact rfl)) | ((with_reducible refine' sat_ifBt ?hh ?_); (case hh => exact rfl)) | ((with_reducible refine' sat_ifBf ?hh ?_); (case hh => exact rfl)) | ((with_reducible refine' ite_bt ?hh ?_); (case hh => exact rfl)) | ((with_reducible refine' ite_bf ?hh ?_); (case hh => exact rfl)) | ((with_reducible refine' sat_ite_bt ?hh ?_); (case hh => exact rfl)) | ((with_reducible refine' sat_ite_bf ?hh ?_); (case hh => exact rfl)) | ((with_reducible refine' sat_inT ?hh (fun bb hbb => ?_)); (case hh => exact rfl)) | ((with_reducible refine' sat_ninT ?hh (fun bb hbb => ?_)); (case hh => exact rfl)) | ((with_reducible refine' sat_inLs ?hh (fun bb hbb => ?_)); (case hh => exact rfl)) | ((with_reducible refine' sat_ninLs ?hh (fun bb hbb => ?_)); (case hh => exact rfl)) | with_reducible refine sat_addLL (by first | omega | (simp; done) | (simp; omega)) ?_ | with_reducible refine sat_mulL (by decide) (by first | omega | (simp; done) | (simp; omega)) ?_ | with_reducible refine sat_lenS (le_line (by assumption)) ?_ | with_reducible refine sat_lcQ ?_ | refine sat_ok rfl ?_ | with_reducible refine ite_B (fun _ => ?_) (fun _ => ?_) | with_reducible refine sat_ite (fun _ => ?_) (fun _ => ?_) | with_reducible refine sat_ifB (fun _ => ?_) (fun _ => ?_) | fail); try dsimp only)
    exact ⟨rfl, rfl⟩
def badN (p : Str) : Exn := ⟨"BadNumber", [("part", .str p)]⟩
def misN (p : Str) : Exn := ⟨"Misfit", [("part", .str p)]⟩
theorem need_ok {k : Nat} {S : Sto} {d : D} {t : Ty} {p : Str} {lo hi : Option Int} (h : Kd d t) : Sat ((fns (k + 5)).p_need_number [d, .str p, bndD lo, bndD hi] S) (fun _ S' => withD d lo hi = true ∧ S' = S) (fun e S' => withD d lo hi = false ∧ e = badN p ∧ S' = S) := by
  rw [u_p_need_number]
  refine sat_run rfl ?_
  unfold m_p_need_number
  repeat' ((first | ((with_reducible refine Sat.to (within_ok (k := k) h) (fun r S' hr => ?_)); obtain ⟨e1, e2⟩ := hr; subst e1; subst e2) | with_reducible refine sats_raise ?_ | with_reducible refine sat_bind ?_ | with_reducible refine sat_pure ?_ | ((with_reducible refine' sat_getv ?hh ?_); (case hh => exact rfl)) | with_reducible refine sat_mul (by first | decide | omega | exact .inr (bits3 ⟨by omega, by omega⟩ (by decide))) ?_ | with_reducible refine sat_add ?_ | with_reducible refine sat_sub ?_ | with_reducible refine sat_lt ?_ | with_reducible refine sat_le ?_ | with_reducible refine sat_gt ?_ | with_reducible refine sat_ge ?_ | with_reducible refine sat_eqI ?_ | with_reducible refine sat_neI ?_ | with_reducible refine sat_eqS ?_ | with_reducible refine sat_neS ?_ | with_reducible refine sat_eqNil ?_ | with_reducible refine sat_ifBD (fun _ => ?_) (fun _ => ?_) | with_reducible refine sat_asB ?_ | with_reducible refine sat_not ?_ | with_reducible refine sat_int ?_ | with_reducible refine sat_intB ?_ | with_reducible refine sat_abs ?_ | with_reducible refine ite_F ?_ | with_reducible refine ite_T ?_ | with_reducible refine ite_Dn (fun _ => ?_) (fun _ => ?_) | with_reducible refine sats_seq ?_ | with_reducible refine sats_if ?_ | with_reducible refine sats_set ?_ | with_reducible refine sats_setO ?_ | with_reducible refine sats_ret ?_ | with_reducible refine sats_skip ?_ | with_reducible refine sats_drop ?_ | with_reducible refine sats_setCc ?_ | with_reducible refine sat_iteD (fun _ => ?_) (fun _ => ?_) | with_reducible refine sat_lenInts ?_ | with_reducible refine sat_neNil ?_ | with_reducible refine ite_D (fun _ => ?_) (fun _ => ?_) | ((with_reducible refine' sat_getbO ?hh ?_); (case hh => exact rfl)) | ((with_reducible refine' sat_getb ?hh ?_); (case hh => exact rfl)) | with_reducible refine sat_fdiv (by first | assumption | omega | decide) (by first | assumption | omega | decide) ?_ | with_reducible refine sat_mod (by first | assumption | omega | decide) ?_ | with_reducible refine sat_ixO (by assumption) rfl ?_ | with_reducible refine sat_ixMod (by omega) (fun _ => ?_) | with_reducible refine sat_ixInts ⟨by omega, by omega⟩ (fun _ => ?_) | with_reducible refine sat_pow (by first | decide | exact ⟨by decide, by decide, bits1 ⟨by omega, by omega⟩ ⟨by omega, by omega⟩ (by decide) (by decide)⟩ | exact ⟨by decide, by decide, bits2 ⟨by omega, by omega⟩ ⟨by omega, by omega⟩ (by decide) (by decide) (by decide)⟩) ?_ | (refine ⟨_, _, _, _, rfl, rfl, by assumption, rfl, fun S' hS' _ => ?_⟩; try simp only [List.set_cons_succ, List.set_cons_zero, Int.reduceToNat] at hS') | ((with_reducible refine' sat_ixL0 ?hh ?_); (case hh => exact rfl)) | ((with_reducible refine' sat_ixT0 ?hh ?_); (case hh => exact rfl)) | ((with_reducible refine' sat_ixL1 ?hh ?_); (case hh => exact rfl)) | ((with_reducible refine' sat_ixT1 ?hh ?_); (case hh => exact rfl)) | ((with_reducible refine' sat_ixL2 ?hh ?_); (case hh => exact rfl)) | ((with_reducible refine' sat_ixT2 ?hh ?_); (case hh => exact rfl)) | ((with_reducible refine' sat_ixL3 ?hh ?_); (case hh => exact rfl)) | ((with_reducible refine' sat_ixT3 ?hh ?_); (case hh => exact rfl)) | ((with_reducible refine' sat_ixL4 ?hh ?_); (case hh => exact rfl)) | ((with_reducible refine' sat_ixT4 ?hh ?_); (case hh => exact rfl)) | ((with_reducible refine' sat_ifBt ?hh ?_); (case hh => exact rfl)) | ((with_reducible refine' sat_ifBf ?hh ?_); (case hh => exact rfl)) | ((with_reducible refine' ite_bt ?hh ?_); (case hh => exact rfl)) | ((with_reducible refine' ite_bf ?hh ?_); (case hh => exact rfl)) | ((with_reducible refine' sat_ite_bt ?hh ?_); (case hh => exact rfl)) | ((with_reducible refine' sat_ite_bf ?hh ?_); (case hh => exact rfl)) | ((with_reducible refine' sat_inT ?hh (fun bb hbb => ?_)); (case hh => exact rfl)) | ((with_reducible refine' sat_ninT ?hh (fun bb hbb => ?_)); (case hh => exact rfl)) | ((with_reducible refine' sat_inLs ?hh (fun bb hbb => ?_)); (case hh => exact rfl)) | ((with_reducible refine' sat_ninLs ?hh (fun bb hbb => ?_)); (case hh => exact rfl)) | with_reducible refine sat_addLL (by first | omega | (simp; done) | (simp; omega)) ?_ | with_reducible refine sat_mulL (by decide) (by first | omega | (simp; done) | (simp; omega)) ?_ | with_reducible refine sat_lenS (le_line (by assumption)) ?_ | with_reducible refine sat_lcQ ?_ | refine sat_ok rfl ?_ | with_reducible refine ite_B (fun _ => ?_) (fun _ => ?_) | with_reducible refine sat_ite (fun _ => ?_) (fun _ => ?_) | with_reducible refine sat_ifB (fun _ => ?_) (fun _ => ?_) | fail); try dsimp only)
  · rename_i z
    exact ⟨rfl, by simpa using z, rfl, rfl⟩
  · rename_i z
    exact ⟨by simpa using z, rfl⟩
theorem sat_need {k : Nat} {S : Sto} {d lo hi : D} {t : Ty} {p : Str} {l h' : Option Int} {Q : D → Sto → Prop} {X : Exn → Sto → Prop} (h : Kd d t) (e1 : bndD l = lo) (e2 : bndD h' = hi) (q : withD d l h' = true → ∀ r, Q r S) (x : withD d l h' = false → X (badN p) S) : Sat ((fns (k + 5)).p_need_number [d, .str p, lo, hi] S) Q X := by
  subst e1
  subst e2
  exact (need_ok h).mono (fun r S' ⟨e1, e2⟩ => by
    subst e2
    exact q e1 r) (fun e S' ⟨e1, e2, e3⟩ => by
    subst e2
    subst e3
    exact x e1)
theorem sat_needm {k : Nat} {S : Sto} {d : D} {t : Ty} {Q : D → Sto → Prop} {X : Exn → Sto → Prop} (h : Kd d t) (q : withD d (some 2) (some 64) = true → ∀ r, Q r S) (x : withD d (some 2) (some 64) = false → X (badN "m") S) : Sat ((fns (k + 6)).p_need_m [d] S) Q X := by
  rw [u_p_need_m]
  refine sat_run rfl ?_
  unfold m_p_need_m
  rw [show c_LEAST_M = .int 2 from rfl, show c_MOST_M = .int 64 from rfl]
  repeat' ((first | with_reducible refine sat_need (k := k) (l := some 2) (h' := some 64) h rfl rfl (fun z _ => ?_) (fun z => ?_) | with_reducible refine sat_bind ?_ | with_reducible refine sat_pure ?_ | ((with_reducible refine' sat_getv ?hh ?_); (case hh => exact rfl)) | with_reducible refine sat_mul (by first | decide | omega | exact .inr (bits3 ⟨by omega, by omega⟩ (by decide))) ?_ | with_reducible refine sat_add ?_ | with_reducible refine sat_sub ?_ | with_reducible refine sat_lt ?_ | with_reducible refine sat_le ?_ | with_reducible refine sat_gt ?_ | with_reducible refine sat_ge ?_ | with_reducible refine sat_eqI ?_ | with_reducible refine sat_neI ?_ | with_reducible refine sat_eqS ?_ | with_reducible refine sat_neS ?_ | with_reducible refine sat_eqNil ?_ | with_reducible refine sat_ifBD (fun _ => ?_) (fun _ => ?_) | with_reducible refine sat_asB ?_ | with_reducible refine sat_not ?_ | with_reducible refine sat_int ?_ | with_reducible refine sat_intB ?_ | with_reducible refine sat_abs ?_ | with_reducible refine ite_F ?_ | with_reducible refine ite_T ?_ | with_reducible refine ite_Dn (fun _ => ?_) (fun _ => ?_) | with_reducible refine sats_seq ?_ | with_reducible refine sats_if ?_ | with_reducible refine sats_set ?_ | with_reducible refine sats_setO ?_ | with_reducible refine sats_ret ?_ | with_reducible refine sats_skip ?_ | with_reducible refine sats_drop ?_ | with_reducible refine sats_setCc ?_ | with_reducible refine sat_iteD (fun _ => ?_) (fun _ => ?_) | with_reducible refine sat_lenInts ?_ | with_reducible refine sat_neNil ?_ | with_reducible refine ite_D (fun _ => ?_) (fun _ => ?_) | ((with_reducible refine' sat_getbO ?hh ?_); (case hh => exact rfl)) | ((with_reducible refine' sat_getb ?hh ?_); (case hh => exact rfl)) | with_reducible refine sat_fdiv (by first | assumption | omega | decide) (by first | assumption | omega | decide) ?_ | with_reducible refine sat_mod (by first | assumption | omega | decide) ?_ | with_reducible refine sat_ixO (by assumption) rfl ?_ | with_reducible refine sat_ixMod (by omega) (fun _ => ?_) | with_reducible refine sat_ixInts ⟨by omega, by omega⟩ (fun _ => ?_) | with_reducible refine sat_pow (by first | decide | exact ⟨by decide, by decide, bits1 ⟨by omega, by omega⟩ ⟨by omega, by omega⟩ (by decide) (by decide)⟩ | exact ⟨by decide, by decide, bits2 ⟨by omega, by omega⟩ ⟨by omega, by omega⟩ (by decide) (by decide) (by decide)⟩) ?_ | (refine ⟨_, _, _, _, rfl, rfl, by assumption, rfl, fun S' hS' _ => ?_⟩; try simp only [List.set_cons_succ, List.set_cons_zero, Int.reduceToNat] at hS') | ((with_reducible refine' sat_ixL0 ?hh ?_); (case hh => exact rfl)) | ((with_reducible refine' sat_ixT0 ?hh ?_); (case hh => exact rfl)) | ((with_reducible refine' sat_ixL1 ?hh ?_); (case hh => exact rfl)) | ((with_reducible refine' sat_ixT1 ?hh ?_); (case hh => exact rfl)) | ((with_reducible refine' sat_ixL2 ?hh ?_); (case hh => exact rfl)) | ((with_reducible refine' sat_ixT2 ?hh ?_); (case hh => exact rfl)) | ((with_reducible refine' sat_ixL3 ?hh ?_); (case hh => exact rfl)) | ((with_reducible refine' sat_ixT3 ?hh ?_); (case hh => exact rfl)) | ((with_reducible refine' sat_ixL4 ?hh ?_); (case hh => exact rfl)) | ((with_reducible refine' sat_ixT4 ?hh ?_); (case hh => exact rfl)) | ((with_reducible refine' sat_ifBt ?hh ?_); (case hh => exact rfl)) | ((with_reducible refine' sat_ifBf ?hh ?_); (case hh => exact rfl)) | ((with_reducible refine' ite_bt ?hh ?_); (case hh => exact rfl)) | ((with_reducible refine' ite_bf ?hh ?_); (case hh => exact rfl)) | ((with_reducible refine' sat_ite_bt ?hh ?_); (case hh => exact rfl)) | ((with_reducible refine' sat_ite_bf ?hh ?_); (case hh => exact rfl)) | ((with_reducible refine' sat_inT ?hh (fun bb hbb => ?_)); (case hh => exact rfl)) | ((with_reducible refine' sat_ninT ?hh (fun bb hbb => ?_)); (case hh => exact rfl)) | ((with_reducible refine' sat_inLs ?hh (fun bb hbb => ?_)); (case hh => exact rfl)) | ((with_reducible refine' sat_ninLs ?hh (fun bb hbb => ?_)); (case hh => exact rfl)) | with_reducible refine sat_addLL (by first | omega | (simp; done) | (simp; omega)) ?_ | with_reducible refine sat_mulL (by decide) (by first | omega | (simp; done) | (simp; omega)) ?_ | with_reducible refine sat_lenS (le_line (by assumption)) ?_ | with_reducible refine sat_lcQ ?_ | refine sat_ok rfl ?_ | with_reducible refine ite_B (fun _ => ?_) (fun _ => ?_) | with_reducible refine sat_ite (fun _ => ?_) (fun _ => ?_) | with_reducible refine sat_ifB (fun _ => ?_) (fun _ => ?_) | fail); try dsimp only)
  · exact q z _
  · exact x z
end K35

set_option Elab.async false
set_option linter.all false
set_option maxRecDepth 100000
set_option maxHeartbeats 2000000
namespace K35
open PySem PySem.Spec PyProof.Rows L2 Sm
def wantI (done has number m : Int) : D := if number = (done + 1) % m then .int 1 else if number = done % m ∧ has = 0 then .int 0 else .none
theorem want_ok {k : Nat} {S : Sto} {done has number m : Int} (h0 : 0 ≤ done) (h1 : has = 0 ∨ has = 1) (h2 : 0 ≤ number ∧ number < m) (h3 : 2 ≤ m ∧ m ≤ 64) : Sat ((fns (k + 7)).p_is_wanted [.int done, .int has, .int number, .int m] S) (isV (wantI done has number m) S) noX := by
  rw [u_p_is_wanted]
  refine sat_run rfl ?_
  unfold m_p_is_wanted
  rw [show c_MOST_M = .int 64 from rfl]
  repeat' ((first | with_reducible refine sat_need (k := k + 1) (l := some 0) (h' := none) kd_i rfl rfl (fun _ _ => ?_) (fun z => ?_) | with_reducible refine sat_need (k := k + 1) (l := some 0) (h' := some 1) kd_i rfl rfl (fun _ _ => ?_) (fun z => ?_) | with_reducible refine sat_need (k := k + 1) (l := some 0) (h' := some 63) kd_i rfl rfl (fun _ _ => ?_) (fun z => ?_) | with_reducible refine sat_needm (k := k) kd_i (fun _ _ => ?_) (fun z => ?_) | with_reducible refine sats_raise ?_ | with_reducible refine sat_bind ?_ | with_reducible refine sat_pure ?_ | ((with_reducible refine' sat_getv ?hh ?_); (case hh => exact rfl)) | with_reducible refine sat_mul (by first | decide | omega | exact .inr (bits3 ⟨by omega, by omega⟩ (by decide))) ?_ | with_reducible refine sat_add ?_ | with_reducible refine sat_sub ?_ | with_reducible refine sat_lt ?_ | with_reducible refine sat_le ?_ | with_reducible refine sat_gt ?_ | with_reducible refine sat_ge ?_ | with_reducible refine sat_eqI ?_ | with_reducible refine sat_neI ?_ | with_reducible refine sat_eqS ?_ | with_reducible refine sat_neS ?_ | with_reducible refine sat_eqNil ?_ | with_reducible refine sat_ifBD (fun _ => ?_) (fun _ => ?_) | with_reducible refine sat_asB ?_ | with_reducible refine sat_not ?_ | with_reducible refine sat_int ?_ | with_reducible refine sat_intB ?_ | with_reducible refine sat_abs ?_ | with_reducible refine ite_F ?_ | with_reducible refine ite_T ?_ | with_reducible refine ite_Dn (fun _ => ?_) (fun _ => ?_) | with_reducible refine sats_seq ?_ | with_reducible refine sats_if ?_ | with_reducible refine sats_set ?_ | with_reducible refine sats_setO ?_ | with_reducible refine sats_ret ?_ | with_reducible refine sats_skip ?_ | with_reducible refine sats_drop ?_ | with_reducible refine sats_setCc ?_ | with_reducible refine sat_iteD (fun _ => ?_) (fun _ => ?_) | with_reducible refine sat_lenInts ?_ | with_reducible refine sat_neNil ?_ | with_reducible refine ite_D (fun _ => ?_) (fun _ => ?_) | ((with_reducible refine' sat_getbO ?hh ?_); (case hh => exact rfl)) | ((with_reducible refine' sat_getb ?hh ?_); (case hh => exact rfl)) | with_reducible refine sat_fdiv (by first | assumption | omega | decide) (by first | assumption | omega | decide) ?_ | with_reducible refine sat_mod (by first | assumption | omega | decide) ?_ | with_reducible refine sat_ixO (by assumption) rfl ?_ | with_reducible refine sat_ixMod (by omega) (fun _ => ?_) | with_reducible refine sat_ixInts ⟨by omega, by omega⟩ (fun _ => ?_) | with_reducible refine sat_pow (by first | decide | exact ⟨by decide, by decide, bits1 ⟨by omega, by omega⟩ ⟨by omega, by omega⟩ (by decide) (by decide)⟩ | exact ⟨by decide, by decide, bits2 ⟨by omega, by omega⟩ ⟨by omega, by omega⟩ (by decide) (by decide) (by decide)⟩) ?_ | (refine ⟨_, _, _, _, rfl, rfl, by assumption, rfl, fun S' hS' _ => ?_⟩; try simp only [List.set_cons_succ, List.set_cons_zero, Int.reduceToNat] at hS') | ((with_reducible refine' sat_ixL0 ?hh ?_); (case hh => exact rfl)) | ((with_reducible refine' sat_ixT0 ?hh ?_); (case hh => exact rfl)) | ((with_reducible refine' sat_ixL1 ?hh ?_); (case hh => exact rfl)) | ((with_reducible refine' sat_ixT1 ?hh ?_); (case hh => exact rfl)) | ((with_reducible refine' sat_ixL2 ?hh ?_); (case hh => exact rfl)) | ((with_reducible refine' sat_ixT2 ?hh ?_); (case hh => exact rfl)) | ((with_reducible refine' sat_ixL3 ?hh ?_); (case hh => exact rfl)) | ((with_reducible refine' sat_ixT3 ?hh ?_); (case hh => exact rfl)) | ((with_reducible refine' sat_ixL4 ?hh ?_); (case hh => exact rfl)) | ((with_reducible refine' sat_ixT4 ?hh ?_); (case hh => exact rfl)) | ((with_reducible refine' sat_ifBt ?hh ?_); (case hh => exact rfl)) | ((with_reducible refine' sat_ifBf ?hh ?_); (case hh => exact rfl)) | ((with_reducible refine' ite_bt ?hh ?_); (case hh => exact rfl)) | ((with_reducible refine' ite_bf ?hh ?_); (case hh => exact rfl)) | ((with_reducible refine' sat_ite_bt ?hh ?_); (case hh => exact rfl)) | ((with_reducible refine' sat_ite_bf ?hh ?_); (case hh => exact rfl)) | ((with_reducible refine' sat_inT ?hh (fun bb hbb => ?_)); (case hh => exact rfl)) | ((with_reducible refine' sat_ninT ?hh (fun bb hbb => ?_)); (case hh => exact rfl)) | ((with_reducible refine' sat_inLs ?hh (fun bb hbb => ?_)); (case hh => exact rfl)) | ((with_reducible refine' sat_ninLs ?hh (fun bb hbb => ?_)); (case hh => exact rfl)) | with_reducible refine sat_addLL (by first | omega | (simp; done) | (simp; omega)) ?_ | with_reducible refine sat_mulL (by decide) (by first | omega | (simp; done) | (simp; omega)) ?_ | with_reducible refine sat_lenS (le_line (by assumption)) ?_ | with_reducible refine sat_lcQ ?_ | refine sat_ok rfl ?_ | with_reducible refine ite_B (fun _ => ?_) (fun _ => ?_) | with_reducible refine sat_ite (fun _ => ?_) (fun _ => ?_) | with_reducible refine sat_ifB (fun _ => ?_) (fun _ => ?_) | fail); try dsimp only)
  all_goals first | (unfold withD at z; simp at z; omega) | omega | skip
  all_goals (refine ⟨?_, rfl⟩; unfold wantI)
  all_goals simp_all
theorem with_i {i : Int} {lo hi : Option Int} : withD (.int i) lo hi = ((match lo with | some l => decide (l ≤ i) | none => true) && (match hi with | some h => decide (i ≤ h) | none => true)) := rfl
def intO : D → Int
  | .int i => i
  | _ => 0
/-- what is raised -/
def faultE (d0 d1 d2 d3 : D) : Option Exn := if withD d0 (some 0) none = false then some (badN "done") else if withD d1 (some 0) (some 1) = false then some (badN "has") else if withD d2 (some 0) (some 63) = false then some (badN "number")
  else if withD d3 (some 2) (some 64) = false then some (badN "m") else if intO d3 ≤ intO d2 then some (misN "number") else none
theorem with_int {d : D} {lo hi : Option Int} (h : withD d lo hi = true) : ∃ i, d = .int i := by
  cases d with
  | int i => exact ⟨i, rfl⟩
  | _ => cases h
theorem want_bad {k : Nat} {S : Sto} {d0 d1 d2 d3 : D} {t0 t1 t2 t3 : Ty} {e : Exn} (h0 : Kd d0 t0) (h1 : Kd d1 t1) (h2 : Kd d2 t2) (h3 : Kd d3 t3) (he : faultE d0 d1 d2 d3 = some e) : Sat ((fns (k + 7)).p_is_wanted [d0, d1, d2, d3] S) (fun _ _ => False) (fun z S' => z = e ∧ S' = S) := by
  rw [u_p_is_wanted]
  refine sat_run rfl ?_
  unfold m_p_is_wanted
  rw [show c_MOST_M = .int 64 from rfl]
  repeat' ((first | with_reducible refine sat_need (k := k + 1) (l := some 0) (h' := none) h0 rfl rfl (fun z0 _ => ?_) (fun z0 => ?_) | with_reducible refine sat_need (k := k + 1) (l := some 0) (h' := some 1) h1 rfl rfl (fun z1 _ => ?_) (fun z1 => ?_) | with_reducible refine sat_need (k := k + 1) (l := some 0) (h' := some 63) h2 rfl rfl (fun z2 _ => ?_) (fun z2 => ?_) | with_reducible refine sat_needm (k := k) h3 (fun z3 _ => ?_) (fun z3 => ?_) | (obtain ⟨i2, rfl⟩ := with_int z2; obtain ⟨i3, rfl⟩ := with_int z3; obtain ⟨i0, rfl⟩ := with_int z0; obtain ⟨i1, rfl⟩ := with_int z1; clear h0 h1 h2 h3) | with_reducible refine sats_raise ?_ | with_reducible refine sat_bind ?_ | with_reducible refine sat_pure ?_ | ((with_reducible refine' sat_getv ?hh ?_); (case hh => exact rfl)) | with_reducible refine sat_mul (by first | decide | omega | exact .inr (bits3 ⟨by omega, by omega⟩ (by decide))) ?_ | with_reducible refine sat_add ?_ | with_reducible refine sat_sub ?_ | with_reducible refine sat_lt ?_ | with_reducible refine sat_le ?_ | with_reducible refine sat_gt ?_ | with_reducible refine sat_ge ?_ | with_reducible refine sat_eqI ?_ | with_reducible refine sat_neI ?_ | with_reducible refine sat_eqS ?_ | with_reducible refine sat_neS ?_ | with_reducible refine sat_eqNil ?_ | with_reducible refine sat_ifBD (fun _ => ?_) (fun _ => ?_) | with_reducible refine sat_asB ?_ | with_reducible refine sat_not ?_ | with_reducible refine sat_int ?_ | with_reducible refine sat_intB ?_ | with_reducible refine sat_abs ?_ | with_reducible refine ite_F ?_ | with_reducible refine ite_T ?_ | with_reducible refine ite_Dn (fun _ => ?_) (fun _ => ?_) | with_reducible refine sats_seq ?_ | with_reducible refine sats_if ?_ | with_reducible refine sats_set ?_ | with_reducible refine sats_setO ?_ | with_reducible refine sats_ret ?_ | with_reducible refine sats_skip ?_ | with_reducible refine sats_drop ?_ | with_reducible refine sats_setCc ?_ | with_reducible refine sat_iteD (fun _ => ?_) (fun _ => ?_) | with_reducible refine sat_lenInts ?_ | with_reducible refine sat_neNil ?_ | with_reducible refine ite_D (fun _ => ?_) (fun _ => ?_) | ((with_reducible refine' sat_getbO ?hh ?_); (case hh => exact rfl)) | ((with_reducible refine' sat_getb ?hh ?_); (case hh => exact rfl)) | with_reducible refine sat_fdiv (by first | assumption | omega | decide) (by first | assumption | omega | decide) ?_ | with_reducible refine sat_mod (by first | assumption | omega | decide) ?_ | with_reducible refine sat_ixO (by assumption) rfl ?_ | with_reducible refine sat_ixMod (by omega) (fun _ => ?_) | with_reducible refine sat_ixInts ⟨by omega, by omega⟩ (fun _ => ?_) | with_reducible refine sat_pow (by first | decide | exact ⟨by decide, by decide, bits1 ⟨by omega, by omega⟩ ⟨by omega, by omega⟩ (by decide) (by decide)⟩ | exact ⟨by decide, by decide, bits2 ⟨by omega, by omega⟩ ⟨by omega, by omega⟩ (by decide) (by decide) (by decide)⟩) ?_ | (refine ⟨_, _, _, _, rfl, rfl, by assumption, rfl, fun S' hS' _ => ?_⟩; try simp only [List.set_cons_succ, List.set_cons_zero, Int.reduceToNat] at hS') | ((with_reducible refine' sat_ixL0 ?hh ?_); (case hh => exact rfl)) | ((with_reducible refine' sat_ixT0 ?hh ?_); (case hh => exact rfl)) | ((with_reducible refine' sat_ixL1 ?hh ?_); (case hh => exact rfl)) | ((with_reducible refine' sat_ixT1 ?hh ?_); (case hh => exact rfl)) | ((with_reducible refine' sat_ixL2 ?hh ?_); (case hh => exact rfl)) | ((with_reducible refine' sat_ixT2 ?hh ?_); (case hh => exact rfl)) | ((with_reducible refine' sat_ixL3 ?hh ?_); (case hh => exact rfl)) | ((with_reducible refine' sat_ixT3 ?hh ?_); (case hh => exact rfl)) | ((with_reducible refine' sat_ixL4 ?hh ?_); (case hh => exact rfl)) | ((with_reducible refine' sat_ixT4 ?hh ?_); (case hh => exact rfl)) | ((with_reducible refine' sat_ifBt ?hh ?_); (case hh => exact rfl)) | ((with_reducible refine' sat_ifBf ?hh ?_); (case hh => exact rfl)) | ((with_reducible refine' ite_bt ?hh ?_); (case hh => exact rfl)) | ((with_reducible refine' ite_bf ?hh ?_); (case hh => exact rfl)) | ((with_reducible refine' sat_ite_bt ?hh ?_); (case hh => exact rfl)) | ((with_reducible refine' sat_ite_bf ?hh ?_); (case hh => exact rfl)) | ((with_reducible refine' sat_inT ?hh (fun bb hbb => ?_)); (case hh => exact rfl)) | ((with_reducible refine' sat_ninT ?hh (fun bb hbb => ?_)); (case hh => exact rfl)) | ((with_reducible refine' sat_inLs ?hh (fun bb hbb => ?_)); (case hh => exact rfl)) | ((with_reducible refine' sat_ninLs ?hh (fun bb hbb => ?_)); (case hh => exact rfl)) | with_reducible refine sat_addLL (by first | omega | (simp; done) | (simp; omega)) ?_ | with_reducible refine sat_mulL (by decide) (by first | omega | (simp; done) | (simp; omega)) ?_ | with_reducible refine sat_lenS (le_line (by assumption)) ?_ | with_reducible refine sat_lcQ ?_ | refine sat_ok rfl ?_ | with_reducible refine ite_B (fun _ => ?_) (fun _ => ?_) | with_reducible refine sat_ite (fun _ => ?_) (fun _ => ?_) | with_reducible refine sat_ifB (fun _ => ?_) (fun _ => ?_) | fail); try dsimp only)
  all_goals first | (simp [faultE, intO, *] at he; done) | (simp [faultE, intO, *] at he; subst he; exact ⟨rfl, rfl⟩) | (simp [faultE, intO, *] at he; subst he; exact ⟨rfl, rfl, rfl⟩)
abbrev tab0 : Str := lamQ "_law_refused_right"
theorem sat_heardB {F : List D → M D} {act : M D} {ds : List D} {p : Str} {S : Sto} {Q : D → Sto → Prop} {X : Exn → Sto → Prop} (ht : S[0]? = some (some (.tbl tab0))) (ha : act S = F ds S) (h : Sat (F ds S) (fun _ _ => False) (fun z S' => z = badN p ∧ S' = S)) (q : Q (.list [.str "number", .str p]) S) : Sat (lamM 0 tab0 (askF 3 1 hd_heard r_heard act) S) Q X := by
  refine sat_lam ht ?_
  unfold askF askS seqS tryD dropS bindS
  dsimp only
  rw [ha]
  cases e : F ds S with
  | ok d S1 =>
    rw [e] at h
    exact h.elim
  | exc z S1 =>
    rw [e] at h
    obtain ⟨e1, e2⟩ := h
    subst e1
    subst e2
    exact sat_ok (a := .list [.str "number", .str p]) (S := S1) rfl q
  | stuck =>
    rw [e] at h
    exact h.elim
theorem sat_heardM {F : List D → M D} {act : M D} {ds : List D} {p : Str} {S : Sto} {Q : D → Sto → Prop} {X : Exn → Sto → Prop} (ht : S[0]? = some (some (.tbl tab0))) (ha : act S = F ds S) (h : Sat (F ds S) (fun _ _ => False) (fun z S' => z = misN p ∧ S' = S)) (q : Q (.list [.str "misfit", .str p]) S) : Sat (lamM 0 tab0 (askF 3 1 hd_heard r_heard act) S) Q X := by
  refine sat_lam ht ?_
  unfold askF askS seqS tryD dropS bindS
  dsimp only
  rw [ha]
  cases e : F ds S with
  | ok d S1 =>
    rw [e] at h
    exact h.elim
  | exc z S1 =>
    rw [e] at h
    obtain ⟨e1, e2⟩ := h
    subst e1
    subst e2
    exact sat_ok (a := .list [.str "misfit", .str p]) (S := S1) rfl q
  | stuck =>
    rw [e] at h
    exact h.elim
def oddL : List D := [.none, .bool true, .bool false, .str "1", .list [.int 1], .tup [.int 0], .dict []]
theorem odd_ok {x : D} (h : x ∈ oddL) : (∃ t, Kd x t) ∧ ∀ lo hi, withD x lo hi = false := by
  simp only [oddL, List.mem_cons, List.not_mem_nil, or_false] at h
  rcases h with rfl | rfl | rfl | rfl | rfl | rfl | rfl
  all_goals exact ⟨⟨_, fun _ => rfl⟩, fun _ _ => rfl⟩
theorem both_ok {x : D} (h : x ∈ ([.int (-1), .int (-(10 ^ 20))] : List D)) : Kd x .int ∧ ∀ hi, withD x (some 0) hi = false := by
  simp only [List.mem_cons, List.not_mem_nil, or_false] at h
  rcases h with rfl | rfl
  all_goals exact ⟨kd_i, fun hi => by simp [withD]⟩
theorem low_ok {x : D} (h : x ∈ ([.int 1, .int 0, .int (-3), .int 65, .int (10 ^ 20)] : List D)) : Kd x .int ∧ withD x (some 2) (some 64) = false := by
  simp only [List.mem_cons, List.not_mem_nil, or_false] at h
  rcases h with rfl | rfl | rfl | rfl | rfl
  all_goals exact ⟨kd_i, by decide⟩
def dueL : List D := [.list [.str "number", .str "done"], .list [.str "number", .str "done"], .list [.str "number", .str "has"], .list [.str "number", .str "has"], .list [.str "number", .str "has"],
  .list [.str "number", .str "number"], .list [.str "number", .str "number"], .list [.str "number", .str "number"], .list [.str "number", .str "m"], .list [.str "number", .str "m"], .list [.str "misfit", .str "number"], .list [.str "misfit", .str "number"]]
theorem two_lay {a b : Str} (h1 : PyData.strOk a = true) (h2 : PyData.strOk b = true) : Lay 1 (.list [.str a, .str b]) := lay_list fun y hy => by
  simp only [List.mem_cons, List.not_mem_nil, or_false] at hy
  rcases hy with rfl | rfl
  · exact lay_str h1
  · exact lay_str h2
theorem due_lay : Lay 2 (.list dueL) := lay_list fun x hx => by
  simp only [dueL, List.mem_cons, List.not_mem_nil, or_false] at hx
  rcases hx with rfl | rfl | rfl | rfl | rfl | rfl | rfl | rfl | rfl | rfl | rfl | rfl
  all_goals exact two_lay (by decide +kernel) (by decide +kernel)
theorem sat_dueL {xs ys : List D} {S : Sto} {Q : D → Sto → Prop} {X : Exn → Sto → Prop} (e1 : xs = dueL) (e2 : ys = dueL) (q : Q (.bool true) S) : Sat (eqM (.list xs) (.list ys) S) Q X := by
  subst e1
  subst e2
  exact sat_eqList due_lay (by decide) q
end K35

set_option Elab.async false
set_option linter.all false
set_option maxRecDepth 100000
set_option maxHeartbeats 4000000
namespace K35
open PySem PySem.Spec PyProof.Rows L2 Sm
theorem refused_ok {b c : Nat} {S : Sto} (hc : CloudL TL (b + B 59) S c) : Sat ((fns 59).refused_right [.obj c] S) (isC (fun d => d = .bool true) b c) noX := by
  have hB : B 59 = 1048576 * B 58 := B_succ 58
  have hc : CloudL TL (b + B 58 + B 58 + B 58) S c := hc.le (by omega)
  have e0 : (fns 59).refused_right = runF 6 1 (m_refused_right (fns 58) (fns 56)) := u_refused_right 56
  rw [e0]
  refine sat_run rfl ?_
  unfold m_refused_right
  have oo : ∀ {b : Nat} {S : Sto} {xs : List D}, CloudL TL (b + B 58) S c → 0 < xs.length → xs.length ≤ 100000 → Sat ((fns 58).one_of [.obj c, .list xs] S) (isC (fun d => d ∈ xs) b c) noX := fun {b S xs} h h1 h2 => pluck_ok (k := 54) (h.le (show b + B 56 ≤ b + B 58 by have h1 : B 58 = 1048576 * B 57 := B_succ 57; have h2 : B 57 = 1048576 * B 56 := B_succ 56; omega)) h1 h2
  have wb : ∀ {S : Sto} {d0 d1 d2 d3 : D} {t0 t1 t2 t3 : Ty} {e : Exn}, Kd d0 t0 → Kd d1 t1 → Kd d2 t2 → Kd d3 t3 → faultE d0 d1 d2 d3 = some e → Sat ((fns 56).p_is_wanted [d0, d1, d2, d3] S) (fun _ _ => False) (fun z S' => z = e ∧ S' = S) := fun {S d0 d1 d2 d3 t0 t1 t2 t3 e} h0 h1 h2 h3 he => want_bad (k := 49) h0 h1 h2 h3 he
  generalize fns 58 = G at oo ⊢
  generalize fns 56 = G2 at wb ⊢
  generalize B 58 = U at oo hc hB ⊢
  repeat' ((first | ((with_reducible refine Sat.to (oo hc (by decide) (by decide)) (fun r S' hr => ?_)); obtain ⟨hm, hc⟩ := hr) | with_reducible refine sats_setT ?_ | with_reducible refine sat_bind ?_ | with_reducible refine sat_pure ?_ | ((with_reducible refine' sat_getv ?hh ?_); (case hh => exact rfl)) | with_reducible refine sat_mul (by first | decide | omega | exact .inr (bits3 ⟨by omega, by omega⟩ (by decide))) ?_ | with_reducible refine sat_add ?_ | with_reducible refine sat_sub ?_ | with_reducible refine sat_lt ?_ | with_reducible refine sat_le ?_ | with_reducible refine sat_gt ?_ | with_reducible refine sat_ge ?_ | with_reducible refine sat_eqI ?_ | with_reducible refine sat_neI ?_ | with_reducible refine sat_eqS ?_ | with_reducible refine sat_neS ?_ | with_reducible refine sat_eqNil ?_ | with_reducible refine sat_ifBD (fun _ => ?_) (fun _ => ?_) | with_reducible refine sat_asB ?_ | with_reducible refine sat_not ?_ | with_reducible refine sat_int ?_ | with_reducible refine sat_intB ?_ | with_reducible refine sat_abs ?_ | with_reducible refine ite_F ?_ | with_reducible refine ite_T ?_ | with_reducible refine ite_Dn (fun _ => ?_) (fun _ => ?_) | with_reducible refine sats_seq ?_ | with_reducible refine sats_if ?_ | with_reducible refine sats_set ?_ | with_reducible refine sats_setO ?_ | with_reducible refine sats_ret ?_ | with_reducible refine sats_skip ?_ | with_reducible refine sats_drop ?_ | with_reducible refine sats_setCc ?_ | with_reducible refine sat_iteD (fun _ => ?_) (fun _ => ?_) | with_reducible refine sat_lenInts ?_ | with_reducible refine sat_neNil ?_ | with_reducible refine ite_D (fun _ => ?_) (fun _ => ?_) | ((with_reducible refine' sat_getbO ?hh ?_); (case hh => exact rfl)) | ((with_reducible refine' sat_getb ?hh ?_); (case hh => exact rfl)) | with_reducible refine sat_fdiv (by first | assumption | omega | decide) (by first | assumption | omega | decide) ?_ | with_reducible refine sat_mod (by first | assumption | omega | decide) ?_ | with_reducible refine sat_ixO (by assumption) rfl ?_ | with_reducible refine sat_ixMod (by omega) (fun _ => ?_) | with_reducible refine sat_ixInts ⟨by omega, by omega⟩ (fun _ => ?_) | with_reducible refine sat_pow (by first | decide | exact ⟨by decide, by decide, bits1 ⟨by omega, by omega⟩ ⟨by omega, by omega⟩ (by decide) (by decide)⟩ | exact ⟨by decide, by decide, bits2 ⟨by omega, by omega⟩ ⟨by omega, by omega⟩ (by decide) (by decide) (by decide)⟩) ?_ | (refine ⟨_, _, _, _, rfl, rfl, by assumption, rfl, fun S' hS' _ => ?_⟩; try simp only [List.set_cons_succ, List.set_cons_zero, Int.reduceToNat] at hS') | ((with_reducible refine' sat_ixL0 ?hh ?_); (case hh => exact rfl)) | ((with_reducible refine' sat_ixT0 ?hh ?_); (case hh => exact rfl)) | ((with_reducible refine' sat_ixL1 ?hh ?_); (case hh => exact rfl)) | ((with_reducible refine' sat_ixT1 ?hh ?_); (case hh => exact rfl)) | ((with_reducible refine' sat_ixL2 ?hh ?_); (case hh => exact rfl)) | ((with_reducible refine' sat_ixT2 ?hh ?_); (case hh => exact rfl)) | ((with_reducible refine' sat_ixL3 ?hh ?_); (case hh => exact rfl)) | ((with_reducible refine' sat_ixT3 ?hh ?_); (case hh => exact rfl)) | ((with_reducible refine' sat_ixL4 ?hh ?_); (case hh => exact rfl)) | ((with_reducible refine' sat_ixT4 ?hh ?_); (case hh => exact rfl)) | ((with_reducible refine' sat_ifBt ?hh ?_); (case hh => exact rfl)) | ((with_reducible refine' sat_ifBf ?hh ?_); (case hh => exact rfl)) | ((with_reducible refine' ite_bt ?hh ?_); (case hh => exact rfl)) | ((with_reducible refine' ite_bf ?hh ?_); (case hh => exact rfl)) | ((with_reducible refine' sat_ite_bt ?hh ?_); (case hh => exact rfl)) | ((with_reducible refine' sat_ite_bf ?hh ?_); (case hh => exact rfl)) | ((with_reducible refine' sat_inT ?hh (fun bb hbb => ?_)); (case hh => exact rfl)) | ((with_reducible refine' sat_ninT ?hh (fun bb hbb => ?_)); (case hh => exact rfl)) | ((with_reducible refine' sat_inLs ?hh (fun bb hbb => ?_)); (case hh => exact rfl)) | ((with_reducible refine' sat_ninLs ?hh (fun bb hbb => ?_)); (case hh => exact rfl)) | with_reducible refine sat_addLL (by first | omega | (simp; done) | (simp; omega)) ?_ | with_reducible refine sat_mulL (by decide) (by first | omega | (simp; done) | (simp; omega)) ?_ | with_reducible refine sat_lenS (le_line (by assumption)) ?_ | with_reducible refine sat_lcQ ?_ | refine sat_ok rfl ?_ | with_reducible refine ite_B (fun _ => ?_) (fun _ => ?_) | with_reducible refine sat_ite (fun _ => ?_) (fun _ => ?_) | with_reducible refine sat_ifB (fun _ => ?_) (fun _ => ?_) | fail); try dsimp only)
  rename_i odd S1 hodd hc1
  refine ⟨_, rfl, ?_⟩
  obtain ⟨⟨t, ko⟩, ho⟩ := odd_ok hodd
  obtain ⟨kb, hb⟩ := both_ok hm
  clear hc1 hodd hm
  have ht := hc.tab (i := 0) rfl
  have f1 : faultE odd odd odd odd = some (badN "done") := by simp [faultE, ho, hb, with_i]
  have w1 : ∀ {S : Sto}, Sat (G2.p_is_wanted [odd, odd, odd, odd] S) (fun _ _ => False) (fun z S' => z = badN "done" ∧ S' = S) := fun {S} => wb ko ko ko ko f1
  have f2 : faultE r (.int 0) (.int 0) (.int 3) = some (badN "done") := by simp [faultE, ho, hb, with_i]
  have w2 : ∀ {S : Sto}, Sat (G2.p_is_wanted [r, (.int 0), (.int 0), (.int 3)] S) (fun _ _ => False) (fun z S' => z = badN "done" ∧ S' = S) := fun {S} => wb kb kd_i kd_i kd_i f2
  have f3 : faultE (.int 3) odd odd odd = some (badN "has") := by simp [faultE, ho, hb, with_i]
  have w3 : ∀ {S : Sto}, Sat (G2.p_is_wanted [(.int 3), odd, odd, odd] S) (fun _ _ => False) (fun z S' => z = badN "has" ∧ S' = S) := fun {S} => wb kd_i ko ko ko f3
  have f4 : faultE (.int 3) (.int 2) (.int 64) (.int 3) = some (badN "has") := by simp [faultE, ho, hb, with_i]
  have w4 : ∀ {S : Sto}, Sat (G2.p_is_wanted [(.int 3), (.int 2), (.int 64), (.int 3)] S) (fun _ _ => False) (fun z S' => z = badN "has" ∧ S' = S) := fun {S} => wb kd_i kd_i kd_i kd_i f4
  have f5 : faultE (.int 3) r (.int 0) (.int 3) = some (badN "has") := by simp [faultE, ho, hb, with_i]
  have w5 : ∀ {S : Sto}, Sat (G2.p_is_wanted [(.int 3), r, (.int 0), (.int 3)] S) (fun _ _ => False) (fun z S' => z = badN "has" ∧ S' = S) := fun {S} => wb kd_i kb kd_i kd_i f5
  have f6 : faultE (.int 3) (.int 0) odd odd = some (badN "number") := by simp [faultE, ho, hb, with_i]
  have w6 : ∀ {S : Sto}, Sat (G2.p_is_wanted [(.int 3), (.int 0), odd, odd] S) (fun _ _ => False) (fun z S' => z = badN "number" ∧ S' = S) := fun {S} => wb kd_i kd_i ko ko f6
  have f7 : faultE (.int 3) (.int 0) (.int 64) (.int 1) = some (badN "number") := by simp [faultE, ho, hb, with_i]
  have w7 : ∀ {S : Sto}, Sat (G2.p_is_wanted [(.int 3), (.int 0), (.int 64), (.int 1)] S) (fun _ _ => False) (fun z S' => z = badN "number" ∧ S' = S) := fun {S} => wb kd_i kd_i kd_i kd_i f7
  have f8 : faultE (.int 3) (.int 0) r (.int 65) = some (badN "number") := by simp [faultE, ho, hb, with_i]
  have w8 : ∀ {S : Sto}, Sat (G2.p_is_wanted [(.int 3), (.int 0), r, (.int 65)] S) (fun _ _ => False) (fun z S' => z = badN "number" ∧ S' = S) := fun {S} => wb kd_i kd_i kb kd_i f8
  have f9 : faultE (.int 3) (.int 0) (.int 1) odd = some (badN "m") := by simp [faultE, ho, hb, with_i]
  have w9 : ∀ {S : Sto}, Sat (G2.p_is_wanted [(.int 3), (.int 0), (.int 1), odd] S) (fun _ _ => False) (fun z S' => z = badN "m" ∧ S' = S) := fun {S} => wb kd_i kd_i kd_i ko f9
  repeat' ((first | ((with_reducible refine' sat_heardB (F := G2.p_is_wanted) (p := "done") ht ?ha ?hh ?_); (case ha => exact rfl); (case hh => exact w1)) | ((with_reducible refine' sat_heardB (F := G2.p_is_wanted) (p := "done") ht ?ha ?hh ?_); (case ha => exact rfl); (case hh => exact w2)) | ((with_reducible refine' sat_heardB (F := G2.p_is_wanted) (p := "has") ht ?ha ?hh ?_); (case ha => exact rfl); (case hh => exact w3)) | with_reducible refine sat_small (by decide) ?_ | with_reducible refine sat_bind ?_ | with_reducible refine sat_pure ?_ | ((with_reducible refine' sat_getv ?hh ?_); (case hh => exact rfl)) | with_reducible refine sat_mul (by first | decide | omega | exact .inr (bits3 ⟨by omega, by omega⟩ (by decide))) ?_ | with_reducible refine sat_add ?_ | with_reducible refine sat_sub ?_ | with_reducible refine sat_lt ?_ | with_reducible refine sat_le ?_ | with_reducible refine sat_gt ?_ | with_reducible refine sat_ge ?_ | with_reducible refine sat_eqI ?_ | with_reducible refine sat_neI ?_ | with_reducible refine sat_eqS ?_ | with_reducible refine sat_neS ?_ | with_reducible refine sat_eqNil ?_ | with_reducible refine sat_ifBD (fun _ => ?_) (fun _ => ?_) | with_reducible refine sat_asB ?_ | with_reducible refine sat_not ?_ | with_reducible refine sat_int ?_ | with_reducible refine sat_intB ?_ | with_reducible refine sat_abs ?_ | with_reducible refine ite_F ?_ | with_reducible refine ite_T ?_ | with_reducible refine ite_Dn (fun _ => ?_) (fun _ => ?_) | with_reducible refine sats_seq ?_ | with_reducible refine sats_if ?_ | with_reducible refine sats_set ?_ | with_reducible refine sats_setO ?_ | with_reducible refine sats_ret ?_ | with_reducible refine sats_skip ?_ | with_reducible refine sats_drop ?_ | with_reducible refine sats_setCc ?_ | with_reducible refine sat_iteD (fun _ => ?_) (fun _ => ?_) | with_reducible refine sat_lenInts ?_ | with_reducible refine sat_neNil ?_ | with_reducible refine ite_D (fun _ => ?_) (fun _ => ?_) | ((with_reducible refine' sat_getbO ?hh ?_); (case hh => exact rfl)) | ((with_reducible refine' sat_getb ?hh ?_); (case hh => exact rfl)) | with_reducible refine sat_fdiv (by first | assumption | omega | decide) (by first | assumption | omega | decide) ?_ | with_reducible refine sat_mod (by first | assumption | omega | decide) ?_ | with_reducible refine sat_ixO (by assumption) rfl ?_ | with_reducible refine sat_ixMod (by omega) (fun _ => ?_) | with_reducible refine sat_ixInts ⟨by omega, by omega⟩ (fun _ => ?_) | with_reducible refine sat_pow (by first | decide | exact ⟨by decide, by decide, bits1 ⟨by omega, by omega⟩ ⟨by omega, by omega⟩ (by decide) (by decide)⟩ | exact ⟨by decide, by decide, bits2 ⟨by omega, by omega⟩ ⟨by omega, by omega⟩ (by decide) (by decide) (by decide)⟩) ?_ | (refine ⟨_, _, _, _, rfl, rfl, by assumption, rfl, fun S' hS' _ => ?_⟩; try simp only [List.set_cons_succ, List.set_cons_zero, Int.reduceToNat] at hS') | ((with_reducible refine' sat_ixL0 ?hh ?_); (case hh => exact rfl)) | ((with_reducible refine' sat_ixT0 ?hh ?_); (case hh => exact rfl)) | ((with_reducible refine' sat_ixL1 ?hh ?_); (case hh => exact rfl)) | ((with_reducible refine' sat_ixT1 ?hh ?_); (case hh => exact rfl)) | ((with_reducible refine' sat_ixL2 ?hh ?_); (case hh => exact rfl)) | ((with_reducible refine' sat_ixT2 ?hh ?_); (case hh => exact rfl)) | ((with_reducible refine' sat_ixL3 ?hh ?_); (case hh => exact rfl)) | ((with_reducible refine' sat_ixT3 ?hh ?_); (case hh => exact rfl)) | ((with_reducible refine' sat_ixL4 ?hh ?_); (case hh => exact rfl)) | ((with_reducible refine' sat_ixT4 ?hh ?_); (case hh => exact rfl)) | ((with_reducible refine' sat_ifBt ?hh ?_); (case hh => exact rfl)) | ((with_reducible refine' sat_ifBf ?hh ?_); (case hh => exact rfl)) | ((with_reducible refine' ite_bt ?hh ?_); (case hh => exact rfl)) | ((with_reducible refine' ite_bf ?hh ?_); (case hh => exact rfl)) | ((with_reducible refine' sat_ite_bt ?hh ?_); (case hh => exact rfl)) | ((with_reducible refine' sat_ite_bf ?hh ?_); (case hh => exact rfl)) | ((with_reducible refine' sat_inT ?hh (fun bb hbb => ?_)); (case hh => exact rfl)) | ((with_reducible refine' sat_ninT ?hh (fun bb hbb => ?_)); (case hh => exact rfl)) | ((with_reducible refine' sat_inLs ?hh (fun bb hbb => ?_)); (case hh => exact rfl)) | ((with_reducible refine' sat_ninLs ?hh (fun bb hbb => ?_)); (case hh => exact rfl)) | with_reducible refine sat_addLL (by first | omega | (simp; done) | (simp; omega)) ?_ | with_reducible refine sat_mulL (by decide) (by first | omega | (simp; done) | (simp; omega)) ?_ | with_reducible refine sat_lenS (le_line (by assumption)) ?_ | with_reducible refine sat_lcQ ?_ | refine sat_ok rfl ?_ | with_reducible refine ite_B (fun _ => ?_) (fun _ => ?_) | with_reducible refine sat_ite (fun _ => ?_) (fun _ => ?_) | with_reducible refine sat_ifB (fun _ => ?_) (fun _ => ?_) | fail); try dsimp only)
  refine sats_extO rfl ?_
  repeat' ((first | ((with_reducible refine' sat_heardB (F := G2.p_is_wanted) (p := "has") ht ?ha ?hh ?_); (case ha => exact rfl); (case hh => exact w4)) | ((with_reducible refine' sat_heardB (F := G2.p_is_wanted) (p := "has") ht ?ha ?hh ?_); (case ha => exact rfl); (case hh => exact w5)) | ((with_reducible refine' sat_heardB (F := G2.p_is_wanted) (p := "number") ht ?ha ?hh ?_); (case ha => exact rfl); (case hh => exact w6)) | with_reducible refine sat_bind ?_ | with_reducible refine sat_pure ?_ | ((with_reducible refine' sat_getv ?hh ?_); (case hh => exact rfl)) | with_reducible refine sat_mul (by first | decide | omega | exact .inr (bits3 ⟨by omega, by omega⟩ (by decide))) ?_ | with_reducible refine sat_add ?_ | with_reducible refine sat_sub ?_ | with_reducible refine sat_lt ?_ | with_reducible refine sat_le ?_ | with_reducible refine sat_gt ?_ | with_reducible refine sat_ge ?_ | with_reducible refine sat_eqI ?_ | with_reducible refine sat_neI ?_ | with_reducible refine sat_eqS ?_ | with_reducible refine sat_neS ?_ | with_reducible refine sat_eqNil ?_ | with_reducible refine sat_ifBD (fun _ => ?_) (fun _ => ?_) | with_reducible refine sat_asB ?_ | with_reducible refine sat_not ?_ | with_reducible refine sat_int ?_ | with_reducible refine sat_intB ?_ | with_reducible refine sat_abs ?_ | with_reducible refine ite_F ?_ | with_reducible refine ite_T ?_ | with_reducible refine ite_Dn (fun _ => ?_) (fun _ => ?_) | with_reducible refine sats_seq ?_ | with_reducible refine sats_if ?_ | with_reducible refine sats_set ?_ | with_reducible refine sats_setO ?_ | with_reducible refine sats_ret ?_ | with_reducible refine sats_skip ?_ | with_reducible refine sats_drop ?_ | with_reducible refine sats_setCc ?_ | with_reducible refine sat_iteD (fun _ => ?_) (fun _ => ?_) | with_reducible refine sat_lenInts ?_ | with_reducible refine sat_neNil ?_ | with_reducible refine ite_D (fun _ => ?_) (fun _ => ?_) | ((with_reducible refine' sat_getbO ?hh ?_); (case hh => exact rfl)) | ((with_reducible refine' sat_getb ?hh ?_); (case hh => exact rfl)) | with_reducible refine sat_fdiv (by first | assumption | omega | decide) (by first | assumption | omega | decide) ?_ | with_reducible refine sat_mod (by first | assumption | omega | decide) ?_ | with_reducible refine sat_ixO (by assumption) rfl ?_ | with_reducible refine sat_ixMod (by omega) (fun _ => ?_) | with_reducible refine sat_ixInts ⟨by omega, by omega⟩ (fun _ => ?_) | with_reducible refine sat_pow (by first | decide | exact ⟨by decide, by decide, bits1 ⟨by omega, by omega⟩ ⟨by omega, by omega⟩ (by decide) (by decide)⟩ | exact ⟨by decide, by decide, bits2 ⟨by omega, by omega⟩ ⟨by omega, by omega⟩ (by decide) (by decide) (by decide)⟩) ?_ | (refine ⟨_, _, _, _, rfl, rfl, by assumption, rfl, fun S' hS' _ => ?_⟩; try simp only [List.set_cons_succ, List.set_cons_zero, Int.reduceToNat] at hS') | ((with_reducible refine' sat_ixL0 ?hh ?_); (case hh => exact rfl)) | ((with_reducible refine' sat_ixT0 ?hh ?_); (case hh => exact rfl)) | ((with_reducible refine' sat_ixL1 ?hh ?_); (case hh => exact rfl)) | ((with_reducible refine' sat_ixT1 ?hh ?_); (case hh => exact rfl)) | ((with_reducible refine' sat_ixL2 ?hh ?_); (case hh => exact rfl)) | ((with_reducible refine' sat_ixT2 ?hh ?_); (case hh => exact rfl)) | ((with_reducible refine' sat_ixL3 ?hh ?_); (case hh => exact rfl)) | ((with_reducible refine' sat_ixT3 ?hh ?_); (case hh => exact rfl)) | ((with_reducible refine' sat_ixL4 ?hh ?_); (case hh => exact rfl)) | ((with_reducible refine' sat_ixT4 ?hh ?_); (case hh => exact rfl)) | ((with_reducible refine' sat_ifBt ?hh ?_); (case hh => exact rfl)) | ((with_reducible refine' sat_ifBf ?hh ?_); (case hh => exact rfl)) | ((with_reducible refine' ite_bt ?hh ?_); (case hh => exact rfl)) | ((with_reducible refine' ite_bf ?hh ?_); (case hh => exact rfl)) | ((with_reducible refine' sat_ite_bt ?hh ?_); (case hh => exact rfl)) | ((with_reducible refine' sat_ite_bf ?hh ?_); (case hh => exact rfl)) | ((with_reducible refine' sat_inT ?hh (fun bb hbb => ?_)); (case hh => exact rfl)) | ((with_reducible refine' sat_ninT ?hh (fun bb hbb => ?_)); (case hh => exact rfl)) | ((with_reducible refine' sat_inLs ?hh (fun bb hbb => ?_)); (case hh => exact rfl)) | ((with_reducible refine' sat_ninLs ?hh (fun bb hbb => ?_)); (case hh => exact rfl)) | with_reducible refine sat_addLL (by first | omega | (simp; done) | (simp; omega)) ?_ | with_reducible refine sat_mulL (by decide) (by first | omega | (simp; done) | (simp; omega)) ?_ | with_reducible refine sat_lenS (le_line (by assumption)) ?_ | with_reducible refine sat_lcQ ?_ | refine sat_ok rfl ?_ | with_reducible refine ite_B (fun _ => ?_) (fun _ => ?_) | with_reducible refine sat_ite (fun _ => ?_) (fun _ => ?_) | with_reducible refine sat_ifB (fun _ => ?_) (fun _ => ?_) | fail); try dsimp only)
  refine ⟨_, rfl, le_line (by simp), ?_⟩
  repeat' ((first | with_reducible refine sat_bind ?_ | with_reducible refine sat_pure ?_ | ((with_reducible refine' sat_getv ?hh ?_); (case hh => exact rfl)) | with_reducible refine sat_mul (by first | decide | omega | exact .inr (bits3 ⟨by omega, by omega⟩ (by decide))) ?_ | with_reducible refine sat_add ?_ | with_reducible refine sat_sub ?_ | with_reducible refine sat_lt ?_ | with_reducible refine sat_le ?_ | with_reducible refine sat_gt ?_ | with_reducible refine sat_ge ?_ | with_reducible refine sat_eqI ?_ | with_reducible refine sat_neI ?_ | with_reducible refine sat_eqS ?_ | with_reducible refine sat_neS ?_ | with_reducible refine sat_eqNil ?_ | with_reducible refine sat_ifBD (fun _ => ?_) (fun _ => ?_) | with_reducible refine sat_asB ?_ | with_reducible refine sat_not ?_ | with_reducible refine sat_int ?_ | with_reducible refine sat_intB ?_ | with_reducible refine sat_abs ?_ | with_reducible refine ite_F ?_ | with_reducible refine ite_T ?_ | with_reducible refine ite_Dn (fun _ => ?_) (fun _ => ?_) | with_reducible refine sats_seq ?_ | with_reducible refine sats_if ?_ | with_reducible refine sats_set ?_ | with_reducible refine sats_setO ?_ | with_reducible refine sats_ret ?_ | with_reducible refine sats_skip ?_ | with_reducible refine sats_drop ?_ | with_reducible refine sats_setCc ?_ | with_reducible refine sat_iteD (fun _ => ?_) (fun _ => ?_) | with_reducible refine sat_lenInts ?_ | with_reducible refine sat_neNil ?_ | with_reducible refine ite_D (fun _ => ?_) (fun _ => ?_) | ((with_reducible refine' sat_getbO ?hh ?_); (case hh => exact rfl)) | ((with_reducible refine' sat_getb ?hh ?_); (case hh => exact rfl)) | with_reducible refine sat_fdiv (by first | assumption | omega | decide) (by first | assumption | omega | decide) ?_ | with_reducible refine sat_mod (by first | assumption | omega | decide) ?_ | with_reducible refine sat_ixO (by assumption) rfl ?_ | with_reducible refine sat_ixMod (by omega) (fun _ => ?_) | with_reducible refine sat_ixInts ⟨by omega, by omega⟩ (fun _ => ?_) | with_reducible refine sat_pow (by first | decide | exact ⟨by decide, by decide, bits1 ⟨by omega, by omega⟩ ⟨by omega, by omega⟩ (by decide) (by decide)⟩ | exact ⟨by decide, by decide, bits2 ⟨by omega, by omega⟩ ⟨by omega, by omega⟩ (by decide) (by decide) (by decide)⟩) ?_ | (refine ⟨_, _, _, _, rfl, rfl, by assumption, rfl, fun S' hS' _ => ?_⟩; try simp only [List.set_cons_succ, List.set_cons_zero, Int.reduceToNat] at hS') | ((with_reducible refine' sat_ixL0 ?hh ?_); (case hh => exact rfl)) | ((with_reducible refine' sat_ixT0 ?hh ?_); (case hh => exact rfl)) | ((with_reducible refine' sat_ixL1 ?hh ?_); (case hh => exact rfl)) | ((with_reducible refine' sat_ixT1 ?hh ?_); (case hh => exact rfl)) | ((with_reducible refine' sat_ixL2 ?hh ?_); (case hh => exact rfl)) | ((with_reducible refine' sat_ixT2 ?hh ?_); (case hh => exact rfl)) | ((with_reducible refine' sat_ixL3 ?hh ?_); (case hh => exact rfl)) | ((with_reducible refine' sat_ixT3 ?hh ?_); (case hh => exact rfl)) | ((with_reducible refine' sat_ixL4 ?hh ?_); (case hh => exact rfl)) | ((with_reducible refine' sat_ixT4 ?hh ?_); (case hh => exact rfl)) | ((with_reducible refine' sat_ifBt ?hh ?_); (case hh => exact rfl)) | ((with_reducible refine' sat_ifBf ?hh ?_); (case hh => exact rfl)) | ((with_reducible refine' ite_bt ?hh ?_); (case hh => exact rfl)) | ((with_reducible refine' ite_bf ?hh ?_); (case hh => exact rfl)) | ((with_reducible refine' sat_ite_bt ?hh ?_); (case hh => exact rfl)) | ((with_reducible refine' sat_ite_bf ?hh ?_); (case hh => exact rfl)) | ((with_reducible refine' sat_inT ?hh (fun bb hbb => ?_)); (case hh => exact rfl)) | ((with_reducible refine' sat_ninT ?hh (fun bb hbb => ?_)); (case hh => exact rfl)) | ((with_reducible refine' sat_inLs ?hh (fun bb hbb => ?_)); (case hh => exact rfl)) | ((with_reducible refine' sat_ninLs ?hh (fun bb hbb => ?_)); (case hh => exact rfl)) | with_reducible refine sat_addLL (by first | omega | (simp; done) | (simp; omega)) ?_ | with_reducible refine sat_mulL (by decide) (by first | omega | (simp; done) | (simp; omega)) ?_ | with_reducible refine sat_lenS (le_line (by assumption)) ?_ | with_reducible refine sat_lcQ ?_ | refine sat_ok rfl ?_ | with_reducible refine ite_B (fun _ => ?_) (fun _ => ?_) | with_reducible refine sat_ite (fun _ => ?_) (fun _ => ?_) | with_reducible refine sat_ifB (fun _ => ?_) (fun _ => ?_) | fail); try dsimp only)
  refine sats_extO rfl ?_
  repeat' ((first | ((with_reducible refine' sat_heardB (F := G2.p_is_wanted) (p := "number") ht ?ha ?hh ?_); (case ha => exact rfl); (case hh => exact w7)) | ((with_reducible refine' sat_heardB (F := G2.p_is_wanted) (p := "number") ht ?ha ?hh ?_); (case ha => exact rfl); (case hh => exact w8)) | ((with_reducible refine' sat_heardB (F := G2.p_is_wanted) (p := "m") ht ?ha ?hh ?_); (case ha => exact rfl); (case hh => exact w9)) | with_reducible refine sat_bind ?_ | with_reducible refine sat_pure ?_ | ((with_reducible refine' sat_getv ?hh ?_); (case hh => exact rfl)) | with_reducible refine sat_mul (by first | decide | omega | exact .inr (bits3 ⟨by omega, by omega⟩ (by decide))) ?_ | with_reducible refine sat_add ?_ | with_reducible refine sat_sub ?_ | with_reducible refine sat_lt ?_ | with_reducible refine sat_le ?_ | with_reducible refine sat_gt ?_ | with_reducible refine sat_ge ?_ | with_reducible refine sat_eqI ?_ | with_reducible refine sat_neI ?_ | with_reducible refine sat_eqS ?_ | with_reducible refine sat_neS ?_ | with_reducible refine sat_eqNil ?_ | with_reducible refine sat_ifBD (fun _ => ?_) (fun _ => ?_) | with_reducible refine sat_asB ?_ | with_reducible refine sat_not ?_ | with_reducible refine sat_int ?_ | with_reducible refine sat_intB ?_ | with_reducible refine sat_abs ?_ | with_reducible refine ite_F ?_ | with_reducible refine ite_T ?_ | with_reducible refine ite_Dn (fun _ => ?_) (fun _ => ?_) | with_reducible refine sats_seq ?_ | with_reducible refine sats_if ?_ | with_reducible refine sats_set ?_ | with_reducible refine sats_setO ?_ | with_reducible refine sats_ret ?_ | with_reducible refine sats_skip ?_ | with_reducible refine sats_drop ?_ | with_reducible refine sats_setCc ?_ | with_reducible refine sat_iteD (fun _ => ?_) (fun _ => ?_) | with_reducible refine sat_lenInts ?_ | with_reducible refine sat_neNil ?_ | with_reducible refine ite_D (fun _ => ?_) (fun _ => ?_) | ((with_reducible refine' sat_getbO ?hh ?_); (case hh => exact rfl)) | ((with_reducible refine' sat_getb ?hh ?_); (case hh => exact rfl)) | with_reducible refine sat_fdiv (by first | assumption | omega | decide) (by first | assumption | omega | decide) ?_ | with_reducible refine sat_mod (by first | assumption | omega | decide) ?_ | with_reducible refine sat_ixO (by assumption) rfl ?_ | with_reducible refine sat_ixMod (by omega) (fun _ => ?_) | with_reducible refine sat_ixInts ⟨by omega, by omega⟩ (fun _ => ?_) | with_reducible refine sat_pow (by first | decide | exact ⟨by decide, by decide, bits1 ⟨by omega, by omega⟩ ⟨by omega, by omega⟩ (by decide) (by decide)⟩ | exact ⟨by decide, by decide, bits2 ⟨by omega, by omega⟩ ⟨by omega, by omega⟩ (by decide) (by decide) (by decide)⟩) ?_ | (refine ⟨_, _, _, _, rfl, rfl, by assumption, rfl, fun S' hS' _ => ?_⟩; try simp only [List.set_cons_succ, List.set_cons_zero, Int.reduceToNat] at hS') | ((with_reducible refine' sat_ixL0 ?hh ?_); (case hh => exact rfl)) | ((with_reducible refine' sat_ixT0 ?hh ?_); (case hh => exact rfl)) | ((with_reducible refine' sat_ixL1 ?hh ?_); (case hh => exact rfl)) | ((with_reducible refine' sat_ixT1 ?hh ?_); (case hh => exact rfl)) | ((with_reducible refine' sat_ixL2 ?hh ?_); (case hh => exact rfl)) | ((with_reducible refine' sat_ixT2 ?hh ?_); (case hh => exact rfl)) | ((with_reducible refine' sat_ixL3 ?hh ?_); (case hh => exact rfl)) | ((with_reducible refine' sat_ixT3 ?hh ?_); (case hh => exact rfl)) | ((with_reducible refine' sat_ixL4 ?hh ?_); (case hh => exact rfl)) | ((with_reducible refine' sat_ixT4 ?hh ?_); (case hh => exact rfl)) | ((with_reducible refine' sat_ifBt ?hh ?_); (case hh => exact rfl)) | ((with_reducible refine' sat_ifBf ?hh ?_); (case hh => exact rfl)) | ((with_reducible refine' ite_bt ?hh ?_); (case hh => exact rfl)) | ((with_reducible refine' ite_bf ?hh ?_); (case hh => exact rfl)) | ((with_reducible refine' sat_ite_bt ?hh ?_); (case hh => exact rfl)) | ((with_reducible refine' sat_ite_bf ?hh ?_); (case hh => exact rfl)) | ((with_reducible refine' sat_inT ?hh (fun bb hbb => ?_)); (case hh => exact rfl)) | ((with_reducible refine' sat_ninT ?hh (fun bb hbb => ?_)); (case hh => exact rfl)) | ((with_reducible refine' sat_inLs ?hh (fun bb hbb => ?_)); (case hh => exact rfl)) | ((with_reducible refine' sat_ninLs ?hh (fun bb hbb => ?_)); (case hh => exact rfl)) | with_reducible refine sat_addLL (by first | omega | (simp; done) | (simp; omega)) ?_ | with_reducible refine sat_mulL (by decide) (by first | omega | (simp; done) | (simp; omega)) ?_ | with_reducible refine sat_lenS (le_line (by assumption)) ?_ | with_reducible refine sat_lcQ ?_ | refine sat_ok rfl ?_ | with_reducible refine ite_B (fun _ => ?_) (fun _ => ?_) | with_reducible refine sat_ite (fun _ => ?_) (fun _ => ?_) | with_reducible refine sat_ifB (fun _ => ?_) (fun _ => ?_) | fail); try dsimp only)
  refine ⟨_, rfl, le_line (by simp), ?_⟩
  repeat' ((first | ((with_reducible refine Sat.to (oo hc (by decide) (by decide)) (fun low S' hr => ?_)); obtain ⟨hlow, hc⟩ := hr) | with_reducible refine sat_bind ?_ | with_reducible refine sat_pure ?_ | ((with_reducible refine' sat_getv ?hh ?_); (case hh => exact rfl)) | with_reducible refine sat_mul (by first | decide | omega | exact .inr (bits3 ⟨by omega, by omega⟩ (by decide))) ?_ | with_reducible refine sat_add ?_ | with_reducible refine sat_sub ?_ | with_reducible refine sat_lt ?_ | with_reducible refine sat_le ?_ | with_reducible refine sat_gt ?_ | with_reducible refine sat_ge ?_ | with_reducible refine sat_eqI ?_ | with_reducible refine sat_neI ?_ | with_reducible refine sat_eqS ?_ | with_reducible refine sat_neS ?_ | with_reducible refine sat_eqNil ?_ | with_reducible refine sat_ifBD (fun _ => ?_) (fun _ => ?_) | with_reducible refine sat_asB ?_ | with_reducible refine sat_not ?_ | with_reducible refine sat_int ?_ | with_reducible refine sat_intB ?_ | with_reducible refine sat_abs ?_ | with_reducible refine ite_F ?_ | with_reducible refine ite_T ?_ | with_reducible refine ite_Dn (fun _ => ?_) (fun _ => ?_) | with_reducible refine sats_seq ?_ | with_reducible refine sats_if ?_ | with_reducible refine sats_set ?_ | with_reducible refine sats_setO ?_ | with_reducible refine sats_ret ?_ | with_reducible refine sats_skip ?_ | with_reducible refine sats_drop ?_ | with_reducible refine sats_setCc ?_ | with_reducible refine sat_iteD (fun _ => ?_) (fun _ => ?_) | with_reducible refine sat_lenInts ?_ | with_reducible refine sat_neNil ?_ | with_reducible refine ite_D (fun _ => ?_) (fun _ => ?_) | ((with_reducible refine' sat_getbO ?hh ?_); (case hh => exact rfl)) | ((with_reducible refine' sat_getb ?hh ?_); (case hh => exact rfl)) | with_reducible refine sat_fdiv (by first | assumption | omega | decide) (by first | assumption | omega | decide) ?_ | with_reducible refine sat_mod (by first | assumption | omega | decide) ?_ | with_reducible refine sat_ixO (by assumption) rfl ?_ | with_reducible refine sat_ixMod (by omega) (fun _ => ?_) | with_reducible refine sat_ixInts ⟨by omega, by omega⟩ (fun _ => ?_) | with_reducible refine sat_pow (by first | decide | exact ⟨by decide, by decide, bits1 ⟨by omega, by omega⟩ ⟨by omega, by omega⟩ (by decide) (by decide)⟩ | exact ⟨by decide, by decide, bits2 ⟨by omega, by omega⟩ ⟨by omega, by omega⟩ (by decide) (by decide) (by decide)⟩) ?_ | (refine ⟨_, _, _, _, rfl, rfl, by assumption, rfl, fun S' hS' _ => ?_⟩; try simp only [List.set_cons_succ, List.set_cons_zero, Int.reduceToNat] at hS') | ((with_reducible refine' sat_ixL0 ?hh ?_); (case hh => exact rfl)) | ((with_reducible refine' sat_ixT0 ?hh ?_); (case hh => exact rfl)) | ((with_reducible refine' sat_ixL1 ?hh ?_); (case hh => exact rfl)) | ((with_reducible refine' sat_ixT1 ?hh ?_); (case hh => exact rfl)) | ((with_reducible refine' sat_ixL2 ?hh ?_); (case hh => exact rfl)) | ((with_reducible refine' sat_ixT2 ?hh ?_); (case hh => exact rfl)) | ((with_reducible refine' sat_ixL3 ?hh ?_); (case hh => exact rfl)) | ((with_reducible refine' sat_ixT3 ?hh ?_); (case hh => exact rfl)) | ((with_reducible refine' sat_ixL4 ?hh ?_); (case hh => exact rfl)) | ((with_reducible refine' sat_ixT4 ?hh ?_); (case hh => exact rfl)) | ((with_reducible refine' sat_ifBt ?hh ?_); (case hh => exact rfl)) | ((with_reducible refine' sat_ifBf ?hh ?_); (case hh => exact rfl)) | ((with_reducible refine' ite_bt ?hh ?_); (case hh => exact rfl)) | ((with_reducible refine' ite_bf ?hh ?_); (case hh => exact rfl)) | ((with_reducible refine' sat_ite_bt ?hh ?_); (case hh => exact rfl)) | ((with_reducible refine' sat_ite_bf ?hh ?_); (case hh => exact rfl)) | ((with_reducible refine' sat_inT ?hh (fun bb hbb => ?_)); (case hh => exact rfl)) | ((with_reducible refine' sat_ninT ?hh (fun bb hbb => ?_)); (case hh => exact rfl)) | ((with_reducible refine' sat_inLs ?hh (fun bb hbb => ?_)); (case hh => exact rfl)) | ((with_reducible refine' sat_ninLs ?hh (fun bb hbb => ?_)); (case hh => exact rfl)) | with_reducible refine sat_addLL (by first | omega | (simp; done) | (simp; omega)) ?_ | with_reducible refine sat_mulL (by decide) (by first | omega | (simp; done) | (simp; omega)) ?_ | with_reducible refine sat_lenS (le_line (by assumption)) ?_ | with_reducible refine sat_lcQ ?_ | refine sat_ok rfl ?_ | with_reducible refine ite_B (fun _ => ?_) (fun _ => ?_) | with_reducible refine sat_ite (fun _ => ?_) (fun _ => ?_) | with_reducible refine sat_ifB (fun _ => ?_) (fun _ => ?_) | fail); try dsimp only)
  obtain ⟨kl, hl⟩ := low_ok hlow
  replace ht := hc.tab (i := 0) rfl
  have f10 : faultE (.int 3) (.int 0) (.int 63) low = some (badN "m") := by simp [faultE, ho, hb, with_i, hl]
  have w10 : ∀ {S : Sto}, Sat (G2.p_is_wanted [(.int 3), (.int 0), (.int 63), low] S) (fun _ _ => False) (fun z S' => z = badN "m" ∧ S' = S) := fun {S} => wb kd_i kd_i kd_i kl f10
  have f11 : faultE (.int 3) (.int 0) (.int 63) (.int 63) = some (misN "number") := by simp [faultE, ho, hb, with_i, intO]
  have w11 : ∀ {S : Sto}, Sat (G2.p_is_wanted [(.int 3), (.int 0), (.int 63), (.int 63)] S) (fun _ _ => False) (fun z S' => z = misN "number" ∧ S' = S) := fun {S} => wb kd_i kd_i kd_i kd_i f11
  have f12 : faultE (.int 3) (.int 1) (.int 2) (.int 2) = some (misN "number") := by simp [faultE, ho, hb, with_i, intO]
  have w12 : ∀ {S : Sto}, Sat (G2.p_is_wanted [(.int 3), (.int 1), (.int 2), (.int 2)] S) (fun _ _ => False) (fun z S' => z = misN "number" ∧ S' = S) := fun {S} => wb kd_i kd_i kd_i kd_i f12
  refine sats_extO rfl ?_
  repeat' ((first | ((with_reducible refine' sat_heardB (F := G2.p_is_wanted) (p := "m") ht ?ha ?hh ?_); (case ha => exact rfl); (case hh => exact w10)) | ((with_reducible refine' sat_heardM (F := G2.p_is_wanted) (p := "number") ht ?ha ?hh ?_); (case ha => exact rfl); (case hh => exact w11)) | ((with_reducible refine' sat_heardM (F := G2.p_is_wanted) (p := "number") ht ?ha ?hh ?_); (case ha => exact rfl); (case hh => exact w12)) | with_reducible refine sat_bind ?_ | with_reducible refine sat_pure ?_ | ((with_reducible refine' sat_getv ?hh ?_); (case hh => exact rfl)) | with_reducible refine sat_mul (by first | decide | omega | exact .inr (bits3 ⟨by omega, by omega⟩ (by decide))) ?_ | with_reducible refine sat_add ?_ | with_reducible refine sat_sub ?_ | with_reducible refine sat_lt ?_ | with_reducible refine sat_le ?_ | with_reducible refine sat_gt ?_ | with_reducible refine sat_ge ?_ | with_reducible refine sat_eqI ?_ | with_reducible refine sat_neI ?_ | with_reducible refine sat_eqS ?_ | with_reducible refine sat_neS ?_ | with_reducible refine sat_eqNil ?_ | with_reducible refine sat_ifBD (fun _ => ?_) (fun _ => ?_) | with_reducible refine sat_asB ?_ | with_reducible refine sat_not ?_ | with_reducible refine sat_int ?_ | with_reducible refine sat_intB ?_ | with_reducible refine sat_abs ?_ | with_reducible refine ite_F ?_ | with_reducible refine ite_T ?_ | with_reducible refine ite_Dn (fun _ => ?_) (fun _ => ?_) | with_reducible refine sats_seq ?_ | with_reducible refine sats_if ?_ | with_reducible refine sats_set ?_ | with_reducible refine sats_setO ?_ | with_reducible refine sats_ret ?_ | with_reducible refine sats_skip ?_ | with_reducible refine sats_drop ?_ | with_reducible refine sats_setCc ?_ | with_reducible refine sat_iteD (fun _ => ?_) (fun _ => ?_) | with_reducible refine sat_lenInts ?_ | with_reducible refine sat_neNil ?_ | with_reducible refine ite_D (fun _ => ?_) (fun _ => ?_) | ((with_reducible refine' sat_getbO ?hh ?_); (case hh => exact rfl)) | ((with_reducible refine' sat_getb ?hh ?_); (case hh => exact rfl)) | with_reducible refine sat_fdiv (by first | assumption | omega | decide) (by first | assumption | omega | decide) ?_ | with_reducible refine sat_mod (by first | assumption | omega | decide) ?_ | with_reducible refine sat_ixO (by assumption) rfl ?_ | with_reducible refine sat_ixMod (by omega) (fun _ => ?_) | with_reducible refine sat_ixInts ⟨by omega, by omega⟩ (fun _ => ?_) | with_reducible refine sat_pow (by first | decide | exact ⟨by decide, by decide, bits1 ⟨by omega, by omega⟩ ⟨by omega, by omega⟩ (by decide) (by decide)⟩ | exact ⟨by decide, by decide, bits2 ⟨by omega, by omega⟩ ⟨by omega, by omega⟩ (by decide) (by decide) (by decide)⟩) ?_ | (refine ⟨_, _, _, _, rfl, rfl, by assumption, rfl, fun S' hS' _ => ?_⟩; try simp only [List.set_cons_succ, List.set_cons_zero, Int.reduceToNat] at hS') | ((with_reducible refine' sat_ixL0 ?hh ?_); (case hh => exact rfl)) | ((with_reducible refine' sat_ixT0 ?hh ?_); (case hh => exact rfl)) | ((with_reducible refine' sat_ixL1 ?hh ?_); (case hh => exact rfl)) | ((with_reducible refine' sat_ixT1 ?hh ?_); (case hh => exact rfl)) | ((with_reducible refine' sat_ixL2 ?hh ?_); (case hh => exact rfl)) | ((with_reducible refine' sat_ixT2 ?hh ?_); (case hh => exact rfl)) | ((with_reducible refine' sat_ixL3 ?hh ?_); (case hh => exact rfl)) | ((with_reducible refine' sat_ixT3 ?hh ?_); (case hh => exact rfl)) | ((with_reducible refine' sat_ixL4 ?hh ?_); (case hh => exact rfl)) | ((with_reducible refine' sat_ixT4 ?hh ?_); (case hh => exact rfl)) | ((with_reducible refine' sat_ifBt ?hh ?_); (case hh => exact rfl)) | ((with_reducible refine' sat_ifBf ?hh ?_); (case hh => exact rfl)) | ((with_reducible refine' ite_bt ?hh ?_); (case hh => exact rfl)) | ((with_reducible refine' ite_bf ?hh ?_); (case hh => exact rfl)) | ((with_reducible refine' sat_ite_bt ?hh ?_); (case hh => exact rfl)) | ((with_reducible refine' sat_ite_bf ?hh ?_); (case hh => exact rfl)) | ((with_reducible refine' sat_inT ?hh (fun bb hbb => ?_)); (case hh => exact rfl)) | ((with_reducible refine' sat_ninT ?hh (fun bb hbb => ?_)); (case hh => exact rfl)) | ((with_reducible refine' sat_inLs ?hh (fun bb hbb => ?_)); (case hh => exact rfl)) | ((with_reducible refine' sat_ninLs ?hh (fun bb hbb => ?_)); (case hh => exact rfl)) | with_reducible refine sat_addLL (by first | omega | (simp; done) | (simp; omega)) ?_ | with_reducible refine sat_mulL (by decide) (by first | omega | (simp; done) | (simp; omega)) ?_ | with_reducible refine sat_lenS (le_line (by assumption)) ?_ | with_reducible refine sat_lcQ ?_ | refine sat_ok rfl ?_ | with_reducible refine ite_B (fun _ => ?_) (fun _ => ?_) | with_reducible refine sat_ite (fun _ => ?_) (fun _ => ?_) | with_reducible refine sat_ifB (fun _ => ?_) (fun _ => ?_) | fail); try dsimp only)
  refine ⟨_, rfl, le_line (by simp), ?_⟩
  repeat' ((first | with_reducible refine sat_dueL rfl rfl ?_ | with_reducible refine sat_bind ?_ | with_reducible refine sat_pure ?_ | ((with_reducible refine' sat_getv ?hh ?_); (case hh => exact rfl)) | with_reducible refine sat_mul (by first | decide | omega | exact .inr (bits3 ⟨by omega, by omega⟩ (by decide))) ?_ | with_reducible refine sat_add ?_ | with_reducible refine sat_sub ?_ | with_reducible refine sat_lt ?_ | with_reducible refine sat_le ?_ | with_reducible refine sat_gt ?_ | with_reducible refine sat_ge ?_ | with_reducible refine sat_eqI ?_ | with_reducible refine sat_neI ?_ | with_reducible refine sat_eqS ?_ | with_reducible refine sat_neS ?_ | with_reducible refine sat_eqNil ?_ | with_reducible refine sat_ifBD (fun _ => ?_) (fun _ => ?_) | with_reducible refine sat_asB ?_ | with_reducible refine sat_not ?_ | with_reducible refine sat_int ?_ | with_reducible refine sat_intB ?_ | with_reducible refine sat_abs ?_ | with_reducible refine ite_F ?_ | with_reducible refine ite_T ?_ | with_reducible refine ite_Dn (fun _ => ?_) (fun _ => ?_) | with_reducible refine sats_seq ?_ | with_reducible refine sats_if ?_ | with_reducible refine sats_set ?_ | with_reducible refine sats_setO ?_ | with_reducible refine sats_ret ?_ | with_reducible refine sats_skip ?_ | with_reducible refine sats_drop ?_ | with_reducible refine sats_setCc ?_ | with_reducible refine sat_iteD (fun _ => ?_) (fun _ => ?_) | with_reducible refine sat_lenInts ?_ | with_reducible refine sat_neNil ?_ | with_reducible refine ite_D (fun _ => ?_) (fun _ => ?_) | ((with_reducible refine' sat_getbO ?hh ?_); (case hh => exact rfl)) | ((with_reducible refine' sat_getb ?hh ?_); (case hh => exact rfl)) | with_reducible refine sat_fdiv (by first | assumption | omega | decide) (by first | assumption | omega | decide) ?_ | with_reducible refine sat_mod (by first | assumption | omega | decide) ?_ | with_reducible refine sat_ixO (by assumption) rfl ?_ | with_reducible refine sat_ixMod (by omega) (fun _ => ?_) | with_reducible refine sat_ixInts ⟨by omega, by omega⟩ (fun _ => ?_) | with_reducible refine sat_pow (by first | decide | exact ⟨by decide, by decide, bits1 ⟨by omega, by omega⟩ ⟨by omega, by omega⟩ (by decide) (by decide)⟩ | exact ⟨by decide, by decide, bits2 ⟨by omega, by omega⟩ ⟨by omega, by omega⟩ (by decide) (by decide) (by decide)⟩) ?_ | (refine ⟨_, _, _, _, rfl, rfl, by assumption, rfl, fun S' hS' _ => ?_⟩; try simp only [List.set_cons_succ, List.set_cons_zero, Int.reduceToNat] at hS') | ((with_reducible refine' sat_ixL0 ?hh ?_); (case hh => exact rfl)) | ((with_reducible refine' sat_ixT0 ?hh ?_); (case hh => exact rfl)) | ((with_reducible refine' sat_ixL1 ?hh ?_); (case hh => exact rfl)) | ((with_reducible refine' sat_ixT1 ?hh ?_); (case hh => exact rfl)) | ((with_reducible refine' sat_ixL2 ?hh ?_); (case hh => exact rfl)) | ((with_reducible refine' sat_ixT2 ?hh ?_); (case hh => exact rfl)) | ((with_reducible refine' sat_ixL3 ?hh ?_); (case hh => exact rfl)) | ((with_reducible refine' sat_ixT3 ?hh ?_); (case hh => exact rfl)) | ((with_reducible refine' sat_ixL4 ?hh ?_); (case hh => exact rfl)) | ((with_reducible refine' sat_ixT4 ?hh ?_); (case hh => exact rfl)) | ((with_reducible refine' sat_ifBt ?hh ?_); (case hh => exact rfl)) | ((with_reducible refine' sat_ifBf ?hh ?_); (case hh => exact rfl)) | ((with_reducible refine' ite_bt ?hh ?_); (case hh => exact rfl)) | ((with_reducible refine' ite_bf ?hh ?_); (case hh => exact rfl)) | ((with_reducible refine' sat_ite_bt ?hh ?_); (case hh => exact rfl)) | ((with_reducible refine' sat_ite_bf ?hh ?_); (case hh => exact rfl)) | ((with_reducible refine' sat_inT ?hh (fun bb hbb => ?_)); (case hh => exact rfl)) | ((with_reducible refine' sat_ninT ?hh (fun bb hbb => ?_)); (case hh => exact rfl)) | ((with_reducible refine' sat_inLs ?hh (fun bb hbb => ?_)); (case hh => exact rfl)) | ((with_reducible refine' sat_ninLs ?hh (fun bb hbb => ?_)); (case hh => exact rfl)) | with_reducible refine sat_addLL (by first | omega | (simp; done) | (simp; omega)) ?_ | with_reducible refine sat_mulL (by decide) (by first | omega | (simp; done) | (simp; omega)) ?_ | with_reducible refine sat_lenS (le_line (by assumption)) ?_ | with_reducible refine sat_lcQ ?_ | refine sat_ok rfl ?_ | with_reducible refine ite_B (fun _ => ?_) (fun _ => ?_) | with_reducible refine sat_ite (fun _ => ?_) (fun _ => ?_) | with_reducible refine sat_ifB (fun _ => ?_) (fun _ => ?_) | fail); try dsimp only)
  all_goals exact ⟨rfl, hc⟩
end K35

set_option Elab.async false
set_option linter.all false
set_option maxRecDepth 100000
set_option maxHeartbeats 4000000
namespace K35
open PySem PySem.Spec PyProof.Rows L2 Sm
theorem range_len {n : Nat} : (rangeD 0 n).length = n := by simp [rangeD]
theorem range_mem {n : Nat} {d : D} (h : d ∈ rangeD 0 n) : ∃ i : Int, d = .int i ∧ 0 ≤ i ∧ i < n := by
  unfold rangeD at h
  obtain ⟨i, hi, rfl⟩ := List.mem_map.mp h
  have := List.mem_range.mp hi
  exact ⟨_, rfl, by omega, by omega⟩
def toldG (done has m : Int) (d : D) : D := wantI done has (intO d) m
def toldL (done has m : Int) : List D := (rangeD 0 m.toNat).map (toldG done has m)
def noneL (m : Int) : List D := (rangeD 0 m.toNat).map fun _ => D.none
theorem ix_lt {n : Nat} {z : Int} (h : 0 ≤ z) (h2 : z < n) : ixN n z = some z.toNat := by
  unfold ixN
  simp [h, h2]
theorem told_i {done has m k : Int} : toldG done has m (.int k) = wantI done has k m := rfl
theorem want_1 {done has number m : Int} (h : number = (done + 1) % m) : wantI done has number m = .int 1 := if_pos h
theorem want_0 {done number m : Int} (h : ¬number = (done + 1) % m) (h2 : number = done % m) : wantI done 0 number m = .int 0 := by
  unfold wantI
  rw [if_neg h, if_pos ⟨h2, rfl⟩]
theorem want_n {done has number m : Int} (h : ¬number = (done + 1) % m) (h2 : ¬(number = done % m ∧ has = 0)) : wantI done has number m = .none := by
  unfold wantI
  rw [if_neg h, if_neg h2]
theorem due1 {done m : Int} (hm : 2 ≤ m) : (noneL m).set ((done + 1) % m).toNat (.int 1) = toldL done 1 m := by
  have a1 := Int.emod_nonneg (done + 1) (show m ≠ 0 by omega)
  have a2 := Int.emod_lt_of_pos (done + 1) (show 0 < m by omega)
  unfold noneL toldL
  apply List.ext_getElem?
  intro i
  by_cases h : i < m.toNat
  · simp only [List.getElem?_set, List.getElem?_map, rangeD_get h, List.length_map, range_len, Option.map_some, told_i]
    by_cases x : (0 + (i : Int)) = (done + 1) % m
    · rw [if_pos (show ((done + 1) % m).toNat = i by omega), if_pos (show ((done + 1) % m).toNat < m.toNat by omega), want_1 x]
    · rw [if_neg (show ¬((done + 1) % m).toNat = i by omega), want_n x (fun z => by omega)]
  · rw [List.getElem?_eq_none (by rw [List.length_set, List.length_map, range_len]; omega), List.getElem?_eq_none (by rw [List.length_map, range_len]; omega)]
theorem due0 {done m : Int} (hm : 2 ≤ m) : ((noneL m).set (done % m).toNat (.int 0)).set ((done + 1) % m).toNat (.int 1) = toldL done 0 m := by
  have a1 := Int.emod_nonneg (done + 1) (show m ≠ 0 by omega)
  have a2 := Int.emod_lt_of_pos (done + 1) (show 0 < m by omega)
  have b1 := Int.emod_nonneg done (show m ≠ 0 by omega)
  have b2 := Int.emod_lt_of_pos done (show 0 < m by omega)
  unfold noneL toldL
  apply List.ext_getElem?
  intro i
  by_cases h : i < m.toNat
  · simp only [List.getElem?_set, List.getElem?_map, rangeD_get h, List.length_map, List.length_set, range_len, Option.map_some, told_i]
    by_cases x : (0 + (i : Int)) = (done + 1) % m
    · rw [if_pos (show ((done + 1) % m).toNat = i by omega), if_pos (show ((done + 1) % m).toNat < m.toNat by omega), want_1 x]
    · rw [if_neg (show ¬((done + 1) % m).toNat = i by omega)]
      by_cases y : (0 + (i : Int)) = done % m
      · rw [if_pos (show (done % m).toNat = i by omega), if_pos (show (done % m).toNat < m.toNat by omega), want_0 x y]
      · rw [if_neg (show ¬(done % m).toNat = i by omega), want_n x (fun z => y z.1)]
  · rw [List.getElem?_eq_none (by rw [List.length_set, List.length_set, List.length_map, range_len]; omega), List.getElem?_eq_none (by rw [List.length_map, range_len]; omega)]
theorem want_sho {done has number m : Int} : Sho 0 40 (wantI done has number m) := by
  unfold wantI
  split
  · exact sho_int (by omega) (by omega)
  split
  · exact sho_int (by omega) (by omega)
  · exact sho_none
theorem told_sho {done has m : Int} (hm : m ≤ 64) : Sho 1 3000 (.list (toldL done has m)) := (sho_lst (n := 0) (W := 40) fun x hx => by
  obtain ⟨d, _, rfl⟩ := List.mem_map.mp hx
  exact want_sho).up (Nat.le_refl _) (by
    unfold toldL
    rw [List.length_map, range_len]
    omega)
theorem told_last {done has m : Int} {S : Sto} {Q : D → Sto → Prop} {X : Exn → Sto → Prop} (hm : 2 ≤ m) (q : Q (wantI done has (m - 1) m) S) : Sat (ixM (.list (toldL done has m)) (.int (m - 1)) S) Q X := by
  have hl : (toldL done has m).length = m.toNat := by
    unfold toldL
    rw [List.length_map, range_len]
  obtain ⟨x, e1, e2⟩ := atI_lt (l := toldL done has m) (i := m - 1) (by omega) (by rw [hl]; omega)
  refine sat_ix rfl (fun _ z => by cases z) e1 ?_
  unfold toldL at e2
  rw [List.getElem?_map, rangeD_get (by omega)] at e2
  have e2 : some (wantI done has (0 + ((m - 1).toNat : Int)) m) = some x := e2
  have e3 : (0 + ((m - 1).toNat : Int)) = m - 1 := by omega
  rw [e3] at e2
  cases e2
  exact q
theorem sat_eqIt {i : Int} {S : Sto} {Q : D → Sto → Prop} {X : Exn → Sto → Prop} (q : Q (.bool true) S) : Sat (eqM (.int i) (.int i) S) Q X := sat_eqI (by rw [decide_eq_true rfl]; exact q)
theorem none_len {m : Int} (h : 0 ≤ m) : ((noneL m).length : Int) = m := by
  unfold noneL
  rw [List.length_map, range_len]
  omega
theorem m_of {x : D} {i : Int} (h : x ∈ ([.int 2, .int 3, .int 4, .int 7, .int 64, .int (2 + i)] : List D)) (h0 : 0 ≤ i) (h1 : i < 63) : ∃ m : Int, x = .int m ∧ 2 ≤ m ∧ m ≤ 64 := by
  simp only [List.mem_cons, List.not_mem_nil, or_false] at h
  rcases h with rfl | rfl | rfl | rfl | rfl | rfl
  all_goals exact ⟨_, rfl, by omega, by omega⟩
theorem done_of {x : D} {m i j a b : Int} (h : x ∈ ([.int 0, .int 1, .int (m - 1), .int m, .int i, .int (a + j), .int b] : List D)) (h0 : 0 ≤ i) (h1 : 0 ≤ j) (h2 : 2 ≤ m) (ha : 0 ≤ a) (hb : 0 ≤ b) : ∃ d : Int, x = .int d ∧ 0 ≤ d := by
  simp only [List.mem_cons, List.not_mem_nil, or_false] at h
  rcases h with rfl | rfl | rfl | rfl | rfl | rfl | rfl
  all_goals exact ⟨_, rfl, by omega⟩
end K35

set_option Elab.async false
set_option linter.all false
set_option maxRecDepth 100000
set_option maxHeartbeats 4000000
namespace K35
open PySem PySem.Spec PyProof.Rows L2 Sm
set_option pp.maxSteps 300 in
theorem all_ok {b c : Nat} {S : Sto} (hc : CloudL TL (b + B 59) S c) : Sat ((fns 59).all_right [.obj c] S) (isC (fun d => d = .bool true) b c) noX := by
  have hB : B 59 = 1048576 * B 58 := B_succ 58
  have hc : CloudL TL (b + B 58 + B 58 + B 58 + B 58 + B 58) S c := hc.le (by omega)
  have e0 : (fns 59).all_right = runF 7 1 (m_all_right (fns 58) (fns 56)) := u_all_right 56
  rw [e0]
  refine sat_run rfl ?_
  unfold m_all_right
  have oo : ∀ {b : Nat} {S : Sto} {xs : List D}, CloudL TL (b + B 58) S c → 0 < xs.length → xs.length ≤ 100000 → Sat ((fns 58).one_of [.obj c, .list xs] S) (isC (fun d => d ∈ xs) b c) noX := fun {b S xs} h h1 h2 => pluck_ok (k := 54) (h.le (show b + B 56 ≤ b + B 58 by have h1 : B 58 = 1048576 * B 57 := B_succ 57; have h2 : B 57 = 1048576 * B 56 := B_succ 56; omega)) h1 h2
  have gu : ∀ {b : Nat} {S : Sto} {n : Int}, CloudL TL (b + B 58) S c → 0 < n → n < 2 ^ 100 → Sat ((fns 58).draw [.obj c, .int n] S) (isI n b c) noX := fun {b S n} h h1 h2 => gust_ok (k := 55) (h.le (show b + B 56 ≤ b + B 58 by have h1 : B 58 = 1048576 * B 57 := B_succ 57; have h2 : B 57 = 1048576 * B 56 := B_succ 56; omega)) h1 (log_small h1 h2)
  have wa : ∀ {S : Sto} {done has number m : Int}, 0 ≤ done → (has = 0 ∨ has = 1) → (0 ≤ number ∧ number < m) → (2 ≤ m ∧ m ≤ 64) → Sat ((fns 58).p_is_wanted [.int done, .int has, .int number, .int m] S) (isV (wantI done has number m) S) noX := fun {S done has number m} h0 h1 h2 h3 => want_ok (k := 51) h0 h1 h2 h3
  generalize fns 58 = G at oo gu wa ⊢
  generalize B 58 = U at oo gu hc hB ⊢
  repeat' ((first | ((with_reducible refine Sat.to (gu hc (by decide) (by decide)) (fun r S' hr => ?_)); obtain ⟨i, e, h0, h1, hc⟩ := hr; subst e) | with_reducible refine sat_bind ?_ | with_reducible refine sat_pure ?_ | ((with_reducible refine' sat_getv ?hh ?_); (case hh => exact rfl)) | with_reducible refine sat_mul (by first | decide | omega | exact .inr (bits3 ⟨by omega, by omega⟩ (by decide))) ?_ | with_reducible refine sat_add ?_ | with_reducible refine sat_sub ?_ | with_reducible refine sat_lt ?_ | with_reducible refine sat_le ?_ | with_reducible refine sat_gt ?_ | with_reducible refine sat_ge ?_ | with_reducible refine sat_eqI ?_ | with_reducible refine sat_neI ?_ | with_reducible refine sat_eqS ?_ | with_reducible refine sat_neS ?_ | with_reducible refine sat_eqNil ?_ | with_reducible refine sat_ifBD (fun _ => ?_) (fun _ => ?_) | with_reducible refine sat_asB ?_ | with_reducible refine sat_not ?_ | with_reducible refine sat_int ?_ | with_reducible refine sat_intB ?_ | with_reducible refine sat_abs ?_ | with_reducible refine ite_F ?_ | with_reducible refine ite_T ?_ | with_reducible refine ite_Dn (fun _ => ?_) (fun _ => ?_) | with_reducible refine sats_seq ?_ | with_reducible refine sats_if ?_ | with_reducible refine sats_set ?_ | with_reducible refine sats_setO ?_ | with_reducible refine sats_ret ?_ | with_reducible refine sats_skip ?_ | with_reducible refine sats_drop ?_ | with_reducible refine sats_setCc ?_ | with_reducible refine sat_iteD (fun _ => ?_) (fun _ => ?_) | with_reducible refine sat_lenInts ?_ | with_reducible refine sat_neNil ?_ | with_reducible refine ite_D (fun _ => ?_) (fun _ => ?_) | ((with_reducible refine' sat_getbO ?hh ?_); (case hh => exact rfl)) | ((with_reducible refine' sat_getb ?hh ?_); (case hh => exact rfl)) | with_reducible refine sat_fdiv (by first | assumption | omega | decide) (by first | assumption | omega | decide) ?_ | with_reducible refine sat_mod (by first | assumption | omega | decide) ?_ | with_reducible refine sat_ixO (by assumption) rfl ?_ | with_reducible refine sat_ixMod (by omega) (fun _ => ?_) | with_reducible refine sat_ixInts ⟨by omega, by omega⟩ (fun _ => ?_) | with_reducible refine sat_pow (by first | decide | exact ⟨by decide, by decide, bits1 ⟨by omega, by omega⟩ ⟨by omega, by omega⟩ (by decide) (by decide)⟩ | exact ⟨by decide, by decide, bits2 ⟨by omega, by omega⟩ ⟨by omega, by omega⟩ (by decide) (by decide) (by decide)⟩) ?_ | (refine ⟨_, _, _, _, rfl, rfl, by assumption, rfl, fun S' hS' _ => ?_⟩; try simp only [List.set_cons_succ, List.set_cons_zero, Int.reduceToNat] at hS') | ((with_reducible refine' sat_ixL0 ?hh ?_); (case hh => exact rfl)) | ((with_reducible refine' sat_ixT0 ?hh ?_); (case hh => exact rfl)) | ((with_reducible refine' sat_ixL1 ?hh ?_); (case hh => exact rfl)) | ((with_reducible refine' sat_ixT1 ?hh ?_); (case hh => exact rfl)) | ((with_reducible refine' sat_ixL2 ?hh ?_); (case hh => exact rfl)) | ((with_reducible refine' sat_ixT2 ?hh ?_); (case hh => exact rfl)) | ((with_reducible refine' sat_ixL3 ?hh ?_); (case hh => exact rfl)) | ((with_reducible refine' sat_ixT3 ?hh ?_); (case hh => exact rfl)) | ((with_reducible refine' sat_ixL4 ?hh ?_); (case hh => exact rfl)) | ((with_reducible refine' sat_ixT4 ?hh ?_); (case hh => exact rfl)) | ((with_reducible refine' sat_ifBt ?hh ?_); (case hh => exact rfl)) | ((with_reducible refine' sat_ifBf ?hh ?_); (case hh => exact rfl)) | ((with_reducible refine' ite_bt ?hh ?_); (case hh => exact rfl)) | ((with_reducible refine' ite_bf ?hh ?_); (case hh => exact rfl)) | ((with_reducible refine' sat_ite_bt ?hh ?_); (case hh => exact rfl)) | ((with_reducible refine' sat_ite_bf ?hh ?_); (case hh => exact rfl)) | ((with_reducible refine' sat_inT ?hh (fun bb hbb => ?_)); (case hh => exact rfl)) | ((with_reducible refine' sat_ninT ?hh (fun bb hbb => ?_)); (case hh => exact rfl)) | ((with_reducible refine' sat_inLs ?hh (fun bb hbb => ?_)); (case hh => exact rfl)) | ((with_reducible refine' sat_ninLs ?hh (fun bb hbb => ?_)); (case hh => exact rfl)) | with_reducible refine sat_addLL (by first | omega | (simp; done) | (simp; omega)) ?_ | with_reducible refine sat_mulL (by decide) (by first | omega | (simp; done) | (simp; omega)) ?_ | with_reducible refine sat_lenS (le_line (by assumption)) ?_ | with_reducible refine sat_lcQ ?_ | refine sat_ok rfl ?_ | with_reducible refine ite_B (fun _ => ?_) (fun _ => ?_) | with_reducible refine sat_ite (fun _ => ?_) (fun _ => ?_) | with_reducible refine sat_ifB (fun _ => ?_) (fun _ => ?_) | fail); try dsimp only)
  with_reducible refine Sat.to (oo hc (by simp) (by simp)) (fun x S' hr => ?_)
  obtain ⟨hm, hc⟩ := hr
  obtain ⟨m, rfl, m1, m2⟩ := m_of hm h0 h1
  repeat' ((first | ((with_reducible refine Sat.to (gu hc (by decide) (by decide)) (fun r S' hr => ?_)); obtain ⟨j, e, j0, j1, hc⟩ := hr; subst e) | with_reducible refine sat_bind ?_ | with_reducible refine sat_pure ?_ | ((with_reducible refine' sat_getv ?hh ?_); (case hh => exact rfl)) | with_reducible refine sat_mul (by first | decide | omega | exact .inr (bits3 ⟨by omega, by omega⟩ (by decide))) ?_ | with_reducible refine sat_add ?_ | with_reducible refine sat_sub ?_ | with_reducible refine sat_lt ?_ | with_reducible refine sat_le ?_ | with_reducible refine sat_gt ?_ | with_reducible refine sat_ge ?_ | with_reducible refine sat_eqI ?_ | with_reducible refine sat_neI ?_ | with_reducible refine sat_eqS ?_ | with_reducible refine sat_neS ?_ | with_reducible refine sat_eqNil ?_ | with_reducible refine sat_ifBD (fun _ => ?_) (fun _ => ?_) | with_reducible refine sat_asB ?_ | with_reducible refine sat_not ?_ | with_reducible refine sat_int ?_ | with_reducible refine sat_intB ?_ | with_reducible refine sat_abs ?_ | with_reducible refine ite_F ?_ | with_reducible refine ite_T ?_ | with_reducible refine ite_Dn (fun _ => ?_) (fun _ => ?_) | with_reducible refine sats_seq ?_ | with_reducible refine sats_if ?_ | with_reducible refine sats_set ?_ | with_reducible refine sats_setO ?_ | with_reducible refine sats_ret ?_ | with_reducible refine sats_skip ?_ | with_reducible refine sats_drop ?_ | with_reducible refine sats_setCc ?_ | with_reducible refine sat_iteD (fun _ => ?_) (fun _ => ?_) | with_reducible refine sat_lenInts ?_ | with_reducible refine sat_neNil ?_ | with_reducible refine ite_D (fun _ => ?_) (fun _ => ?_) | ((with_reducible refine' sat_getbO ?hh ?_); (case hh => exact rfl)) | ((with_reducible refine' sat_getb ?hh ?_); (case hh => exact rfl)) | with_reducible refine sat_fdiv (by first | assumption | omega | decide) (by first | assumption | omega | decide) ?_ | with_reducible refine sat_mod (by first | assumption | omega | decide) ?_ | with_reducible refine sat_ixO (by assumption) rfl ?_ | with_reducible refine sat_ixMod (by omega) (fun _ => ?_) | with_reducible refine sat_ixInts ⟨by omega, by omega⟩ (fun _ => ?_) | with_reducible refine sat_pow (by first | decide | exact ⟨by decide, by decide, bits1 ⟨by omega, by omega⟩ ⟨by omega, by omega⟩ (by decide) (by decide)⟩ | exact ⟨by decide, by decide, bits2 ⟨by omega, by omega⟩ ⟨by omega, by omega⟩ (by decide) (by decide) (by decide)⟩) ?_ | (refine ⟨_, _, _, _, rfl, rfl, by assumption, rfl, fun S' hS' _ => ?_⟩; try simp only [List.set_cons_succ, List.set_cons_zero, Int.reduceToNat] at hS') | ((with_reducible refine' sat_ixL0 ?hh ?_); (case hh => exact rfl)) | ((with_reducible refine' sat_ixT0 ?hh ?_); (case hh => exact rfl)) | ((with_reducible refine' sat_ixL1 ?hh ?_); (case hh => exact rfl)) | ((with_reducible refine' sat_ixT1 ?hh ?_); (case hh => exact rfl)) | ((with_reducible refine' sat_ixL2 ?hh ?_); (case hh => exact rfl)) | ((with_reducible refine' sat_ixT2 ?hh ?_); (case hh => exact rfl)) | ((with_reducible refine' sat_ixL3 ?hh ?_); (case hh => exact rfl)) | ((with_reducible refine' sat_ixT3 ?hh ?_); (case hh => exact rfl)) | ((with_reducible refine' sat_ixL4 ?hh ?_); (case hh => exact rfl)) | ((with_reducible refine' sat_ixT4 ?hh ?_); (case hh => exact rfl)) | ((with_reducible refine' sat_ifBt ?hh ?_); (case hh => exact rfl)) | ((with_reducible refine' sat_ifBf ?hh ?_); (case hh => exact rfl)) | ((with_reducible refine' ite_bt ?hh ?_); (case hh => exact rfl)) | ((with_reducible refine' ite_bf ?hh ?_); (case hh => exact rfl)) | ((with_reducible refine' sat_ite_bt ?hh ?_); (case hh => exact rfl)) | ((with_reducible refine' sat_ite_bf ?hh ?_); (case hh => exact rfl)) | ((with_reducible refine' sat_inT ?hh (fun bb hbb => ?_)); (case hh => exact rfl)) | ((with_reducible refine' sat_ninT ?hh (fun bb hbb => ?_)); (case hh => exact rfl)) | ((with_reducible refine' sat_inLs ?hh (fun bb hbb => ?_)); (case hh => exact rfl)) | ((with_reducible refine' sat_ninLs ?hh (fun bb hbb => ?_)); (case hh => exact rfl)) | with_reducible refine sat_addLL (by first | omega | (simp; done) | (simp; omega)) ?_ | with_reducible refine sat_mulL (by decide) (by first | omega | (simp; done) | (simp; omega)) ?_ | with_reducible refine sat_lenS (le_line (by assumption)) ?_ | with_reducible refine sat_lcQ ?_ | refine sat_ok rfl ?_ | with_reducible refine ite_B (fun _ => ?_) (fun _ => ?_) | with_reducible refine sat_ite (fun _ => ?_) (fun _ => ?_) | with_reducible refine sat_ifB (fun _ => ?_) (fun _ => ?_) | fail); try dsimp only)
  with_reducible refine Sat.to (oo hc (by simp) (by simp)) (fun x S' hr => ?_)
  obtain ⟨hx, hc⟩ := hr
  obtain ⟨done, rfl, d0⟩ := done_of hx (by assumption) j0 m1 (by decide) (by decide)
  clear hx hm
  repeat' ((first | with_reducible refine sat_bind ?_ | with_reducible refine sat_pure ?_ | ((with_reducible refine' sat_getv ?hh ?_); (case hh => exact rfl)) | with_reducible refine sat_mul (by first | decide | omega | exact .inr (bits3 ⟨by omega, by omega⟩ (by decide))) ?_ | with_reducible refine sat_add ?_ | with_reducible refine sat_sub ?_ | with_reducible refine sat_lt ?_ | with_reducible refine sat_le ?_ | with_reducible refine sat_gt ?_ | with_reducible refine sat_ge ?_ | with_reducible refine sat_eqI ?_ | with_reducible refine sat_neI ?_ | with_reducible refine sat_eqS ?_ | with_reducible refine sat_neS ?_ | with_reducible refine sat_eqNil ?_ | with_reducible refine sat_ifBD (fun _ => ?_) (fun _ => ?_) | with_reducible refine sat_asB ?_ | with_reducible refine sat_not ?_ | with_reducible refine sat_int ?_ | with_reducible refine sat_intB ?_ | with_reducible refine sat_abs ?_ | with_reducible refine ite_F ?_ | with_reducible refine ite_T ?_ | with_reducible refine ite_Dn (fun _ => ?_) (fun _ => ?_) | with_reducible refine sats_seq ?_ | with_reducible refine sats_if ?_ | with_reducible refine sats_set ?_ | with_reducible refine sats_setO ?_ | with_reducible refine sats_ret ?_ | with_reducible refine sats_skip ?_ | with_reducible refine sats_drop ?_ | with_reducible refine sats_setCc ?_ | with_reducible refine sat_iteD (fun _ => ?_) (fun _ => ?_) | with_reducible refine sat_lenInts ?_ | with_reducible refine sat_neNil ?_ | with_reducible refine ite_D (fun _ => ?_) (fun _ => ?_) | ((with_reducible refine' sat_getbO ?hh ?_); (case hh => exact rfl)) | ((with_reducible refine' sat_getb ?hh ?_); (case hh => exact rfl)) | with_reducible refine sat_fdiv (by first | assumption | omega | decide) (by first | assumption | omega | decide) ?_ | with_reducible refine sat_mod (by first | assumption | omega | decide) ?_ | with_reducible refine sat_ixO (by assumption) rfl ?_ | with_reducible refine sat_ixMod (by omega) (fun _ => ?_) | with_reducible refine sat_ixInts ⟨by omega, by omega⟩ (fun _ => ?_) | with_reducible refine sat_pow (by first | decide | exact ⟨by decide, by decide, bits1 ⟨by omega, by omega⟩ ⟨by omega, by omega⟩ (by decide) (by decide)⟩ | exact ⟨by decide, by decide, bits2 ⟨by omega, by omega⟩ ⟨by omega, by omega⟩ (by decide) (by decide) (by decide)⟩) ?_ | (refine ⟨_, _, _, _, rfl, rfl, by assumption, rfl, fun S' hS' _ => ?_⟩; try simp only [List.set_cons_succ, List.set_cons_zero, Int.reduceToNat] at hS') | ((with_reducible refine' sat_ixL0 ?hh ?_); (case hh => exact rfl)) | ((with_reducible refine' sat_ixT0 ?hh ?_); (case hh => exact rfl)) | ((with_reducible refine' sat_ixL1 ?hh ?_); (case hh => exact rfl)) | ((with_reducible refine' sat_ixT1 ?hh ?_); (case hh => exact rfl)) | ((with_reducible refine' sat_ixL2 ?hh ?_); (case hh => exact rfl)) | ((with_reducible refine' sat_ixT2 ?hh ?_); (case hh => exact rfl)) | ((with_reducible refine' sat_ixL3 ?hh ?_); (case hh => exact rfl)) | ((with_reducible refine' sat_ixT3 ?hh ?_); (case hh => exact rfl)) | ((with_reducible refine' sat_ixL4 ?hh ?_); (case hh => exact rfl)) | ((with_reducible refine' sat_ixT4 ?hh ?_); (case hh => exact rfl)) | ((with_reducible refine' sat_ifBt ?hh ?_); (case hh => exact rfl)) | ((with_reducible refine' sat_ifBf ?hh ?_); (case hh => exact rfl)) | ((with_reducible refine' ite_bt ?hh ?_); (case hh => exact rfl)) | ((with_reducible refine' ite_bf ?hh ?_); (case hh => exact rfl)) | ((with_reducible refine' sat_ite_bt ?hh ?_); (case hh => exact rfl)) | ((with_reducible refine' sat_ite_bf ?hh ?_); (case hh => exact rfl)) | ((with_reducible refine' sat_inT ?hh (fun bb hbb => ?_)); (case hh => exact rfl)) | ((with_reducible refine' sat_ninT ?hh (fun bb hbb => ?_)); (case hh => exact rfl)) | ((with_reducible refine' sat_inLs ?hh (fun bb hbb => ?_)); (case hh => exact rfl)) | ((with_reducible refine' sat_ninLs ?hh (fun bb hbb => ?_)); (case hh => exact rfl)) | with_reducible refine sat_addLL (by first | omega | (simp; done) | (simp; omega)) ?_ | with_reducible refine sat_mulL (by decide) (by first | omega | (simp; done) | (simp; omega)) ?_ | with_reducible refine sat_lenS (le_line (by assumption)) ?_ | with_reducible refine sat_lcQ ?_ | refine sat_ok rfl ?_ | with_reducible refine ite_B (fun _ => ?_) (fun _ => ?_) | with_reducible refine sat_ite (fun _ => ?_) (fun _ => ?_) | with_reducible refine sat_ifB (fun _ => ?_) (fun _ => ?_) | fail); try dsimp only)
  refine sats_forQ (xs := [.int 0, .int 1]) ?_
  repeat' ((first | with_reducible refine sat_bind ?_ | with_reducible refine sat_pure ?_ | ((with_reducible refine' sat_getv ?hh ?_); (case hh => exact rfl)) | with_reducible refine sat_mul (by first | decide | omega | exact .inr (bits3 ⟨by omega, by omega⟩ (by decide))) ?_ | with_reducible refine sat_add ?_ | with_reducible refine sat_sub ?_ | with_reducible refine sat_lt ?_ | with_reducible refine sat_le ?_ | with_reducible refine sat_gt ?_ | with_reducible refine sat_ge ?_ | with_reducible refine sat_eqI ?_ | with_reducible refine sat_neI ?_ | with_reducible refine sat_eqS ?_ | with_reducible refine sat_neS ?_ | with_reducible refine sat_eqNil ?_ | with_reducible refine sat_ifBD (fun _ => ?_) (fun _ => ?_) | with_reducible refine sat_asB ?_ | with_reducible refine sat_not ?_ | with_reducible refine sat_int ?_ | with_reducible refine sat_intB ?_ | with_reducible refine sat_abs ?_ | with_reducible refine ite_F ?_ | with_reducible refine ite_T ?_ | with_reducible refine ite_Dn (fun _ => ?_) (fun _ => ?_) | with_reducible refine sats_seq ?_ | with_reducible refine sats_if ?_ | with_reducible refine sats_set ?_ | with_reducible refine sats_setO ?_ | with_reducible refine sats_ret ?_ | with_reducible refine sats_skip ?_ | with_reducible refine sats_drop ?_ | with_reducible refine sats_setCc ?_ | with_reducible refine sat_iteD (fun _ => ?_) (fun _ => ?_) | with_reducible refine sat_lenInts ?_ | with_reducible refine sat_neNil ?_ | with_reducible refine ite_D (fun _ => ?_) (fun _ => ?_) | ((with_reducible refine' sat_getbO ?hh ?_); (case hh => exact rfl)) | ((with_reducible refine' sat_getb ?hh ?_); (case hh => exact rfl)) | with_reducible refine sat_fdiv (by first | assumption | omega | decide) (by first | assumption | omega | decide) ?_ | with_reducible refine sat_mod (by first | assumption | omega | decide) ?_ | with_reducible refine sat_ixO (by assumption) rfl ?_ | with_reducible refine sat_ixMod (by omega) (fun _ => ?_) | with_reducible refine sat_ixInts ⟨by omega, by omega⟩ (fun _ => ?_) | with_reducible refine sat_pow (by first | decide | exact ⟨by decide, by decide, bits1 ⟨by omega, by omega⟩ ⟨by omega, by omega⟩ (by decide) (by decide)⟩ | exact ⟨by decide, by decide, bits2 ⟨by omega, by omega⟩ ⟨by omega, by omega⟩ (by decide) (by decide) (by decide)⟩) ?_ | (refine ⟨_, _, _, _, rfl, rfl, by assumption, rfl, fun S' hS' _ => ?_⟩; try simp only [List.set_cons_succ, List.set_cons_zero, Int.reduceToNat] at hS') | ((with_reducible refine' sat_ixL0 ?hh ?_); (case hh => exact rfl)) | ((with_reducible refine' sat_ixT0 ?hh ?_); (case hh => exact rfl)) | ((with_reducible refine' sat_ixL1 ?hh ?_); (case hh => exact rfl)) | ((with_reducible refine' sat_ixT1 ?hh ?_); (case hh => exact rfl)) | ((with_reducible refine' sat_ixL2 ?hh ?_); (case hh => exact rfl)) | ((with_reducible refine' sat_ixT2 ?hh ?_); (case hh => exact rfl)) | ((with_reducible refine' sat_ixL3 ?hh ?_); (case hh => exact rfl)) | ((with_reducible refine' sat_ixT3 ?hh ?_); (case hh => exact rfl)) | ((with_reducible refine' sat_ixL4 ?hh ?_); (case hh => exact rfl)) | ((with_reducible refine' sat_ixT4 ?hh ?_); (case hh => exact rfl)) | ((with_reducible refine' sat_ifBt ?hh ?_); (case hh => exact rfl)) | ((with_reducible refine' sat_ifBf ?hh ?_); (case hh => exact rfl)) | ((with_reducible refine' ite_bt ?hh ?_); (case hh => exact rfl)) | ((with_reducible refine' ite_bf ?hh ?_); (case hh => exact rfl)) | ((with_reducible refine' sat_ite_bt ?hh ?_); (case hh => exact rfl)) | ((with_reducible refine' sat_ite_bf ?hh ?_); (case hh => exact rfl)) | ((with_reducible refine' sat_inT ?hh (fun bb hbb => ?_)); (case hh => exact rfl)) | ((with_reducible refine' sat_ninT ?hh (fun bb hbb => ?_)); (case hh => exact rfl)) | ((with_reducible refine' sat_inLs ?hh (fun bb hbb => ?_)); (case hh => exact rfl)) | ((with_reducible refine' sat_ninLs ?hh (fun bb hbb => ?_)); (case hh => exact rfl)) | with_reducible refine sat_addLL (by first | omega | (simp; done) | (simp; omega)) ?_ | with_reducible refine sat_mulL (by decide) (by first | omega | (simp; done) | (simp; omega)) ?_ | with_reducible refine sat_lenS (le_line (by assumption)) ?_ | with_reducible refine sat_lcQ ?_ | refine sat_ok rfl ?_ | with_reducible refine ite_B (fun _ => ?_) (fun _ => ?_) | with_reducible refine sat_ite (fun _ => ?_) (fun _ => ?_) | with_reducible refine sat_ifB (fun _ => ?_) (fun _ => ?_) | fail); try dsimp only)
  refine ⟨rfl, ?_⟩
  refine sats_for (fun rest env S => ∃ e3 e4 e5 e6 : Sl, env = [.val (.obj c), .val (.int m), .val (.int done), e3, e4, e5, e6] ∧ (∀ x ∈ rest, x = .int 0 ∨ x = .int 1) ∧ CloudL TL b S c) (fun d rest env S ⟨e3, e4, e5, e6, h5, h6, hc⟩ => ?_) (fun env S ⟨e3, e4, e5, e6, h5, h6, hc⟩ => ?_) ⟨_, _, _, _, rfl, fun x hx => ?_, hc⟩
  · subst h5
    have hd := h6 d List.mem_cons_self
    have om : okR m = true := decide_eq_true ⟨by omega, by omega⟩
    have lm : (m.toNat : Int) = m := by omega
    have ll : (rangeD 0 m.toNat).length ≤ sizeLine := by
      rw [range_len]
      exact le_line (by omega)
    have key : ∀ has : Int, (has = 0 ∨ has = 1) → d = .int has → True := fun _ _ _ => trivial
    have b1 := Int.emod_nonneg done (show m ≠ 0 by omega)
    have b2 := Int.emod_lt_of_pos done (show 0 < m by omega)
    have c1 := Int.emod_nonneg (done + 1) (show m ≠ 0 by omega)
    have c2 := Int.emod_lt_of_pos (done + 1) (show 0 < m by omega)
    refine ⟨_, rfl, ?_⟩
    rcases hd with rfl | rfl
    · repeat' ((first | with_reducible refine sat_bind ?_ | with_reducible refine sat_pure ?_ | ((with_reducible refine' sat_getv ?hh ?_); (case hh => exact rfl)) | with_reducible refine sat_mul (by first | decide | omega | exact .inr (bits3 ⟨by omega, by omega⟩ (by decide))) ?_ | with_reducible refine sat_add ?_ | with_reducible refine sat_sub ?_ | with_reducible refine sat_lt ?_ | with_reducible refine sat_le ?_ | with_reducible refine sat_gt ?_ | with_reducible refine sat_ge ?_ | with_reducible refine sat_eqI ?_ | with_reducible refine sat_neI ?_ | with_reducible refine sat_eqS ?_ | with_reducible refine sat_neS ?_ | with_reducible refine sat_eqNil ?_ | with_reducible refine sat_ifBD (fun _ => ?_) (fun _ => ?_) | with_reducible refine sat_asB ?_ | with_reducible refine sat_not ?_ | with_reducible refine sat_int ?_ | with_reducible refine sat_intB ?_ | with_reducible refine sat_abs ?_ | with_reducible refine ite_F ?_ | with_reducible refine ite_T ?_ | with_reducible refine ite_Dn (fun _ => ?_) (fun _ => ?_) | with_reducible refine sats_seq ?_ | with_reducible refine sats_if ?_ | with_reducible refine sats_set ?_ | with_reducible refine sats_setO ?_ | with_reducible refine sats_ret ?_ | with_reducible refine sats_skip ?_ | with_reducible refine sats_drop ?_ | with_reducible refine sats_setCc ?_ | with_reducible refine sat_iteD (fun _ => ?_) (fun _ => ?_) | with_reducible refine sat_lenInts ?_ | with_reducible refine sat_neNil ?_ | with_reducible refine ite_D (fun _ => ?_) (fun _ => ?_) | ((with_reducible refine' sat_getbO ?hh ?_); (case hh => exact rfl)) | ((with_reducible refine' sat_getb ?hh ?_); (case hh => exact rfl)) | with_reducible refine sat_fdiv (by first | assumption | omega | decide) (by first | assumption | omega | decide) ?_ | with_reducible refine sat_mod (by first | assumption | omega | decide) ?_ | with_reducible refine sat_ixO (by assumption) rfl ?_ | with_reducible refine sat_ixMod (by omega) (fun _ => ?_) | with_reducible refine sat_ixInts ⟨by omega, by omega⟩ (fun _ => ?_) | with_reducible refine sat_pow (by first | decide | exact ⟨by decide, by decide, bits1 ⟨by omega, by omega⟩ ⟨by omega, by omega⟩ (by decide) (by decide)⟩ | exact ⟨by decide, by decide, bits2 ⟨by omega, by omega⟩ ⟨by omega, by omega⟩ (by decide) (by decide) (by decide)⟩) ?_ | (refine ⟨_, _, _, _, rfl, rfl, by assumption, rfl, fun S' hS' _ => ?_⟩; try simp only [List.set_cons_succ, List.set_cons_zero, Int.reduceToNat] at hS') | ((with_reducible refine' sat_ixL0 ?hh ?_); (case hh => exact rfl)) | ((with_reducible refine' sat_ixT0 ?hh ?_); (case hh => exact rfl)) | ((with_reducible refine' sat_ixL1 ?hh ?_); (case hh => exact rfl)) | ((with_reducible refine' sat_ixT1 ?hh ?_); (case hh => exact rfl)) | ((with_reducible refine' sat_ixL2 ?hh ?_); (case hh => exact rfl)) | ((with_reducible refine' sat_ixT2 ?hh ?_); (case hh => exact rfl)) | ((with_reducible refine' sat_ixL3 ?hh ?_); (case hh => exact rfl)) | ((with_reducible refine' sat_ixT3 ?hh ?_); (case hh => exact rfl)) | ((with_reducible refine' sat_ixL4 ?hh ?_); (case hh => exact rfl)) | ((with_reducible refine' sat_ixT4 ?hh ?_); (case hh => exact rfl)) | ((with_reducible refine' sat_ifBt ?hh ?_); (case hh => exact rfl)) | ((with_reducible refine' sat_ifBf ?hh ?_); (case hh => exact rfl)) | ((with_reducible refine' ite_bt ?hh ?_); (case hh => exact rfl)) | ((with_reducible refine' ite_bf ?hh ?_); (case hh => exact rfl)) | ((with_reducible refine' sat_ite_bt ?hh ?_); (case hh => exact rfl)) | ((with_reducible refine' sat_ite_bf ?hh ?_); (case hh => exact rfl)) | ((with_reducible refine' sat_inT ?hh (fun bb hbb => ?_)); (case hh => exact rfl)) | ((with_reducible refine' sat_ninT ?hh (fun bb hbb => ?_)); (case hh => exact rfl)) | ((with_reducible refine' sat_inLs ?hh (fun bb hbb => ?_)); (case hh => exact rfl)) | ((with_reducible refine' sat_ninLs ?hh (fun bb hbb => ?_)); (case hh => exact rfl)) | with_reducible refine sat_addLL (by first | omega | (simp; done) | (simp; omega)) ?_ | with_reducible refine sat_mulL (by decide) (by first | omega | (simp; done) | (simp; omega)) ?_ | with_reducible refine sat_lenS (le_line (by assumption)) ?_ | with_reducible refine sat_lcQ ?_ | refine sat_ok rfl ?_ | with_reducible refine ite_B (fun _ => ?_) (fun _ => ?_) | with_reducible refine sat_ite (fun _ => ?_) (fun _ => ?_) | with_reducible refine sat_ifB (fun _ => ?_) (fun _ => ?_) | fail); try dsimp only)
      refine sat_lcR ?_
      repeat' ((first | with_reducible refine sat_bind ?_ | with_reducible refine sat_pure ?_ | ((with_reducible refine' sat_getv ?hh ?_); (case hh => exact rfl)) | with_reducible refine sat_mul (by first | decide | omega | exact .inr (bits3 ⟨by omega, by omega⟩ (by decide))) ?_ | with_reducible refine sat_add ?_ | with_reducible refine sat_sub ?_ | with_reducible refine sat_lt ?_ | with_reducible refine sat_le ?_ | with_reducible refine sat_gt ?_ | with_reducible refine sat_ge ?_ | with_reducible refine sat_eqI ?_ | with_reducible refine sat_neI ?_ | with_reducible refine sat_eqS ?_ | with_reducible refine sat_neS ?_ | with_reducible refine sat_eqNil ?_ | with_reducible refine sat_ifBD (fun _ => ?_) (fun _ => ?_) | with_reducible refine sat_asB ?_ | with_reducible refine sat_not ?_ | with_reducible refine sat_int ?_ | with_reducible refine sat_intB ?_ | with_reducible refine sat_abs ?_ | with_reducible refine ite_F ?_ | with_reducible refine ite_T ?_ | with_reducible refine ite_Dn (fun _ => ?_) (fun _ => ?_) | with_reducible refine sats_seq ?_ | with_reducible refine sats_if ?_ | with_reducible refine sats_set ?_ | with_reducible refine sats_setO ?_ | with_reducible refine sats_ret ?_ | with_reducible refine sats_skip ?_ | with_reducible refine sats_drop ?_ | with_reducible refine sats_setCc ?_ | with_reducible refine sat_iteD (fun _ => ?_) (fun _ => ?_) | with_reducible refine sat_lenInts ?_ | with_reducible refine sat_neNil ?_ | with_reducible refine ite_D (fun _ => ?_) (fun _ => ?_) | ((with_reducible refine' sat_getbO ?hh ?_); (case hh => exact rfl)) | ((with_reducible refine' sat_getb ?hh ?_); (case hh => exact rfl)) | with_reducible refine sat_fdiv (by first | assumption | omega | decide) (by first | assumption | omega | decide) ?_ | with_reducible refine sat_mod (by first | assumption | omega | decide) ?_ | with_reducible refine sat_ixO (by assumption) rfl ?_ | with_reducible refine sat_ixMod (by omega) (fun _ => ?_) | with_reducible refine sat_ixInts ⟨by omega, by omega⟩ (fun _ => ?_) | with_reducible refine sat_pow (by first | decide | exact ⟨by decide, by decide, bits1 ⟨by omega, by omega⟩ ⟨by omega, by omega⟩ (by decide) (by decide)⟩ | exact ⟨by decide, by decide, bits2 ⟨by omega, by omega⟩ ⟨by omega, by omega⟩ (by decide) (by decide) (by decide)⟩) ?_ | (refine ⟨_, _, _, _, rfl, rfl, by assumption, rfl, fun S' hS' _ => ?_⟩; try simp only [List.set_cons_succ, List.set_cons_zero, Int.reduceToNat] at hS') | ((with_reducible refine' sat_ixL0 ?hh ?_); (case hh => exact rfl)) | ((with_reducible refine' sat_ixT0 ?hh ?_); (case hh => exact rfl)) | ((with_reducible refine' sat_ixL1 ?hh ?_); (case hh => exact rfl)) | ((with_reducible refine' sat_ixT1 ?hh ?_); (case hh => exact rfl)) | ((with_reducible refine' sat_ixL2 ?hh ?_); (case hh => exact rfl)) | ((with_reducible refine' sat_ixT2 ?hh ?_); (case hh => exact rfl)) | ((with_reducible refine' sat_ixL3 ?hh ?_); (case hh => exact rfl)) | ((with_reducible refine' sat_ixT3 ?hh ?_); (case hh => exact rfl)) | ((with_reducible refine' sat_ixL4 ?hh ?_); (case hh => exact rfl)) | ((with_reducible refine' sat_ixT4 ?hh ?_); (case hh => exact rfl)) | ((with_reducible refine' sat_ifBt ?hh ?_); (case hh => exact rfl)) | ((with_reducible refine' sat_ifBf ?hh ?_); (case hh => exact rfl)) | ((with_reducible refine' ite_bt ?hh ?_); (case hh => exact rfl)) | ((with_reducible refine' ite_bf ?hh ?_); (case hh => exact rfl)) | ((with_reducible refine' sat_ite_bt ?hh ?_); (case hh => exact rfl)) | ((with_reducible refine' sat_ite_bf ?hh ?_); (case hh => exact rfl)) | ((with_reducible refine' sat_inT ?hh (fun bb hbb => ?_)); (case hh => exact rfl)) | ((with_reducible refine' sat_ninT ?hh (fun bb hbb => ?_)); (case hh => exact rfl)) | ((with_reducible refine' sat_inLs ?hh (fun bb hbb => ?_)); (case hh => exact rfl)) | ((with_reducible refine' sat_ninLs ?hh (fun bb hbb => ?_)); (case hh => exact rfl)) | with_reducible refine sat_addLL (by first | omega | (simp; done) | (simp; omega)) ?_ | with_reducible refine sat_mulL (by decide) (by first | omega | (simp; done) | (simp; omega)) ?_ | with_reducible refine sat_lenS (le_line (by assumption)) ?_ | with_reducible refine sat_lcQ ?_ | refine sat_ok rfl ?_ | with_reducible refine ite_B (fun _ => ?_) (fun _ => ?_) | with_reducible refine sat_ite (fun _ => ?_) (fun _ => ?_) | with_reducible refine sat_ifB (fun _ => ?_) (fun _ => ?_) | fail); try dsimp only)
      refine ⟨m, rfl, om, ?_⟩
      refine sat_map (toldG done 0 m) ll (fun d hd => ?_) ?_
      · obtain ⟨i, rfl, i0, i1⟩ := range_mem hd
        refine ⟨_, rfl, ?_⟩
        repeat' ((first | ((with_reducible refine Sat.to (wa d0 (by omega) (by omega) (by omega)) (fun r S' hr => ?_)); obtain ⟨e1, e2⟩ := hr; subst e1; subst e2) | with_reducible refine sat_bind ?_ | with_reducible refine sat_pure ?_ | ((with_reducible refine' sat_getv ?hh ?_); (case hh => exact rfl)) | with_reducible refine sat_mul (by first | decide | omega | exact .inr (bits3 ⟨by omega, by omega⟩ (by decide))) ?_ | with_reducible refine sat_add ?_ | with_reducible refine sat_sub ?_ | with_reducible refine sat_lt ?_ | with_reducible refine sat_le ?_ | with_reducible refine sat_gt ?_ | with_reducible refine sat_ge ?_ | with_reducible refine sat_eqI ?_ | with_reducible refine sat_neI ?_ | with_reducible refine sat_eqS ?_ | with_reducible refine sat_neS ?_ | with_reducible refine sat_eqNil ?_ | with_reducible refine sat_ifBD (fun _ => ?_) (fun _ => ?_) | with_reducible refine sat_asB ?_ | with_reducible refine sat_not ?_ | with_reducible refine sat_int ?_ | with_reducible refine sat_intB ?_ | with_reducible refine sat_abs ?_ | with_reducible refine ite_F ?_ | with_reducible refine ite_T ?_ | with_reducible refine ite_Dn (fun _ => ?_) (fun _ => ?_) | with_reducible refine sats_seq ?_ | with_reducible refine sats_if ?_ | with_reducible refine sats_set ?_ | with_reducible refine sats_setO ?_ | with_reducible refine sats_ret ?_ | with_reducible refine sats_skip ?_ | with_reducible refine sats_drop ?_ | with_reducible refine sats_setCc ?_ | with_reducible refine sat_iteD (fun _ => ?_) (fun _ => ?_) | with_reducible refine sat_lenInts ?_ | with_reducible refine sat_neNil ?_ | with_reducible refine ite_D (fun _ => ?_) (fun _ => ?_) | ((with_reducible refine' sat_getbO ?hh ?_); (case hh => exact rfl)) | ((with_reducible refine' sat_getb ?hh ?_); (case hh => exact rfl)) | with_reducible refine sat_fdiv (by first | assumption | omega | decide) (by first | assumption | omega | decide) ?_ | with_reducible refine sat_mod (by first | assumption | omega | decide) ?_ | with_reducible refine sat_ixO (by assumption) rfl ?_ | with_reducible refine sat_ixMod (by omega) (fun _ => ?_) | with_reducible refine sat_ixInts ⟨by omega, by omega⟩ (fun _ => ?_) | with_reducible refine sat_pow (by first | decide | exact ⟨by decide, by decide, bits1 ⟨by omega, by omega⟩ ⟨by omega, by omega⟩ (by decide) (by decide)⟩ | exact ⟨by decide, by decide, bits2 ⟨by omega, by omega⟩ ⟨by omega, by omega⟩ (by decide) (by decide) (by decide)⟩) ?_ | (refine ⟨_, _, _, _, rfl, rfl, by assumption, rfl, fun S' hS' _ => ?_⟩; try simp only [List.set_cons_succ, List.set_cons_zero, Int.reduceToNat] at hS') | ((with_reducible refine' sat_ixL0 ?hh ?_); (case hh => exact rfl)) | ((with_reducible refine' sat_ixT0 ?hh ?_); (case hh => exact rfl)) | ((with_reducible refine' sat_ixL1 ?hh ?_); (case hh => exact rfl)) | ((with_reducible refine' sat_ixT1 ?hh ?_); (case hh => exact rfl)) | ((with_reducible refine' sat_ixL2 ?hh ?_); (case hh => exact rfl)) | ((with_reducible refine' sat_ixT2 ?hh ?_); (case hh => exact rfl)) | ((with_reducible refine' sat_ixL3 ?hh ?_); (case hh => exact rfl)) | ((with_reducible refine' sat_ixT3 ?hh ?_); (case hh => exact rfl)) | ((with_reducible refine' sat_ixL4 ?hh ?_); (case hh => exact rfl)) | ((with_reducible refine' sat_ixT4 ?hh ?_); (case hh => exact rfl)) | ((with_reducible refine' sat_ifBt ?hh ?_); (case hh => exact rfl)) | ((with_reducible refine' sat_ifBf ?hh ?_); (case hh => exact rfl)) | ((with_reducible refine' ite_bt ?hh ?_); (case hh => exact rfl)) | ((with_reducible refine' ite_bf ?hh ?_); (case hh => exact rfl)) | ((with_reducible refine' sat_ite_bt ?hh ?_); (case hh => exact rfl)) | ((with_reducible refine' sat_ite_bf ?hh ?_); (case hh => exact rfl)) | ((with_reducible refine' sat_inT ?hh (fun bb hbb => ?_)); (case hh => exact rfl)) | ((with_reducible refine' sat_ninT ?hh (fun bb hbb => ?_)); (case hh => exact rfl)) | ((with_reducible refine' sat_inLs ?hh (fun bb hbb => ?_)); (case hh => exact rfl)) | ((with_reducible refine' sat_ninLs ?hh (fun bb hbb => ?_)); (case hh => exact rfl)) | with_reducible refine sat_addLL (by first | omega | (simp; done) | (simp; omega)) ?_ | with_reducible refine sat_mulL (by decide) (by first | omega | (simp; done) | (simp; omega)) ?_ | with_reducible refine sat_lenS (le_line (by assumption)) ?_ | with_reducible refine sat_lcQ ?_ | refine sat_ok rfl ?_ | with_reducible refine ite_B (fun _ => ?_) (fun _ => ?_) | with_reducible refine sat_ite (fun _ => ?_) (fun _ => ?_) | with_reducible refine sat_ifB (fun _ => ?_) (fun _ => ?_) | fail); try dsimp only)
        exact ⟨rfl, rfl⟩
      rw [show List.map (toldG done 0 m) (rangeD 0 m.toNat) = toldL done 0 m from rfl]
      repeat' ((first | with_reducible refine sat_bind ?_ | with_reducible refine sat_pure ?_ | ((with_reducible refine' sat_getv ?hh ?_); (case hh => exact rfl)) | with_reducible refine sat_mul (by first | decide | omega | exact .inr (bits3 ⟨by omega, by omega⟩ (by decide))) ?_ | with_reducible refine sat_add ?_ | with_reducible refine sat_sub ?_ | with_reducible refine sat_lt ?_ | with_reducible refine sat_le ?_ | with_reducible refine sat_gt ?_ | with_reducible refine sat_ge ?_ | with_reducible refine sat_eqI ?_ | with_reducible refine sat_neI ?_ | with_reducible refine sat_eqS ?_ | with_reducible refine sat_neS ?_ | with_reducible refine sat_eqNil ?_ | with_reducible refine sat_ifBD (fun _ => ?_) (fun _ => ?_) | with_reducible refine sat_asB ?_ | with_reducible refine sat_not ?_ | with_reducible refine sat_int ?_ | with_reducible refine sat_intB ?_ | with_reducible refine sat_abs ?_ | with_reducible refine ite_F ?_ | with_reducible refine ite_T ?_ | with_reducible refine ite_Dn (fun _ => ?_) (fun _ => ?_) | with_reducible refine sats_seq ?_ | with_reducible refine sats_if ?_ | with_reducible refine sats_set ?_ | with_reducible refine sats_setO ?_ | with_reducible refine sats_ret ?_ | with_reducible refine sats_skip ?_ | with_reducible refine sats_drop ?_ | with_reducible refine sats_setCc ?_ | with_reducible refine sat_iteD (fun _ => ?_) (fun _ => ?_) | with_reducible refine sat_lenInts ?_ | with_reducible refine sat_neNil ?_ | with_reducible refine ite_D (fun _ => ?_) (fun _ => ?_) | ((with_reducible refine' sat_getbO ?hh ?_); (case hh => exact rfl)) | ((with_reducible refine' sat_getb ?hh ?_); (case hh => exact rfl)) | with_reducible refine sat_fdiv (by first | assumption | omega | decide) (by first | assumption | omega | decide) ?_ | with_reducible refine sat_mod (by first | assumption | omega | decide) ?_ | with_reducible refine sat_ixO (by assumption) rfl ?_ | with_reducible refine sat_ixMod (by omega) (fun _ => ?_) | with_reducible refine sat_ixInts ⟨by omega, by omega⟩ (fun _ => ?_) | with_reducible refine sat_pow (by first | decide | exact ⟨by decide, by decide, bits1 ⟨by omega, by omega⟩ ⟨by omega, by omega⟩ (by decide) (by decide)⟩ | exact ⟨by decide, by decide, bits2 ⟨by omega, by omega⟩ ⟨by omega, by omega⟩ (by decide) (by decide) (by decide)⟩) ?_ | (refine ⟨_, _, _, _, rfl, rfl, by assumption, rfl, fun S' hS' _ => ?_⟩; try simp only [List.set_cons_succ, List.set_cons_zero, Int.reduceToNat] at hS') | ((with_reducible refine' sat_ixL0 ?hh ?_); (case hh => exact rfl)) | ((with_reducible refine' sat_ixT0 ?hh ?_); (case hh => exact rfl)) | ((with_reducible refine' sat_ixL1 ?hh ?_); (case hh => exact rfl)) | ((with_reducible refine' sat_ixT1 ?hh ?_); (case hh => exact rfl)) | ((with_reducible refine' sat_ixL2 ?hh ?_); (case hh => exact rfl)) | ((with_reducible refine' sat_ixT2 ?hh ?_); (case hh => exact rfl)) | ((with_reducible refine' sat_ixL3 ?hh ?_); (case hh => exact rfl)) | ((with_reducible refine' sat_ixT3 ?hh ?_); (case hh => exact rfl)) | ((with_reducible refine' sat_ixL4 ?hh ?_); (case hh => exact rfl)) | ((with_reducible refine' sat_ixT4 ?hh ?_); (case hh => exact rfl)) | ((with_reducible refine' sat_ifBt ?hh ?_); (case hh => exact rfl)) | ((with_reducible refine' sat_ifBf ?hh ?_); (case hh => exact rfl)) | ((with_reducible refine' ite_bt ?hh ?_); (case hh => exact rfl)) | ((with_reducible refine' ite_bf ?hh ?_); (case hh => exact rfl)) | ((with_reducible refine' sat_ite_bt ?hh ?_); (case hh => exact rfl)) | ((with_reducible refine' sat_ite_bf ?hh ?_); (case hh => exact rfl)) | ((with_reducible refine' sat_inT ?hh (fun bb hbb => ?_)); (case hh => exact rfl)) | ((with_reducible refine' sat_ninT ?hh (fun bb hbb => ?_)); (case hh => exact rfl)) | ((with_reducible refine' sat_inLs ?hh (fun bb hbb => ?_)); (case hh => exact rfl)) | ((with_reducible refine' sat_ninLs ?hh (fun bb hbb => ?_)); (case hh => exact rfl)) | with_reducible refine sat_addLL (by first | omega | (simp; done) | (simp; omega)) ?_ | with_reducible refine sat_mulL (by decide) (by first | omega | (simp; done) | (simp; omega)) ?_ | with_reducible refine sat_lenS (le_line (by assumption)) ?_ | with_reducible refine sat_lcQ ?_ | refine sat_ok rfl ?_ | with_reducible refine ite_B (fun _ => ?_) (fun _ => ?_) | with_reducible refine sat_ite (fun _ => ?_) (fun _ => ?_) | with_reducible refine sat_ifB (fun _ => ?_) (fun _ => ?_) | fail); try dsimp only)
      refine sat_lcR ?_
      repeat' ((first | with_reducible refine sat_bind ?_ | with_reducible refine sat_pure ?_ | ((with_reducible refine' sat_getv ?hh ?_); (case hh => exact rfl)) | with_reducible refine sat_mul (by first | decide | omega | exact .inr (bits3 ⟨by omega, by omega⟩ (by decide))) ?_ | with_reducible refine sat_add ?_ | with_reducible refine sat_sub ?_ | with_reducible refine sat_lt ?_ | with_reducible refine sat_le ?_ | with_reducible refine sat_gt ?_ | with_reducible refine sat_ge ?_ | with_reducible refine sat_eqI ?_ | with_reducible refine sat_neI ?_ | with_reducible refine sat_eqS ?_ | with_reducible refine sat_neS ?_ | with_reducible refine sat_eqNil ?_ | with_reducible refine sat_ifBD (fun _ => ?_) (fun _ => ?_) | with_reducible refine sat_asB ?_ | with_reducible refine sat_not ?_ | with_reducible refine sat_int ?_ | with_reducible refine sat_intB ?_ | with_reducible refine sat_abs ?_ | with_reducible refine ite_F ?_ | with_reducible refine ite_T ?_ | with_reducible refine ite_Dn (fun _ => ?_) (fun _ => ?_) | with_reducible refine sats_seq ?_ | with_reducible refine sats_if ?_ | with_reducible refine sats_set ?_ | with_reducible refine sats_setO ?_ | with_reducible refine sats_ret ?_ | with_reducible refine sats_skip ?_ | with_reducible refine sats_drop ?_ | with_reducible refine sats_setCc ?_ | with_reducible refine sat_iteD (fun _ => ?_) (fun _ => ?_) | with_reducible refine sat_lenInts ?_ | with_reducible refine sat_neNil ?_ | with_reducible refine ite_D (fun _ => ?_) (fun _ => ?_) | ((with_reducible refine' sat_getbO ?hh ?_); (case hh => exact rfl)) | ((with_reducible refine' sat_getb ?hh ?_); (case hh => exact rfl)) | with_reducible refine sat_fdiv (by first | assumption | omega | decide) (by first | assumption | omega | decide) ?_ | with_reducible refine sat_mod (by first | assumption | omega | decide) ?_ | with_reducible refine sat_ixO (by assumption) rfl ?_ | with_reducible refine sat_ixMod (by omega) (fun _ => ?_) | with_reducible refine sat_ixInts ⟨by omega, by omega⟩ (fun _ => ?_) | with_reducible refine sat_pow (by first | decide | exact ⟨by decide, by decide, bits1 ⟨by omega, by omega⟩ ⟨by omega, by omega⟩ (by decide) (by decide)⟩ | exact ⟨by decide, by decide, bits2 ⟨by omega, by omega⟩ ⟨by omega, by omega⟩ (by decide) (by decide) (by decide)⟩) ?_ | (refine ⟨_, _, _, _, rfl, rfl, by assumption, rfl, fun S' hS' _ => ?_⟩; try simp only [List.set_cons_succ, List.set_cons_zero, Int.reduceToNat] at hS') | ((with_reducible refine' sat_ixL0 ?hh ?_); (case hh => exact rfl)) | ((with_reducible refine' sat_ixT0 ?hh ?_); (case hh => exact rfl)) | ((with_reducible refine' sat_ixL1 ?hh ?_); (case hh => exact rfl)) | ((with_reducible refine' sat_ixT1 ?hh ?_); (case hh => exact rfl)) | ((with_reducible refine' sat_ixL2 ?hh ?_); (case hh => exact rfl)) | ((with_reducible refine' sat_ixT2 ?hh ?_); (case hh => exact rfl)) | ((with_reducible refine' sat_ixL3 ?hh ?_); (case hh => exact rfl)) | ((with_reducible refine' sat_ixT3 ?hh ?_); (case hh => exact rfl)) | ((with_reducible refine' sat_ixL4 ?hh ?_); (case hh => exact rfl)) | ((with_reducible refine' sat_ixT4 ?hh ?_); (case hh => exact rfl)) | ((with_reducible refine' sat_ifBt ?hh ?_); (case hh => exact rfl)) | ((with_reducible refine' sat_ifBf ?hh ?_); (case hh => exact rfl)) | ((with_reducible refine' ite_bt ?hh ?_); (case hh => exact rfl)) | ((with_reducible refine' ite_bf ?hh ?_); (case hh => exact rfl)) | ((with_reducible refine' sat_ite_bt ?hh ?_); (case hh => exact rfl)) | ((with_reducible refine' sat_ite_bf ?hh ?_); (case hh => exact rfl)) | ((with_reducible refine' sat_inT ?hh (fun bb hbb => ?_)); (case hh => exact rfl)) | ((with_reducible refine' sat_ninT ?hh (fun bb hbb => ?_)); (case hh => exact rfl)) | ((with_reducible refine' sat_inLs ?hh (fun bb hbb => ?_)); (case hh => exact rfl)) | ((with_reducible refine' sat_ninLs ?hh (fun bb hbb => ?_)); (case hh => exact rfl)) | with_reducible refine sat_addLL (by first | omega | (simp; done) | (simp; omega)) ?_ | with_reducible refine sat_mulL (by decide) (by first | omega | (simp; done) | (simp; omega)) ?_ | with_reducible refine sat_lenS (le_line (by assumption)) ?_ | with_reducible refine sat_lcQ ?_ | refine sat_ok rfl ?_ | with_reducible refine ite_B (fun _ => ?_) (fun _ => ?_) | with_reducible refine sat_ite (fun _ => ?_) (fun _ => ?_) | with_reducible refine sat_ifB (fun _ => ?_) (fun _ => ?_) | fail); try dsimp only)
      refine ⟨m, rfl, om, ?_⟩
      refine sat_map (fun _ => D.none) ll (fun d hd => ⟨_, rfl, ?_⟩) ?_
      · repeat' ((first | with_reducible refine sat_bind ?_ | with_reducible refine sat_pure ?_ | ((with_reducible refine' sat_getv ?hh ?_); (case hh => exact rfl)) | with_reducible refine sat_mul (by first | decide | omega | exact .inr (bits3 ⟨by omega, by omega⟩ (by decide))) ?_ | with_reducible refine sat_add ?_ | with_reducible refine sat_sub ?_ | with_reducible refine sat_lt ?_ | with_reducible refine sat_le ?_ | with_reducible refine sat_gt ?_ | with_reducible refine sat_ge ?_ | with_reducible refine sat_eqI ?_ | with_reducible refine sat_neI ?_ | with_reducible refine sat_eqS ?_ | with_reducible refine sat_neS ?_ | with_reducible refine sat_eqNil ?_ | with_reducible refine sat_ifBD (fun _ => ?_) (fun _ => ?_) | with_reducible refine sat_asB ?_ | with_reducible refine sat_not ?_ | with_reducible refine sat_int ?_ | with_reducible refine sat_intB ?_ | with_reducible refine sat_abs ?_ | with_reducible refine ite_F ?_ | with_reducible refine ite_T ?_ | with_reducible refine ite_Dn (fun _ => ?_) (fun _ => ?_) | with_reducible refine sats_seq ?_ | with_reducible refine sats_if ?_ | with_reducible refine sats_set ?_ | with_reducible refine sats_setO ?_ | with_reducible refine sats_ret ?_ | with_reducible refine sats_skip ?_ | with_reducible refine sats_drop ?_ | with_reducible refine sats_setCc ?_ | with_reducible refine sat_iteD (fun _ => ?_) (fun _ => ?_) | with_reducible refine sat_lenInts ?_ | with_reducible refine sat_neNil ?_ | with_reducible refine ite_D (fun _ => ?_) (fun _ => ?_) | ((with_reducible refine' sat_getbO ?hh ?_); (case hh => exact rfl)) | ((with_reducible refine' sat_getb ?hh ?_); (case hh => exact rfl)) | with_reducible refine sat_fdiv (by first | assumption | omega | decide) (by first | assumption | omega | decide) ?_ | with_reducible refine sat_mod (by first | assumption | omega | decide) ?_ | with_reducible refine sat_ixO (by assumption) rfl ?_ | with_reducible refine sat_ixMod (by omega) (fun _ => ?_) | with_reducible refine sat_ixInts ⟨by omega, by omega⟩ (fun _ => ?_) | with_reducible refine sat_pow (by first | decide | exact ⟨by decide, by decide, bits1 ⟨by omega, by omega⟩ ⟨by omega, by omega⟩ (by decide) (by decide)⟩ | exact ⟨by decide, by decide, bits2 ⟨by omega, by omega⟩ ⟨by omega, by omega⟩ (by decide) (by decide) (by decide)⟩) ?_ | (refine ⟨_, _, _, _, rfl, rfl, by assumption, rfl, fun S' hS' _ => ?_⟩; try simp only [List.set_cons_succ, List.set_cons_zero, Int.reduceToNat] at hS') | ((with_reducible refine' sat_ixL0 ?hh ?_); (case hh => exact rfl)) | ((with_reducible refine' sat_ixT0 ?hh ?_); (case hh => exact rfl)) | ((with_reducible refine' sat_ixL1 ?hh ?_); (case hh => exact rfl)) | ((with_reducible refine' sat_ixT1 ?hh ?_); (case hh => exact rfl)) | ((with_reducible refine' sat_ixL2 ?hh ?_); (case hh => exact rfl)) | ((with_reducible refine' sat_ixT2 ?hh ?_); (case hh => exact rfl)) | ((with_reducible refine' sat_ixL3 ?hh ?_); (case hh => exact rfl)) | ((with_reducible refine' sat_ixT3 ?hh ?_); (case hh => exact rfl)) | ((with_reducible refine' sat_ixL4 ?hh ?_); (case hh => exact rfl)) | ((with_reducible refine' sat_ixT4 ?hh ?_); (case hh => exact rfl)) | ((with_reducible refine' sat_ifBt ?hh ?_); (case hh => exact rfl)) | ((with_reducible refine' sat_ifBf ?hh ?_); (case hh => exact rfl)) | ((with_reducible refine' ite_bt ?hh ?_); (case hh => exact rfl)) | ((with_reducible refine' ite_bf ?hh ?_); (case hh => exact rfl)) | ((with_reducible refine' sat_ite_bt ?hh ?_); (case hh => exact rfl)) | ((with_reducible refine' sat_ite_bf ?hh ?_); (case hh => exact rfl)) | ((with_reducible refine' sat_inT ?hh (fun bb hbb => ?_)); (case hh => exact rfl)) | ((with_reducible refine' sat_ninT ?hh (fun bb hbb => ?_)); (case hh => exact rfl)) | ((with_reducible refine' sat_inLs ?hh (fun bb hbb => ?_)); (case hh => exact rfl)) | ((with_reducible refine' sat_ninLs ?hh (fun bb hbb => ?_)); (case hh => exact rfl)) | with_reducible refine sat_addLL (by first | omega | (simp; done) | (simp; omega)) ?_ | with_reducible refine sat_mulL (by decide) (by first | omega | (simp; done) | (simp; omega)) ?_ | with_reducible refine sat_lenS (le_line (by assumption)) ?_ | with_reducible refine sat_lcQ ?_ | refine sat_ok rfl ?_ | with_reducible refine ite_B (fun _ => ?_) (fun _ => ?_) | with_reducible refine sat_ite (fun _ => ?_) (fun _ => ?_) | with_reducible refine sat_ifB (fun _ => ?_) (fun _ => ?_) | fail); try dsimp only)
        exact ⟨rfl, rfl⟩
      rw [show List.map (fun _ => D.none) (rangeD 0 m.toNat) = noneL m from rfl]
      repeat' ((first | with_reducible refine sat_eqIt ?_ | with_reducible refine sat_bind ?_ | with_reducible refine sat_pure ?_ | ((with_reducible refine' sat_getv ?hh ?_); (case hh => exact rfl)) | with_reducible refine sat_mul (by first | decide | omega | exact .inr (bits3 ⟨by omega, by omega⟩ (by decide))) ?_ | with_reducible refine sat_add ?_ | with_reducible refine sat_sub ?_ | with_reducible refine sat_lt ?_ | with_reducible refine sat_le ?_ | with_reducible refine sat_gt ?_ | with_reducible refine sat_ge ?_ | with_reducible refine sat_eqI ?_ | with_reducible refine sat_neI ?_ | with_reducible refine sat_eqS ?_ | with_reducible refine sat_neS ?_ | with_reducible refine sat_eqNil ?_ | with_reducible refine sat_ifBD (fun _ => ?_) (fun _ => ?_) | with_reducible refine sat_asB ?_ | with_reducible refine sat_not ?_ | with_reducible refine sat_int ?_ | with_reducible refine sat_intB ?_ | with_reducible refine sat_abs ?_ | with_reducible refine ite_F ?_ | with_reducible refine ite_T ?_ | with_reducible refine ite_Dn (fun _ => ?_) (fun _ => ?_) | with_reducible refine sats_seq ?_ | with_reducible refine sats_if ?_ | with_reducible refine sats_set ?_ | with_reducible refine sats_setO ?_ | with_reducible refine sats_ret ?_ | with_reducible refine sats_skip ?_ | with_reducible refine sats_drop ?_ | with_reducible refine sats_setCc ?_ | with_reducible refine sat_iteD (fun _ => ?_) (fun _ => ?_) | with_reducible refine sat_lenInts ?_ | with_reducible refine sat_neNil ?_ | with_reducible refine ite_D (fun _ => ?_) (fun _ => ?_) | ((with_reducible refine' sat_getbO ?hh ?_); (case hh => exact rfl)) | ((with_reducible refine' sat_getb ?hh ?_); (case hh => exact rfl)) | with_reducible refine sat_fdiv (by first | assumption | omega | decide) (by first | assumption | omega | decide) ?_ | with_reducible refine sat_mod (by first | assumption | omega | decide) ?_ | with_reducible refine sat_ixO (by assumption) rfl ?_ | with_reducible refine sat_ixMod (by omega) (fun _ => ?_) | with_reducible refine sat_ixInts ⟨by omega, by omega⟩ (fun _ => ?_) | with_reducible refine sat_pow (by first | decide | exact ⟨by decide, by decide, bits1 ⟨by omega, by omega⟩ ⟨by omega, by omega⟩ (by decide) (by decide)⟩ | exact ⟨by decide, by decide, bits2 ⟨by omega, by omega⟩ ⟨by omega, by omega⟩ (by decide) (by decide) (by decide)⟩) ?_ | (refine ⟨_, _, _, _, rfl, rfl, by assumption, rfl, fun S' hS' _ => ?_⟩; try simp only [List.set_cons_succ, List.set_cons_zero, Int.reduceToNat] at hS') | ((with_reducible refine' sat_ixL0 ?hh ?_); (case hh => exact rfl)) | ((with_reducible refine' sat_ixT0 ?hh ?_); (case hh => exact rfl)) | ((with_reducible refine' sat_ixL1 ?hh ?_); (case hh => exact rfl)) | ((with_reducible refine' sat_ixT1 ?hh ?_); (case hh => exact rfl)) | ((with_reducible refine' sat_ixL2 ?hh ?_); (case hh => exact rfl)) | ((with_reducible refine' sat_ixT2 ?hh ?_); (case hh => exact rfl)) | ((with_reducible refine' sat_ixL3 ?hh ?_); (case hh => exact rfl)) | ((with_reducible refine' sat_ixT3 ?hh ?_); (case hh => exact rfl)) | ((with_reducible refine' sat_ixL4 ?hh ?_); (case hh => exact rfl)) | ((with_reducible refine' sat_ixT4 ?hh ?_); (case hh => exact rfl)) | ((with_reducible refine' sat_ifBt ?hh ?_); (case hh => exact rfl)) | ((with_reducible refine' sat_ifBf ?hh ?_); (case hh => exact rfl)) | ((with_reducible refine' ite_bt ?hh ?_); (case hh => exact rfl)) | ((with_reducible refine' ite_bf ?hh ?_); (case hh => exact rfl)) | ((with_reducible refine' sat_ite_bt ?hh ?_); (case hh => exact rfl)) | ((with_reducible refine' sat_ite_bf ?hh ?_); (case hh => exact rfl)) | ((with_reducible refine' sat_inT ?hh (fun bb hbb => ?_)); (case hh => exact rfl)) | ((with_reducible refine' sat_ninT ?hh (fun bb hbb => ?_)); (case hh => exact rfl)) | ((with_reducible refine' sat_inLs ?hh (fun bb hbb => ?_)); (case hh => exact rfl)) | ((with_reducible refine' sat_ninLs ?hh (fun bb hbb => ?_)); (case hh => exact rfl)) | with_reducible refine sat_addLL (by first | omega | (simp; done) | (simp; omega)) ?_ | with_reducible refine sat_mulL (by decide) (by first | omega | (simp; done) | (simp; omega)) ?_ | with_reducible refine sat_lenS (le_line (by assumption)) ?_ | with_reducible refine sat_lcQ ?_ | refine sat_ok rfl ?_ | with_reducible refine ite_B (fun _ => ?_) (fun _ => ?_) | with_reducible refine sat_ite (fun _ => ?_) (fun _ => ?_) | with_reducible refine sat_ifB (fun _ => ?_) (fun _ => ?_) | fail); try dsimp only)
      refine sats_setI rfl ?_
      repeat' ((first | with_reducible refine sat_bind ?_ | with_reducible refine sat_pure ?_ | ((with_reducible refine' sat_getv ?hh ?_); (case hh => exact rfl)) | with_reducible refine sat_mul (by first | decide | omega | exact .inr (bits3 ⟨by omega, by omega⟩ (by decide))) ?_ | with_reducible refine sat_add ?_ | with_reducible refine sat_sub ?_ | with_reducible refine sat_lt ?_ | with_reducible refine sat_le ?_ | with_reducible refine sat_gt ?_ | with_reducible refine sat_ge ?_ | with_reducible refine sat_eqI ?_ | with_reducible refine sat_neI ?_ | with_reducible refine sat_eqS ?_ | with_reducible refine sat_neS ?_ | with_reducible refine sat_eqNil ?_ | with_reducible refine sat_ifBD (fun _ => ?_) (fun _ => ?_) | with_reducible refine sat_asB ?_ | with_reducible refine sat_not ?_ | with_reducible refine sat_int ?_ | with_reducible refine sat_intB ?_ | with_reducible refine sat_abs ?_ | with_reducible refine ite_F ?_ | with_reducible refine ite_T ?_ | with_reducible refine ite_Dn (fun _ => ?_) (fun _ => ?_) | with_reducible refine sats_seq ?_ | with_reducible refine sats_if ?_ | with_reducible refine sats_set ?_ | with_reducible refine sats_setO ?_ | with_reducible refine sats_ret ?_ | with_reducible refine sats_skip ?_ | with_reducible refine sats_drop ?_ | with_reducible refine sats_setCc ?_ | with_reducible refine sat_iteD (fun _ => ?_) (fun _ => ?_) | with_reducible refine sat_lenInts ?_ | with_reducible refine sat_neNil ?_ | with_reducible refine ite_D (fun _ => ?_) (fun _ => ?_) | ((with_reducible refine' sat_getbO ?hh ?_); (case hh => exact rfl)) | ((with_reducible refine' sat_getb ?hh ?_); (case hh => exact rfl)) | with_reducible refine sat_fdiv (by first | assumption | omega | decide) (by first | assumption | omega | decide) ?_ | with_reducible refine sat_mod (by first | assumption | omega | decide) ?_ | with_reducible refine sat_ixO (by assumption) rfl ?_ | with_reducible refine sat_ixMod (by omega) (fun _ => ?_) | with_reducible refine sat_ixInts ⟨by omega, by omega⟩ (fun _ => ?_) | with_reducible refine sat_pow (by first | decide | exact ⟨by decide, by decide, bits1 ⟨by omega, by omega⟩ ⟨by omega, by omega⟩ (by decide) (by decide)⟩ | exact ⟨by decide, by decide, bits2 ⟨by omega, by omega⟩ ⟨by omega, by omega⟩ (by decide) (by decide) (by decide)⟩) ?_ | (refine ⟨_, _, _, _, rfl, rfl, by assumption, rfl, fun S' hS' _ => ?_⟩; try simp only [List.set_cons_succ, List.set_cons_zero, Int.reduceToNat] at hS') | ((with_reducible refine' sat_ixL0 ?hh ?_); (case hh => exact rfl)) | ((with_reducible refine' sat_ixT0 ?hh ?_); (case hh => exact rfl)) | ((with_reducible refine' sat_ixL1 ?hh ?_); (case hh => exact rfl)) | ((with_reducible refine' sat_ixT1 ?hh ?_); (case hh => exact rfl)) | ((with_reducible refine' sat_ixL2 ?hh ?_); (case hh => exact rfl)) | ((with_reducible refine' sat_ixT2 ?hh ?_); (case hh => exact rfl)) | ((with_reducible refine' sat_ixL3 ?hh ?_); (case hh => exact rfl)) | ((with_reducible refine' sat_ixT3 ?hh ?_); (case hh => exact rfl)) | ((with_reducible refine' sat_ixL4 ?hh ?_); (case hh => exact rfl)) | ((with_reducible refine' sat_ixT4 ?hh ?_); (case hh => exact rfl)) | ((with_reducible refine' sat_ifBt ?hh ?_); (case hh => exact rfl)) | ((with_reducible refine' sat_ifBf ?hh ?_); (case hh => exact rfl)) | ((with_reducible refine' ite_bt ?hh ?_); (case hh => exact rfl)) | ((with_reducible refine' ite_bf ?hh ?_); (case hh => exact rfl)) | ((with_reducible refine' sat_ite_bt ?hh ?_); (case hh => exact rfl)) | ((with_reducible refine' sat_ite_bf ?hh ?_); (case hh => exact rfl)) | ((with_reducible refine' sat_inT ?hh (fun bb hbb => ?_)); (case hh => exact rfl)) | ((with_reducible refine' sat_ninT ?hh (fun bb hbb => ?_)); (case hh => exact rfl)) | ((with_reducible refine' sat_inLs ?hh (fun bb hbb => ?_)); (case hh => exact rfl)) | ((with_reducible refine' sat_ninLs ?hh (fun bb hbb => ?_)); (case hh => exact rfl)) | with_reducible refine sat_addLL (by first | omega | (simp; done) | (simp; omega)) ?_ | with_reducible refine sat_mulL (by decide) (by first | omega | (simp; done) | (simp; omega)) ?_ | with_reducible refine sat_lenS (le_line (by assumption)) ?_ | with_reducible refine sat_lcQ ?_ | refine sat_ok rfl ?_ | with_reducible refine ite_B (fun _ => ?_) (fun _ => ?_) | with_reducible refine sat_ite (fun _ => ?_) (fun _ => ?_) | with_reducible refine sat_ifB (fun _ => ?_) (fun _ => ?_) | fail); try dsimp only)
      refine ⟨_, _, rfl, ix_lt b1 (by rw [none_len (by omega)]; exact b2), ?_⟩
      repeat' ((first | with_reducible refine sat_bind ?_ | with_reducible refine sat_pure ?_ | ((with_reducible refine' sat_getv ?hh ?_); (case hh => exact rfl)) | with_reducible refine sat_mul (by first | decide | omega | exact .inr (bits3 ⟨by omega, by omega⟩ (by decide))) ?_ | with_reducible refine sat_add ?_ | with_reducible refine sat_sub ?_ | with_reducible refine sat_lt ?_ | with_reducible refine sat_le ?_ | with_reducible refine sat_gt ?_ | with_reducible refine sat_ge ?_ | with_reducible refine sat_eqI ?_ | with_reducible refine sat_neI ?_ | with_reducible refine sat_eqS ?_ | with_reducible refine sat_neS ?_ | with_reducible refine sat_eqNil ?_ | with_reducible refine sat_ifBD (fun _ => ?_) (fun _ => ?_) | with_reducible refine sat_asB ?_ | with_reducible refine sat_not ?_ | with_reducible refine sat_int ?_ | with_reducible refine sat_intB ?_ | with_reducible refine sat_abs ?_ | with_reducible refine ite_F ?_ | with_reducible refine ite_T ?_ | with_reducible refine ite_Dn (fun _ => ?_) (fun _ => ?_) | with_reducible refine sats_seq ?_ | with_reducible refine sats_if ?_ | with_reducible refine sats_set ?_ | with_reducible refine sats_setO ?_ | with_reducible refine sats_ret ?_ | with_reducible refine sats_skip ?_ | with_reducible refine sats_drop ?_ | with_reducible refine sats_setCc ?_ | with_reducible refine sat_iteD (fun _ => ?_) (fun _ => ?_) | with_reducible refine sat_lenInts ?_ | with_reducible refine sat_neNil ?_ | with_reducible refine ite_D (fun _ => ?_) (fun _ => ?_) | ((with_reducible refine' sat_getbO ?hh ?_); (case hh => exact rfl)) | ((with_reducible refine' sat_getb ?hh ?_); (case hh => exact rfl)) | with_reducible refine sat_fdiv (by first | assumption | omega | decide) (by first | assumption | omega | decide) ?_ | with_reducible refine sat_mod (by first | assumption | omega | decide) ?_ | with_reducible refine sat_ixO (by assumption) rfl ?_ | with_reducible refine sat_ixMod (by omega) (fun _ => ?_) | with_reducible refine sat_ixInts ⟨by omega, by omega⟩ (fun _ => ?_) | with_reducible refine sat_pow (by first | decide | exact ⟨by decide, by decide, bits1 ⟨by omega, by omega⟩ ⟨by omega, by omega⟩ (by decide) (by decide)⟩ | exact ⟨by decide, by decide, bits2 ⟨by omega, by omega⟩ ⟨by omega, by omega⟩ (by decide) (by decide) (by decide)⟩) ?_ | (refine ⟨_, _, _, _, rfl, rfl, by assumption, rfl, fun S' hS' _ => ?_⟩; try simp only [List.set_cons_succ, List.set_cons_zero, Int.reduceToNat] at hS') | ((with_reducible refine' sat_ixL0 ?hh ?_); (case hh => exact rfl)) | ((with_reducible refine' sat_ixT0 ?hh ?_); (case hh => exact rfl)) | ((with_reducible refine' sat_ixL1 ?hh ?_); (case hh => exact rfl)) | ((with_reducible refine' sat_ixT1 ?hh ?_); (case hh => exact rfl)) | ((with_reducible refine' sat_ixL2 ?hh ?_); (case hh => exact rfl)) | ((with_reducible refine' sat_ixT2 ?hh ?_); (case hh => exact rfl)) | ((with_reducible refine' sat_ixL3 ?hh ?_); (case hh => exact rfl)) | ((with_reducible refine' sat_ixT3 ?hh ?_); (case hh => exact rfl)) | ((with_reducible refine' sat_ixL4 ?hh ?_); (case hh => exact rfl)) | ((with_reducible refine' sat_ixT4 ?hh ?_); (case hh => exact rfl)) | ((with_reducible refine' sat_ifBt ?hh ?_); (case hh => exact rfl)) | ((with_reducible refine' sat_ifBf ?hh ?_); (case hh => exact rfl)) | ((with_reducible refine' ite_bt ?hh ?_); (case hh => exact rfl)) | ((with_reducible refine' ite_bf ?hh ?_); (case hh => exact rfl)) | ((with_reducible refine' sat_ite_bt ?hh ?_); (case hh => exact rfl)) | ((with_reducible refine' sat_ite_bf ?hh ?_); (case hh => exact rfl)) | ((with_reducible refine' sat_inT ?hh (fun bb hbb => ?_)); (case hh => exact rfl)) | ((with_reducible refine' sat_ninT ?hh (fun bb hbb => ?_)); (case hh => exact rfl)) | ((with_reducible refine' sat_inLs ?hh (fun bb hbb => ?_)); (case hh => exact rfl)) | ((with_reducible refine' sat_ninLs ?hh (fun bb hbb => ?_)); (case hh => exact rfl)) | with_reducible refine sat_addLL (by first | omega | (simp; done) | (simp; omega)) ?_ | with_reducible refine sat_mulL (by decide) (by first | omega | (simp; done) | (simp; omega)) ?_ | with_reducible refine sat_lenS (le_line (by assumption)) ?_ | with_reducible refine sat_lcQ ?_ | refine sat_ok rfl ?_ | with_reducible refine ite_B (fun _ => ?_) (fun _ => ?_) | with_reducible refine sat_ite (fun _ => ?_) (fun _ => ?_) | with_reducible refine sat_ifB (fun _ => ?_) (fun _ => ?_) | fail); try dsimp only)
      refine sats_setI rfl ?_
      repeat' ((first | with_reducible refine sat_bind ?_ | with_reducible refine sat_pure ?_ | ((with_reducible refine' sat_getv ?hh ?_); (case hh => exact rfl)) | with_reducible refine sat_mul (by first | decide | omega | exact .inr (bits3 ⟨by omega, by omega⟩ (by decide))) ?_ | with_reducible refine sat_add ?_ | with_reducible refine sat_sub ?_ | with_reducible refine sat_lt ?_ | with_reducible refine sat_le ?_ | with_reducible refine sat_gt ?_ | with_reducible refine sat_ge ?_ | with_reducible refine sat_eqI ?_ | with_reducible refine sat_neI ?_ | with_reducible refine sat_eqS ?_ | with_reducible refine sat_neS ?_ | with_reducible refine sat_eqNil ?_ | with_reducible refine sat_ifBD (fun _ => ?_) (fun _ => ?_) | with_reducible refine sat_asB ?_ | with_reducible refine sat_not ?_ | with_reducible refine sat_int ?_ | with_reducible refine sat_intB ?_ | with_reducible refine sat_abs ?_ | with_reducible refine ite_F ?_ | with_reducible refine ite_T ?_ | with_reducible refine ite_Dn (fun _ => ?_) (fun _ => ?_) | with_reducible refine sats_seq ?_ | with_reducible refine sats_if ?_ | with_reducible refine sats_set ?_ | with_reducible refine sats_setO ?_ | with_reducible refine sats_ret ?_ | with_reducible refine sats_skip ?_ | with_reducible refine sats_drop ?_ | with_reducible refine sats_setCc ?_ | with_reducible refine sat_iteD (fun _ => ?_) (fun _ => ?_) | with_reducible refine sat_lenInts ?_ | with_reducible refine sat_neNil ?_ | with_reducible refine ite_D (fun _ => ?_) (fun _ => ?_) | ((with_reducible refine' sat_getbO ?hh ?_); (case hh => exact rfl)) | ((with_reducible refine' sat_getb ?hh ?_); (case hh => exact rfl)) | with_reducible refine sat_fdiv (by first | assumption | omega | decide) (by first | assumption | omega | decide) ?_ | with_reducible refine sat_mod (by first | assumption | omega | decide) ?_ | with_reducible refine sat_ixO (by assumption) rfl ?_ | with_reducible refine sat_ixMod (by omega) (fun _ => ?_) | with_reducible refine sat_ixInts ⟨by omega, by omega⟩ (fun _ => ?_) | with_reducible refine sat_pow (by first | decide | exact ⟨by decide, by decide, bits1 ⟨by omega, by omega⟩ ⟨by omega, by omega⟩ (by decide) (by decide)⟩ | exact ⟨by decide, by decide, bits2 ⟨by omega, by omega⟩ ⟨by omega, by omega⟩ (by decide) (by decide) (by decide)⟩) ?_ | (refine ⟨_, _, _, _, rfl, rfl, by assumption, rfl, fun S' hS' _ => ?_⟩; try simp only [List.set_cons_succ, List.set_cons_zero, Int.reduceToNat] at hS') | ((with_reducible refine' sat_ixL0 ?hh ?_); (case hh => exact rfl)) | ((with_reducible refine' sat_ixT0 ?hh ?_); (case hh => exact rfl)) | ((with_reducible refine' sat_ixL1 ?hh ?_); (case hh => exact rfl)) | ((with_reducible refine' sat_ixT1 ?hh ?_); (case hh => exact rfl)) | ((with_reducible refine' sat_ixL2 ?hh ?_); (case hh => exact rfl)) | ((with_reducible refine' sat_ixT2 ?hh ?_); (case hh => exact rfl)) | ((with_reducible refine' sat_ixL3 ?hh ?_); (case hh => exact rfl)) | ((with_reducible refine' sat_ixT3 ?hh ?_); (case hh => exact rfl)) | ((with_reducible refine' sat_ixL4 ?hh ?_); (case hh => exact rfl)) | ((with_reducible refine' sat_ixT4 ?hh ?_); (case hh => exact rfl)) | ((with_reducible refine' sat_ifBt ?hh ?_); (case hh => exact rfl)) | ((with_reducible refine' sat_ifBf ?hh ?_); (case hh => exact rfl)) | ((with_reducible refine' ite_bt ?hh ?_); (case hh => exact rfl)) | ((with_reducible refine' ite_bf ?hh ?_); (case hh => exact rfl)) | ((with_reducible refine' sat_ite_bt ?hh ?_); (case hh => exact rfl)) | ((with_reducible refine' sat_ite_bf ?hh ?_); (case hh => exact rfl)) | ((with_reducible refine' sat_inT ?hh (fun bb hbb => ?_)); (case hh => exact rfl)) | ((with_reducible refine' sat_ninT ?hh (fun bb hbb => ?_)); (case hh => exact rfl)) | ((with_reducible refine' sat_inLs ?hh (fun bb hbb => ?_)); (case hh => exact rfl)) | ((with_reducible refine' sat_ninLs ?hh (fun bb hbb => ?_)); (case hh => exact rfl)) | with_reducible refine sat_addLL (by first | omega | (simp; done) | (simp; omega)) ?_ | with_reducible refine sat_mulL (by decide) (by first | omega | (simp; done) | (simp; omega)) ?_ | with_reducible refine sat_lenS (le_line (by assumption)) ?_ | with_reducible refine sat_lcQ ?_ | refine sat_ok rfl ?_ | with_reducible refine ite_B (fun _ => ?_) (fun _ => ?_) | with_reducible refine sat_ite (fun _ => ?_) (fun _ => ?_) | with_reducible refine sat_ifB (fun _ => ?_) (fun _ => ?_) | fail); try dsimp only)
      refine ⟨_, _, rfl, ix_lt c1 (by rw [List.length_set, none_len (by omega)]; exact c2), ?_⟩
      rw [due0 m1]
      repeat' ((first | with_reducible refine sat_reprD (told_sho m2) (by decide) (by decide) ?_ | with_reducible refine sat_reprD (n := 0) (W := 40) want_sho (by decide) (by decide) ?_ | with_reducible refine sat_neSt ?_ | ((with_reducible refine' sat_optM ?ho ?_); (case ho => exact rfl)) | ((with_reducible refine Sat.to (wa d0 (by omega) (by omega) (by omega)) (fun r S' hr => ?_)); obtain ⟨e1, e2⟩ := hr; subst e1; subst e2) | with_reducible refine told_last m1 ?_ | with_reducible refine sat_bind ?_ | with_reducible refine sat_pure ?_ | ((with_reducible refine' sat_getv ?hh ?_); (case hh => exact rfl)) | with_reducible refine sat_mul (by first | decide | omega | exact .inr (bits3 ⟨by omega, by omega⟩ (by decide))) ?_ | with_reducible refine sat_add ?_ | with_reducible refine sat_sub ?_ | with_reducible refine sat_lt ?_ | with_reducible refine sat_le ?_ | with_reducible refine sat_gt ?_ | with_reducible refine sat_ge ?_ | with_reducible refine sat_eqI ?_ | with_reducible refine sat_neI ?_ | with_reducible refine sat_eqS ?_ | with_reducible refine sat_neS ?_ | with_reducible refine sat_eqNil ?_ | with_reducible refine sat_ifBD (fun _ => ?_) (fun _ => ?_) | with_reducible refine sat_asB ?_ | with_reducible refine sat_not ?_ | with_reducible refine sat_int ?_ | with_reducible refine sat_intB ?_ | with_reducible refine sat_abs ?_ | with_reducible refine ite_F ?_ | with_reducible refine ite_T ?_ | with_reducible refine ite_Dn (fun _ => ?_) (fun _ => ?_) | with_reducible refine sats_seq ?_ | with_reducible refine sats_if ?_ | with_reducible refine sats_set ?_ | with_reducible refine sats_setO ?_ | with_reducible refine sats_ret ?_ | with_reducible refine sats_skip ?_ | with_reducible refine sats_drop ?_ | with_reducible refine sats_setCc ?_ | with_reducible refine sat_iteD (fun _ => ?_) (fun _ => ?_) | with_reducible refine sat_lenInts ?_ | with_reducible refine sat_neNil ?_ | with_reducible refine ite_D (fun _ => ?_) (fun _ => ?_) | ((with_reducible refine' sat_getbO ?hh ?_); (case hh => exact rfl)) | ((with_reducible refine' sat_getb ?hh ?_); (case hh => exact rfl)) | with_reducible refine sat_fdiv (by first | assumption | omega | decide) (by first | assumption | omega | decide) ?_ | with_reducible refine sat_mod (by first | assumption | omega | decide) ?_ | with_reducible refine sat_ixO (by assumption) rfl ?_ | with_reducible refine sat_ixMod (by omega) (fun _ => ?_) | with_reducible refine sat_ixInts ⟨by omega, by omega⟩ (fun _ => ?_) | with_reducible refine sat_pow (by first | decide | exact ⟨by decide, by decide, bits1 ⟨by omega, by omega⟩ ⟨by omega, by omega⟩ (by decide) (by decide)⟩ | exact ⟨by decide, by decide, bits2 ⟨by omega, by omega⟩ ⟨by omega, by omega⟩ (by decide) (by decide) (by decide)⟩) ?_ | (refine ⟨_, _, _, _, rfl, rfl, by assumption, rfl, fun S' hS' _ => ?_⟩; try simp only [List.set_cons_succ, List.set_cons_zero, Int.reduceToNat] at hS') | ((with_reducible refine' sat_ixL0 ?hh ?_); (case hh => exact rfl)) | ((with_reducible refine' sat_ixT0 ?hh ?_); (case hh => exact rfl)) | ((with_reducible refine' sat_ixL1 ?hh ?_); (case hh => exact rfl)) | ((with_reducible refine' sat_ixT1 ?hh ?_); (case hh => exact rfl)) | ((with_reducible refine' sat_ixL2 ?hh ?_); (case hh => exact rfl)) | ((with_reducible refine' sat_ixT2 ?hh ?_); (case hh => exact rfl)) | ((with_reducible refine' sat_ixL3 ?hh ?_); (case hh => exact rfl)) | ((with_reducible refine' sat_ixT3 ?hh ?_); (case hh => exact rfl)) | ((with_reducible refine' sat_ixL4 ?hh ?_); (case hh => exact rfl)) | ((with_reducible refine' sat_ixT4 ?hh ?_); (case hh => exact rfl)) | ((with_reducible refine' sat_ifBt ?hh ?_); (case hh => exact rfl)) | ((with_reducible refine' sat_ifBf ?hh ?_); (case hh => exact rfl)) | ((with_reducible refine' ite_bt ?hh ?_); (case hh => exact rfl)) | ((with_reducible refine' ite_bf ?hh ?_); (case hh => exact rfl)) | ((with_reducible refine' sat_ite_bt ?hh ?_); (case hh => exact rfl)) | ((with_reducible refine' sat_ite_bf ?hh ?_); (case hh => exact rfl)) | ((with_reducible refine' sat_inT ?hh (fun bb hbb => ?_)); (case hh => exact rfl)) | ((with_reducible refine' sat_ninT ?hh (fun bb hbb => ?_)); (case hh => exact rfl)) | ((with_reducible refine' sat_inLs ?hh (fun bb hbb => ?_)); (case hh => exact rfl)) | ((with_reducible refine' sat_ninLs ?hh (fun bb hbb => ?_)); (case hh => exact rfl)) | with_reducible refine sat_addLL (by first | omega | (simp; done) | (simp; omega)) ?_ | with_reducible refine sat_mulL (by decide) (by first | omega | (simp; done) | (simp; omega)) ?_ | with_reducible refine sat_lenS (le_line (by assumption)) ?_ | with_reducible refine sat_lcQ ?_ | refine sat_ok rfl ?_ | with_reducible refine ite_B (fun _ => ?_) (fun _ => ?_) | with_reducible refine sat_ite (fun _ => ?_) (fun _ => ?_) | with_reducible refine sat_ifB (fun _ => ?_) (fun _ => ?_) | fail); try dsimp only)
      exact ⟨_, _, _, _, rfl, fun x hx => h6 x (List.mem_cons_of_mem _ hx), hc⟩
    · repeat' ((first | with_reducible refine sat_bind ?_ | with_reducible refine sat_pure ?_ | ((with_reducible refine' sat_getv ?hh ?_); (case hh => exact rfl)) | with_reducible refine sat_mul (by first | decide | omega | exact .inr (bits3 ⟨by omega, by omega⟩ (by decide))) ?_ | with_reducible refine sat_add ?_ | with_reducible refine sat_sub ?_ | with_reducible refine sat_lt ?_ | with_reducible refine sat_le ?_ | with_reducible refine sat_gt ?_ | with_reducible refine sat_ge ?_ | with_reducible refine sat_eqI ?_ | with_reducible refine sat_neI ?_ | with_reducible refine sat_eqS ?_ | with_reducible refine sat_neS ?_ | with_reducible refine sat_eqNil ?_ | with_reducible refine sat_ifBD (fun _ => ?_) (fun _ => ?_) | with_reducible refine sat_asB ?_ | with_reducible refine sat_not ?_ | with_reducible refine sat_int ?_ | with_reducible refine sat_intB ?_ | with_reducible refine sat_abs ?_ | with_reducible refine ite_F ?_ | with_reducible refine ite_T ?_ | with_reducible refine ite_Dn (fun _ => ?_) (fun _ => ?_) | with_reducible refine sats_seq ?_ | with_reducible refine sats_if ?_ | with_reducible refine sats_set ?_ | with_reducible refine sats_setO ?_ | with_reducible refine sats_ret ?_ | with_reducible refine sats_skip ?_ | with_reducible refine sats_drop ?_ | with_reducible refine sats_setCc ?_ | with_reducible refine sat_iteD (fun _ => ?_) (fun _ => ?_) | with_reducible refine sat_lenInts ?_ | with_reducible refine sat_neNil ?_ | with_reducible refine ite_D (fun _ => ?_) (fun _ => ?_) | ((with_reducible refine' sat_getbO ?hh ?_); (case hh => exact rfl)) | ((with_reducible refine' sat_getb ?hh ?_); (case hh => exact rfl)) | with_reducible refine sat_fdiv (by first | assumption | omega | decide) (by first | assumption | omega | decide) ?_ | with_reducible refine sat_mod (by first | assumption | omega | decide) ?_ | with_reducible refine sat_ixO (by assumption) rfl ?_ | with_reducible refine sat_ixMod (by omega) (fun _ => ?_) | with_reducible refine sat_ixInts ⟨by omega, by omega⟩ (fun _ => ?_) | with_reducible refine sat_pow (by first | decide | exact ⟨by decide, by decide, bits1 ⟨by omega, by omega⟩ ⟨by omega, by omega⟩ (by decide) (by decide)⟩ | exact ⟨by decide, by decide, bits2 ⟨by omega, by omega⟩ ⟨by omega, by omega⟩ (by decide) (by decide) (by decide)⟩) ?_ | (refine ⟨_, _, _, _, rfl, rfl, by assumption, rfl, fun S' hS' _ => ?_⟩; try simp only [List.set_cons_succ, List.set_cons_zero, Int.reduceToNat] at hS') | ((with_reducible refine' sat_ixL0 ?hh ?_); (case hh => exact rfl)) | ((with_reducible refine' sat_ixT0 ?hh ?_); (case hh => exact rfl)) | ((with_reducible refine' sat_ixL1 ?hh ?_); (case hh => exact rfl)) | ((with_reducible refine' sat_ixT1 ?hh ?_); (case hh => exact rfl)) | ((with_reducible refine' sat_ixL2 ?hh ?_); (case hh => exact rfl)) | ((with_reducible refine' sat_ixT2 ?hh ?_); (case hh => exact rfl)) | ((with_reducible refine' sat_ixL3 ?hh ?_); (case hh => exact rfl)) | ((with_reducible refine' sat_ixT3 ?hh ?_); (case hh => exact rfl)) | ((with_reducible refine' sat_ixL4 ?hh ?_); (case hh => exact rfl)) | ((with_reducible refine' sat_ixT4 ?hh ?_); (case hh => exact rfl)) | ((with_reducible refine' sat_ifBt ?hh ?_); (case hh => exact rfl)) | ((with_reducible refine' sat_ifBf ?hh ?_); (case hh => exact rfl)) | ((with_reducible refine' ite_bt ?hh ?_); (case hh => exact rfl)) | ((with_reducible refine' ite_bf ?hh ?_); (case hh => exact rfl)) | ((with_reducible refine' sat_ite_bt ?hh ?_); (case hh => exact rfl)) | ((with_reducible refine' sat_ite_bf ?hh ?_); (case hh => exact rfl)) | ((with_reducible refine' sat_inT ?hh (fun bb hbb => ?_)); (case hh => exact rfl)) | ((with_reducible refine' sat_ninT ?hh (fun bb hbb => ?_)); (case hh => exact rfl)) | ((with_reducible refine' sat_inLs ?hh (fun bb hbb => ?_)); (case hh => exact rfl)) | ((with_reducible refine' sat_ninLs ?hh (fun bb hbb => ?_)); (case hh => exact rfl)) | with_reducible refine sat_addLL (by first | omega | (simp; done) | (simp; omega)) ?_ | with_reducible refine sat_mulL (by decide) (by first | omega | (simp; done) | (simp; omega)) ?_ | with_reducible refine sat_lenS (le_line (by assumption)) ?_ | with_reducible refine sat_lcQ ?_ | refine sat_ok rfl ?_ | with_reducible refine ite_B (fun _ => ?_) (fun _ => ?_) | with_reducible refine sat_ite (fun _ => ?_) (fun _ => ?_) | with_reducible refine sat_ifB (fun _ => ?_) (fun _ => ?_) | fail); try dsimp only)
      refine sat_lcR ?_
      repeat' ((first | with_reducible refine sat_bind ?_ | with_reducible refine sat_pure ?_ | ((with_reducible refine' sat_getv ?hh ?_); (case hh => exact rfl)) | with_reducible refine sat_mul (by first | decide | omega | exact .inr (bits3 ⟨by omega, by omega⟩ (by decide))) ?_ | with_reducible refine sat_add ?_ | with_reducible refine sat_sub ?_ | with_reducible refine sat_lt ?_ | with_reducible refine sat_le ?_ | with_reducible refine sat_gt ?_ | with_reducible refine sat_ge ?_ | with_reducible refine sat_eqI ?_ | with_reducible refine sat_neI ?_ | with_reducible refine sat_eqS ?_ | with_reducible refine sat_neS ?_ | with_reducible refine sat_eqNil ?_ | with_reducible refine sat_ifBD (fun _ => ?_) (fun _ => ?_) | with_reducible refine sat_asB ?_ | with_reducible refine sat_not ?_ | with_reducible refine sat_int ?_ | with_reducible refine sat_intB ?_ | with_reducible refine sat_abs ?_ | with_reducible refine ite_F ?_ | with_reducible refine ite_T ?_ | with_reducible refine ite_Dn (fun _ => ?_) (fun _ => ?_) | with_reducible refine sats_seq ?_ | with_reducible refine sats_if ?_ | with_reducible refine sats_set ?_ | with_reducible refine sats_setO ?_ | with_reducible refine sats_ret ?_ | with_reducible refine sats_skip ?_ | with_reducible refine sats_drop ?_ | with_reducible refine sats_setCc ?_ | with_reducible refine sat_iteD (fun _ => ?_) (fun _ => ?_) | with_reducible refine sat_lenInts ?_ | with_reducible refine sat_neNil ?_ | with_reducible refine ite_D (fun _ => ?_) (fun _ => ?_) | ((with_reducible refine' sat_getbO ?hh ?_); (case hh => exact rfl)) | ((with_reducible refine' sat_getb ?hh ?_); (case hh => exact rfl)) | with_reducible refine sat_fdiv (by first | assumption | omega | decide) (by first | assumption | omega | decide) ?_ | with_reducible refine sat_mod (by first | assumption | omega | decide) ?_ | with_reducible refine sat_ixO (by assumption) rfl ?_ | with_reducible refine sat_ixMod (by omega) (fun _ => ?_) | with_reducible refine sat_ixInts ⟨by omega, by omega⟩ (fun _ => ?_) | with_reducible refine sat_pow (by first | decide | exact ⟨by decide, by decide, bits1 ⟨by omega, by omega⟩ ⟨by omega, by omega⟩ (by decide) (by decide)⟩ | exact ⟨by decide, by decide, bits2 ⟨by omega, by omega⟩ ⟨by omega, by omega⟩ (by decide) (by decide) (by decide)⟩) ?_ | (refine ⟨_, _, _, _, rfl, rfl, by assumption, rfl, fun S' hS' _ => ?_⟩; try simp only [List.set_cons_succ, List.set_cons_zero, Int.reduceToNat] at hS') | ((with_reducible refine' sat_ixL0 ?hh ?_); (case hh => exact rfl)) | ((with_reducible refine' sat_ixT0 ?hh ?_); (case hh => exact rfl)) | ((with_reducible refine' sat_ixL1 ?hh ?_); (case hh => exact rfl)) | ((with_reducible refine' sat_ixT1 ?hh ?_); (case hh => exact rfl)) | ((with_reducible refine' sat_ixL2 ?hh ?_); (case hh => exact rfl)) | ((with_reducible refine' sat_ixT2 ?hh ?_); (case hh => exact rfl)) | ((with_reducible refine' sat_ixL3 ?hh ?_); (case hh => exact rfl)) | ((with_reducible refine' sat_ixT3 ?hh ?_); (case hh => exact rfl)) | ((with_reducible refine' sat_ixL4 ?hh ?_); (case hh => exact rfl)) | ((with_reducible refine' sat_ixT4 ?hh ?_); (case hh => exact rfl)) | ((with_reducible refine' sat_ifBt ?hh ?_); (case hh => exact rfl)) | ((with_reducible refine' sat_ifBf ?hh ?_); (case hh => exact rfl)) | ((with_reducible refine' ite_bt ?hh ?_); (case hh => exact rfl)) | ((with_reducible refine' ite_bf ?hh ?_); (case hh => exact rfl)) | ((with_reducible refine' sat_ite_bt ?hh ?_); (case hh => exact rfl)) | ((with_reducible refine' sat_ite_bf ?hh ?_); (case hh => exact rfl)) | ((with_reducible refine' sat_inT ?hh (fun bb hbb => ?_)); (case hh => exact rfl)) | ((with_reducible refine' sat_ninT ?hh (fun bb hbb => ?_)); (case hh => exact rfl)) | ((with_reducible refine' sat_inLs ?hh (fun bb hbb => ?_)); (case hh => exact rfl)) | ((with_reducible refine' sat_ninLs ?hh (fun bb hbb => ?_)); (case hh => exact rfl)) | with_reducible refine sat_addLL (by first | omega | (simp; done) | (simp; omega)) ?_ | with_reducible refine sat_mulL (by decide) (by first | omega | (simp; done) | (simp; omega)) ?_ | with_reducible refine sat_lenS (le_line (by assumption)) ?_ | with_reducible refine sat_lcQ ?_ | refine sat_ok rfl ?_ | with_reducible refine ite_B (fun _ => ?_) (fun _ => ?_) | with_reducible refine sat_ite (fun _ => ?_) (fun _ => ?_) | with_reducible refine sat_ifB (fun _ => ?_) (fun _ => ?_) | fail); try dsimp only)
      refine ⟨m, rfl, om, ?_⟩
      refine sat_map (toldG done 1 m) ll (fun d hd => ?_) ?_
      · obtain ⟨i, rfl, i0, i1⟩ := range_mem hd
        refine ⟨_, rfl, ?_⟩
        repeat' ((first | ((with_reducible refine Sat.to (wa d0 (by omega) (by omega) (by omega)) (fun r S' hr => ?_)); obtain ⟨e1, e2⟩ := hr; subst e1; subst e2) | with_reducible refine sat_bind ?_ | with_reducible refine sat_pure ?_ | ((with_reducible refine' sat_getv ?hh ?_); (case hh => exact rfl)) | with_reducible refine sat_mul (by first | decide | omega | exact .inr (bits3 ⟨by omega, by omega⟩ (by decide))) ?_ | with_reducible refine sat_add ?_ | with_reducible refine sat_sub ?_ | with_reducible refine sat_lt ?_ | with_reducible refine sat_le ?_ | with_reducible refine sat_gt ?_ | with_reducible refine sat_ge ?_ | with_reducible refine sat_eqI ?_ | with_reducible refine sat_neI ?_ | with_reducible refine sat_eqS ?_ | with_reducible refine sat_neS ?_ | with_reducible refine sat_eqNil ?_ | with_reducible refine sat_ifBD (fun _ => ?_) (fun _ => ?_) | with_reducible refine sat_asB ?_ | with_reducible refine sat_not ?_ | with_reducible refine sat_int ?_ | with_reducible refine sat_intB ?_ | with_reducible refine sat_abs ?_ | with_reducible refine ite_F ?_ | with_reducible refine ite_T ?_ | with_reducible refine ite_Dn (fun _ => ?_) (fun _ => ?_) | with_reducible refine sats_seq ?_ | with_reducible refine sats_if ?_ | with_reducible refine sats_set ?_ | with_reducible refine sats_setO ?_ | with_reducible refine sats_ret ?_ | with_reducible refine sats_skip ?_ | with_reducible refine sats_drop ?_ | with_reducible refine sats_setCc ?_ | with_reducible refine sat_iteD (fun _ => ?_) (fun _ => ?_) | with_reducible refine sat_lenInts ?_ | with_reducible refine sat_neNil ?_ | with_reducible refine ite_D (fun _ => ?_) (fun _ => ?_) | ((with_reducible refine' sat_getbO ?hh ?_); (case hh => exact rfl)) | ((with_reducible refine' sat_getb ?hh ?_); (case hh => exact rfl)) | with_reducible refine sat_fdiv (by first | assumption | omega | decide) (by first | assumption | omega | decide) ?_ | with_reducible refine sat_mod (by first | assumption | omega | decide) ?_ | with_reducible refine sat_ixO (by assumption) rfl ?_ | with_reducible refine sat_ixMod (by omega) (fun _ => ?_) | with_reducible refine sat_ixInts ⟨by omega, by omega⟩ (fun _ => ?_) | with_reducible refine sat_pow (by first | decide | exact ⟨by decide, by decide, bits1 ⟨by omega, by omega⟩ ⟨by omega, by omega⟩ (by decide) (by decide)⟩ | exact ⟨by decide, by decide, bits2 ⟨by omega, by omega⟩ ⟨by omega, by omega⟩ (by decide) (by decide) (by decide)⟩) ?_ | (refine ⟨_, _, _, _, rfl, rfl, by assumption, rfl, fun S' hS' _ => ?_⟩; try simp only [List.set_cons_succ, List.set_cons_zero, Int.reduceToNat] at hS') | ((with_reducible refine' sat_ixL0 ?hh ?_); (case hh => exact rfl)) | ((with_reducible refine' sat_ixT0 ?hh ?_); (case hh => exact rfl)) | ((with_reducible refine' sat_ixL1 ?hh ?_); (case hh => exact rfl)) | ((with_reducible refine' sat_ixT1 ?hh ?_); (case hh => exact rfl)) | ((with_reducible refine' sat_ixL2 ?hh ?_); (case hh => exact rfl)) | ((with_reducible refine' sat_ixT2 ?hh ?_); (case hh => exact rfl)) | ((with_reducible refine' sat_ixL3 ?hh ?_); (case hh => exact rfl)) | ((with_reducible refine' sat_ixT3 ?hh ?_); (case hh => exact rfl)) | ((with_reducible refine' sat_ixL4 ?hh ?_); (case hh => exact rfl)) | ((with_reducible refine' sat_ixT4 ?hh ?_); (case hh => exact rfl)) | ((with_reducible refine' sat_ifBt ?hh ?_); (case hh => exact rfl)) | ((with_reducible refine' sat_ifBf ?hh ?_); (case hh => exact rfl)) | ((with_reducible refine' ite_bt ?hh ?_); (case hh => exact rfl)) | ((with_reducible refine' ite_bf ?hh ?_); (case hh => exact rfl)) | ((with_reducible refine' sat_ite_bt ?hh ?_); (case hh => exact rfl)) | ((with_reducible refine' sat_ite_bf ?hh ?_); (case hh => exact rfl)) | ((with_reducible refine' sat_inT ?hh (fun bb hbb => ?_)); (case hh => exact rfl)) | ((with_reducible refine' sat_ninT ?hh (fun bb hbb => ?_)); (case hh => exact rfl)) | ((with_reducible refine' sat_inLs ?hh (fun bb hbb => ?_)); (case hh => exact rfl)) | ((with_reducible refine' sat_ninLs ?hh (fun bb hbb => ?_)); (case hh => exact rfl)) | with_reducible refine sat_addLL (by first | omega | (simp; done) | (simp; omega)) ?_ | with_reducible refine sat_mulL (by decide) (by first | omega | (simp; done) | (simp; omega)) ?_ | with_reducible refine sat_lenS (le_line (by assumption)) ?_ | with_reducible refine sat_lcQ ?_ | refine sat_ok rfl ?_ | with_reducible refine ite_B (fun _ => ?_) (fun _ => ?_) | with_reducible refine sat_ite (fun _ => ?_) (fun _ => ?_) | with_reducible refine sat_ifB (fun _ => ?_) (fun _ => ?_) | fail); try dsimp only)
        exact ⟨rfl, rfl⟩
      rw [show List.map (toldG done 1 m) (rangeD 0 m.toNat) = toldL done 1 m from rfl]
      repeat' ((first | with_reducible refine sat_bind ?_ | with_reducible refine sat_pure ?_ | ((with_reducible refine' sat_getv ?hh ?_); (case hh => exact rfl)) | with_reducible refine sat_mul (by first | decide | omega | exact .inr (bits3 ⟨by omega, by omega⟩ (by decide))) ?_ | with_reducible refine sat_add ?_ | with_reducible refine sat_sub ?_ | with_reducible refine sat_lt ?_ | with_reducible refine sat_le ?_ | with_reducible refine sat_gt ?_ | with_reducible refine sat_ge ?_ | with_reducible refine sat_eqI ?_ | with_reducible refine sat_neI ?_ | with_reducible refine sat_eqS ?_ | with_reducible refine sat_neS ?_ | with_reducible refine sat_eqNil ?_ | with_reducible refine sat_ifBD (fun _ => ?_) (fun _ => ?_) | with_reducible refine sat_asB ?_ | with_reducible refine sat_not ?_ | with_reducible refine sat_int ?_ | with_reducible refine sat_intB ?_ | with_reducible refine sat_abs ?_ | with_reducible refine ite_F ?_ | with_reducible refine ite_T ?_ | with_reducible refine ite_Dn (fun _ => ?_) (fun _ => ?_) | with_reducible refine sats_seq ?_ | with_reducible refine sats_if ?_ | with_reducible refine sats_set ?_ | with_reducible refine sats_setO ?_ | with_reducible refine sats_ret ?_ | with_reducible refine sats_skip ?_ | with_reducible refine sats_drop ?_ | with_reducible refine sats_setCc ?_ | with_reducible refine sat_iteD (fun _ => ?_) (fun _ => ?_) | with_reducible refine sat_lenInts ?_ | with_reducible refine sat_neNil ?_ | with_reducible refine ite_D (fun _ => ?_) (fun _ => ?_) | ((with_reducible refine' sat_getbO ?hh ?_); (case hh => exact rfl)) | ((with_reducible refine' sat_getb ?hh ?_); (case hh => exact rfl)) | with_reducible refine sat_fdiv (by first | assumption | omega | decide) (by first | assumption | omega | decide) ?_ | with_reducible refine sat_mod (by first | assumption | omega | decide) ?_ | with_reducible refine sat_ixO (by assumption) rfl ?_ | with_reducible refine sat_ixMod (by omega) (fun _ => ?_) | with_reducible refine sat_ixInts ⟨by omega, by omega⟩ (fun _ => ?_) | with_reducible refine sat_pow (by first | decide | exact ⟨by decide, by decide, bits1 ⟨by omega, by omega⟩ ⟨by omega, by omega⟩ (by decide) (by decide)⟩ | exact ⟨by decide, by decide, bits2 ⟨by omega, by omega⟩ ⟨by omega, by omega⟩ (by decide) (by decide) (by decide)⟩) ?_ | (refine ⟨_, _, _, _, rfl, rfl, by assumption, rfl, fun S' hS' _ => ?_⟩; try simp only [List.set_cons_succ, List.set_cons_zero, Int.reduceToNat] at hS') | ((with_reducible refine' sat_ixL0 ?hh ?_); (case hh => exact rfl)) | ((with_reducible refine' sat_ixT0 ?hh ?_); (case hh => exact rfl)) | ((with_reducible refine' sat_ixL1 ?hh ?_); (case hh => exact rfl)) | ((with_reducible refine' sat_ixT1 ?hh ?_); (case hh => exact rfl)) | ((with_reducible refine' sat_ixL2 ?hh ?_); (case hh => exact rfl)) | ((with_reducible refine' sat_ixT2 ?hh ?_); (case hh => exact rfl)) | ((with_reducible refine' sat_ixL3 ?hh ?_); (case hh => exact rfl)) | ((with_reducible refine' sat_ixT3 ?hh ?_); (case hh => exact rfl)) | ((with_reducible refine' sat_ixL4 ?hh ?_); (case hh => exact rfl)) | ((with_reducible refine' sat_ixT4 ?hh ?_); (case hh => exact rfl)) | ((with_reducible refine' sat_ifBt ?hh ?_); (case hh => exact rfl)) | ((with_reducible refine' sat_ifBf ?hh ?_); (case hh => exact rfl)) | ((with_reducible refine' ite_bt ?hh ?_); (case hh => exact rfl)) | ((with_reducible refine' ite_bf ?hh ?_); (case hh => exact rfl)) | ((with_reducible refine' sat_ite_bt ?hh ?_); (case hh => exact rfl)) | ((with_reducible refine' sat_ite_bf ?hh ?_); (case hh => exact rfl)) | ((with_reducible refine' sat_inT ?hh (fun bb hbb => ?_)); (case hh => exact rfl)) | ((with_reducible refine' sat_ninT ?hh (fun bb hbb => ?_)); (case hh => exact rfl)) | ((with_reducible refine' sat_inLs ?hh (fun bb hbb => ?_)); (case hh => exact rfl)) | ((with_reducible refine' sat_ninLs ?hh (fun bb hbb => ?_)); (case hh => exact rfl)) | with_reducible refine sat_addLL (by first | omega | (simp; done) | (simp; omega)) ?_ | with_reducible refine sat_mulL (by decide) (by first | omega | (simp; done) | (simp; omega)) ?_ | with_reducible refine sat_lenS (le_line (by assumption)) ?_ | with_reducible refine sat_lcQ ?_ | refine sat_ok rfl ?_ | with_reducible refine ite_B (fun _ => ?_) (fun _ => ?_) | with_reducible refine sat_ite (fun _ => ?_) (fun _ => ?_) | with_reducible refine sat_ifB (fun _ => ?_) (fun _ => ?_) | fail); try dsimp only)
      refine sat_lcR ?_
      repeat' ((first | with_reducible refine sat_bind ?_ | with_reducible refine sat_pure ?_ | ((with_reducible refine' sat_getv ?hh ?_); (case hh => exact rfl)) | with_reducible refine sat_mul (by first | decide | omega | exact .inr (bits3 ⟨by omega, by omega⟩ (by decide))) ?_ | with_reducible refine sat_add ?_ | with_reducible refine sat_sub ?_ | with_reducible refine sat_lt ?_ | with_reducible refine sat_le ?_ | with_reducible refine sat_gt ?_ | with_reducible refine sat_ge ?_ | with_reducible refine sat_eqI ?_ | with_reducible refine sat_neI ?_ | with_reducible refine sat_eqS ?_ | with_reducible refine sat_neS ?_ | with_reducible refine sat_eqNil ?_ | with_reducible refine sat_ifBD (fun _ => ?_) (fun _ => ?_) | with_reducible refine sat_asB ?_ | with_reducible refine sat_not ?_ | with_reducible refine sat_int ?_ | with_reducible refine sat_intB ?_ | with_reducible refine sat_abs ?_ | with_reducible refine ite_F ?_ | with_reducible refine ite_T ?_ | with_reducible refine ite_Dn (fun _ => ?_) (fun _ => ?_) | with_reducible refine sats_seq ?_ | with_reducible refine sats_if ?_ | with_reducible refine sats_set ?_ | with_reducible refine sats_setO ?_ | with_reducible refine sats_ret ?_ | with_reducible refine sats_skip ?_ | with_reducible refine sats_drop ?_ | with_reducible refine sats_setCc ?_ | with_reducible refine sat_iteD (fun _ => ?_) (fun _ => ?_) | with_reducible refine sat_lenInts ?_ | with_reducible refine sat_neNil ?_ | with_reducible refine ite_D (fun _ => ?_) (fun _ => ?_) | ((with_reducible refine' sat_getbO ?hh ?_); (case hh => exact rfl)) | ((with_reducible refine' sat_getb ?hh ?_); (case hh => exact rfl)) | with_reducible refine sat_fdiv (by first | assumption | omega | decide) (by first | assumption | omega | decide) ?_ | with_reducible refine sat_mod (by first | assumption | omega | decide) ?_ | with_reducible refine sat_ixO (by assumption) rfl ?_ | with_reducible refine sat_ixMod (by omega) (fun _ => ?_) | with_reducible refine sat_ixInts ⟨by omega, by omega⟩ (fun _ => ?_) | with_reducible refine sat_pow (by first | decide | exact ⟨by decide, by decide, bits1 ⟨by omega, by omega⟩ ⟨by omega, by omega⟩ (by decide) (by decide)⟩ | exact ⟨by decide, by decide, bits2 ⟨by omega, by omega⟩ ⟨by omega, by omega⟩ (by decide) (by decide) (by decide)⟩) ?_ | (refine ⟨_, _, _, _, rfl, rfl, by assumption, rfl, fun S' hS' _ => ?_⟩; try simp only [List.set_cons_succ, List.set_cons_zero, Int.reduceToNat] at hS') | ((with_reducible refine' sat_ixL0 ?hh ?_); (case hh => exact rfl)) | ((with_reducible refine' sat_ixT0 ?hh ?_); (case hh => exact rfl)) | ((with_reducible refine' sat_ixL1 ?hh ?_); (case hh => exact rfl)) | ((with_reducible refine' sat_ixT1 ?hh ?_); (case hh => exact rfl)) | ((with_reducible refine' sat_ixL2 ?hh ?_); (case hh => exact rfl)) | ((with_reducible refine' sat_ixT2 ?hh ?_); (case hh => exact rfl)) | ((with_reducible refine' sat_ixL3 ?hh ?_); (case hh => exact rfl)) | ((with_reducible refine' sat_ixT3 ?hh ?_); (case hh => exact rfl)) | ((with_reducible refine' sat_ixL4 ?hh ?_); (case hh => exact rfl)) | ((with_reducible refine' sat_ixT4 ?hh ?_); (case hh => exact rfl)) | ((with_reducible refine' sat_ifBt ?hh ?_); (case hh => exact rfl)) | ((with_reducible refine' sat_ifBf ?hh ?_); (case hh => exact rfl)) | ((with_reducible refine' ite_bt ?hh ?_); (case hh => exact rfl)) | ((with_reducible refine' ite_bf ?hh ?_); (case hh => exact rfl)) | ((with_reducible refine' sat_ite_bt ?hh ?_); (case hh => exact rfl)) | ((with_reducible refine' sat_ite_bf ?hh ?_); (case hh => exact rfl)) | ((with_reducible refine' sat_inT ?hh (fun bb hbb => ?_)); (case hh => exact rfl)) | ((with_reducible refine' sat_ninT ?hh (fun bb hbb => ?_)); (case hh => exact rfl)) | ((with_reducible refine' sat_inLs ?hh (fun bb hbb => ?_)); (case hh => exact rfl)) | ((with_reducible refine' sat_ninLs ?hh (fun bb hbb => ?_)); (case hh => exact rfl)) | with_reducible refine sat_addLL (by first | omega | (simp; done) | (simp; omega)) ?_ | with_reducible refine sat_mulL (by decide) (by first | omega | (simp; done) | (simp; omega)) ?_ | with_reducible refine sat_lenS (le_line (by assumption)) ?_ | with_reducible refine sat_lcQ ?_ | refine sat_ok rfl ?_ | with_reducible refine ite_B (fun _ => ?_) (fun _ => ?_) | with_reducible refine sat_ite (fun _ => ?_) (fun _ => ?_) | with_reducible refine sat_ifB (fun _ => ?_) (fun _ => ?_) | fail); try dsimp only)
      refine ⟨m, rfl, om, ?_⟩
      refine sat_map (fun _ => D.none) ll (fun d hd => ⟨_, rfl, ?_⟩) ?_
      · repeat' ((first | with_reducible refine sat_bind ?_ | with_reducible refine sat_pure ?_ | ((with_reducible refine' sat_getv ?hh ?_); (case hh => exact rfl)) | with_reducible refine sat_mul (by first | decide | omega | exact .inr (bits3 ⟨by omega, by omega⟩ (by decide))) ?_ | with_reducible refine sat_add ?_ | with_reducible refine sat_sub ?_ | with_reducible refine sat_lt ?_ | with_reducible refine sat_le ?_ | with_reducible refine sat_gt ?_ | with_reducible refine sat_ge ?_ | with_reducible refine sat_eqI ?_ | with_reducible refine sat_neI ?_ | with_reducible refine sat_eqS ?_ | with_reducible refine sat_neS ?_ | with_reducible refine sat_eqNil ?_ | with_reducible refine sat_ifBD (fun _ => ?_) (fun _ => ?_) | with_reducible refine sat_asB ?_ | with_reducible refine sat_not ?_ | with_reducible refine sat_int ?_ | with_reducible refine sat_intB ?_ | with_reducible refine sat_abs ?_ | with_reducible refine ite_F ?_ | with_reducible refine ite_T ?_ | with_reducible refine ite_Dn (fun _ => ?_) (fun _ => ?_) | with_reducible refine sats_seq ?_ | with_reducible refine sats_if ?_ | with_reducible refine sats_set ?_ | with_reducible refine sats_setO ?_ | with_reducible refine sats_ret ?_ | with_reducible refine sats_skip ?_ | with_reducible refine sats_drop ?_ | with_reducible refine sats_setCc ?_ | with_reducible refine sat_iteD (fun _ => ?_) (fun _ => ?_) | with_reducible refine sat_lenInts ?_ | with_reducible refine sat_neNil ?_ | with_reducible refine ite_D (fun _ => ?_) (fun _ => ?_) | ((with_reducible refine' sat_getbO ?hh ?_); (case hh => exact rfl)) | ((with_reducible refine' sat_getb ?hh ?_); (case hh => exact rfl)) | with_reducible refine sat_fdiv (by first | assumption | omega | decide) (by first | assumption | omega | decide) ?_ | with_reducible refine sat_mod (by first | assumption | omega | decide) ?_ | with_reducible refine sat_ixO (by assumption) rfl ?_ | with_reducible refine sat_ixMod (by omega) (fun _ => ?_) | with_reducible refine sat_ixInts ⟨by omega, by omega⟩ (fun _ => ?_) | with_reducible refine sat_pow (by first | decide | exact ⟨by decide, by decide, bits1 ⟨by omega, by omega⟩ ⟨by omega, by omega⟩ (by decide) (by decide)⟩ | exact ⟨by decide, by decide, bits2 ⟨by omega, by omega⟩ ⟨by omega, by omega⟩ (by decide) (by decide) (by decide)⟩) ?_ | (refine ⟨_, _, _, _, rfl, rfl, by assumption, rfl, fun S' hS' _ => ?_⟩; try simp only [List.set_cons_succ, List.set_cons_zero, Int.reduceToNat] at hS') | ((with_reducible refine' sat_ixL0 ?hh ?_); (case hh => exact rfl)) | ((with_reducible refine' sat_ixT0 ?hh ?_); (case hh => exact rfl)) | ((with_reducible refine' sat_ixL1 ?hh ?_); (case hh => exact rfl)) | ((with_reducible refine' sat_ixT1 ?hh ?_); (case hh => exact rfl)) | ((with_reducible refine' sat_ixL2 ?hh ?_); (case hh => exact rfl)) | ((with_reducible refine' sat_ixT2 ?hh ?_); (case hh => exact rfl)) | ((with_reducible refine' sat_ixL3 ?hh ?_); (case hh => exact rfl)) | ((with_reducible refine' sat_ixT3 ?hh ?_); (case hh => exact rfl)) | ((with_reducible refine' sat_ixL4 ?hh ?_); (case hh => exact rfl)) | ((with_reducible refine' sat_ixT4 ?hh ?_); (case hh => exact rfl)) | ((with_reducible refine' sat_ifBt ?hh ?_); (case hh => exact rfl)) | ((with_reducible refine' sat_ifBf ?hh ?_); (case hh => exact rfl)) | ((with_reducible refine' ite_bt ?hh ?_); (case hh => exact rfl)) | ((with_reducible refine' ite_bf ?hh ?_); (case hh => exact rfl)) | ((with_reducible refine' sat_ite_bt ?hh ?_); (case hh => exact rfl)) | ((with_reducible refine' sat_ite_bf ?hh ?_); (case hh => exact rfl)) | ((with_reducible refine' sat_inT ?hh (fun bb hbb => ?_)); (case hh => exact rfl)) | ((with_reducible refine' sat_ninT ?hh (fun bb hbb => ?_)); (case hh => exact rfl)) | ((with_reducible refine' sat_inLs ?hh (fun bb hbb => ?_)); (case hh => exact rfl)) | ((with_reducible refine' sat_ninLs ?hh (fun bb hbb => ?_)); (case hh => exact rfl)) | with_reducible refine sat_addLL (by first | omega | (simp; done) | (simp; omega)) ?_ | with_reducible refine sat_mulL (by decide) (by first | omega | (simp; done) | (simp; omega)) ?_ | with_reducible refine sat_lenS (le_line (by assumption)) ?_ | with_reducible refine sat_lcQ ?_ | refine sat_ok rfl ?_ | with_reducible refine ite_B (fun _ => ?_) (fun _ => ?_) | with_reducible refine sat_ite (fun _ => ?_) (fun _ => ?_) | with_reducible refine sat_ifB (fun _ => ?_) (fun _ => ?_) | fail); try dsimp only)
        exact ⟨rfl, rfl⟩
      rw [show List.map (fun _ => D.none) (rangeD 0 m.toNat) = noneL m from rfl]
      repeat' ((first | with_reducible refine sat_eqIf (by decide) ?_ | with_reducible refine sat_bind ?_ | with_reducible refine sat_pure ?_ | ((with_reducible refine' sat_getv ?hh ?_); (case hh => exact rfl)) | with_reducible refine sat_mul (by first | decide | omega | exact .inr (bits3 ⟨by omega, by omega⟩ (by decide))) ?_ | with_reducible refine sat_add ?_ | with_reducible refine sat_sub ?_ | with_reducible refine sat_lt ?_ | with_reducible refine sat_le ?_ | with_reducible refine sat_gt ?_ | with_reducible refine sat_ge ?_ | with_reducible refine sat_eqI ?_ | with_reducible refine sat_neI ?_ | with_reducible refine sat_eqS ?_ | with_reducible refine sat_neS ?_ | with_reducible refine sat_eqNil ?_ | with_reducible refine sat_ifBD (fun _ => ?_) (fun _ => ?_) | with_reducible refine sat_asB ?_ | with_reducible refine sat_not ?_ | with_reducible refine sat_int ?_ | with_reducible refine sat_intB ?_ | with_reducible refine sat_abs ?_ | with_reducible refine ite_F ?_ | with_reducible refine ite_T ?_ | with_reducible refine ite_Dn (fun _ => ?_) (fun _ => ?_) | with_reducible refine sats_seq ?_ | with_reducible refine sats_if ?_ | with_reducible refine sats_set ?_ | with_reducible refine sats_setO ?_ | with_reducible refine sats_ret ?_ | with_reducible refine sats_skip ?_ | with_reducible refine sats_drop ?_ | with_reducible refine sats_setCc ?_ | with_reducible refine sat_iteD (fun _ => ?_) (fun _ => ?_) | with_reducible refine sat_lenInts ?_ | with_reducible refine sat_neNil ?_ | with_reducible refine ite_D (fun _ => ?_) (fun _ => ?_) | ((with_reducible refine' sat_getbO ?hh ?_); (case hh => exact rfl)) | ((with_reducible refine' sat_getb ?hh ?_); (case hh => exact rfl)) | with_reducible refine sat_fdiv (by first | assumption | omega | decide) (by first | assumption | omega | decide) ?_ | with_reducible refine sat_mod (by first | assumption | omega | decide) ?_ | with_reducible refine sat_ixO (by assumption) rfl ?_ | with_reducible refine sat_ixMod (by omega) (fun _ => ?_) | with_reducible refine sat_ixInts ⟨by omega, by omega⟩ (fun _ => ?_) | with_reducible refine sat_pow (by first | decide | exact ⟨by decide, by decide, bits1 ⟨by omega, by omega⟩ ⟨by omega, by omega⟩ (by decide) (by decide)⟩ | exact ⟨by decide, by decide, bits2 ⟨by omega, by omega⟩ ⟨by omega, by omega⟩ (by decide) (by decide) (by decide)⟩) ?_ | (refine ⟨_, _, _, _, rfl, rfl, by assumption, rfl, fun S' hS' _ => ?_⟩; try simp only [List.set_cons_succ, List.set_cons_zero, Int.reduceToNat] at hS') | ((with_reducible refine' sat_ixL0 ?hh ?_); (case hh => exact rfl)) | ((with_reducible refine' sat_ixT0 ?hh ?_); (case hh => exact rfl)) | ((with_reducible refine' sat_ixL1 ?hh ?_); (case hh => exact rfl)) | ((with_reducible refine' sat_ixT1 ?hh ?_); (case hh => exact rfl)) | ((with_reducible refine' sat_ixL2 ?hh ?_); (case hh => exact rfl)) | ((with_reducible refine' sat_ixT2 ?hh ?_); (case hh => exact rfl)) | ((with_reducible refine' sat_ixL3 ?hh ?_); (case hh => exact rfl)) | ((with_reducible refine' sat_ixT3 ?hh ?_); (case hh => exact rfl)) | ((with_reducible refine' sat_ixL4 ?hh ?_); (case hh => exact rfl)) | ((with_reducible refine' sat_ixT4 ?hh ?_); (case hh => exact rfl)) | ((with_reducible refine' sat_ifBt ?hh ?_); (case hh => exact rfl)) | ((with_reducible refine' sat_ifBf ?hh ?_); (case hh => exact rfl)) | ((with_reducible refine' ite_bt ?hh ?_); (case hh => exact rfl)) | ((with_reducible refine' ite_bf ?hh ?_); (case hh => exact rfl)) | ((with_reducible refine' sat_ite_bt ?hh ?_); (case hh => exact rfl)) | ((with_reducible refine' sat_ite_bf ?hh ?_); (case hh => exact rfl)) | ((with_reducible refine' sat_inT ?hh (fun bb hbb => ?_)); (case hh => exact rfl)) | ((with_reducible refine' sat_ninT ?hh (fun bb hbb => ?_)); (case hh => exact rfl)) | ((with_reducible refine' sat_inLs ?hh (fun bb hbb => ?_)); (case hh => exact rfl)) | ((with_reducible refine' sat_ninLs ?hh (fun bb hbb => ?_)); (case hh => exact rfl)) | with_reducible refine sat_addLL (by first | omega | (simp; done) | (simp; omega)) ?_ | with_reducible refine sat_mulL (by decide) (by first | omega | (simp; done) | (simp; omega)) ?_ | with_reducible refine sat_lenS (le_line (by assumption)) ?_ | with_reducible refine sat_lcQ ?_ | refine sat_ok rfl ?_ | with_reducible refine ite_B (fun _ => ?_) (fun _ => ?_) | with_reducible refine sat_ite (fun _ => ?_) (fun _ => ?_) | with_reducible refine sat_ifB (fun _ => ?_) (fun _ => ?_) | fail); try dsimp only)
      refine sats_setI rfl ?_
      repeat' ((first | with_reducible refine sat_bind ?_ | with_reducible refine sat_pure ?_ | ((with_reducible refine' sat_getv ?hh ?_); (case hh => exact rfl)) | with_reducible refine sat_mul (by first | decide | omega | exact .inr (bits3 ⟨by omega, by omega⟩ (by decide))) ?_ | with_reducible refine sat_add ?_ | with_reducible refine sat_sub ?_ | with_reducible refine sat_lt ?_ | with_reducible refine sat_le ?_ | with_reducible refine sat_gt ?_ | with_reducible refine sat_ge ?_ | with_reducible refine sat_eqI ?_ | with_reducible refine sat_neI ?_ | with_reducible refine sat_eqS ?_ | with_reducible refine sat_neS ?_ | with_reducible refine sat_eqNil ?_ | with_reducible refine sat_ifBD (fun _ => ?_) (fun _ => ?_) | with_reducible refine sat_asB ?_ | with_reducible refine sat_not ?_ | with_reducible refine sat_int ?_ | with_reducible refine sat_intB ?_ | with_reducible refine sat_abs ?_ | with_reducible refine ite_F ?_ | with_reducible refine ite_T ?_ | with_reducible refine ite_Dn (fun _ => ?_) (fun _ => ?_) | with_reducible refine sats_seq ?_ | with_reducible refine sats_if ?_ | with_reducible refine sats_set ?_ | with_reducible refine sats_setO ?_ | with_reducible refine sats_ret ?_ | with_reducible refine sats_skip ?_ | with_reducible refine sats_drop ?_ | with_reducible refine sats_setCc ?_ | with_reducible refine sat_iteD (fun _ => ?_) (fun _ => ?_) | with_reducible refine sat_lenInts ?_ | with_reducible refine sat_neNil ?_ | with_reducible refine ite_D (fun _ => ?_) (fun _ => ?_) | ((with_reducible refine' sat_getbO ?hh ?_); (case hh => exact rfl)) | ((with_reducible refine' sat_getb ?hh ?_); (case hh => exact rfl)) | with_reducible refine sat_fdiv (by first | assumption | omega | decide) (by first | assumption | omega | decide) ?_ | with_reducible refine sat_mod (by first | assumption | omega | decide) ?_ | with_reducible refine sat_ixO (by assumption) rfl ?_ | with_reducible refine sat_ixMod (by omega) (fun _ => ?_) | with_reducible refine sat_ixInts ⟨by omega, by omega⟩ (fun _ => ?_) | with_reducible refine sat_pow (by first | decide | exact ⟨by decide, by decide, bits1 ⟨by omega, by omega⟩ ⟨by omega, by omega⟩ (by decide) (by decide)⟩ | exact ⟨by decide, by decide, bits2 ⟨by omega, by omega⟩ ⟨by omega, by omega⟩ (by decide) (by decide) (by decide)⟩) ?_ | (refine ⟨_, _, _, _, rfl, rfl, by assumption, rfl, fun S' hS' _ => ?_⟩; try simp only [List.set_cons_succ, List.set_cons_zero, Int.reduceToNat] at hS') | ((with_reducible refine' sat_ixL0 ?hh ?_); (case hh => exact rfl)) | ((with_reducible refine' sat_ixT0 ?hh ?_); (case hh => exact rfl)) | ((with_reducible refine' sat_ixL1 ?hh ?_); (case hh => exact rfl)) | ((with_reducible refine' sat_ixT1 ?hh ?_); (case hh => exact rfl)) | ((with_reducible refine' sat_ixL2 ?hh ?_); (case hh => exact rfl)) | ((with_reducible refine' sat_ixT2 ?hh ?_); (case hh => exact rfl)) | ((with_reducible refine' sat_ixL3 ?hh ?_); (case hh => exact rfl)) | ((with_reducible refine' sat_ixT3 ?hh ?_); (case hh => exact rfl)) | ((with_reducible refine' sat_ixL4 ?hh ?_); (case hh => exact rfl)) | ((with_reducible refine' sat_ixT4 ?hh ?_); (case hh => exact rfl)) | ((with_reducible refine' sat_ifBt ?hh ?_); (case hh => exact rfl)) | ((with_reducible refine' sat_ifBf ?hh ?_); (case hh => exact rfl)) | ((with_reducible refine' ite_bt ?hh ?_); (case hh => exact rfl)) | ((with_reducible refine' ite_bf ?hh ?_); (case hh => exact rfl)) | ((with_reducible refine' sat_ite_bt ?hh ?_); (case hh => exact rfl)) | ((with_reducible refine' sat_ite_bf ?hh ?_); (case hh => exact rfl)) | ((with_reducible refine' sat_inT ?hh (fun bb hbb => ?_)); (case hh => exact rfl)) | ((with_reducible refine' sat_ninT ?hh (fun bb hbb => ?_)); (case hh => exact rfl)) | ((with_reducible refine' sat_inLs ?hh (fun bb hbb => ?_)); (case hh => exact rfl)) | ((with_reducible refine' sat_ninLs ?hh (fun bb hbb => ?_)); (case hh => exact rfl)) | with_reducible refine sat_addLL (by first | omega | (simp; done) | (simp; omega)) ?_ | with_reducible refine sat_mulL (by decide) (by first | omega | (simp; done) | (simp; omega)) ?_ | with_reducible refine sat_lenS (le_line (by assumption)) ?_ | with_reducible refine sat_lcQ ?_ | refine sat_ok rfl ?_ | with_reducible refine ite_B (fun _ => ?_) (fun _ => ?_) | with_reducible refine sat_ite (fun _ => ?_) (fun _ => ?_) | with_reducible refine sat_ifB (fun _ => ?_) (fun _ => ?_) | fail); try dsimp only)
      refine ⟨_, _, rfl, ix_lt c1 (by rw [none_len (by omega)]; exact c2), ?_⟩
      rw [due1 m1]
      repeat' ((first | with_reducible refine sat_reprD (told_sho m2) (by decide) (by decide) ?_ | with_reducible refine sat_reprD (n := 0) (W := 40) want_sho (by decide) (by decide) ?_ | with_reducible refine sat_neSt ?_ | ((with_reducible refine' sat_optM ?ho ?_); (case ho => exact rfl)) | ((with_reducible refine Sat.to (wa d0 (by omega) (by omega) (by omega)) (fun r S' hr => ?_)); obtain ⟨e1, e2⟩ := hr; subst e1; subst e2) | with_reducible refine told_last m1 ?_ | with_reducible refine sat_bind ?_ | with_reducible refine sat_pure ?_ | ((with_reducible refine' sat_getv ?hh ?_); (case hh => exact rfl)) | with_reducible refine sat_mul (by first | decide | omega | exact .inr (bits3 ⟨by omega, by omega⟩ (by decide))) ?_ | with_reducible refine sat_add ?_ | with_reducible refine sat_sub ?_ | with_reducible refine sat_lt ?_ | with_reducible refine sat_le ?_ | with_reducible refine sat_gt ?_ | with_reducible refine sat_ge ?_ | with_reducible refine sat_eqI ?_ | with_reducible refine sat_neI ?_ | with_reducible refine sat_eqS ?_ | with_reducible refine sat_neS ?_ | with_reducible refine sat_eqNil ?_ | with_reducible refine sat_ifBD (fun _ => ?_) (fun _ => ?_) | with_reducible refine sat_asB ?_ | with_reducible refine sat_not ?_ | with_reducible refine sat_int ?_ | with_reducible refine sat_intB ?_ | with_reducible refine sat_abs ?_ | with_reducible refine ite_F ?_ | with_reducible refine ite_T ?_ | with_reducible refine ite_Dn (fun _ => ?_) (fun _ => ?_) | with_reducible refine sats_seq ?_ | with_reducible refine sats_if ?_ | with_reducible refine sats_set ?_ | with_reducible refine sats_setO ?_ | with_reducible refine sats_ret ?_ | with_reducible refine sats_skip ?_ | with_reducible refine sats_drop ?_ | with_reducible refine sats_setCc ?_ | with_reducible refine sat_iteD (fun _ => ?_) (fun _ => ?_) | with_reducible refine sat_lenInts ?_ | with_reducible refine sat_neNil ?_ | with_reducible refine ite_D (fun _ => ?_) (fun _ => ?_) | ((with_reducible refine' sat_getbO ?hh ?_); (case hh => exact rfl)) | ((with_reducible refine' sat_getb ?hh ?_); (case hh => exact rfl)) | with_reducible refine sat_fdiv (by first | assumption | omega | decide) (by first | assumption | omega | decide) ?_ | with_reducible refine sat_mod (by first | assumption | omega | decide) ?_ | with_reducible refine sat_ixO (by assumption) rfl ?_ | with_reducible refine sat_ixMod (by omega) (fun _ => ?_) | with_reducible refine sat_ixInts ⟨by omega, by omega⟩ (fun _ => ?_) | with_reducible refine sat_pow (by first | decide | exact ⟨by decide, by decide, bits1 ⟨by omega, by omega⟩ ⟨by omega, by omega⟩ (by decide) (by decide)⟩ | exact ⟨by decide, by decide, bits2 ⟨by omega, by omega⟩ ⟨by omega, by omega⟩ (by decide) (by decide) (by decide)⟩) ?_ | (refine ⟨_, _, _, _, rfl, rfl, by assumption, rfl, fun S' hS' _ => ?_⟩; try simp only [List.set_cons_succ, List.set_cons_zero, Int.reduceToNat] at hS') | ((with_reducible refine' sat_ixL0 ?hh ?_); (case hh => exact rfl)) | ((with_reducible refine' sat_ixT0 ?hh ?_); (case hh => exact rfl)) | ((with_reducible refine' sat_ixL1 ?hh ?_); (case hh => exact rfl)) | ((with_reducible refine' sat_ixT1 ?hh ?_); (case hh => exact rfl)) | ((with_reducible refine' sat_ixL2 ?hh ?_); (case hh => exact rfl)) | ((with_reducible refine' sat_ixT2 ?hh ?_); (case hh => exact rfl)) | ((with_reducible refine' sat_ixL3 ?hh ?_); (case hh => exact rfl)) | ((with_reducible refine' sat_ixT3 ?hh ?_); (case hh => exact rfl)) | ((with_reducible refine' sat_ixL4 ?hh ?_); (case hh => exact rfl)) | ((with_reducible refine' sat_ixT4 ?hh ?_); (case hh => exact rfl)) | ((with_reducible refine' sat_ifBt ?hh ?_); (case hh => exact rfl)) | ((with_reducible refine' sat_ifBf ?hh ?_); (case hh => exact rfl)) | ((with_reducible refine' ite_bt ?hh ?_); (case hh => exact rfl)) | ((with_reducible refine' ite_bf ?hh ?_); (case hh => exact rfl)) | ((with_reducible refine' sat_ite_bt ?hh ?_); (case hh => exact rfl)) | ((with_reducible refine' sat_ite_bf ?hh ?_); (case hh => exact rfl)) | ((with_reducible refine' sat_inT ?hh (fun bb hbb => ?_)); (case hh => exact rfl)) | ((with_reducible refine' sat_ninT ?hh (fun bb hbb => ?_)); (case hh => exact rfl)) | ((with_reducible refine' sat_inLs ?hh (fun bb hbb => ?_)); (case hh => exact rfl)) | ((with_reducible refine' sat_ninLs ?hh (fun bb hbb => ?_)); (case hh => exact rfl)) | with_reducible refine sat_addLL (by first | omega | (simp; done) | (simp; omega)) ?_ | with_reducible refine sat_mulL (by decide) (by first | omega | (simp; done) | (simp; omega)) ?_ | with_reducible refine sat_lenS (le_line (by assumption)) ?_ | with_reducible refine sat_lcQ ?_ | refine sat_ok rfl ?_ | with_reducible refine ite_B (fun _ => ?_) (fun _ => ?_) | with_reducible refine sat_ite (fun _ => ?_) (fun _ => ?_) | with_reducible refine sat_ifB (fun _ => ?_) (fun _ => ?_) | fail); try dsimp only)
      exact ⟨_, _, _, _, rfl, fun x hx => h6 x (List.mem_cons_of_mem _ hx), hc⟩
  · subst h5
    repeat' ((first | with_reducible refine sat_bind ?_ | with_reducible refine sat_pure ?_ | ((with_reducible refine' sat_getv ?hh ?_); (case hh => exact rfl)) | with_reducible refine sat_mul (by first | decide | omega | exact .inr (bits3 ⟨by omega, by omega⟩ (by decide))) ?_ | with_reducible refine sat_add ?_ | with_reducible refine sat_sub ?_ | with_reducible refine sat_lt ?_ | with_reducible refine sat_le ?_ | with_reducible refine sat_gt ?_ | with_reducible refine sat_ge ?_ | with_reducible refine sat_eqI ?_ | with_reducible refine sat_neI ?_ | with_reducible refine sat_eqS ?_ | with_reducible refine sat_neS ?_ | with_reducible refine sat_eqNil ?_ | with_reducible refine sat_ifBD (fun _ => ?_) (fun _ => ?_) | with_reducible refine sat_asB ?_ | with_reducible refine sat_not ?_ | with_reducible refine sat_int ?_ | with_reducible refine sat_intB ?_ | with_reducible refine sat_abs ?_ | with_reducible refine ite_F ?_ | with_reducible refine ite_T ?_ | with_reducible refine ite_Dn (fun _ => ?_) (fun _ => ?_) | with_reducible refine sats_seq ?_ | with_reducible refine sats_if ?_ | with_reducible refine sats_set ?_ | with_reducible refine sats_setO ?_ | with_reducible refine sats_ret ?_ | with_reducible refine sats_skip ?_ | with_reducible refine sats_drop ?_ | with_reducible refine sats_setCc ?_ | with_reducible refine sat_iteD (fun _ => ?_) (fun _ => ?_) | with_reducible refine sat_lenInts ?_ | with_reducible refine sat_neNil ?_ | with_reducible refine ite_D (fun _ => ?_) (fun _ => ?_) | ((with_reducible refine' sat_getbO ?hh ?_); (case hh => exact rfl)) | ((with_reducible refine' sat_getb ?hh ?_); (case hh => exact rfl)) | with_reducible refine sat_fdiv (by first | assumption | omega | decide) (by first | assumption | omega | decide) ?_ | with_reducible refine sat_mod (by first | assumption | omega | decide) ?_ | with_reducible refine sat_ixO (by assumption) rfl ?_ | with_reducible refine sat_ixMod (by omega) (fun _ => ?_) | with_reducible refine sat_ixInts ⟨by omega, by omega⟩ (fun _ => ?_) | with_reducible refine sat_pow (by first | decide | exact ⟨by decide, by decide, bits1 ⟨by omega, by omega⟩ ⟨by omega, by omega⟩ (by decide) (by decide)⟩ | exact ⟨by decide, by decide, bits2 ⟨by omega, by omega⟩ ⟨by omega, by omega⟩ (by decide) (by decide) (by decide)⟩) ?_ | (refine ⟨_, _, _, _, rfl, rfl, by assumption, rfl, fun S' hS' _ => ?_⟩; try simp only [List.set_cons_succ, List.set_cons_zero, Int.reduceToNat] at hS') | ((with_reducible refine' sat_ixL0 ?hh ?_); (case hh => exact rfl)) | ((with_reducible refine' sat_ixT0 ?hh ?_); (case hh => exact rfl)) | ((with_reducible refine' sat_ixL1 ?hh ?_); (case hh => exact rfl)) | ((with_reducible refine' sat_ixT1 ?hh ?_); (case hh => exact rfl)) | ((with_reducible refine' sat_ixL2 ?hh ?_); (case hh => exact rfl)) | ((with_reducible refine' sat_ixT2 ?hh ?_); (case hh => exact rfl)) | ((with_reducible refine' sat_ixL3 ?hh ?_); (case hh => exact rfl)) | ((with_reducible refine' sat_ixT3 ?hh ?_); (case hh => exact rfl)) | ((with_reducible refine' sat_ixL4 ?hh ?_); (case hh => exact rfl)) | ((with_reducible refine' sat_ixT4 ?hh ?_); (case hh => exact rfl)) | ((with_reducible refine' sat_ifBt ?hh ?_); (case hh => exact rfl)) | ((with_reducible refine' sat_ifBf ?hh ?_); (case hh => exact rfl)) | ((with_reducible refine' ite_bt ?hh ?_); (case hh => exact rfl)) | ((with_reducible refine' ite_bf ?hh ?_); (case hh => exact rfl)) | ((with_reducible refine' sat_ite_bt ?hh ?_); (case hh => exact rfl)) | ((with_reducible refine' sat_ite_bf ?hh ?_); (case hh => exact rfl)) | ((with_reducible refine' sat_inT ?hh (fun bb hbb => ?_)); (case hh => exact rfl)) | ((with_reducible refine' sat_ninT ?hh (fun bb hbb => ?_)); (case hh => exact rfl)) | ((with_reducible refine' sat_inLs ?hh (fun bb hbb => ?_)); (case hh => exact rfl)) | ((with_reducible refine' sat_ninLs ?hh (fun bb hbb => ?_)); (case hh => exact rfl)) | with_reducible refine sat_addLL (by first | omega | (simp; done) | (simp; omega)) ?_ | with_reducible refine sat_mulL (by decide) (by first | omega | (simp; done) | (simp; omega)) ?_ | with_reducible refine sat_lenS (le_line (by assumption)) ?_ | with_reducible refine sat_lcQ ?_ | refine sat_ok rfl ?_ | with_reducible refine ite_B (fun _ => ?_) (fun _ => ?_) | with_reducible refine sat_ite (fun _ => ?_) (fun _ => ?_) | with_reducible refine sat_ifB (fun _ => ?_) (fun _ => ?_) | fail); try dsimp only)
    exact ⟨rfl, hc⟩
  · simp only [List.mem_cons, List.not_mem_nil, or_false] at hx
    exact hx
end K35

set_option Elab.async false
set_option linter.all false
set_option maxRecDepth 100000
set_option maxHeartbeats 4000000
namespace K35
open PySem PySem.Spec PyProof.Rows L2 Sm
theorem mod_ne {a k m : Int} (h : 0 < k) (h2 : k < m) : ¬a % m = (a + k) % m := fun e => by
  have e := Int.emod_eq_emod_iff_emod_sub_eq_zero.mp e.symm
  rw [show a + k - a = k by omega, Int.emod_eq_of_lt (by omega) h2] at e
  omega
theorem elder_none {least s m has : Int} (h1 : 0 ≤ s) (h2 : s + 2 < m) : wantI (least + 1 + s) has (least % m) m = .none := by
  refine want_n ?_ fun z => ?_
  · rw [show least + 1 + s + 1 = least + (s + 2) by omega]
    exact mod_ne (by omega) (by omega)
  · have z := z.1
    rw [show least + 1 + s = least + (s + 1) by omega] at z
    exact mod_ne (by omega) (by omega) z
theorem elder_ok {b c : Nat} {S : Sto} (hc : CloudL TL (b + B 59) S c) : Sat ((fns 59).elder_right [.obj c] S) (isC (fun d => d = .bool true) b c) noX := by
  have hB : B 59 = 1048576 * B 58 := B_succ 58
  have hc : CloudL TL (b + B 58 + 8 * B 58 + B 58 + B 58 + B 58) S c := hc.le (by omega)
  have e0 : (fns 59).elder_right = runF 6 1 (m_elder_right (fns 58) (fns 56)) := u_elder_right 56
  rw [e0]
  refine sat_run rfl ?_
  unfold m_elder_right
  have gu : ∀ {b : Nat} {S : Sto} {n : Int}, CloudL TL (b + B 58) S c → 0 < n → n < 2 ^ 100 → Sat ((fns 58).draw [.obj c, .int n] S) (isI n b c) noX := fun {b S n} h h1 h2 => gust_ok (k := 55) (h.le (show b + B 56 ≤ b + B 58 by have h1 : B 58 = 1048576 * B 57 := B_succ 57; have h2 : B 57 = 1048576 * B 56 := B_succ 56; omega)) h1 (log_small h1 h2)
  have wa : ∀ {S : Sto} {done has number m : Int}, 0 ≤ done → (has = 0 ∨ has = 1) → (0 ≤ number ∧ number < m) → (2 ≤ m ∧ m ≤ 64) → Sat ((fns 58).p_is_wanted [.int done, .int has, .int number, .int m] S) (isV (wantI done has number m) S) noX := fun {S done has number m} h0 h1 h2 h3 => want_ok (k := 51) h0 h1 h2 h3
  generalize fns 58 = G at gu wa ⊢
  generalize B 58 = U at gu hc hB ⊢
  repeat' ((first | with_reducible refine sats_par2 ?_ | (refine ⟨_, _, rfl, ?_⟩) | with_reducible refine sat_min2 ?_ | ((with_reducible refine Sat.to (gu hc (by decide) (by decide)) (fun r S' hr => ?_)); obtain ⟨i, e, h0, h1, hc⟩ := hr; subst e) | with_reducible refine sat_bind ?_ | with_reducible refine sat_pure ?_ | ((with_reducible refine' sat_getv ?hh ?_); (case hh => exact rfl)) | with_reducible refine sat_mul (by first | decide | omega | exact .inr (bits3 ⟨by omega, by omega⟩ (by decide))) ?_ | with_reducible refine sat_add ?_ | with_reducible refine sat_sub ?_ | with_reducible refine sat_lt ?_ | with_reducible refine sat_le ?_ | with_reducible refine sat_gt ?_ | with_reducible refine sat_ge ?_ | with_reducible refine sat_eqI ?_ | with_reducible refine sat_neI ?_ | with_reducible refine sat_eqS ?_ | with_reducible refine sat_neS ?_ | with_reducible refine sat_eqNil ?_ | with_reducible refine sat_ifBD (fun _ => ?_) (fun _ => ?_) | with_reducible refine sat_asB ?_ | with_reducible refine sat_not ?_ | with_reducible refine sat_int ?_ | with_reducible refine sat_intB ?_ | with_reducible refine sat_abs ?_ | with_reducible refine ite_F ?_ | with_reducible refine ite_T ?_ | with_reducible refine ite_Dn (fun _ => ?_) (fun _ => ?_) | with_reducible refine sats_seq ?_ | with_reducible refine sats_if ?_ | with_reducible refine sats_set ?_ | with_reducible refine sats_setO ?_ | with_reducible refine sats_ret ?_ | with_reducible refine sats_skip ?_ | with_reducible refine sats_drop ?_ | with_reducible refine sats_setCc ?_ | with_reducible refine sat_iteD (fun _ => ?_) (fun _ => ?_) | with_reducible refine sat_lenInts ?_ | with_reducible refine sat_neNil ?_ | with_reducible refine ite_D (fun _ => ?_) (fun _ => ?_) | ((with_reducible refine' sat_getbO ?hh ?_); (case hh => exact rfl)) | ((with_reducible refine' sat_getb ?hh ?_); (case hh => exact rfl)) | with_reducible refine sat_fdiv (by first | assumption | omega | decide) (by first | assumption | omega | decide) ?_ | with_reducible refine sat_mod (by first | assumption | omega | decide) ?_ | with_reducible refine sat_ixO (by assumption) rfl ?_ | with_reducible refine sat_ixMod (by omega) (fun _ => ?_) | with_reducible refine sat_ixInts ⟨by omega, by omega⟩ (fun _ => ?_) | with_reducible refine sat_pow (by first | decide | exact ⟨by decide, by decide, bits1 ⟨by omega, by omega⟩ ⟨by omega, by omega⟩ (by decide) (by decide)⟩ | exact ⟨by decide, by decide, bits2 ⟨by omega, by omega⟩ ⟨by omega, by omega⟩ (by decide) (by decide) (by decide)⟩) ?_ | (refine ⟨_, _, _, _, rfl, rfl, by assumption, rfl, fun S' hS' _ => ?_⟩; try simp only [List.set_cons_succ, List.set_cons_zero, Int.reduceToNat] at hS') | ((with_reducible refine' sat_ixL0 ?hh ?_); (case hh => exact rfl)) | ((with_reducible refine' sat_ixT0 ?hh ?_); (case hh => exact rfl)) | ((with_reducible refine' sat_ixL1 ?hh ?_); (case hh => exact rfl)) | ((with_reducible refine' sat_ixT1 ?hh ?_); (case hh => exact rfl)) | ((with_reducible refine' sat_ixL2 ?hh ?_); (case hh => exact rfl)) | ((with_reducible refine' sat_ixT2 ?hh ?_); (case hh => exact rfl)) | ((with_reducible refine' sat_ixL3 ?hh ?_); (case hh => exact rfl)) | ((with_reducible refine' sat_ixT3 ?hh ?_); (case hh => exact rfl)) | ((with_reducible refine' sat_ixL4 ?hh ?_); (case hh => exact rfl)) | ((with_reducible refine' sat_ixT4 ?hh ?_); (case hh => exact rfl)) | ((with_reducible refine' sat_ifBt ?hh ?_); (case hh => exact rfl)) | ((with_reducible refine' sat_ifBf ?hh ?_); (case hh => exact rfl)) | ((with_reducible refine' ite_bt ?hh ?_); (case hh => exact rfl)) | ((with_reducible refine' ite_bf ?hh ?_); (case hh => exact rfl)) | ((with_reducible refine' sat_ite_bt ?hh ?_); (case hh => exact rfl)) | ((with_reducible refine' sat_ite_bf ?hh ?_); (case hh => exact rfl)) | ((with_reducible refine' sat_inT ?hh (fun bb hbb => ?_)); (case hh => exact rfl)) | ((with_reducible refine' sat_ninT ?hh (fun bb hbb => ?_)); (case hh => exact rfl)) | ((with_reducible refine' sat_inLs ?hh (fun bb hbb => ?_)); (case hh => exact rfl)) | ((with_reducible refine' sat_ninLs ?hh (fun bb hbb => ?_)); (case hh => exact rfl)) | with_reducible refine sat_addLL (by first | omega | (simp; done) | (simp; omega)) ?_ | with_reducible refine sat_mulL (by decide) (by first | omega | (simp; done) | (simp; omega)) ?_ | with_reducible refine sat_lenS (le_line (by assumption)) ?_ | with_reducible refine sat_lcQ ?_ | refine sat_ok rfl ?_ | with_reducible refine ite_B (fun _ => ?_) (fun _ => ?_) | with_reducible refine sat_ite (fun _ => ?_) (fun _ => ?_) | with_reducible refine sat_ifB (fun _ => ?_) (fun _ => ?_) | fail); try dsimp only)
  rename_i Sa late l0 l1 hca Sb least p0 p1 hcb
  refine sat_lcR ?_
  repeat' ((first | with_reducible refine sat_bind ?_ | with_reducible refine sat_pure ?_ | ((with_reducible refine' sat_getv ?hh ?_); (case hh => exact rfl)) | with_reducible refine sat_mul (by first | decide | omega | exact .inr (bits3 ⟨by omega, by omega⟩ (by decide))) ?_ | with_reducible refine sat_add ?_ | with_reducible refine sat_sub ?_ | with_reducible refine sat_lt ?_ | with_reducible refine sat_le ?_ | with_reducible refine sat_gt ?_ | with_reducible refine sat_ge ?_ | with_reducible refine sat_eqI ?_ | with_reducible refine sat_neI ?_ | with_reducible refine sat_eqS ?_ | with_reducible refine sat_neS ?_ | with_reducible refine sat_eqNil ?_ | with_reducible refine sat_ifBD (fun _ => ?_) (fun _ => ?_) | with_reducible refine sat_asB ?_ | with_reducible refine sat_not ?_ | with_reducible refine sat_int ?_ | with_reducible refine sat_intB ?_ | with_reducible refine sat_abs ?_ | with_reducible refine ite_F ?_ | with_reducible refine ite_T ?_ | with_reducible refine ite_Dn (fun _ => ?_) (fun _ => ?_) | with_reducible refine sats_seq ?_ | with_reducible refine sats_if ?_ | with_reducible refine sats_set ?_ | with_reducible refine sats_setO ?_ | with_reducible refine sats_ret ?_ | with_reducible refine sats_skip ?_ | with_reducible refine sats_drop ?_ | with_reducible refine sats_setCc ?_ | with_reducible refine sat_iteD (fun _ => ?_) (fun _ => ?_) | with_reducible refine sat_lenInts ?_ | with_reducible refine sat_neNil ?_ | with_reducible refine ite_D (fun _ => ?_) (fun _ => ?_) | ((with_reducible refine' sat_getbO ?hh ?_); (case hh => exact rfl)) | ((with_reducible refine' sat_getb ?hh ?_); (case hh => exact rfl)) | with_reducible refine sat_fdiv (by first | assumption | omega | decide) (by first | assumption | omega | decide) ?_ | with_reducible refine sat_mod (by first | assumption | omega | decide) ?_ | with_reducible refine sat_ixO (by assumption) rfl ?_ | with_reducible refine sat_ixMod (by omega) (fun _ => ?_) | with_reducible refine sat_ixInts ⟨by omega, by omega⟩ (fun _ => ?_) | with_reducible refine sat_pow (by first | decide | exact ⟨by decide, by decide, bits1 ⟨by omega, by omega⟩ ⟨by omega, by omega⟩ (by decide) (by decide)⟩ | exact ⟨by decide, by decide, bits2 ⟨by omega, by omega⟩ ⟨by omega, by omega⟩ (by decide) (by decide) (by decide)⟩) ?_ | (refine ⟨_, _, _, _, rfl, rfl, by assumption, rfl, fun S' hS' _ => ?_⟩; try simp only [List.set_cons_succ, List.set_cons_zero, Int.reduceToNat] at hS') | ((with_reducible refine' sat_ixL0 ?hh ?_); (case hh => exact rfl)) | ((with_reducible refine' sat_ixT0 ?hh ?_); (case hh => exact rfl)) | ((with_reducible refine' sat_ixL1 ?hh ?_); (case hh => exact rfl)) | ((with_reducible refine' sat_ixT1 ?hh ?_); (case hh => exact rfl)) | ((with_reducible refine' sat_ixL2 ?hh ?_); (case hh => exact rfl)) | ((with_reducible refine' sat_ixT2 ?hh ?_); (case hh => exact rfl)) | ((with_reducible refine' sat_ixL3 ?hh ?_); (case hh => exact rfl)) | ((with_reducible refine' sat_ixT3 ?hh ?_); (case hh => exact rfl)) | ((with_reducible refine' sat_ixL4 ?hh ?_); (case hh => exact rfl)) | ((with_reducible refine' sat_ixT4 ?hh ?_); (case hh => exact rfl)) | ((with_reducible refine' sat_ifBt ?hh ?_); (case hh => exact rfl)) | ((with_reducible refine' sat_ifBf ?hh ?_); (case hh => exact rfl)) | ((with_reducible refine' ite_bt ?hh ?_); (case hh => exact rfl)) | ((with_reducible refine' ite_bf ?hh ?_); (case hh => exact rfl)) | ((with_reducible refine' sat_ite_bt ?hh ?_); (case hh => exact rfl)) | ((with_reducible refine' sat_ite_bf ?hh ?_); (case hh => exact rfl)) | ((with_reducible refine' sat_inT ?hh (fun bb hbb => ?_)); (case hh => exact rfl)) | ((with_reducible refine' sat_ninT ?hh (fun bb hbb => ?_)); (case hh => exact rfl)) | ((with_reducible refine' sat_inLs ?hh (fun bb hbb => ?_)); (case hh => exact rfl)) | ((with_reducible refine' sat_ninLs ?hh (fun bb hbb => ?_)); (case hh => exact rfl)) | with_reducible refine sat_addLL (by first | omega | (simp; done) | (simp; omega)) ?_ | with_reducible refine sat_mulL (by decide) (by first | omega | (simp; done) | (simp; omega)) ?_ | with_reducible refine sat_lenS (le_line (by assumption)) ?_ | with_reducible refine sat_lcQ ?_ | refine sat_ok rfl ?_ | with_reducible refine ite_B (fun _ => ?_) (fun _ => ?_) | with_reducible refine sat_ite (fun _ => ?_) (fun _ => ?_) | with_reducible refine sat_ifB (fun _ => ?_) (fun _ => ?_) | fail); try dsimp only)
  refine ⟨late, rfl, decide_eq_true ⟨by omega, by omega⟩, ?_⟩
  have hn : late.toNat * U ≤ 8 * U := Nat.mul_le_mul_right U (by omega)
  refine sat_drawnL (P := fun x => ∃ i, x = .int i ∧ 0 ≤ i ∧ i < 3) (n := late.toNat) (U := U) (b := b + U) (by omega) (hc.le (by omega)) (fun d b S h => ⟨_, rfl, ?_⟩) (fun xs S hx hl hc => ?_)
  · repeat' ((first | ((with_reducible refine Sat.to (gu h (by decide) (by decide)) (fun r S' hr => ?_)); obtain ⟨i, e, h0, h1, hc⟩ := hr; subst e) | with_reducible refine sat_bind ?_ | with_reducible refine sat_pure ?_ | ((with_reducible refine' sat_getv ?hh ?_); (case hh => exact rfl)) | with_reducible refine sat_mul (by first | decide | omega | exact .inr (bits3 ⟨by omega, by omega⟩ (by decide))) ?_ | with_reducible refine sat_add ?_ | with_reducible refine sat_sub ?_ | with_reducible refine sat_lt ?_ | with_reducible refine sat_le ?_ | with_reducible refine sat_gt ?_ | with_reducible refine sat_ge ?_ | with_reducible refine sat_eqI ?_ | with_reducible refine sat_neI ?_ | with_reducible refine sat_eqS ?_ | with_reducible refine sat_neS ?_ | with_reducible refine sat_eqNil ?_ | with_reducible refine sat_ifBD (fun _ => ?_) (fun _ => ?_) | with_reducible refine sat_asB ?_ | with_reducible refine sat_not ?_ | with_reducible refine sat_int ?_ | with_reducible refine sat_intB ?_ | with_reducible refine sat_abs ?_ | with_reducible refine ite_F ?_ | with_reducible refine ite_T ?_ | with_reducible refine ite_Dn (fun _ => ?_) (fun _ => ?_) | with_reducible refine sats_seq ?_ | with_reducible refine sats_if ?_ | with_reducible refine sats_set ?_ | with_reducible refine sats_setO ?_ | with_reducible refine sats_ret ?_ | with_reducible refine sats_skip ?_ | with_reducible refine sats_drop ?_ | with_reducible refine sats_setCc ?_ | with_reducible refine sat_iteD (fun _ => ?_) (fun _ => ?_) | with_reducible refine sat_lenInts ?_ | with_reducible refine sat_neNil ?_ | with_reducible refine ite_D (fun _ => ?_) (fun _ => ?_) | ((with_reducible refine' sat_getbO ?hh ?_); (case hh => exact rfl)) | ((with_reducible refine' sat_getb ?hh ?_); (case hh => exact rfl)) | with_reducible refine sat_fdiv (by first | assumption | omega | decide) (by first | assumption | omega | decide) ?_ | with_reducible refine sat_mod (by first | assumption | omega | decide) ?_ | with_reducible refine sat_ixO (by assumption) rfl ?_ | with_reducible refine sat_ixMod (by omega) (fun _ => ?_) | with_reducible refine sat_ixInts ⟨by omega, by omega⟩ (fun _ => ?_) | with_reducible refine sat_pow (by first | decide | exact ⟨by decide, by decide, bits1 ⟨by omega, by omega⟩ ⟨by omega, by omega⟩ (by decide) (by decide)⟩ | exact ⟨by decide, by decide, bits2 ⟨by omega, by omega⟩ ⟨by omega, by omega⟩ (by decide) (by decide) (by decide)⟩) ?_ | (refine ⟨_, _, _, _, rfl, rfl, by assumption, rfl, fun S' hS' _ => ?_⟩; try simp only [List.set_cons_succ, List.set_cons_zero, Int.reduceToNat] at hS') | ((with_reducible refine' sat_ixL0 ?hh ?_); (case hh => exact rfl)) | ((with_reducible refine' sat_ixT0 ?hh ?_); (case hh => exact rfl)) | ((with_reducible refine' sat_ixL1 ?hh ?_); (case hh => exact rfl)) | ((with_reducible refine' sat_ixT1 ?hh ?_); (case hh => exact rfl)) | ((with_reducible refine' sat_ixL2 ?hh ?_); (case hh => exact rfl)) | ((with_reducible refine' sat_ixT2 ?hh ?_); (case hh => exact rfl)) | ((with_reducible refine' sat_ixL3 ?hh ?_); (case hh => exact rfl)) | ((with_reducible refine' sat_ixT3 ?hh ?_); (case hh => exact rfl)) | ((with_reducible refine' sat_ixL4 ?hh ?_); (case hh => exact rfl)) | ((with_reducible refine' sat_ixT4 ?hh ?_); (case hh => exact rfl)) | ((with_reducible refine' sat_ifBt ?hh ?_); (case hh => exact rfl)) | ((with_reducible refine' sat_ifBf ?hh ?_); (case hh => exact rfl)) | ((with_reducible refine' ite_bt ?hh ?_); (case hh => exact rfl)) | ((with_reducible refine' ite_bf ?hh ?_); (case hh => exact rfl)) | ((with_reducible refine' sat_ite_bt ?hh ?_); (case hh => exact rfl)) | ((with_reducible refine' sat_ite_bf ?hh ?_); (case hh => exact rfl)) | ((with_reducible refine' sat_inT ?hh (fun bb hbb => ?_)); (case hh => exact rfl)) | ((with_reducible refine' sat_ninT ?hh (fun bb hbb => ?_)); (case hh => exact rfl)) | ((with_reducible refine' sat_inLs ?hh (fun bb hbb => ?_)); (case hh => exact rfl)) | ((with_reducible refine' sat_ninLs ?hh (fun bb hbb => ?_)); (case hh => exact rfl)) | with_reducible refine sat_addLL (by first | omega | (simp; done) | (simp; omega)) ?_ | with_reducible refine sat_mulL (by decide) (by first | omega | (simp; done) | (simp; omega)) ?_ | with_reducible refine sat_lenS (le_line (by assumption)) ?_ | with_reducible refine sat_lcQ ?_ | refine sat_ok rfl ?_ | with_reducible refine ite_B (fun _ => ?_) (fun _ => ?_) | with_reducible refine sat_ite (fun _ => ?_) (fun _ => ?_) | with_reducible refine sat_ifB (fun _ => ?_) (fun _ => ?_) | fail); try dsimp only)
    exact ⟨⟨_, rfl, by assumption, by assumption⟩, by assumption⟩
  obtain ⟨is, rfl, s0, s1⟩ := ints_of hx
  rw [hl] at s1
  repeat' ((first | with_reducible refine sat_sum ?_ | ((with_reducible refine Sat.to (gu hc (by decide) (by decide)) (fun r S' hr => ?_)); obtain ⟨i, e, h0, h1, hc⟩ := hr; subst e) | with_reducible refine sat_bind ?_ | with_reducible refine sat_pure ?_ | ((with_reducible refine' sat_getv ?hh ?_); (case hh => exact rfl)) | with_reducible refine sat_mul (by first | decide | omega | exact .inr (bits3 ⟨by omega, by omega⟩ (by decide))) ?_ | with_reducible refine sat_add ?_ | with_reducible refine sat_sub ?_ | with_reducible refine sat_lt ?_ | with_reducible refine sat_le ?_ | with_reducible refine sat_gt ?_ | with_reducible refine sat_ge ?_ | with_reducible refine sat_eqI ?_ | with_reducible refine sat_neI ?_ | with_reducible refine sat_eqS ?_ | with_reducible refine sat_neS ?_ | with_reducible refine sat_eqNil ?_ | with_reducible refine sat_ifBD (fun _ => ?_) (fun _ => ?_) | with_reducible refine sat_asB ?_ | with_reducible refine sat_not ?_ | with_reducible refine sat_int ?_ | with_reducible refine sat_intB ?_ | with_reducible refine sat_abs ?_ | with_reducible refine ite_F ?_ | with_reducible refine ite_T ?_ | with_reducible refine ite_Dn (fun _ => ?_) (fun _ => ?_) | with_reducible refine sats_seq ?_ | with_reducible refine sats_if ?_ | with_reducible refine sats_set ?_ | with_reducible refine sats_setO ?_ | with_reducible refine sats_ret ?_ | with_reducible refine sats_skip ?_ | with_reducible refine sats_drop ?_ | with_reducible refine sats_setCc ?_ | with_reducible refine sat_iteD (fun _ => ?_) (fun _ => ?_) | with_reducible refine sat_lenInts ?_ | with_reducible refine sat_neNil ?_ | with_reducible refine ite_D (fun _ => ?_) (fun _ => ?_) | ((with_reducible refine' sat_getbO ?hh ?_); (case hh => exact rfl)) | ((with_reducible refine' sat_getb ?hh ?_); (case hh => exact rfl)) | with_reducible refine sat_fdiv (by first | assumption | omega | decide) (by first | assumption | omega | decide) ?_ | with_reducible refine sat_mod (by first | assumption | omega | decide) ?_ | with_reducible refine sat_ixO (by assumption) rfl ?_ | with_reducible refine sat_ixMod (by omega) (fun _ => ?_) | with_reducible refine sat_ixInts ⟨by omega, by omega⟩ (fun _ => ?_) | with_reducible refine sat_pow (by first | decide | exact ⟨by decide, by decide, bits1 ⟨by omega, by omega⟩ ⟨by omega, by omega⟩ (by decide) (by decide)⟩ | exact ⟨by decide, by decide, bits2 ⟨by omega, by omega⟩ ⟨by omega, by omega⟩ (by decide) (by decide) (by decide)⟩) ?_ | (refine ⟨_, _, _, _, rfl, rfl, by assumption, rfl, fun S' hS' _ => ?_⟩; try simp only [List.set_cons_succ, List.set_cons_zero, Int.reduceToNat] at hS') | ((with_reducible refine' sat_ixL0 ?hh ?_); (case hh => exact rfl)) | ((with_reducible refine' sat_ixT0 ?hh ?_); (case hh => exact rfl)) | ((with_reducible refine' sat_ixL1 ?hh ?_); (case hh => exact rfl)) | ((with_reducible refine' sat_ixT1 ?hh ?_); (case hh => exact rfl)) | ((with_reducible refine' sat_ixL2 ?hh ?_); (case hh => exact rfl)) | ((with_reducible refine' sat_ixT2 ?hh ?_); (case hh => exact rfl)) | ((with_reducible refine' sat_ixL3 ?hh ?_); (case hh => exact rfl)) | ((with_reducible refine' sat_ixT3 ?hh ?_); (case hh => exact rfl)) | ((with_reducible refine' sat_ixL4 ?hh ?_); (case hh => exact rfl)) | ((with_reducible refine' sat_ixT4 ?hh ?_); (case hh => exact rfl)) | ((with_reducible refine' sat_ifBt ?hh ?_); (case hh => exact rfl)) | ((with_reducible refine' sat_ifBf ?hh ?_); (case hh => exact rfl)) | ((with_reducible refine' ite_bt ?hh ?_); (case hh => exact rfl)) | ((with_reducible refine' ite_bf ?hh ?_); (case hh => exact rfl)) | ((with_reducible refine' sat_ite_bt ?hh ?_); (case hh => exact rfl)) | ((with_reducible refine' sat_ite_bf ?hh ?_); (case hh => exact rfl)) | ((with_reducible refine' sat_inT ?hh (fun bb hbb => ?_)); (case hh => exact rfl)) | ((with_reducible refine' sat_ninT ?hh (fun bb hbb => ?_)); (case hh => exact rfl)) | ((with_reducible refine' sat_inLs ?hh (fun bb hbb => ?_)); (case hh => exact rfl)) | ((with_reducible refine' sat_ninLs ?hh (fun bb hbb => ?_)); (case hh => exact rfl)) | with_reducible refine sat_addLL (by first | omega | (simp; done) | (simp; omega)) ?_ | with_reducible refine sat_mulL (by decide) (by first | omega | (simp; done) | (simp; omega)) ?_ | with_reducible refine sat_lenS (le_line (by assumption)) ?_ | with_reducible refine sat_lcQ ?_ | refine sat_ok rfl ?_ | with_reducible refine ite_B (fun _ => ?_) (fun _ => ?_) | with_reducible refine sat_ite (fun _ => ?_) (fun _ => ?_) | with_reducible refine sat_ifB (fun _ => ?_) (fun _ => ?_) | fail); try dsimp only)
  rename_i y _ _ _ _
  have hs : is.sum ≤ 2 * late := by omega
  have hm : ∃ m : Int, m = (if 2 * late + 3 + y < 64 then 2 * late + 3 + y else 64) ∧ 2 ≤ m ∧ m ≤ 64 ∧ is.sum + 2 < m := ⟨_, rfl, by split <;> omega, by split <;> omega, by split <;> omega⟩
  obtain ⟨m, em, m1, m2, m3⟩ := hm
  rw [← em]
  with_reducible refine Sat.to (wa (by omega) (by omega) ⟨Int.emod_nonneg _ (by omega), Int.emod_lt_of_pos _ (by omega)⟩ ⟨m1, m2⟩) (fun r S' hr => ?_)
  obtain ⟨e1, e2⟩ := hr
  subst e1
  subst e2
  rw [elder_none s0 m3]
  exact sat_ok (a := .bool true) (S := S') rfl ⟨rfl, hc⟩
theorem law_ok {ns : List Int} (hl : ns.length ≤ 63) : Sat ((fns 60).p_law [.frl (ns.map D.int)] [some (.tbl (lamQ "_law_refused_right"))]) (fun d _ => d = .bool true) noX := by
  have e0 : (fns 60).p_law = runF 3 1 (m_p_law (fns 59) (fns 57)) := u_p_law 57
  rw [e0]
  refine sat_run rfl ?_
  unfold m_p_law
  rw [show c_ROWS = .tup [.int 0, .int 1, .int 2, .int 3, .int 4, .int 5, .int 6, .int 7] from rfl]
  have ab : Sat ((fns 59).pen [.frl (ns.map D.int)] [some (.tbl (lamQ "_law_refused_right"))]) (fun d S' => d = .obj 1 ∧ ∀ b, b ≤ topN → CloudL TL b S' 1) noX := pen_ok (k := 56) hl rfl
  have al : ∀ {b : Nat} {S : Sto}, CloudL TL (b + B 59) S 1 → Sat ((fns 59).all_right [.obj 1] S) (isC (fun d => d = .bool true) b 1) noX := fun {b S} h => all_ok h
  have el : ∀ {b : Nat} {S : Sto}, CloudL TL (b + B 59) S 1 → Sat ((fns 59).elder_right [.obj 1] S) (isC (fun d => d = .bool true) b 1) noX := fun {b S} h => elder_ok h
  have rf : ∀ {b : Nat} {S : Sto}, CloudL TL (b + B 59) S 1 → Sat ((fns 59).refused_right [.obj 1] S) (isC (fun d => d = .bool true) b 1) noX := fun {b S} h => refused_ok h
  have ht : 40 * B 59 ≤ topN := by
    have e1 : B 59 = 2 ^ 1180 := by unfold B; rfl
    have e2 : topN = 2 ^ 2000 := rfl
    rw [e1, e2]
    exact Nat.le_trans (show 40 * 2 ^ 1180 ≤ 2 ^ 6 * 2 ^ 1180 from Nat.mul_le_mul (by decide) (Nat.le_refl _)) (by rw [← Nat.pow_add]; exact Nat.pow_le_pow_right (by decide) (by decide))
  have rs : Sho 1 400 (.tup [.int 0, .int 1, .int 2, .int 3, .int 4, .int 5, .int 6, .int 7]) := (sho_tup (n := 0) (W := 40) fun x hx => by
    simp only [List.mem_cons, List.not_mem_nil, or_false] at hx
    rcases hx with rfl | rfl | rfl | rfl | rfl | rfl | rfl | rfl
    all_goals exact sho_int (by decide) (by decide)).up (Nat.le_refl _) (show 8 * 41 ≤ 400 by decide)
  generalize fns 59 = G at ab al el rf ⊢
  generalize B 59 = U at al el rf ht ⊢
  repeat' ((first | ((with_reducible refine Sat.to ab (fun r S' hr => ?_)); obtain ⟨e, hcc⟩ := hr; subst e) | with_reducible refine sat_bind ?_ | with_reducible refine sat_pure ?_ | ((with_reducible refine' sat_getv ?hh ?_); (case hh => exact rfl)) | with_reducible refine sat_mul (by first | decide | omega | exact .inr (bits3 ⟨by omega, by omega⟩ (by decide))) ?_ | with_reducible refine sat_add ?_ | with_reducible refine sat_sub ?_ | with_reducible refine sat_lt ?_ | with_reducible refine sat_le ?_ | with_reducible refine sat_gt ?_ | with_reducible refine sat_ge ?_ | with_reducible refine sat_eqI ?_ | with_reducible refine sat_neI ?_ | with_reducible refine sat_eqS ?_ | with_reducible refine sat_neS ?_ | with_reducible refine sat_eqNil ?_ | with_reducible refine sat_ifBD (fun _ => ?_) (fun _ => ?_) | with_reducible refine sat_asB ?_ | with_reducible refine sat_not ?_ | with_reducible refine sat_int ?_ | with_reducible refine sat_intB ?_ | with_reducible refine sat_abs ?_ | with_reducible refine ite_F ?_ | with_reducible refine ite_T ?_ | with_reducible refine ite_Dn (fun _ => ?_) (fun _ => ?_) | with_reducible refine sats_seq ?_ | with_reducible refine sats_if ?_ | with_reducible refine sats_set ?_ | with_reducible refine sats_setO ?_ | with_reducible refine sats_ret ?_ | with_reducible refine sats_skip ?_ | with_reducible refine sats_drop ?_ | with_reducible refine sats_setCc ?_ | with_reducible refine sat_iteD (fun _ => ?_) (fun _ => ?_) | with_reducible refine sat_lenInts ?_ | with_reducible refine sat_neNil ?_ | with_reducible refine ite_D (fun _ => ?_) (fun _ => ?_) | ((with_reducible refine' sat_getbO ?hh ?_); (case hh => exact rfl)) | ((with_reducible refine' sat_getb ?hh ?_); (case hh => exact rfl)) | with_reducible refine sat_fdiv (by first | assumption | omega | decide) (by first | assumption | omega | decide) ?_ | with_reducible refine sat_mod (by first | assumption | omega | decide) ?_ | with_reducible refine sat_ixO (by assumption) rfl ?_ | with_reducible refine sat_ixMod (by omega) (fun _ => ?_) | with_reducible refine sat_ixInts ⟨by omega, by omega⟩ (fun _ => ?_) | with_reducible refine sat_pow (by first | decide | exact ⟨by decide, by decide, bits1 ⟨by omega, by omega⟩ ⟨by omega, by omega⟩ (by decide) (by decide)⟩ | exact ⟨by decide, by decide, bits2 ⟨by omega, by omega⟩ ⟨by omega, by omega⟩ (by decide) (by decide) (by decide)⟩) ?_ | (refine ⟨_, _, _, _, rfl, rfl, by assumption, rfl, fun S' hS' _ => ?_⟩; try simp only [List.set_cons_succ, List.set_cons_zero, Int.reduceToNat] at hS') | ((with_reducible refine' sat_ixL0 ?hh ?_); (case hh => exact rfl)) | ((with_reducible refine' sat_ixT0 ?hh ?_); (case hh => exact rfl)) | ((with_reducible refine' sat_ixL1 ?hh ?_); (case hh => exact rfl)) | ((with_reducible refine' sat_ixT1 ?hh ?_); (case hh => exact rfl)) | ((with_reducible refine' sat_ixL2 ?hh ?_); (case hh => exact rfl)) | ((with_reducible refine' sat_ixT2 ?hh ?_); (case hh => exact rfl)) | ((with_reducible refine' sat_ixL3 ?hh ?_); (case hh => exact rfl)) | ((with_reducible refine' sat_ixT3 ?hh ?_); (case hh => exact rfl)) | ((with_reducible refine' sat_ixL4 ?hh ?_); (case hh => exact rfl)) | ((with_reducible refine' sat_ixT4 ?hh ?_); (case hh => exact rfl)) | ((with_reducible refine' sat_ifBt ?hh ?_); (case hh => exact rfl)) | ((with_reducible refine' sat_ifBf ?hh ?_); (case hh => exact rfl)) | ((with_reducible refine' ite_bt ?hh ?_); (case hh => exact rfl)) | ((with_reducible refine' ite_bf ?hh ?_); (case hh => exact rfl)) | ((with_reducible refine' sat_ite_bt ?hh ?_); (case hh => exact rfl)) | ((with_reducible refine' sat_ite_bf ?hh ?_); (case hh => exact rfl)) | ((with_reducible refine' sat_inT ?hh (fun bb hbb => ?_)); (case hh => exact rfl)) | ((with_reducible refine' sat_ninT ?hh (fun bb hbb => ?_)); (case hh => exact rfl)) | ((with_reducible refine' sat_inLs ?hh (fun bb hbb => ?_)); (case hh => exact rfl)) | ((with_reducible refine' sat_ninLs ?hh (fun bb hbb => ?_)); (case hh => exact rfl)) | with_reducible refine sat_addLL (by first | omega | (simp; done) | (simp; omega)) ?_ | with_reducible refine sat_mulL (by decide) (by first | omega | (simp; done) | (simp; omega)) ?_ | with_reducible refine sat_lenS (le_line (by assumption)) ?_ | with_reducible refine sat_lcQ ?_ | refine sat_ok rfl ?_ | with_reducible refine ite_B (fun _ => ?_) (fun _ => ?_) | with_reducible refine sat_ite (fun _ => ?_) (fun _ => ?_) | with_reducible refine sat_ifB (fun _ => ?_) (fun _ => ?_) | fail); try dsimp only)
  refine sats_forR1 (n := 4) ?_
  repeat' ((first | with_reducible refine sat_bind ?_ | with_reducible refine sat_pure ?_ | ((with_reducible refine' sat_getv ?hh ?_); (case hh => exact rfl)) | with_reducible refine sat_mul (by first | decide | omega | exact .inr (bits3 ⟨by omega, by omega⟩ (by decide))) ?_ | with_reducible refine sat_add ?_ | with_reducible refine sat_sub ?_ | with_reducible refine sat_lt ?_ | with_reducible refine sat_le ?_ | with_reducible refine sat_gt ?_ | with_reducible refine sat_ge ?_ | with_reducible refine sat_eqI ?_ | with_reducible refine sat_neI ?_ | with_reducible refine sat_eqS ?_ | with_reducible refine sat_neS ?_ | with_reducible refine sat_eqNil ?_ | with_reducible refine sat_ifBD (fun _ => ?_) (fun _ => ?_) | with_reducible refine sat_asB ?_ | with_reducible refine sat_not ?_ | with_reducible refine sat_int ?_ | with_reducible refine sat_intB ?_ | with_reducible refine sat_abs ?_ | with_reducible refine ite_F ?_ | with_reducible refine ite_T ?_ | with_reducible refine ite_Dn (fun _ => ?_) (fun _ => ?_) | with_reducible refine sats_seq ?_ | with_reducible refine sats_if ?_ | with_reducible refine sats_set ?_ | with_reducible refine sats_setO ?_ | with_reducible refine sats_ret ?_ | with_reducible refine sats_skip ?_ | with_reducible refine sats_drop ?_ | with_reducible refine sats_setCc ?_ | with_reducible refine sat_iteD (fun _ => ?_) (fun _ => ?_) | with_reducible refine sat_lenInts ?_ | with_reducible refine sat_neNil ?_ | with_reducible refine ite_D (fun _ => ?_) (fun _ => ?_) | ((with_reducible refine' sat_getbO ?hh ?_); (case hh => exact rfl)) | ((with_reducible refine' sat_getb ?hh ?_); (case hh => exact rfl)) | with_reducible refine sat_fdiv (by first | assumption | omega | decide) (by first | assumption | omega | decide) ?_ | with_reducible refine sat_mod (by first | assumption | omega | decide) ?_ | with_reducible refine sat_ixO (by assumption) rfl ?_ | with_reducible refine sat_ixMod (by omega) (fun _ => ?_) | with_reducible refine sat_ixInts ⟨by omega, by omega⟩ (fun _ => ?_) | with_reducible refine sat_pow (by first | decide | exact ⟨by decide, by decide, bits1 ⟨by omega, by omega⟩ ⟨by omega, by omega⟩ (by decide) (by decide)⟩ | exact ⟨by decide, by decide, bits2 ⟨by omega, by omega⟩ ⟨by omega, by omega⟩ (by decide) (by decide) (by decide)⟩) ?_ | (refine ⟨_, _, _, _, rfl, rfl, by assumption, rfl, fun S' hS' _ => ?_⟩; try simp only [List.set_cons_succ, List.set_cons_zero, Int.reduceToNat] at hS') | ((with_reducible refine' sat_ixL0 ?hh ?_); (case hh => exact rfl)) | ((with_reducible refine' sat_ixT0 ?hh ?_); (case hh => exact rfl)) | ((with_reducible refine' sat_ixL1 ?hh ?_); (case hh => exact rfl)) | ((with_reducible refine' sat_ixT1 ?hh ?_); (case hh => exact rfl)) | ((with_reducible refine' sat_ixL2 ?hh ?_); (case hh => exact rfl)) | ((with_reducible refine' sat_ixT2 ?hh ?_); (case hh => exact rfl)) | ((with_reducible refine' sat_ixL3 ?hh ?_); (case hh => exact rfl)) | ((with_reducible refine' sat_ixT3 ?hh ?_); (case hh => exact rfl)) | ((with_reducible refine' sat_ixL4 ?hh ?_); (case hh => exact rfl)) | ((with_reducible refine' sat_ixT4 ?hh ?_); (case hh => exact rfl)) | ((with_reducible refine' sat_ifBt ?hh ?_); (case hh => exact rfl)) | ((with_reducible refine' sat_ifBf ?hh ?_); (case hh => exact rfl)) | ((with_reducible refine' ite_bt ?hh ?_); (case hh => exact rfl)) | ((with_reducible refine' ite_bf ?hh ?_); (case hh => exact rfl)) | ((with_reducible refine' sat_ite_bt ?hh ?_); (case hh => exact rfl)) | ((with_reducible refine' sat_ite_bf ?hh ?_); (case hh => exact rfl)) | ((with_reducible refine' sat_inT ?hh (fun bb hbb => ?_)); (case hh => exact rfl)) | ((with_reducible refine' sat_ninT ?hh (fun bb hbb => ?_)); (case hh => exact rfl)) | ((with_reducible refine' sat_inLs ?hh (fun bb hbb => ?_)); (case hh => exact rfl)) | ((with_reducible refine' sat_ninLs ?hh (fun bb hbb => ?_)); (case hh => exact rfl)) | with_reducible refine sat_addLL (by first | omega | (simp; done) | (simp; omega)) ?_ | with_reducible refine sat_mulL (by decide) (by first | omega | (simp; done) | (simp; omega)) ?_ | with_reducible refine sat_lenS (le_line (by assumption)) ?_ | with_reducible refine sat_lcQ ?_ | refine sat_ok rfl ?_ | with_reducible refine ite_B (fun _ => ?_) (fun _ => ?_) | with_reducible refine sat_ite (fun _ => ?_) (fun _ => ?_) | with_reducible refine sat_ifB (fun _ => ?_) (fun _ => ?_) | fail); try dsimp only)
  refine ⟨rfl, rfl, ?_⟩
  refine sats_for (fun rest env S => ∃ e2 : Sl, env = [.val (.frl (ns.map D.int)), .val (.obj 1), e2] ∧ CloudL TL (U + rest.length * (2 * U)) S 1) (fun d rest env S ⟨e2, h5, hc⟩ => ?_) (fun env S ⟨e2, h5, hc⟩ => ?_) ⟨_, rfl, hcc _ ?_⟩
  · subst h5
    rw [List.length_cons, Nat.succ_mul] at hc
    have hc : CloudL TL (U + rest.length * (2 * U) + U + U) _ 1 := hc.le (by omega)
    refine ⟨_, rfl, ?_⟩
    repeat' ((first | ((with_reducible refine Sat.to (al hc) (fun r S' hr => ?_)); obtain ⟨e, hc⟩ := hr; subst e) | ((with_reducible refine Sat.to (el hc) (fun r S' hr => ?_)); obtain ⟨e, hc⟩ := hr; subst e) | with_reducible refine sat_bind ?_ | with_reducible refine sat_pure ?_ | ((with_reducible refine' sat_getv ?hh ?_); (case hh => exact rfl)) | with_reducible refine sat_mul (by first | decide | omega | exact .inr (bits3 ⟨by omega, by omega⟩ (by decide))) ?_ | with_reducible refine sat_add ?_ | with_reducible refine sat_sub ?_ | with_reducible refine sat_lt ?_ | with_reducible refine sat_le ?_ | with_reducible refine sat_gt ?_ | with_reducible refine sat_ge ?_ | with_reducible refine sat_eqI ?_ | with_reducible refine sat_neI ?_ | with_reducible refine sat_eqS ?_ | with_reducible refine sat_neS ?_ | with_reducible refine sat_eqNil ?_ | with_reducible refine sat_ifBD (fun _ => ?_) (fun _ => ?_) | with_reducible refine sat_asB ?_ | with_reducible refine sat_not ?_ | with_reducible refine sat_int ?_ | with_reducible refine sat_intB ?_ | with_reducible refine sat_abs ?_ | with_reducible refine ite_F ?_ | with_reducible refine ite_T ?_ | with_reducible refine ite_Dn (fun _ => ?_) (fun _ => ?_) | with_reducible refine sats_seq ?_ | with_reducible refine sats_if ?_ | with_reducible refine sats_set ?_ | with_reducible refine sats_setO ?_ | with_reducible refine sats_ret ?_ | with_reducible refine sats_skip ?_ | with_reducible refine sats_drop ?_ | with_reducible refine sats_setCc ?_ | with_reducible refine sat_iteD (fun _ => ?_) (fun _ => ?_) | with_reducible refine sat_lenInts ?_ | with_reducible refine sat_neNil ?_ | with_reducible refine ite_D (fun _ => ?_) (fun _ => ?_) | ((with_reducible refine' sat_getbO ?hh ?_); (case hh => exact rfl)) | ((with_reducible refine' sat_getb ?hh ?_); (case hh => exact rfl)) | with_reducible refine sat_fdiv (by first | assumption | omega | decide) (by first | assumption | omega | decide) ?_ | with_reducible refine sat_mod (by first | assumption | omega | decide) ?_ | with_reducible refine sat_ixO (by assumption) rfl ?_ | with_reducible refine sat_ixMod (by omega) (fun _ => ?_) | with_reducible refine sat_ixInts ⟨by omega, by omega⟩ (fun _ => ?_) | with_reducible refine sat_pow (by first | decide | exact ⟨by decide, by decide, bits1 ⟨by omega, by omega⟩ ⟨by omega, by omega⟩ (by decide) (by decide)⟩ | exact ⟨by decide, by decide, bits2 ⟨by omega, by omega⟩ ⟨by omega, by omega⟩ (by decide) (by decide) (by decide)⟩) ?_ | (refine ⟨_, _, _, _, rfl, rfl, by assumption, rfl, fun S' hS' _ => ?_⟩; try simp only [List.set_cons_succ, List.set_cons_zero, Int.reduceToNat] at hS') | ((with_reducible refine' sat_ixL0 ?hh ?_); (case hh => exact rfl)) | ((with_reducible refine' sat_ixT0 ?hh ?_); (case hh => exact rfl)) | ((with_reducible refine' sat_ixL1 ?hh ?_); (case hh => exact rfl)) | ((with_reducible refine' sat_ixT1 ?hh ?_); (case hh => exact rfl)) | ((with_reducible refine' sat_ixL2 ?hh ?_); (case hh => exact rfl)) | ((with_reducible refine' sat_ixT2 ?hh ?_); (case hh => exact rfl)) | ((with_reducible refine' sat_ixL3 ?hh ?_); (case hh => exact rfl)) | ((with_reducible refine' sat_ixT3 ?hh ?_); (case hh => exact rfl)) | ((with_reducible refine' sat_ixL4 ?hh ?_); (case hh => exact rfl)) | ((with_reducible refine' sat_ixT4 ?hh ?_); (case hh => exact rfl)) | ((with_reducible refine' sat_ifBt ?hh ?_); (case hh => exact rfl)) | ((with_reducible refine' sat_ifBf ?hh ?_); (case hh => exact rfl)) | ((with_reducible refine' ite_bt ?hh ?_); (case hh => exact rfl)) | ((with_reducible refine' ite_bf ?hh ?_); (case hh => exact rfl)) | ((with_reducible refine' sat_ite_bt ?hh ?_); (case hh => exact rfl)) | ((with_reducible refine' sat_ite_bf ?hh ?_); (case hh => exact rfl)) | ((with_reducible refine' sat_inT ?hh (fun bb hbb => ?_)); (case hh => exact rfl)) | ((with_reducible refine' sat_ninT ?hh (fun bb hbb => ?_)); (case hh => exact rfl)) | ((with_reducible refine' sat_inLs ?hh (fun bb hbb => ?_)); (case hh => exact rfl)) | ((with_reducible refine' sat_ninLs ?hh (fun bb hbb => ?_)); (case hh => exact rfl)) | with_reducible refine sat_addLL (by first | omega | (simp; done) | (simp; omega)) ?_ | with_reducible refine sat_mulL (by decide) (by first | omega | (simp; done) | (simp; omega)) ?_ | with_reducible refine sat_lenS (le_line (by assumption)) ?_ | with_reducible refine sat_lcQ ?_ | refine sat_ok rfl ?_ | with_reducible refine ite_B (fun _ => ?_) (fun _ => ?_) | with_reducible refine sat_ite (fun _ => ?_) (fun _ => ?_) | with_reducible refine sat_ifB (fun _ => ?_) (fun _ => ?_) | fail); try dsimp only)
    exact ⟨_, rfl, hc⟩
  · subst h5
    have hc : CloudL TL (0 + U) S 1 := hc.le (by simp)
    repeat' ((first | with_reducible refine sat_reprD rs (by decide) (by decide) ?_ | with_reducible refine sat_eqSt ?_ | ((with_reducible refine Sat.to (rf hc) (fun r S' hr => ?_)); obtain ⟨e, hc⟩ := hr; subst e) | with_reducible refine sat_bind ?_ | with_reducible refine sat_pure ?_ | ((with_reducible refine' sat_getv ?hh ?_); (case hh => exact rfl)) | with_reducible refine sat_mul (by first | decide | omega | exact .inr (bits3 ⟨by omega, by omega⟩ (by decide))) ?_ | with_reducible refine sat_add ?_ | with_reducible refine sat_sub ?_ | with_reducible refine sat_lt ?_ | with_reducible refine sat_le ?_ | with_reducible refine sat_gt ?_ | with_reducible refine sat_ge ?_ | with_reducible refine sat_eqI ?_ | with_reducible refine sat_neI ?_ | with_reducible refine sat_eqS ?_ | with_reducible refine sat_neS ?_ | with_reducible refine sat_eqNil ?_ | with_reducible refine sat_ifBD (fun _ => ?_) (fun _ => ?_) | with_reducible refine sat_asB ?_ | with_reducible refine sat_not ?_ | with_reducible refine sat_int ?_ | with_reducible refine sat_intB ?_ | with_reducible refine sat_abs ?_ | with_reducible refine ite_F ?_ | with_reducible refine ite_T ?_ | with_reducible refine ite_Dn (fun _ => ?_) (fun _ => ?_) | with_reducible refine sats_seq ?_ | with_reducible refine sats_if ?_ | with_reducible refine sats_set ?_ | with_reducible refine sats_setO ?_ | with_reducible refine sats_ret ?_ | with_reducible refine sats_skip ?_ | with_reducible refine sats_drop ?_ | with_reducible refine sats_setCc ?_ | with_reducible refine sat_iteD (fun _ => ?_) (fun _ => ?_) | with_reducible refine sat_lenInts ?_ | with_reducible refine sat_neNil ?_ | with_reducible refine ite_D (fun _ => ?_) (fun _ => ?_) | ((with_reducible refine' sat_getbO ?hh ?_); (case hh => exact rfl)) | ((with_reducible refine' sat_getb ?hh ?_); (case hh => exact rfl)) | with_reducible refine sat_fdiv (by first | assumption | omega | decide) (by first | assumption | omega | decide) ?_ | with_reducible refine sat_mod (by first | assumption | omega | decide) ?_ | with_reducible refine sat_ixO (by assumption) rfl ?_ | with_reducible refine sat_ixMod (by omega) (fun _ => ?_) | with_reducible refine sat_ixInts ⟨by omega, by omega⟩ (fun _ => ?_) | with_reducible refine sat_pow (by first | decide | exact ⟨by decide, by decide, bits1 ⟨by omega, by omega⟩ ⟨by omega, by omega⟩ (by decide) (by decide)⟩ | exact ⟨by decide, by decide, bits2 ⟨by omega, by omega⟩ ⟨by omega, by omega⟩ (by decide) (by decide) (by decide)⟩) ?_ | (refine ⟨_, _, _, _, rfl, rfl, by assumption, rfl, fun S' hS' _ => ?_⟩; try simp only [List.set_cons_succ, List.set_cons_zero, Int.reduceToNat] at hS') | ((with_reducible refine' sat_ixL0 ?hh ?_); (case hh => exact rfl)) | ((with_reducible refine' sat_ixT0 ?hh ?_); (case hh => exact rfl)) | ((with_reducible refine' sat_ixL1 ?hh ?_); (case hh => exact rfl)) | ((with_reducible refine' sat_ixT1 ?hh ?_); (case hh => exact rfl)) | ((with_reducible refine' sat_ixL2 ?hh ?_); (case hh => exact rfl)) | ((with_reducible refine' sat_ixT2 ?hh ?_); (case hh => exact rfl)) | ((with_reducible refine' sat_ixL3 ?hh ?_); (case hh => exact rfl)) | ((with_reducible refine' sat_ixT3 ?hh ?_); (case hh => exact rfl)) | ((with_reducible refine' sat_ixL4 ?hh ?_); (case hh => exact rfl)) | ((with_reducible refine' sat_ixT4 ?hh ?_); (case hh => exact rfl)) | ((with_reducible refine' sat_ifBt ?hh ?_); (case hh => exact rfl)) | ((with_reducible refine' sat_ifBf ?hh ?_); (case hh => exact rfl)) | ((with_reducible refine' ite_bt ?hh ?_); (case hh => exact rfl)) | ((with_reducible refine' ite_bf ?hh ?_); (case hh => exact rfl)) | ((with_reducible refine' sat_ite_bt ?hh ?_); (case hh => exact rfl)) | ((with_reducible refine' sat_ite_bf ?hh ?_); (case hh => exact rfl)) | ((with_reducible refine' sat_inT ?hh (fun bb hbb => ?_)); (case hh => exact rfl)) | ((with_reducible refine' sat_ninT ?hh (fun bb hbb => ?_)); (case hh => exact rfl)) | ((with_reducible refine' sat_inLs ?hh (fun bb hbb => ?_)); (case hh => exact rfl)) | ((with_reducible refine' sat_ninLs ?hh (fun bb hbb => ?_)); (case hh => exact rfl)) | with_reducible refine sat_addLL (by first | omega | (simp; done) | (simp; omega)) ?_ | with_reducible refine sat_mulL (by decide) (by first | omega | (simp; done) | (simp; omega)) ?_ | with_reducible refine sat_lenS (le_line (by assumption)) ?_ | with_reducible refine sat_lcQ ?_ | refine sat_ok rfl ?_ | with_reducible refine ite_B (fun _ => ?_) (fun _ => ?_) | with_reducible refine sat_ite (fun _ => ?_) (fun _ => ?_) | with_reducible refine sat_ifB (fun _ => ?_) (fun _ => ?_) | fail); try dsimp only)
  · show U + 4 * (2 * U) ≤ topN
    omega
theorem law_true (ns : List Int) (h : ns.length ≤ 63) (hb : ∀ z ∈ ns, Builtin.Int.intBits z ≤ 1048576) : ∃ S, (fns 60).p_law [.frl (ns.map D.int)] [some (.tbl (lamQ "_law_refused_right"))] = .ok (.bool true) S := by
  obtain ⟨a, S, e, h⟩ := (law_ok h).get
  exact ⟨S, by rw [e, h]⟩
end K35

set_option Elab.async false
set_option linter.all false
set_option maxRecDepth 100000
set_option maxHeartbeats 4000000
namespace K35
open PySem PySem.Spec PyProof.Rows L2 Sm
theorem facts {P : Program} {w : World} {K : PySem.W.Frag} {h : Heap} {mg : Str → Option Value} {fa : Addr} (KX : K.In h) (GX : h.Ns mainGlobals mg) (hfa : mg "law" = some (.ref fa))
    (h_p_is_integer : DefAt K mg "is_integer" s_p_is_integer)
    (h_p_is_within : DefAt K mg "is_within" s_p_is_within)
    (h_p_need_number : DefAt K mg "need_number" s_p_need_number)
    (h_p_need_m : DefAt K mg "need_m" s_p_need_m)
    (h_p_is_wanted : DefAt K mg "is_wanted" s_p_is_wanted)
    (h_pen : DefAt K mg "_law_pen" s_pen)
    (h_draw : DefAt K mg "_law_draw" s_draw)
    (h_one_of : DefAt K mg "_law_one_of" s_one_of)
    (h_all_right : DefAt K mg "_law_all_right" s_all_right)
    (h_elder_right : DefAt K mg "_law_elder_right" s_elder_right)
    (h_refused_right : DefAt K mg "_law_refused_right" s_refused_right)
    (h_p_law : DefAt K mg "law" s_p_law)
    (h_heard : DefAt K mg "_law_heard" s_heard)
    (z_isinstance : mg "isinstance" = none)
    (z_int : mg "int" = none)
    (z_bool : mg "bool" = none)
    (z_len : mg "len" = none)
    (z_abs : mg "abs" = none)
    (z_range : mg "range" = none)
    (z_repr : mg "repr" = none)
    (z_min : mg "min" = none)
    (z_sum : mg "sum" = none)
    (c_LEAST_M : GC K mg "LEAST_M" c_LEAST_M)
    (c_MOST_M : GC K mg "MOST_M" c_MOST_M)
    (c_ROWS : GC K mg "ROWS" c_ROWS)
    (e_BadNumber : ∃ C, ErrC P K mg "BadNumber" ["part"] C)
    (e_Misfit : ∃ C, ErrC P K mg "Misfit" ["part"] C)
    (g_WeatherError : ∃ C, mg "WeatherError" = some (.ref C))
    (x_BadNumber_WeatherError : ∀ C D, mg "BadNumber" = some (.ref C) → mg "WeatherError" = some (.ref D) → PySem.W.exmOne K (.ref C) (.ref D) = some true)
    (x_Misfit_WeatherError : ∀ C D, mg "Misfit" = some (.ref C) → mg "WeatherError" = some (.ref D) → PySem.W.exmOne K (.ref C) (.ref D) = some true)
    (k1_BadNumber : ∀ C, mg "BadNumber" = some (.ref C) → ∀ t : Ty, PySem.W.kitOne K (.type t.name) (.ref C) = some false)
    (k1_Misfit : ∀ C, mg "Misfit" = some (.ref C) → ∀ t : Ty, PySem.W.kitOne K (.type t.name) (.ref C) = some false)
    (k2_BadNumber_BadNumber : ∀ C D, mg "BadNumber" = some (.ref C) → mg "BadNumber" = some (.ref D) → PySem.W.kitOne K (.ref C) (.ref D) = some true)
    (k2_BadNumber_Misfit : ∀ C D, mg "BadNumber" = some (.ref C) → mg "Misfit" = some (.ref D) → PySem.W.kitOne K (.ref C) (.ref D) = some false)
    (k2_Misfit_BadNumber : ∀ C D, mg "Misfit" = some (.ref C) → mg "BadNumber" = some (.ref D) → PySem.W.kitOne K (.ref C) (.ref D) = some false)
    (k2_Misfit_Misfit : ∀ C D, mg "Misfit" = some (.ref C) → mg "Misfit" = some (.ref D) → PySem.W.kitOne K (.ref C) (.ref D) = some true)
    (ec_BadNumber : ∀ C, mg "BadNumber" = some (.ref C) → ExcC K C)
    (ec_Misfit : ∀ C, mg "Misfit" = some (.ref C) → ExcC K C)
    (xf_part_BadNumber : ∀ C, mg "BadNumber" = some (.ref C) → XfC K C ∧ PySem.W.findIn K (.ref C) "part" = some none)
    (xf_part_Misfit : ∀ C, mg "Misfit" = some (.ref C) → XfC K C ∧ PySem.W.findIn K (.ref C) "part" = some none)
    (t_refused_right : ∃ c Q, PySem.W.tabIn K "_law_refused_right" = some (c, Q) ∧ PySem.W.codeHdIn K c Q = true ∧ h.get? Q = some { cls := .none, data := .fields #[] } ∧ K.lookup Q = none)
    : ∃ ts : List (Str × Addr × Addr), (∀ p ∈ ts, PySem.W.tabIn K p.1 = some p.2 ∧ PySem.W.codeHdIn K p.2.1 p.2.2 = true ∧ h.get? p.2.2 = some { cls := .none, data := .fields #[] } ∧ K.lookup p.2.2 = none) ∧ (ts.map fun p => p.2.2).Nodup ∧
    ∃ fd : FuncData, (∀ (s : Shared) (u : Value), BindsTo s fd ⟨[u], []⟩ [("_law_script", u)]) ∧ ∃ F : List D → M D, (∀ ns : List Int, ns.length ≤ 63 → (∀ z ∈ ns, Builtin.Int.intBits z ≤ 1048576) → ∃ S, F [.frl (ns.map D.int)] (ts.map fun p => some (.tbl (lamQ p.1))) = .ok (.bool true) S) ∧
      ∀ base : Heap, K.In base → base.Ns mainGlobals mg → (∀ p ∈ ts, LamX.TabB base mg p.2.1 p.2.2) → FnG P w K mg base 60 fa fd ["_law_script"] (spS ⟨K, mg⟩ 1 F) := by
  obtain ⟨f_p_is_integer, d_p_is_integer, F_p_is_integer, g_p_is_integer⟩ := h_p_is_integer
  have b_p_is_integer : Binds K d_p_is_integer ["value"] [] := F_p_is_integer.binds fun _ _ _ _ _ _ us hl => match us, hl with | [_], _ => rfl
  obtain ⟨f_p_is_within, d_p_is_within, F_p_is_within, g_p_is_within⟩ := h_p_is_within
  have b_p_is_within : Binds K d_p_is_within ["value", "least", "most"] [] := F_p_is_within.binds fun _ _ _ _ _ _ us hl => match us, hl with | [_, _, _], _ => rfl
  obtain ⟨f_p_need_number, d_p_need_number, F_p_need_number, g_p_need_number⟩ := h_p_need_number
  have b_p_need_number : Binds K d_p_need_number ["value", "part", "least", "most"] [] := F_p_need_number.binds fun _ _ _ _ _ _ us hl => match us, hl with | [_, _, _, _], _ => rfl
  obtain ⟨f_p_need_m, d_p_need_m, F_p_need_m, g_p_need_m⟩ := h_p_need_m
  have b_p_need_m : Binds K d_p_need_m ["value"] [] := F_p_need_m.binds fun _ _ _ _ _ _ us hl => match us, hl with | [_], _ => rfl
  obtain ⟨f_p_is_wanted, d_p_is_wanted, F_p_is_wanted, g_p_is_wanted⟩ := h_p_is_wanted
  have b_p_is_wanted : Binds K d_p_is_wanted ["done", "has", "number", "m"] [] := F_p_is_wanted.binds fun _ _ _ _ _ _ us hl => match us, hl with | [_, _, _, _], _ => rfl
  obtain ⟨f_pen, d_pen, F_pen, g_pen⟩ := h_pen
  have b_pen : Binds K d_pen ["_law_script"] [] := F_pen.binds fun _ _ _ _ _ _ us hl => match us, hl with | [_], _ => rfl
  obtain ⟨f_draw, d_draw, F_draw, g_draw⟩ := h_draw
  have b_draw : Binds K d_draw ["_law_pen_here", "_law_many"] [] := F_draw.binds fun _ _ _ _ _ _ us hl => match us, hl with | [_, _], _ => rfl
  obtain ⟨f_one_of, d_one_of, F_one_of, g_one_of⟩ := h_one_of
  have b_one_of : Binds K d_one_of ["_law_pen_here", "_law_some"] [] := F_one_of.binds fun _ _ _ _ _ _ us hl => match us, hl with | [_, _], _ => rfl
  obtain ⟨f_all_right, d_all_right, F_all_right, g_all_right⟩ := h_all_right
  have b_all_right : Binds K d_all_right ["_law_pen_here"] [] := F_all_right.binds fun _ _ _ _ _ _ us hl => match us, hl with | [_], _ => rfl
  obtain ⟨f_elder_right, d_elder_right, F_elder_right, g_elder_right⟩ := h_elder_right
  have b_elder_right : Binds K d_elder_right ["_law_pen_here"] [] := F_elder_right.binds fun _ _ _ _ _ _ us hl => match us, hl with | [_], _ => rfl
  obtain ⟨f_refused_right, d_refused_right, F_refused_right, g_refused_right⟩ := h_refused_right
  have b_refused_right : Binds K d_refused_right ["_law_pen_here"] [] := F_refused_right.binds fun _ _ _ _ _ _ us hl => match us, hl with | [_], _ => rfl
  obtain ⟨f_p_law, d_p_law, F_p_law, g_p_law⟩ := h_p_law
  have b_p_law : Binds K d_p_law ["_law_script"] [] := F_p_law.binds fun _ _ _ _ _ _ us hl => match us, hl with | [_], _ => rfl
  obtain ⟨f_heard, d_heard, F_heard, g_heard⟩ := h_heard
  have b_heard : Binds K d_heard ["_law_ask"] [] := F_heard.binds fun _ _ _ _ _ _ us hl => match us, hl with | [_], _ => rfl
  have kb_p_is_wanted_0_m_number_has_done : KBindG K d_p_is_wanted ["done", "has", "number", "m"] ["m", "number", "has", "done"] ko_p_is_wanted_0_m_number_has_done := by
    obtain ⟨oc, od, kV, doc, pm, an, cdv, ct, osl, rfl, _⟩ := F_p_is_wanted.ex
    exact ⟨fun s us ws as _ e => match us, ws, e with | [], [z0, z1, z2, z3], e => by cases e; exact .of_eq rfl, fun {_ _ _ vs us zs ws as} h1 h2 e => by
      match us, ws, h1, h2, e with
      | [], [z0, z1, z2, z3], .nil, .cons b0 (.cons b1 (.cons b2 (.cons b3 .nil))), e => cases e; exact ⟨_, rfl, .cons b3 (.cons b2 (.cons b1 (.cons b0 .nil)))⟩⟩
  obtain ⟨C_BadNumber, e_BadNumber⟩ := e_BadNumber
  have g_BadNumber := e_BadNumber.gC
  obtain ⟨C_Misfit, e_Misfit⟩ := e_Misfit
  have g_Misfit := e_Misfit.gC
  obtain ⟨C_WeatherError, g_WeatherError⟩ := g_WeatherError
  have kl_BadNumber_Misfit : KlF K mg raisedC [] subT [.own "BadNumber", .own "Misfit"] := by
    refine klF_of (fun c hc => ?_) (fun c hc => by simp at hc) (fun t ht => ?_) (fun c C hc hm => ?_) (fun c c' C C' b hc hc' hm hm' e => ?_) (fun c C t hc ht hm => ?_)
    · simp only [raisedC, List.mem_cons, List.not_mem_nil, or_false] at hc
      rcases hc with rfl | rfl
      · exact ⟨_, g_BadNumber, ec_BadNumber _ g_BadNumber⟩
      · exact ⟨_, g_Misfit, ec_Misfit _ g_Misfit⟩
    · rintro rfl; simp at ht
    · simp only [List.mem_cons, Kl.own.injEq, reduceCtorEq, List.not_mem_nil, or_false, false_or] at hc
      rcases hc with rfl | rfl
      · exact k1_BadNumber _ hm
      · exact k1_Misfit _ hm
    · simp only [raisedC, List.mem_cons, Kl.own.injEq, reduceCtorEq, List.not_mem_nil, or_false, false_or] at hc hc'
      rcases hc with rfl | rfl <;> rcases hc' with rfl | rfl
      · rw [show subT "BadNumber" "BadNumber" = some true by decide] at e; cases e; exact k2_BadNumber_BadNumber _ _ hm hm'
      · rw [show subT "BadNumber" "Misfit" = some false by decide] at e; cases e; exact k2_BadNumber_Misfit _ _ hm hm'
      · rw [show subT "Misfit" "BadNumber" = some false by decide] at e; cases e; exact k2_Misfit_BadNumber _ _ hm hm'
      · rw [show subT "Misfit" "Misfit" = some true by decide] at e; cases e; exact k2_Misfit_Misfit _ _ hm hm'
    · simp at ht
  have kl_BadNumber : KlF K mg raisedC [] subT [.own "BadNumber"] := by
    refine klF_of (fun c hc => ?_) (fun c hc => by simp at hc) (fun t ht => ?_) (fun c C hc hm => ?_) (fun c c' C C' b hc hc' hm hm' e => ?_) (fun c C t hc ht hm => ?_)
    · simp only [raisedC, List.mem_cons, List.not_mem_nil, or_false] at hc
      rcases hc with rfl | rfl
      · exact ⟨_, g_BadNumber, ec_BadNumber _ g_BadNumber⟩
      · exact ⟨_, g_Misfit, ec_Misfit _ g_Misfit⟩
    · rintro rfl; simp at ht
    · simp only [List.mem_cons, Kl.own.injEq, reduceCtorEq, List.not_mem_nil, or_false, false_or] at hc
      rcases hc with rfl
      · exact k1_BadNumber _ hm
    · simp only [raisedC, List.mem_cons, Kl.own.injEq, reduceCtorEq, List.not_mem_nil, or_false, false_or] at hc hc'
      rcases hc with rfl | rfl <;> rcases hc' with rfl
      · rw [show subT "BadNumber" "BadNumber" = some true by decide] at e; cases e; exact k2_BadNumber_BadNumber _ _ hm hm'
      · rw [show subT "Misfit" "BadNumber" = some false by decide] at e; cases e; exact k2_Misfit_BadNumber _ _ hm hm'
    · simp at ht
  have xf_part : XldC K mg "part" ["BadNumber", "Misfit"] := by
    intro c hc
    simp only [List.mem_cons, List.not_mem_nil, or_false] at hc
    rcases hc with rfl | rfl
    · exact ⟨_, g_BadNumber, xf_part_BadNumber _ g_BadNumber⟩
    · exact ⟨_, g_Misfit, xf_part_Misfit _ g_Misfit⟩
  obtain ⟨cd_refused_right, P_refused_right, t_refused_right, u_refused_right⟩ := t_refused_right
  have tc_refused_right : d_refused_right.code = .ref cd_refused_right := by
    obtain ⟨oc, od, kV, doc, pm, an, cdv, ct, osl, e, lk, _⟩ := F_refused_right.ex
    exact (tabIs_in KX GX t_refused_right).2 _ _ _ _ _ g_refused_right lk
  have e := hfa.symm.trans g_p_law
  cases e
  let Z : Mods P K mg := ⟨f_p_is_integer, d_p_is_integer, F_p_is_integer, b_p_is_integer, g_p_is_integer, f_p_is_within, d_p_is_within, F_p_is_within, b_p_is_within, g_p_is_within, f_p_need_number, d_p_need_number, F_p_need_number, b_p_need_number, g_p_need_number, f_p_need_m, d_p_need_m, F_p_need_m, b_p_need_m, g_p_need_m, f_p_is_wanted, d_p_is_wanted, F_p_is_wanted, b_p_is_wanted, g_p_is_wanted, f_pen, d_pen, F_pen, b_pen, g_pen, f_draw, d_draw, F_draw, b_draw, g_draw, f_one_of, d_one_of, F_one_of, b_one_of, g_one_of, f_all_right, d_all_right, F_all_right, b_all_right, g_all_right, f_elder_right, d_elder_right, F_elder_right, b_elder_right, g_elder_right, f_refused_right, d_refused_right, F_refused_right, b_refused_right, g_refused_right, fa, d_p_law, F_p_law, b_p_law, g_p_law, f_heard, d_heard, F_heard, b_heard, g_heard, kb_p_is_wanted_0_m_number_has_done, z_isinstance, z_int, z_bool, z_len, z_abs, z_range, z_repr, z_min, z_sum, c_LEAST_M, c_MOST_M, c_ROWS, C_BadNumber, g_BadNumber, C_Misfit, g_Misfit, C_WeatherError, g_WeatherError, e_BadNumber, e_Misfit, x_BadNumber_WeatherError _ _ g_BadNumber g_WeatherError, x_Misfit_WeatherError _ _ g_Misfit g_WeatherError, kl_BadNumber_Misfit, kl_BadNumber, xf_part, cd_refused_right, P_refused_right, tc_refused_right, (tabIs_in KX GX t_refused_right).1⟩
  refine ⟨[("_law_refused_right", cd_refused_right, P_refused_right)], fun p hp => ?_, ?_, d_p_law, fun s u => ?_, (fns 60).p_law, law_true, fun base _ _ hT => (ok (P := P) (w := w) (base := base) Z ⟨hT ("_law_refused_right", cd_refused_right, P_refused_right) (by simp)⟩ 60).p_law⟩
  · simp only [List.mem_cons, List.not_mem_nil, or_false] at hp
    rcases hp with rfl
    · exact ⟨t_refused_right, u_refused_right⟩
  · simp
  · obtain ⟨oc, od, kV, doc, pm, an, cdv, ct, osl, rfl, _⟩ := F_p_law.ex
    exact .of_eq rfl
end K35
open PySem PySem.W PyProof.Rows
set_option pp.maxSteps 60 in
set_option maxHeartbeats 0 in
theorem PySem.Challenge.cw_fairweather_k35_letters_wanted_holds : PySem.Challenge.rw_fairweather_k35_letters_wanted.Holds := by
  w_on; o_law; k_head; (case hw => w_witness2)
  k_fill
  refine Sm.walkGT (l := PySem.Challenge.rw_fairweather_k35_letters_wanted) (n := 63) (k := 60) (x := "_law_script") rfl (by decide) rfl ⟨⟨rfl, by decide, by decide⟩, rfl⟩ (fun w h Y => PySem.W.km_in_of Y) ?F
  case F =>
    intro w mg fa h Y KX G hmg
    refine' K35.facts (h := h) KX G hmg ?h_p_is_integer ?h_p_is_within ?h_p_need_number ?h_p_need_m ?h_p_is_wanted ?h_pen ?h_draw ?h_one_of ?h_all_right ?h_elder_right ?h_refused_right ?h_p_law ?h_heard ?z_isinstance ?z_int ?z_bool ?z_len ?z_abs ?z_range ?z_repr ?z_min ?z_sum ?c_LEAST_M ?c_MOST_M ?c_ROWS ?e_BadNumber ?e_Misfit ?g_WeatherError ?x_BadNumber_WeatherError ?x_Misfit_WeatherError ?k1_BadNumber ?k1_Misfit ?k2_BadNumber_BadNumber ?k2_BadNumber_Misfit ?k2_Misfit_BadNumber ?k2_Misfit_Misfit ?ec_BadNumber ?ec_Misfit ?xf_part_BadNumber ?xf_part_Misfit ?t_refused_right
    (case h_p_is_integer => refine' Sm.at_mk KX G ?a ?l ?c ?k; (case a => k_is); (case l => k_is); (case c => k_is); (case k => k_is))
    (case h_p_is_within => refine' Sm.at_mk KX G ?a ?l ?c ?k; (case a => k_is); (case l => k_is); (case c => k_is); (case k => k_is))
    (case h_p_need_number => refine' Sm.at_mk KX G ?a ?l ?c ?k; (case a => k_is); (case l => k_is); (case c => k_is); (case k => k_is))
    (case h_p_need_m => refine' Sm.at_mk KX G ?a ?l ?c ?k; (case a => k_is); (case l => k_is); (case c => k_is); (case k => k_is))
    (case h_p_is_wanted => refine' Sm.at_mk KX G ?a ?l ?c ?k; (case a => k_is); (case l => k_is); (case c => k_is); (case k => k_is))
    (case h_pen => refine' Sm.at_mk KX G ?a ?l ?c ?k; (case a => k_is); (case l => k_is); (case c => k_is); (case k => k_is))
    (case h_draw => refine' Sm.at_mk KX G ?a ?l ?c ?k; (case a => k_is); (case l => k_is); (case c => k_is); (case k => k_is))
    (case h_one_of => refine' Sm.at_mk KX G ?a ?l ?c ?k; (case a => k_is); (case l => k_is); (case c => k_is); (case k => k_is))
    (case h_all_right => refine' Sm.at_mk KX G ?a ?l ?c ?k; (case a => k_is); (case l => k_is); (case c => k_is); (case k => k_is))
    (case h_elder_right => refine' Sm.at_mk KX G ?a ?l ?c ?k; (case a => k_is); (case l => k_is); (case c => k_is); (case k => k_is))
    (case h_refused_right => refine' Sm.at_mk KX G ?a ?l ?c ?k; (case a => k_is); (case l => k_is); (case c => k_is); (case k => k_is))
    (case h_p_law => refine' Sm.at_mk KX G ?a ?l ?c ?k; (case a => k_is); (case l => k_is); (case c => k_is); (case k => k_is))
    (case h_heard => refine' Sm.at_mk KX G ?a ?l ?c ?k; (case a => k_is); (case l => k_is); (case c => k_is); (case k => k_is))
    (case z_isinstance => refine' PySem.W.mg_none_of KX G ?a; (case a => k_is))
    (case z_int => refine' PySem.W.mg_none_of KX G ?a; (case a => k_is))
    (case z_bool => refine' PySem.W.mg_none_of KX G ?a; (case a => k_is))
    (case z_len => refine' PySem.W.mg_none_of KX G ?a; (case a => k_is))
    (case z_abs => refine' PySem.W.mg_none_of KX G ?a; (case a => k_is))
    (case z_range => refine' PySem.W.mg_none_of KX G ?a; (case a => k_is))
    (case z_repr => refine' PySem.W.mg_none_of KX G ?a; (case a => k_is))
    (case z_min => refine' PySem.W.mg_none_of KX G ?a; (case a => k_is))
    (case z_sum => refine' PySem.W.mg_none_of KX G ?a; (case a => k_is))
    (case c_LEAST_M => refine' Sm.gc_val KX G ?a ?e; (case a => k_is); (case e => rfl))
    (case c_MOST_M => refine' Sm.gc_val KX G ?a ?e; (case a => k_is); (case e => rfl))
    (case c_ROWS => refine' Sm.gc_tup KX G ?a ?l ?e ?z; (case a => k_is); (case l => k_is); (case e => rfl); (case z => decide))
    (case e_BadNumber => refine' ⟨_, Sm.errC_mk (st := K35.si_BadNumber) KX G ?aC ?cls ?hbm ?sa ?eC ?tC ?kC ?xi ?sv ?sup ?sf ?opq ?gs ?fl ?i1 ?i2 ?i3 ?i4 ?i5 ?i6 ?i7 (hk := (.cons .nil)) (s9 := fun us hl => match us, hl with | [_, _], _ => rfl)⟩; (case aC => k_is); (case cls => k_is); (case sa => k_is); (case eC => k_is); (case tC => k_is); (case kC => k_is); (case sv => k_is); (case sf => k_is); (case opq => k_is); (case gs => k_is); (case i1 => k_is); (case i2 => k_is); (case i3 => k_is); (case i4 => k_is); (case i5 => k_is); (case i7 => k_is); (case xi => kx_is); (case sup => ks_is); (case hbm => rfl); (case i6 => rfl); (case fl => (intro f hf; simp only [List.mem_cons, List.not_mem_nil, or_false] at hf; rcases hf with rfl <;> exact ⟨by k_is, by decide⟩)))
    (case e_Misfit => refine' ⟨_, Sm.errC_mk (st := K35.si_Misfit) KX G ?aC ?cls ?hbm ?sa ?eC ?tC ?kC ?xi ?sv ?sup ?sf ?opq ?gs ?fl ?i1 ?i2 ?i3 ?i4 ?i5 ?i6 ?i7 (hk := (.cons .nil)) (s9 := fun us hl => match us, hl with | [_, _], _ => rfl)⟩; (case aC => k_is); (case cls => k_is); (case sa => k_is); (case eC => k_is); (case tC => k_is); (case kC => k_is); (case sv => k_is); (case sf => k_is); (case opq => k_is); (case gs => k_is); (case i1 => k_is); (case i2 => k_is); (case i3 => k_is); (case i4 => k_is); (case i5 => k_is); (case i7 => k_is); (case xi => kx_is); (case sup => ks_is); (case hbm => rfl); (case i6 => rfl); (case fl => (intro f hf; simp only [List.mem_cons, List.not_mem_nil, or_false] at hf; rcases hf with rfl <;> exact ⟨by k_is, by decide⟩)))
    (case g_WeatherError => refine' Sm.cls_at KX G ?a; (case a => k_is))
    (case x_BadNumber_WeatherError => refine' Sm.pair_of KX G ?a ?b (PySem.W.exm_ref ?e1 ?e2 ?e3 ?e4); (case a => k_is); (case b => k_is); (case e1 => k_is); (case e2 => k_is); (case e3 => k_is); (case e4 => k_is))
    (case x_Misfit_WeatherError => refine' Sm.pair_of KX G ?a ?b (PySem.W.exm_ref ?e1 ?e2 ?e3 ?e4); (case a => k_is); (case b => k_is); (case e1 => k_is); (case e2 => k_is); (case e3 => k_is); (case e4 => k_is))
    (case k1_BadNumber => refine' Sm.one_of KX G ?a (fun t => Sm.kit_own rfl ?e1 ?e2 ?e3); (case a => k_is); (case e1 => k_is); (case e2 => k_is); (case e3 => cases t <;> k_is))
    (case k1_Misfit => refine' Sm.one_of KX G ?a (fun t => Sm.kit_own rfl ?e1 ?e2 ?e3); (case a => k_is); (case e1 => k_is); (case e2 => k_is); (case e3 => cases t <;> k_is))
    (case k2_BadNumber_BadNumber => refine' Sm.pair_of KX G ?a ?b Sm.kit_self; (case a => k_is); (case b => k_is))
    (case k2_BadNumber_Misfit => refine' Sm.pair_of KX G ?a ?b (Sm.kit_own ?e0 ?e1 ?e2 ?e3); (case a => k_is); (case b => k_is); (case e0 => decide); (case e1 => k_is); (case e2 => k_is); (case e3 => k_is))
    (case k2_Misfit_BadNumber => refine' Sm.pair_of KX G ?a ?b (Sm.kit_own ?e0 ?e1 ?e2 ?e3); (case a => k_is); (case b => k_is); (case e0 => decide); (case e1 => k_is); (case e2 => k_is); (case e3 => k_is))
    (case k2_Misfit_Misfit => refine' Sm.pair_of KX G ?a ?b Sm.kit_self; (case a => k_is); (case b => k_is))
    (case ec_BadNumber => refine' Sm.one_of KX G ?a (.mk ?e1 ?e2 ?e3 ?e4 ?e5 ?e6 ?e7 ?e8); (case a => k_is); (case e1 => k_is); (case e2 => k_is); (case e3 => k_is); (case e4 => k_is); (case e5 => k_is); (case e6 => k_is); (case e7 => k_is); (case e8 => k_is))
    (case ec_Misfit => refine' Sm.one_of KX G ?a (.mk ?e1 ?e2 ?e3 ?e4 ?e5 ?e6 ?e7 ?e8); (case a => k_is); (case e1 => k_is); (case e2 => k_is); (case e3 => k_is); (case e4 => k_is); (case e5 => k_is); (case e6 => k_is); (case e7 => k_is); (case e8 => k_is))
    (case xf_part_BadNumber => refine' Sm.one_of KX G ?a ⟨⟨?e1, ?e2, ?e3, ?e4⟩, ?e5⟩; (case a => k_is); (case e1 => k_is); (case e2 => k_is); (case e3 => k_is); (case e4 => k_is); (case e5 => k_is))
    (case xf_part_Misfit => refine' Sm.one_of KX G ?a ⟨⟨?e1, ?e2, ?e3, ?e4⟩, ?e5⟩; (case a => k_is); (case e1 => k_is); (case e2 => k_is); (case e3 => k_is); (case e4 => k_is); (case e5 => k_is))
    (case t_refused_right => refine' Sm.tabs_mk (m := mg) ?a ?l ?q1 ?q2 ?q3 ?q4 ?q5 ?q6; (case a => k_is); (case l => k_is); (case q1 => exact rfl); (case q2 => k_is); (case q3 => exact rfl); (case q4 => exact rfl); (case q5 => exact PySem.W.km_tabs_of Y _ (by decide)); (case q6 => first | kernel_rfl | rfl))
