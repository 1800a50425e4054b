import PyProof.Rows.All
import Wide.All
import OpenK.AllK
import Wide.FinOn
import HandS.ForMost
import HandS.ForExc
import HandS.Star
import HandS.IsInst
import HandS.Deep
import HandS.TupAny
import HandS.Style
import HandS.Zip
import HandS.NoneIn
import HandS.Flow
import HandS.Lambda
import HandS.EndTab
import KE.KDflt
import PyProof.Rows.TupleMadeD
import PyProof.FString5
import PyProof.ListStr
import KE.KDictDisplayH
import HandS.Strs
import HandS.More
import KE.KDictList
import HandS.ListItems
import HandS.SetTxt0
import HandS.Set
import HandS.Text
import HandS.StrMore
import KE.GoesEnum
import KE.GoesZip
import KE.GoesMore
import KE.KDictZip
import PyProof.CollectWalk
import PyProof.WalksMore
import KE.SortData
import KE.DataFind
import HandS.ExcCtx
import HandS.ExcInit
import HandS.ExcIs
import HandS.ExcField
import HandS.SuiteRaise
import HandS.RaiseFrom
import KE.KSuper
import KE.KExcSuper
import HandS.JoinGen
import HandS.EndOwn
import PySem.Challenge.RW_unknowntables_k10_whole_refused
set_option Elab.async false
set_option linter.all false
set_option maxRecDepth 100000
set_option maxHeartbeats 4000000
namespace Fw
open PySem PySem.Spec PyProof.Rows L2

/-! ## data, and what a piece of program computes over it -/
inductive Dt where
  | non | bl (b : Bool) | int (i : Int) | str (x : List Nat)
  | tup (xs : List Dt) | lst (xs : List Dt) | ntp (xs : List Dt)
  | dk (ks : List (List Nat)) (vs : List Dt)
  | dt (ks : List (List (List Nat))) (vs : List Dt)
  | row | fn (a : Addr) | lam (i : Nat)
deriving Inhabited

inductive Mo (α : Type) where
  | ret (a : α)
  | any (P : Dt → Prop) (k : Dt → Mo α)
  | exc (c : Nat) (d : Dt)
  | err

namespace Mo
variable {α β γ : Type}
def bind : Mo α → (α → Mo β) → Mo β
  | ret a, f => f a
  | any P k, f => any P fun d => bind (k d) f
  | exc c d, _ => exc c d
  | err, _ => err
def wp : Mo α → (α → Prop) → (Nat → Dt → Prop) → Prop
  | ret a, Q, _ => Q a
  | any P k, Q, R => ∀ d, P d → wp (k d) Q R
  | exc c d, _, R => R c d
  | err, _, _ => False
theorem wp_bind {f : α → Mo β} {Q : β → Prop} {R : Nat → Dt → Prop} : ∀ {m : Mo α}, (m.bind f).wp Q R ↔ m.wp (fun a => (f a).wp Q R) R
  | ret _ => Iff.rfl
  | any P k => ⟨fun h d p => wp_bind.mp (h d p), fun h d p => wp_bind.mpr (h d p)⟩
  | exc _ _ => Iff.rfl
  | err => Iff.rfl
theorem wp_mono {Q Q' : α → Prop} {R R' : Nat → Dt → Prop} : ∀ {m : Mo α}, m.wp Q R → (∀ a, Q a → Q' a) → (∀ c d, R c d → R' c d) → m.wp Q' R'
  | ret a, h, f, _ => f a h
  | any P k, h, f, g => fun d p => wp_mono (h d p) f g
  | exc c d, h, _, g => g c d h
  | err, h, _, _ => h
theorem wp.mono {Q Q' : α → Prop} {R R' : Nat → Dt → Prop} {m : Mo α} (h : m.wp Q R) (f : ∀ a, Q a → Q' a) (g : ∀ c d, R c d → R' c d) : m.wp Q' R' := wp_mono h f g
theorem bind_assoc {f : α → Mo β} {g : β → Mo γ} : ∀ {m : Mo α}, (m.bind f).bind g = m.bind fun a => (f a).bind g
  | ret _ => rfl
  | any P k => by
    show any P _ = any P _
    congr 1
    funext d
    exact bind_assoc
  | exc _ _ => rfl
  | err => rfl
theorem bind_ret : ∀ {m : Mo α}, m.bind ret = m
  | ret _ => rfl
  | any P k => by
    show any P _ = any P _
    congr 1
    funext d
    exact bind_ret
  | exc _ _ => rfl
  | err => rfl
def map (f : α → β) (m : Mo α) : Mo β := m.bind fun a => ret (f a)
end Mo

/-- a text by its signs -/
def st (l : List Nat) : Str := ⟨l.toArray⟩
theorem st_inj {a b : List Nat} (h : st a = st b) : a = b := by
  have e : a.toArray = b.toArray := congrArg Str.cps h
  simpa using e
theorem st_cps (x : Str) : st x.cps.toList = x := by
  cases x
  simp [st]
theorem cps_st (l : List Nat) : (st l).cps.toList = l := by simp [st]
theorem st_length (l : List Nat) : (st l).length = l.length := by
  show (l.toArray).size = l.length
  simp
theorem st_append (a b : List Nat) : st a ++ st b = st (a ++ b) := by
  show (⟨a.toArray ++ b.toArray⟩ : Str) = ⟨(a ++ b).toArray⟩
  simp

/-! ## how data lies in the heap -/
/-- a lambda of the law's -/
structure LamRec where
  q : Str
  params : Arguments
  body : Expr
  scope : Scope
/-- the tables of code objects; the law's lambdas; the cells of the law's frame -/
structure Tbs where
  t : List (Addr × Str)
  l : List LamRec
  c : List (Str × Addr)
/-- an object, told whole -/
def ObjO (f : Addr) (o : Obj) : HO := .ext fun h => h.get? f = some o
/-- what the top has written, and the world's numbers (a text's hash) -/
structure Gd where
  K : PySem.W.Frag
  P : Params
  T : Tbs
abbrev _root_.L2.Cx.gd (X : L2.Cx) (T : Tbs) : Gd := ⟨X.K, X.w.params, T⟩
/-- what a write may fall upon: no table, no code object -/
def lowO : HO → Prop
  | .lst _ => True
  | .dK _ => True
  | .dT _ => True
  | .ins _ _ _ => True
  | .own _ => True
  | _ => False
/-- what stays as it is: all but tables -/
def nTb : HO → Prop
  | .tbl _ => False
  | _ => True
theorem nTb_of {o : HO} (h : ∀ ps, o ≠ .tbl ps) : nTb o := by
  cases o <;> first | trivial | (rename_i ps; exact h ps rfl)
theorem of_nTb {o : HO} (h : nTb o) : ∀ ps, o ≠ .tbl ps := fun ps e => by subst e; exact h
/-- tables and code objects stay when low things, or nothing, stand where is written -/
theorem tabs_low {T : List (Addr × Str)} {H : Hp} {p : Addr} {o : HO} (t : LamX.Tabs T H) (h : ∀ u, H p = some u → lowO u) : LamX.Tabs T (upd H p o) := fun q hq => by
  obtain ⟨ps, h1, h2, h3⟩ := t q hq
  have n1 : q.1 ≠ p := fun e => by rw [e] at h1; exact h _ h1
  refine ⟨ps, by rw [upd_ne n1]; exact h1, h2, fun pos cv hc => ?_⟩
  obtain ⟨c, e1, e2⟩ := h3 pos cv hc
  have n2 : c ≠ p := fun e => by rw [e] at e2; exact h _ e2
  exact ⟨c, e1, by rw [upd_ne n2]; exact e2⟩
/-- a written dict's entries with text keys -/
inductive KEnts (P : Params) : List DictEntry → List (Key × V) → Prop where
  | nil : KEnts P [] []
  | cons {e : DictEntry} {es : List DictEntry} {x : Str} {t : Tok} {v : V} {kvs : List (Key × V)} : e.key = .str x t → e.hash = PyData.keyHash P x → RelV v e.val → KEnts P es kvs → KEnts P (e :: es) ((Sum.inr x, v) :: kvs)
def KDk (K : PySem.W.Frag) (P : Params) (a : Addr) (kvs : List (Key × V)) : Prop := (a == sysModules) = false ∧ (kvs.map (·.1)).Nodup ∧ kvs.length ≤ 1000 ∧ ∃ es n, K.lookup a = some ⟨.type "dict", none, .dict es n, #[]⟩ ∧ KEnts P es.toList kvs
section
variable (K : Gd) (r : Addr)
/-- a tuple that the program's top has written -/
def KTup (a : Addr) (xs : List V) : Prop :=
  ∃ (o : Obj) (its : Array Value) (n : Nat), K.K.lookup a = some o ∧ o.cls = .type "tuple" ∧ o.data = .seq its n ∧ its.size ≤ sizeLine ∧ Vals xs its.toList
/-- a dict with text keys: tracked, or written -/
def DkAt (Z : Addr → Prop) (H : Hp) (a : Addr) (kvs : List (Key × V)) : Prop := (Z a ∧ H a = some (.dK kvs)) ∨ KDk K.K K.P a kvs
def kS (ks : List (List Nat)) : List Key := ks.map fun k => Sum.inr (st k)
/-- the keys of a dict with tuple keys -/
def kT (ks : List (List (List Nat))) : List (List Key) := ks.map fun k => k.map fun x => (Sum.inr (st x) : Key)
def TupAt (Z : Addr → Prop) (H : Hp) (a : Addr) (vs : List V) : Prop := (Z a ∧ H a = some (.tup vs)) ∨ KTup K a vs
theorem TupAt.sq {Z : Addr → Prop} {H : Hp} {a : Addr} {vs : List V} (h : TupAt K Z H a vs) : SqT K.K H a vs := by
  rcases h with ⟨_, h⟩ | h
  · exact .inl (.inl h)
  · exact .inr h
/-- the lambda number i of the law's frame stands at f -/
def LamAt (Z : Addr → Prop) (H : Hp) (f : Addr) (i : Nat) : Prop := ∃ (R : LamRec) (c' : Addr) (dV doc pm ctv : Value), K.T.l[i]? = some R ∧ Z f ∧
  H f = some (ObjO f { cls := .type "function", data := .func (PySem.W.kdv_fn "<lambda>" R.q R.params (.expr R.body) R.scope (cloFrom K.T.c R.scope.names []) dV doc pm (.ref c') ctv) }) ∧ Z c' ∧ H c' = some (LamX.CodeO c' R.q) ∧
  ((R.params.defaults = [] ∧ dV = .none) ∨ (R.params.defaults ≠ [] ∧ ∃ (T0 : Addr) (z : Int) (t : Tok), dV = .ref T0 ∧ Z T0 ∧ H T0 = some (ObjO T0 (PySem.W.kdv_tup [Value.int z t]))))
mutual
def Rep (Z : Addr → Prop) (H : Hp) : V → Dt → Prop
  | v, .non => v = .non
  | v, .bl b => v = .bl b
  | v, .int i => v = .int i
  | v, .str x => v = .str (st x)
  | v, .tup ds => ∃ a vs, v = .ref a ∧ TupAt K Z H a vs ∧ vs.length ≤ sizeLine ∧ Reps Z H vs ds
  | v, .lst ds => ∃ a vs, v = .ref a ∧ Z a ∧ H a = some (.lst vs) ∧ vs.length ≤ sizeLine ∧ Reps Z H vs ds
  | v, .ntp ds => ∃ a vs ob, v = .ref a ∧ Z a ∧ H a = some (.frz ob (.tup vs)) ∧ ob.dict = none ∧ vs.length ≤ sizeLine ∧ Reps Z H vs ds
  | v, .dk ks ds => ∃ a vs, v = .ref a ∧ DkAt K Z H a ((kS ks).zip vs) ∧ ks.length = vs.length ∧ ks.length < 1000 ∧ Reps Z H vs ds
  | v, .dt ks ds => ∃ a vs, v = .ref a ∧ Z a ∧ H a = some (.dT ((kT ks).zip vs)) ∧ ks.length = vs.length ∧ ks.length < 1000 ∧ Reps Z H vs ds
  | v, .row => v = .ref r
  | v, .fn a => v = .ref a
  | v, .lam i => ∃ f, v = .ref f ∧ LamAt K Z H f i
def Reps (Z : Addr → Prop) (H : Hp) : List V → List Dt → Prop
  | vs, [] => vs = []
  | vs, d :: ds => ∃ v us, vs = v :: us ∧ Rep Z H v d ∧ Reps Z H us ds
end
/-- what is frozen stays -/
def Frz (Z : Addr → Prop) (H : Hp) (Z' : Addr → Prop) (H' : Hp) : Prop := ∀ a, Z a → Z' a ∧ H' a = H a
variable {K r}
theorem TupAt.frz {Z Z' : Addr → Prop} {H H' : Hp} (f : Frz Z H Z' H') {a : Addr} {vs : List V} (h : TupAt K Z H a vs) : TupAt K Z' H' a vs := by
  rcases h with ⟨z, h⟩ | h
  · exact .inl ⟨(f a z).1, by rw [(f a z).2]; exact h⟩
  · exact .inr h
theorem DkAt.frz {Z Z' : Addr → Prop} {H H' : Hp} (f : Frz Z H Z' H') {a : Addr} {kvs : List (Key × V)} (h : DkAt K Z H a kvs) : DkAt K Z' H' a kvs := by
  rcases h with ⟨z, h⟩ | h
  · exact .inl ⟨(f a z).1, by rw [(f a z).2]; exact h⟩
  · exact .inr h
theorem LamAt.frz {Z Z' : Addr → Prop} {H H' : Hp} (f : Frz Z H Z' H') {a : Addr} {i : Nat} (h : LamAt K Z H a i) : LamAt K Z' H' a i := by
  obtain ⟨R, c', dV, doc, pm, ctv, e1, z1, h1, z2, h2, d⟩ := h
  refine ⟨R, c', dV, doc, pm, ctv, e1, (f _ z1).1, by rw [(f _ z1).2]; exact h1, (f _ z2).1, by rw [(f _ z2).2]; exact h2, ?_⟩
  rcases d with d | ⟨d0, T0, z, t, d1, z3, h3⟩
  · exact .inl d
  · exact .inr ⟨d0, T0, z, t, d1, (f _ z3).1, by rw [(f _ z3).2]; exact h3⟩
mutual
theorem Rep.frz {Z Z' : Addr → Prop} {H H' : Hp} (f : Frz Z H Z' H') : ∀ {v : V} {d : Dt}, Rep K r Z H v d → Rep K r Z' H' v d
  | v, .non, h => by simpa only [Rep] using h
  | v, .bl b, h => by simpa only [Rep] using h
  | v, .int i, h => by simpa only [Rep] using h
  | v, .str x, h => by simpa only [Rep] using h
  | v, .row, h => by simpa only [Rep] using h
  | v, .fn a, h => by simpa only [Rep] using h
  | v, .lam i, h => by
    unfold Rep at h ⊢
    obtain ⟨a, e, q⟩ := h
    exact ⟨a, e, q.frz f⟩
  | v, .tup ds, h => by
    unfold Rep at h ⊢
    obtain ⟨a, vs, e, t, l, q⟩ := h
    exact ⟨a, vs, e, t.frz f, l, Reps.frz f q⟩
  | v, .lst ds, h => by
    unfold Rep at h ⊢
    obtain ⟨a, vs, e, z, t, l, q⟩ := h
    exact ⟨a, vs, e, (f a z).1, by rw [(f a z).2]; exact t, l, Reps.frz f q⟩
  | v, .ntp ds, h => by
    unfold Rep at h ⊢
    obtain ⟨a, vs, ob, e, z, t, od, l, q⟩ := h
    exact ⟨a, vs, ob, e, (f a z).1, by rw [(f a z).2]; exact t, od, l, Reps.frz f q⟩
  | v, .dk ks ds, h => by
    unfold Rep at h ⊢
    obtain ⟨a, vs, e, t, l, l2, q⟩ := h
    exact ⟨a, vs, e, t.frz f, l, l2, Reps.frz f q⟩
  | v, .dt ks ds, h => by
    unfold Rep at h ⊢
    obtain ⟨a, vs, e, z, t, l, l2, q⟩ := h
    exact ⟨a, vs, e, (f a z).1, by rw [(f a z).2]; exact t, l, l2, Reps.frz f q⟩
theorem Reps.frz {Z Z' : Addr → Prop} {H H' : Hp} (f : Frz Z H Z' H') : ∀ {vs : List V} {ds : List Dt}, Reps K r Z H vs ds → Reps K r Z' H' vs ds
  | vs, [], h => by simpa only [Reps] using h
  | vs, d :: ds, h => by
    unfold Reps at h ⊢
    obtain ⟨v, us, e, h1, h2⟩ := h
    exact ⟨v, us, e, Rep.frz f h1, Reps.frz f h2⟩
end
theorem Reps.nil {Z : Addr → Prop} {H : Hp} : Reps K r Z H [] [] := by unfold Reps; rfl
theorem Reps.cons {Z : Addr → Prop} {H : Hp} {v : V} {d : Dt} {vs : List V} {ds : List Dt} (h : Rep K r Z H v d) (t : Reps K r Z H vs ds) : Reps K r Z H (v :: vs) (d :: ds) := by
  unfold Reps
  exact ⟨v, vs, rfl, h, t⟩
theorem Reps.inv_nil {Z : Addr → Prop} {H : Hp} {vs : List V} (h : Reps K r Z H vs []) : vs = [] := by unfold Reps at h; exact h
theorem Reps.inv_cons {Z : Addr → Prop} {H : Hp} {d : Dt} {vs : List V} {ds : List Dt} (h : Reps K r Z H vs (d :: ds)) : ∃ v us, vs = v :: us ∧ Rep K r Z H v d ∧ Reps K r Z H us ds := by unfold Reps at h; exact h
theorem Reps.length {Z : Addr → Prop} {H : Hp} : ∀ {ds : List Dt} {vs : List V}, Reps K r Z H vs ds → vs.length = ds.length
  | [], vs, h => by rw [h.inv_nil]; rfl
  | d :: ds, vs, h => by
    obtain ⟨v, us, rfl, _, t⟩ := h.inv_cons
    show us.length + 1 = ds.length + 1
    rw [Reps.length t]
theorem Reps.get {Z : Addr → Prop} {H : Hp} : ∀ {ds : List Dt} {vs : List V} {i : Nat} {d : Dt}, Reps K r Z H vs ds → ds[i]? = some d → ∃ v, vs[i]? = some v ∧ Rep K r Z H v d
  | [], vs, i, d, _, e => by simp at e
  | x :: ds, vs, 0, d, h, e => by
    obtain ⟨v, us, rfl, q, t⟩ := h.inv_cons
    have e' : x = d := by simpa using e
    subst e'
    exact ⟨v, rfl, q⟩
  | x :: ds, vs, i + 1, d, h, e => by
    obtain ⟨v, us, rfl, q, t⟩ := h.inv_cons
    have e' : ds[i]? = some d := by simpa using e
    obtain ⟨w, e1, e2⟩ := Reps.get t e'
    exact ⟨w, by simpa using e1, e2⟩
theorem Reps.append {Z : Addr → Prop} {H : Hp} : ∀ {ds es : List Dt} {vs us : List V}, Reps K r Z H vs ds → Reps K r Z H us es → Reps K r Z H (vs ++ us) (ds ++ es)
  | [], es, vs, us, h, q => by rw [h.inv_nil]; exact q
  | d :: ds, es, vs, us, h, q => by
    obtain ⟨v, ws, rfl, a, t⟩ := h.inv_cons
    exact Reps.cons a (Reps.append t q)
theorem Reps.drop {Z : Addr → Prop} {H : Hp} : ∀ {n : Nat} {ds : List Dt} {vs : List V}, Reps K r Z H vs ds → Reps K r Z H (vs.drop n) (ds.drop n)
  | 0, ds, vs, h => h
  | n + 1, [], vs, h => by rw [h.inv_nil]; exact Reps.nil
  | n + 1, d :: ds, vs, h => by
    obtain ⟨v, ws, rfl, a, t⟩ := h.inv_cons
    exact Reps.drop (n := n) t
theorem Reps.take {Z : Addr → Prop} {H : Hp} : ∀ {n : Nat} {ds : List Dt} {vs : List V}, Reps K r Z H vs ds → Reps K r Z H (vs.take n) (ds.take n)
  | 0, ds, vs, h => Reps.nil
  | n + 1, [], vs, h => by rw [h.inv_nil]; exact Reps.nil
  | n + 1, d :: ds, vs, h => by
    obtain ⟨v, ws, rfl, a, t⟩ := h.inv_cons
    exact Reps.cons a (Reps.take (n := n) t)
theorem Reps.set {Z : Addr → Prop} {H : Hp} {x : V} {y : Dt} (q : Rep K r Z H x y) : ∀ {n : Nat} {ds : List Dt} {vs : List V}, Reps K r Z H vs ds → Reps K r Z H (vs.set n x) (ds.set n y)
  | n, [], vs, h => by rw [h.inv_nil]; exact Reps.nil
  | 0, d :: ds, vs, h => by
    obtain ⟨v, ws, rfl, a, t⟩ := h.inv_cons
    exact Reps.cons q t
  | n + 1, d :: ds, vs, h => by
    obtain ⟨v, ws, rfl, a, t⟩ := h.inv_cons
    exact Reps.cons a (Reps.set q (n := n) t)

/-! ## the row of draws; growth -/
variable (K r)
/-- the script: frozen, or written -/
def ScrAt (Z : Addr → Prop) (H : Hp) (a : Addr) (ns : List Int) : Prop := (Z a ∧ Rd H a (.lst (ns.map V.int))) ∨
    ∃ (o : Obj) (its : Array Value) (n : Nat), K.K.lookup a = some o ∧ o.cls = .type "list" ∧ o.dict = none ∧ o.data = .seq its n ∧ its.size ≤ sizeLine ∧ Vals (ns.map V.int) its.toList
def RowOk (Z : Addr → Prop) (H : Hp) : Prop := ∃ (a : Addr) (ns : List Int) (i s k : Int), H r = some (.lst [.ref a, .int i, .int s, .int k]) ∧ ScrAt K Z H a ns ∧ ns.length ≤ 63 ∧ 0 ≤ i ∧ 0 ≤ s ∧ s < 2147483647 ∧ 0 ≤ k
structure Wf (Z : Addr → Prop) (H : Hp) : Prop where
  row : RowOk K r Z H
  rz : ¬ Z r
  al : ∀ a, Z a → ∃ o, H a = some o ∧ nTb o
  tb : LamX.Tabs K.T.t H
structure Ext (Z : Addr → Prop) (H : Hp) (Z' : Addr → Prop) (H' : Hp) : Prop where
  wf : Wf K r Z' H'
  grow : ∀ a o, a ≠ r → H a = some o → nTb o → H' a = some o
  tgrow : ∀ a ps, H a = some (.tbl ps) → ∃ qs, H' a = some (.tbl qs)
  sub : ∀ a, Z a → Z' a
  new : ∀ a, Z' a → Z a ∨ H a = none ∨ ∃ φ, H a = some (.ext φ)
variable {K r}
theorem ScrAt.sq {Z : Addr → Prop} {H : Hp} {a : Addr} {ns : List Int} (h : ScrAt K Z H a ns) : SqL K.K H a (ns.map V.int) := by
  rcases h with ⟨_, h⟩ | h
  · exact .inl h
  · exact .inr h
theorem ScrAt.frz {Z Z' : Addr → Prop} {H H' : Hp} (f : Frz Z H Z' H') {a : Addr} {ns : List Int} (h : ScrAt K Z H a ns) : ScrAt K Z' H' a ns := by
  rcases h with ⟨z, h⟩ | h
  · refine .inl ⟨(f a z).1, ?_⟩
    unfold Rd
    rw [(f a z).2]
    exact h
  · exact .inr h
theorem Ext.refl {Z : Addr → Prop} {H : Hp} (w : Wf K r Z H) : Ext K r Z H Z H := ⟨w, fun _ _ _ e _ => e, fun _ ps e => ⟨ps, e⟩, fun _ z => z, fun _ z => .inl z⟩
theorem Wf.rsome {Z : Addr → Prop} {H : Hp} (w : Wf K r Z H) : H r ≠ none := by
  obtain ⟨a, ns, i, s, k, e, _⟩ := w.row
  rw [e]
  exact fun z => nomatch z
theorem tb_or (o : HO) : nTb o ∨ ∃ ps, o = .tbl ps := by
  cases o <;> first | exact .inl trivial | (rename_i ps; exact .inr ⟨ps, rfl⟩)
theorem Ext.noneOf {Z Z' : Addr → Prop} {H H' : Hp} (e : Ext K r Z H Z' H') {a : Addr} (h : H' a = none) : H a = none := by
  cases q : H a with
  | none => rfl
  | some o =>
    by_cases ar : a = r
    · subst ar
      exact absurd h e.wf.rsome
    · rcases tb_or o with n | ⟨ps, rfl⟩
      · rw [e.grow a o ar q n] at h
        cases h
      · obtain ⟨qs, e2⟩ := e.tgrow a ps q
        rw [e2] at h
        cases h
/-- a low object is not new, nor a code object -/
theorem new_no {H : Hp} {a : Addr} {o : HO} (q : H a = none ∨ ∃ φ, H a = some (.ext φ)) (h : H a = some o) (l : lowO o) : False := by
  rcases q with q | ⟨φ, q⟩
  · rw [q] at h; cases h
  · rw [q] at h; cases h; exact l
theorem Ext.newOf {Z Z' : Addr → Prop} {H H' : Hp} (e : Ext K r Z H Z' H') {a : Addr} (h : H' a = none ∨ ∃ φ, H' a = some (.ext φ)) : H a = none ∨ ∃ φ, H a = some (.ext φ) := by
  rcases h with h | ⟨φ, h⟩
  · exact .inl (e.noneOf h)
  · cases q : H a with
    | none => exact .inl rfl
    | some o =>
      by_cases ar : a = r
      · subst ar
        obtain ⟨b, ns, i, s, k, e2, _⟩ := e.wf.row
        rw [e2] at h
        cases h
      · rcases tb_or o with n | ⟨ps, rfl⟩
        · have := e.grow a o ar q n
          rw [h] at this
          cases this
          exact .inr ⟨φ, rfl⟩
        · obtain ⟨qs, e2⟩ := e.tgrow a ps q
          rw [e2] at h
          cases h
theorem Ext.trans {Z Z1 Z2 : Addr → Prop} {H H1 H2 : Hp} (a : Ext K r Z H Z1 H1) (b : Ext K r Z1 H1 Z2 H2) : Ext K r Z H Z2 H2 :=
  ⟨b.wf, fun c o n e q => b.grow c o n (a.grow c o n e q) q, fun c ps e => by
    obtain ⟨qs, e2⟩ := a.tgrow c ps e
    exact b.tgrow c qs e2, fun c z => b.sub c (a.sub c z), fun c z => by
    rcases b.new c z with z | z
    · exact a.new c z
    · exact .inr (a.newOf z)⟩
theorem Wf.alN {Z : Addr → Prop} {H : Hp} (w : Wf K r Z H) {a : Addr} (z : Z a) : H a ≠ none := by
  obtain ⟨o, e, _⟩ := w.al a z
  rw [e]
  exact fun z => nomatch z
theorem Ext.frz {Z Z1 : Addr → Prop} {H H1 : Hp} (w : Wf K r Z H) (a : Ext K r Z H Z1 H1) : Frz Z H Z1 H1 := fun c z => ⟨a.sub c z, by
  obtain ⟨o, e, n⟩ := w.al c z
  rw [e]
  exact a.grow c o (fun e => w.rz (e ▸ z)) e n⟩
theorem Frz.refl {Z : Addr → Prop} {H : Hp} : Frz Z H Z H := fun _ z => ⟨z, rfl⟩
theorem Frz.trans {Z Z1 Z2 : Addr → Prop} {H H1 H2 : Hp} (a : Frz Z H Z1 H1) (b : Frz Z1 H1 Z2 H2) : Frz Z H Z2 H2 := fun c z =>
  ⟨(b c (a c z).1).1, by rw [(b c (a c z).1).2, (a c z).2]⟩
/-- a write outside the zone and the row -/
theorem Wf.put {Z : Addr → Prop} {H : Hp} {p : Addr} {o : HO} (w : Wf K r Z H) (hp : p ≠ r) (hz : ¬ Z p) (hl : ∀ u, H p = some u → lowO u) : Wf K r Z (upd H p o) := by
  have f : Frz Z H Z (upd H p o) := fun a z => ⟨z, upd_ne fun e => hz (e ▸ z)⟩
  obtain ⟨a, ns, i, s, k, e, hs, q⟩ := w.row
  refine ⟨⟨a, ns, i, s, k, by rw [upd_ne (Ne.symm hp)]; exact e, hs.frz f, q⟩, w.rz, fun a z => ?_, tabs_low w.tb hl⟩
  rw [(f a z).2]
  exact w.al a z
theorem low_none {H : Hp} {p : Addr} (h : H p = none) : ∀ u, H p = some u → lowO u := fun u e => by rw [h] at e; cases e
theorem low_at {H : Hp} {p : Addr} {o : HO} (h : H p = some o) (l : lowO o) : ∀ u, H p = some u → lowO u := fun u e => by rw [h] at e; cases e; exact l
theorem frz_upd {Z : Addr → Prop} {H : Hp} {p : Addr} {o : HO} (hz : ¬ Z p) : Frz Z H Z (upd H p o) := fun a z => ⟨z, upd_ne fun e => hz (e ▸ z)⟩
/-- a larger zone -/
def Zp (Z : Addr → Prop) (p : Addr) : Addr → Prop := fun a => Z a ∨ a = p
theorem Wf.zp {Z : Addr → Prop} {H : Hp} {p : Addr} (w : Wf K r Z H) (hp : p ≠ r) (hn : ∃ o, H p = some o ∧ nTb o) : Wf K r (Zp Z p) H := by
  obtain ⟨a, ns, i, s, k, e, hs, q⟩ := w.row
  refine ⟨⟨a, ns, i, s, k, e, hs.frz fun a z => ⟨.inl z, rfl⟩, q⟩, fun z => z.elim w.rz fun e => hp e.symm, fun a z => ?_, w.tb⟩
  rcases z with z | z
  · exact w.al a z
  · rw [z]; exact hn
theorem Wf.nz {Z : Addr → Prop} {H : Hp} {p : Addr} (w : Wf K r Z H) (hn : H p = none) : ¬ Z p ∧ p ≠ r := ⟨fun z => w.alN z hn, fun e => w.rsome (e ▸ hn)⟩
/-- a new object, outside the zone | in it -/
theorem Ext.own {Z : Addr → Prop} {H : Hp} {p : Addr} {o : HO} (w : Wf K r Z H) (hn : H p = none) : Ext K r Z H Z (upd H p o) :=
  ⟨w.put (w.nz hn).2 (w.nz hn).1 (low_none hn), fun a u _ e _ => by rw [upd_ne (ne_of_none e hn)]; exact e, fun a ps e => ⟨ps, by rw [upd_ne (ne_of_none e hn)]; exact e⟩, fun _ z => z, fun _ z => .inl z⟩
theorem Ext.laid {Z : Addr → Prop} {H : Hp} {p : Addr} {o : HO} (w : Wf K r Z H) (hn : H p = none) (ho : nTb o := by trivial) : Ext K r Z H (Zp Z p) (upd H p o) := by
  have e := Ext.own (o := o) w hn
  refine ⟨e.wf.zp (w.nz hn).2 ⟨o, upd_same, ho⟩, e.grow, e.tgrow, fun a z => .inl z, fun a z => ?_⟩
  rcases z with z | z
  · exact .inl z
  · rw [z]; exact .inr (.inl hn)
/-- a low object that was not there before H0 is written -/
theorem Ext.wr {Z0 Z : Addr → Prop} {H0 H : Hp} {p : Addr} {o u : HO} (e : Ext K r Z0 H0 Z H) (hp : p ≠ r) (hz : ¬ Z p) (hn : H0 p = none) (hu : H p = some u) (hl : lowO u) : Ext K r Z0 H0 Z (upd H p o) :=
  ⟨e.wf.put hp hz (low_at hu hl), fun b o' nb q n => by rw [upd_ne (ne_of_none q hn)]; exact e.grow b o' nb q n, fun b ps q => by
    rw [upd_ne (ne_of_none q hn)]
    exact e.tgrow b ps q, e.sub, e.new⟩
end
end Fw
set_option Elab.async false
set_option linter.all false
set_option maxRecDepth 100000
set_option maxHeartbeats 4000000
namespace Fw
open PySem PySem.Spec PyProof.Rows L2

/-! ## slots -/
inductive Slo where
  | un | fz (d : Dt) | ol (ds : List Dt) | od (ks : List (List (List Nat))) (ds : List Dt)
deriving Inhabited
abbrev En := List Slo
abbrev Sg := L2.St
section
variable (K : Gd) (r : Addr)
def SlOk (Z : Addr → Prop) (H : Hp) (v : Option V) : Slo → Prop
  | .un => True
  | .fz d => ∃ x, v = some x ∧ Rep K r Z H x d
  | .ol ds => ∃ p vs, v = some (.ref p) ∧ p ≠ r ∧ ¬ Z p ∧ H p = some (.lst vs) ∧ vs.length ≤ sizeLine ∧ Reps K r Z H vs ds
  | .od ks ds => ∃ p vs, v = some (.ref p) ∧ p ≠ r ∧ ¬ Z p ∧ H p = some (.dT ((kT ks).zip vs)) ∧ ks.length = vs.length ∧ ks.length < 1000 ∧ Reps K r Z H vs ds
def isOwn : Slo → Bool
  | .ol _ => true
  | .od _ _ => true
  | _ => false
/-- an own object stands in one slot alone -/
def OwnOk (σ : Sg) (ρ : En) : Prop := ∀ (i j : Nat) (s t : Slo) (p : Addr), ρ[i]? = some s → ρ[j]? = some t → isOwn s = true → isOwn t = true → σ[i]? = some (some (.ref p)) → σ[j]? = some (some (.ref p)) → i = j
structure StOk (Z : Addr → Prop) (H : Hp) (σ : Sg) (ρ : En) : Prop where
  len : ρ.length = σ.length
  sl : ∀ (i : Nat) (v : Option V) (s : Slo), σ[i]? = some v → ρ[i]? = some s → SlOk K r Z H v s
  own : OwnOk σ ρ
variable {K r}
theorem SlOk.ext {Z Z' : Addr → Prop} {H H' : Hp} (w : Wf K r Z H) (e : Ext K r Z H Z' H') {v : Option V} : ∀ {s : Slo}, SlOk K r Z H v s → SlOk K r Z' H' v s
  | .un, _ => trivial
  | .fz d, ⟨x, e1, h⟩ => ⟨x, e1, h.frz (e.frz w)⟩
  | .ol ds, ⟨p, vs, e1, n, z, h, l, q⟩ => ⟨p, vs, e1, n, fun z' => (e.new p z').elim z (fun hn => new_no hn h trivial), e.grow p _ n h trivial, l, q.frz (e.frz w)⟩
  | .od ks ds, ⟨p, vs, e1, n, z, h, l, l2, q⟩ => ⟨p, vs, e1, n, fun z' => (e.new p z').elim z (fun hn => new_no hn h trivial), e.grow p _ n h trivial, l, l2, q.frz (e.frz w)⟩
theorem StOk.ext {Z Z' : Addr → Prop} {H H' : Hp} {σ : Sg} {ρ : En} (w : Wf K r Z H) (e : Ext K r Z H Z' H') (s : StOk K r Z H σ ρ) : StOk K r Z' H' σ ρ :=
  ⟨s.len, fun i v t e1 e2 => (s.sl i v t e1 e2).ext w e, s.own⟩
theorem StOk.get {Z : Addr → Prop} {H : Hp} {σ : Sg} {ρ : En} (s : StOk K r Z H σ ρ) {i : Nat} {t : Slo} (e : ρ[i]? = some t) : ∃ v, σ[i]? = some v ∧ SlOk K r Z H v t := by
  obtain ⟨h1, _⟩ := List.getElem?_eq_some_iff.mp e
  have h2 : i < σ.length := by rw [← s.len]; exact h1
  exact ⟨σ[i], List.getElem?_eq_getElem h2, s.sl i _ t (List.getElem?_eq_getElem h2) e⟩
end
/-! ## the readings -/
abbrev XRel := Hp → Nat → Dt → Value → Option Addr → Prop
section
variable (K : Gd) (XR : XRel) (E : Sg → XK)
def PV (r : Addr) (Z : Addr → Prop) (H : Hp) (Q : VK) : Dt → Prop := fun d => ∀ v H' Z', Ext K r Z H Z' H' → Rep K r Z' H' v d → Q v H'
def PL (r : Addr) (Z : Addr → Prop) (H : Hp) (Q : List V → Hp → Prop) : List Dt → Prop := fun ds => ∀ vs H' Z', Ext K r Z H Z' H' → Reps K r Z' H' vs ds → Q vs H'
def PB (r : Addr) (Z : Addr → Prop) (H : Hp) (Q : Bool → Hp → Prop) : Bool → Prop := fun b => ∀ H' Z', Ext K r Z H Z' H' → Q b H'
def PX (r : Addr) (Z : Addr → Prop) (H : Hp) (E : XK) : Nat → Dt → Prop := fun c d => ∀ cv od H' Z', Ext K r Z H Z' H' → XR H' c d cv od → E cv od H'
/-- an expression's reading: what it computes over the slots' data -/
def tM (m : En → Mo Dt) : TE := fun σ H Q => ∃ r Z ρ, Wf K r Z H ∧ StOk K r Z H σ ρ ∧ (m ρ).wp (PV K r Z H Q) (PX K XR r Z H (E σ))
def tMs (m : En → Mo (List Dt)) : TA := fun σ H Q => ∃ r Z ρ, Wf K r Z H ∧ StOk K r Z H σ ρ ∧ (m ρ).wp (PL K r Z H Q) (PX K XR r Z H (E σ))
def tMb (m : En → Mo Bool) : TT := fun σ H Q => ∃ r Z ρ, Wf K r Z H ∧ StOk K r Z H σ ρ ∧ (m ρ).wp (PB K r Z H Q) (PX K XR r Z H (E σ))
end
section
variable {K : Gd} {XR : XRel} {E : Sg → XK} {r : Addr} {Z Z1 : Addr → Prop} {H H1 : Hp}
theorem PV.ext {Q : VK} {d : Dt} (h : PV K r Z H Q d) (e : Ext K r Z H Z1 H1) : PV K r Z1 H1 Q d := fun v H' Z' e' q => h v H' Z' (e.trans e') q
theorem PL.ext {Q : List V → Hp → Prop} {d : List Dt} (h : PL K r Z H Q d) (e : Ext K r Z H Z1 H1) : PL K r Z1 H1 Q d := fun v H' Z' e' q => h v H' Z' (e.trans e') q
theorem PB.ext {Q : Bool → Hp → Prop} {d : Bool} (h : PB K r Z H Q d) (e : Ext K r Z H Z1 H1) : PB K r Z1 H1 Q d := fun H' Z' e' => h H' Z' (e.trans e')
theorem PX.ext {E : XK} {c : Nat} {d : Dt} (h : PX K XR r Z H E c d) (e : Ext K r Z H Z1 H1) : PX K XR r Z1 H1 E c d := fun cv od H' Z' e' q => h cv od H' Z' (e.trans e') q
theorem PV.at {Q : VK} {d : Dt} (w : Wf K r Z H) (h : PV K r Z H Q d) {v : V} (q : Rep K r Z H v d) : Q v H := h v H Z (Ext.refl w) q

variable {β : Type} {σ : Sg} {ρ : En}
/-- a first part, then the rest -/
theorem tM.split {m : En → Mo Dt} {k : Dt → Mo β} {P : β → Prop} {Q : VK} (w : Wf K r Z H) (s : StOk K r Z H σ ρ) (h : ((m ρ).bind k).wp P (PX K XR r Z H (E σ)))
    (hQ : ∀ v H1 Z1 d, Ext K r Z H Z1 H1 → Wf K r Z1 H1 → StOk K r Z1 H1 σ ρ → Rep K r Z1 H1 v d → (k d).wp P (PX K XR r Z H (E σ)) → Q v H1) : tM K XR E m σ H Q :=
  ⟨r, Z, ρ, w, s, (Mo.wp_bind.mp h).mono (fun d hd v H1 Z1 e rp => hQ v H1 Z1 d e e.wf (s.ext w e) rp hd) fun _ _ x => x⟩
theorem tMs.split {m : En → Mo (List Dt)} {k : List Dt → Mo β} {P : β → Prop} {Q : List V → Hp → Prop} (w : Wf K r Z H) (s : StOk K r Z H σ ρ) (h : ((m ρ).bind k).wp P (PX K XR r Z H (E σ)))
    (hQ : ∀ v H1 Z1 d, Ext K r Z H Z1 H1 → Wf K r Z1 H1 → StOk K r Z1 H1 σ ρ → Reps K r Z1 H1 v d → (k d).wp P (PX K XR r Z H (E σ)) → Q v H1) : tMs K XR E m σ H Q :=
  ⟨r, Z, ρ, w, s, (Mo.wp_bind.mp h).mono (fun d hd v H1 Z1 e rp => hQ v H1 Z1 d e e.wf (s.ext w e) rp hd) fun _ _ x => x⟩
theorem tMb.split {m : En → Mo Bool} {k : Bool → Mo β} {P : β → Prop} {Q : Bool → Hp → Prop} (w : Wf K r Z H) (s : StOk K r Z H σ ρ) (h : ((m ρ).bind k).wp P (PX K XR r Z H (E σ)))
    (hQ : ∀ H1 Z1 d, Ext K r Z H Z1 H1 → Wf K r Z1 H1 → StOk K r Z1 H1 σ ρ → (k d).wp P (PX K XR r Z H (E σ)) → Q d H1) : tMb K XR E m σ H Q :=
  ⟨r, Z, ρ, w, s, (Mo.wp_bind.mp h).mono (fun d hd H1 Z1 e => hQ H1 Z1 d e e.wf (s.ext w e) hd) fun _ _ x => x⟩
/-- the rest, from where the first part has come to -/
theorem tM.go {m : En → Mo Dt} {Q : VK} {P : Dt → Prop} (w : Wf K r Z H) (e : Ext K r Z H Z1 H1) (s : StOk K r Z1 H1 σ ρ) (h : (m ρ).wp P (PX K XR r Z H (E σ))) (hP : ∀ d, P d → PV K r Z1 H1 Q d) : tM K XR E m σ H1 Q :=
  ⟨r, Z1, ρ, e.wf, s, h.mono hP fun _ _ x => x.ext e⟩
end
section
variable {X : Cx} {Tz : Tbs} {e : Expr} {XR : XRel} {E : Sg → XK}
theorem PE.imp {t t' : TE} (h : PE X e t) (i : ∀ σ H Q, t' σ H Q → t σ H Q) : PE X e t' := ⟨fun pins s σ H Q I q => h.run pins s σ H Q I (i σ H Q q)⟩
theorem PT.imp {t t' : TT} (h : PT X e t) (i : ∀ σ H Q, t' σ H Q → t σ H Q) : PT X e t' := ⟨fun pins s σ H Q I q => h.run pins s σ H Q I (i σ H Q q)⟩
theorem PW.imp {t t' : TT} (h : PW X e t) (i : ∀ σ H Q, t' σ H Q → t σ H Q) : PW X e t' := ⟨fun wh pins s σ H Q I q => h.run wh pins s σ H Q I (i σ H Q q)⟩
theorem PA.imp {es : List Expr} {t t' : TA} (h : PA X es t) (i : ∀ σ H Q, t' σ H Q → t σ H Q) : PA X es t' := ⟨fun pos pins s σ H Q I q => h.run pos pins s σ H Q I (i σ H Q q)⟩
theorem PS.imp {st : Stmt} {t t' : TS} (h : PS X st t) (i : ∀ D σ H, t' D σ H → t D σ H) : PS X st t' := ⟨fun pins s σ H D I q => h.run pins s σ H D I (i D σ H q)⟩
theorem PSs.imp {st : List Stmt} {t t' : TS} (h : PSs X st t) (i : ∀ D σ H, t' D σ H → t D σ H) : PSs X st t' := ⟨fun pins s σ H D I q => h.run pins s σ H D I (i D σ H q)⟩

/-! ## names, constants -/
def mVar (i : Nat) : En → Mo Dt := fun ρ => match ρ[i]? with | some (.fz d) => .ret d | _ => .err
def mC (d : Dt) : En → Mo Dt := fun _ => .ret d
theorem e_var (i : Nat) {x : Str} {pos : Pos} (h : PE X (.Name x pos) (tVar i)) : PE X (.Name x pos) (tM (X.gd Tz) XR E (mVar i)) := PE.imp h fun σ H Q ⟨r, Z, ρ, w, s, q⟩ => by
  unfold mVar at q
  split at q
  · rename_i d hd
    obtain ⟨v, e1, x, e2, rp⟩ := s.get hd
    subst e2
    exact ⟨x, e1, PV.at w q rp⟩
  · exact q.elim
theorem e_const {v : V} {d : Dt} (h : PE X e (tC v)) (hr : ∀ r Z H, Rep (X.gd Tz) r Z H v d) : PE X e (tM (X.gd Tz) XR E (mC d)) := PE.imp h fun σ H Q ⟨r, Z, ρ, w, s, q⟩ => PV.at w q (hr r Z H)
theorem e_int {i j pos} : PE X (.Constant (.int i) j pos) (tM (X.gd Tz) XR E (mC (.int i))) := e_const pe_int fun r Z H => by unfold Rep; rfl
theorem e_bl {b j pos} : PE X (.Constant (.bool b) j pos) (tM (X.gd Tz) XR E (mC (.bl b))) := e_const pe_bl fun r Z H => by unfold Rep; rfl
theorem e_non {j pos} : PE X (.Constant .none j pos) (tM (X.gd Tz) XR E (mC .non)) := e_const pe_non fun r Z H => by unfold Rep; rfl
theorem e_str (l : List Nat) {x j pos} (h : x = st l) : PE X (.Constant (.str x) j pos) (tM (X.gd Tz) XR E (mC (.str l))) := e_const (pe_str (x := x)) fun r Z H => by unfold Rep; rw [h]
theorem e_glob {x : Str} {v : V} {u : Value} {pos : Pos} {d : Dt} (hg : Gl X x) (hm : X.mg x = some u) (rv : RelV v u) (hr : ∀ r Z H, Rep (X.gd Tz) r Z H v d) (hd : (x == ("__debug__" : Str)) = false := by decide) : PE X (.Name x pos) (tM (X.gd Tz) XR E (mC d)) :=
  e_const (pe_glob hg hm rv hd) hr

/-! ## operators -/
/-- an operator's reading by data -/
def r2 (K : Gd) (g : Dt → Dt → Option Dt) : R2 := fun x y H Q => ∃ r Z dx dy d, Wf K r Z H ∧ Rep K r Z H x dx ∧ Rep K r Z H y dy ∧ g dx dy = some d ∧ PV K r Z H Q d
def ofO {α : Type} : Option α → Mo α
  | some a => .ret a
  | none => .err
theorem wp_ofO {α : Type} {o : Option α} {P : α → Prop} {R : Nat → Dt → Prop} (h : (ofO o).wp P R) : ∃ a, o = some a ∧ P a := by
  cases o with
  | none => exact h.elim
  | some a => exact ⟨a, rfl, h⟩
def m2 (g : Dt → Dt → Option Dt) (a b : En → Mo Dt) : En → Mo Dt := fun ρ => (a ρ).bind fun x => (b ρ).bind fun y => ofO (g x y)
theorem r2_of {g : Dt → Dt → Option Dt} {a b : En → Mo Dt} {σ : Sg} {H : Hp} {Q : VK} {K : Gd} (h : tM K XR E (m2 g a b) σ H Q) : tM K XR E a σ H fun x H1 => tM K XR E b σ H1 fun y H2 => r2 K g x y H2 Q := by
  obtain ⟨r, Z, ρ, w, s, h⟩ := h
  refine tM.split w s h fun v H1 Z1 d e1 w1 s1 rp1 h1 => ?_
  refine tM.split w1 s1 (h1.mono (fun _ q => q) fun _ _ x => x.ext e1) fun u H2 Z2 d2 e2 w2 s2 rp2 h2 => ?_
  obtain ⟨d3, e3, h3⟩ := wp_ofO h2
  exact ⟨r, Z2, d, d2, d3, w2, rp1.frz (e2.frz w1), rp2, e3, h3.ext (e1.trans e2)⟩
variable {a b c : Expr} {ma mb mc : En → Mo Dt} {pos : Pos}
theorem e_op {op : Operator} {g : Dt → Dt → Option Dt} (ho : OpR X (binaryOp op) (r2 (X.gd Tz) g)) (ha : PE X a (tM (X.gd Tz) XR E ma)) (hb : PE X b (tM (X.gd Tz) XR E mb)) : PE X (.BinOp a op b pos) (tM (X.gd Tz) XR E (m2 g ma mb)) :=
  PE.imp (pe_op ho ha hb) fun σ H Q h => r2_of h
theorem e_cmp {op : CmpOp} {g : Dt → Dt → Option Dt} (ho : OpR X (compareOp op) (r2 (X.gd Tz) g)) (ha : PE X a (tM (X.gd Tz) XR E ma)) (hb : PE X b (tM (X.gd Tz) XR E mb)) (hm : behindInMarks op b = false := by first | exact nobehind _ (by decide) (by decide) | rfl) : PE X (.Compare a [op] [b] pos) (tM (X.gd Tz) XR E (m2 g ma mb)) :=
  PE.imp (pe_cmpR ho ha hb hm) fun σ H Q h => r2_of h
end
end Fw
set_option Elab.async false
set_option linter.all false
set_option maxRecDepth 100000
set_option maxHeartbeats 4000000
namespace Fw
open PySem PySem.Spec PyProof.Rows L2

/-! ## values by data -/
section
variable {K : Gd} {r : Addr} {Z : Addr → Prop} {H : Hp} {v : V}
theorem Rep.non (h : Rep K r Z H v .non) : v = .non := by unfold Rep at h; exact h
theorem Rep.bl {b} (h : Rep K r Z H v (.bl b)) : v = .bl b := by unfold Rep at h; exact h
theorem Rep.int {b} (h : Rep K r Z H v (.int b)) : v = .int b := by unfold Rep at h; exact h
theorem Rep.str {b} (h : Rep K r Z H v (.str b)) : v = .str (st b) := by unfold Rep at h; exact h
theorem Rep.tup {ds} (h : Rep K r Z H v (.tup ds)) : ∃ a vs, v = .ref a ∧ TupAt K Z H a vs ∧ vs.length ≤ sizeLine ∧ Reps K r Z H vs ds := by unfold Rep at h; exact h
theorem Rep.lst {ds} (h : Rep K r Z H v (.lst ds)) : ∃ a vs, v = .ref a ∧ Z a ∧ H a = some (.lst vs) ∧ vs.length ≤ sizeLine ∧ Reps K r Z H vs ds := by unfold Rep at h; exact h
theorem Rep.ntp {ds} (h : Rep K r Z H v (.ntp ds)) : ∃ a vs ob, v = .ref a ∧ Z a ∧ H a = some (.frz ob (.tup vs)) ∧ ob.dict = none ∧ vs.length ≤ sizeLine ∧ Reps K r Z H vs ds := by unfold Rep at h; exact h
theorem Rep.mk_ntp {a vs ds ob} (z : Z a) (t : H a = some (.frz ob (.tup vs))) (od : ob.dict = none) (l : vs.length ≤ sizeLine) (q : Reps K r Z H vs ds) : Rep K r Z H (.ref a) (.ntp ds) := by unfold Rep; exact ⟨a, vs, ob, rfl, z, t, od, l, q⟩
theorem Rep.mk_non : Rep K r Z H .non .non := by unfold Rep; rfl
theorem Rep.mk_bl {b} : Rep K r Z H (.bl b) (.bl b) := by unfold Rep; rfl
theorem Rep.mk_int {b} : Rep K r Z H (.int b) (.int b) := by unfold Rep; rfl
theorem Rep.mk_str {b} : Rep K r Z H (.str (st b)) (.str b) := by unfold Rep; rfl
theorem Rep.mk_tup {a vs ds} (t : TupAt K Z H a vs) (l : vs.length ≤ sizeLine) (q : Reps K r Z H vs ds) : Rep K r Z H (.ref a) (.tup ds) := by unfold Rep; exact ⟨a, vs, rfl, t, l, q⟩
theorem Rep.mk_lst {a vs ds} (z : Z a) (t : H a = some (.lst vs)) (l : vs.length ≤ sizeLine) (q : Reps K r Z H vs ds) : Rep K r Z H (.ref a) (.lst ds) := by unfold Rep; exact ⟨a, vs, rfl, z, t, l, q⟩
end
section
variable {K : Gd} {r : Addr} {Z : Addr → Prop} {H : Hp} {Q : VK}
/-- a new tuple, a new list -/
theorem PV.tup {ds : List Dt} {vs : List V} (h : PV K r Z H Q (.tup ds)) (w : Wf K r Z H) (q : Reps K r Z H vs ds) (l : vs.length ≤ sizeLine) : ∀ p, H p = none → Q (.ref p) (upd H p (.tup vs)) := fun p hn => by
  have e := Ext.laid (o := .tup vs) w hn
  exact h _ _ _ e (Rep.mk_tup (.inl ⟨.inr rfl, upd_same⟩) l (q.frz (e.frz w)))
theorem PV.lst {ds : List Dt} {vs : List V} (h : PV K r Z H Q (.lst ds)) (w : Wf K r Z H) (q : Reps K r Z H vs ds) (l : vs.length ≤ sizeLine) : ∀ p, H p = none → Q (.ref p) (upd H p (.lst vs)) := fun p hn => by
  have e := Ext.laid (o := .lst vs) w hn
  exact h _ _ _ e (Rep.mk_lst (.inr rfl) upd_same l (q.frz (e.frz w)))
end
theorem sl16 {n : Nat} (h : n ≤ 16777216) : n ≤ sizeLine := by rw [sizeLine_eq]; exact h
theorem of_sl {n : Nat} (h : n ≤ sizeLine) : n ≤ 16777216 := by rw [sizeLine_eq] at h; exact h

/-! ## arithmetic -/
def addD : Dt → Dt → Option Dt
  | .int i, .int j => some (.int (i + j))
  | .str x, .str y => if x.length + y.length ≤ 16777216 then some (.str (x ++ y)) else none
  | .lst x, .lst y => if x.length + y.length ≤ 16777216 then some (.lst (x ++ y)) else none
  | .tup x, .tup y => if x.length + y.length ≤ 16777216 then some (.tup (x ++ y)) else none
  | _, _ => none
def subD : Dt → Dt → Option Dt
  | .int i, .int j => some (.int (i - j))
  | _, _ => none
def mulD : Dt → Dt → Option Dt
  | .int i, .int j => if -(18446744073709551616 : Int) < i ∧ i < 18446744073709551616 then some (.int (i * j)) else none
  | .lst x, .int k => if 0 ≤ k ∧ k < 1000 ∧ x.length ≤ 1000 then some (.lst (List.replicate k.toNat x).flatten) else none
  | _, _ => none
def fdivD : Dt → Dt → Option Dt
  | .int i, .int j => if 0 < j ∧ j < 1073741824 then some (.int (i / j)) else none
  | _, _ => none
def modD : Dt → Dt → Option Dt
  | .int i, .int j => if 0 < j then some (.int (i % j)) else none
  | _, _ => none
def powD : Dt → Dt → Option Dt
  | .int i, .int j => if 0 ≤ j ∧ j ≤ 1000 ∧ i.natAbs < 1000000 then some (.int (i ^ j.toNat)) else none
  | _, _ => none
section
variable {X : Cx} {Tz : Tbs}
theorem o_add : OpR X (binaryOp .Add) (r2 (X.gd Tz) addD) := by
  rintro pins s σ H x y v u Q I rx ry ⟨r, Z, dx, dy, d, w, px, py, e, q⟩
  unfold addD at e
  split at e
  · rw [px.int] at rx; rw [py.int] at ry
    cases e
    exact op_add pins s σ H _ _ v u Q I rx ry ⟨_, _, rfl, rfl, PV.at w q Rep.mk_int⟩
  · rw [px.str] at rx; rw [py.str] at ry
    split at e
    · rename_i hl
      cases e
      exact op_add_str pins s σ H _ _ v u Q I rx ry ⟨_, _, rfl, rfl, by rw [st_length, st_length]; exact sl16 hl, by rw [st_append]; exact PV.at w q Rep.mk_str⟩
    · cases e
  · obtain ⟨a, vs, rfl, za, ha, la, qa⟩ := px.lst
    obtain ⟨b, us, rfl, zb, hb, lb, qb⟩ := py.lst
    split at e
    · rename_i hl
      cases e
      have hl' : vs.length + us.length ≤ sizeLine := by rw [qa.length, qb.length]; exact sl16 hl
      exact op_cat pins s σ H _ _ v u Q I rx ry ⟨a, b, vs, us, rfl, rfl, ha, hb, hl', PV.lst q w (qa.append qb) (by rw [List.length_append]; exact hl')⟩
    · cases e
  · obtain ⟨a, vs, rfl, ha, la, qa⟩ := px.tup
    obtain ⟨b, us, rfl, hb, lb, qb⟩ := py.tup
    split at e
    · rename_i hl
      cases e
      have hl' : vs.length + us.length ≤ sizeLine := by rw [qa.length, qb.length]; exact sl16 hl
      refine op_catA pins s σ H _ _ v u Q I rx ry ⟨a, b, vs, us, rfl, rfl, ha.sq, hb.sq, hl', fun e1 => ?_, fun e1 e2 => ?_, fun _ _ => PV.tup q w (qa.append qb) (by rw [List.length_append]; exact hl')⟩
      · subst e1
        have := qa.append qb
        exact PV.at w q (Rep.mk_tup hb lb this)
      · subst e2
        have := qa.append qb
        rw [List.append_nil] at this
        exact PV.at w q (Rep.mk_tup ha la this)
    · cases e
  · cases e
theorem o_sub : OpR X (binaryOp .Sub) (r2 (X.gd Tz) subD) := by
  rintro pins s σ H x y v u Q I rx ry ⟨r, Z, dx, dy, d, w, px, py, e, q⟩
  unfold subD at e
  split at e
  · rw [px.int] at rx; rw [py.int] at ry
    cases e
    exact op_sub pins s σ H _ _ v u Q I rx ry ⟨_, _, rfl, rfl, PV.at w q Rep.mk_int⟩
  · cases e
theorem reps_rep {K : Gd} {r : Addr} {Z : Addr → Prop} {H : Hp} {vs : List V} {ds : List Dt} (h : Reps K r Z H vs ds) : ∀ n : Nat, Reps K r Z H (List.replicate n vs).flatten (List.replicate n ds).flatten
  | 0 => Reps.nil
  | n + 1 => by
    rw [List.replicate_succ, List.replicate_succ, List.flatten_cons, List.flatten_cons]
    exact h.append (reps_rep h n)
theorem len_rep {α : Type} (vs : List α) : ∀ n : Nat, (List.replicate n vs).flatten.length = n * vs.length
  | 0 => by simp
  | n + 1 => by rw [List.replicate_succ, List.flatten_cons, List.length_append, len_rep vs n, Nat.succ_mul, Nat.add_comm]
theorem o_mul : OpR X (binaryOp .Mult) (r2 (X.gd Tz) mulD) := by
  rintro pins s σ H x y v u Q I rx ry ⟨r, Z, dx, dy, d, w, px, py, e, q⟩
  unfold mulD at e
  split at e
  · rw [px.int] at rx; rw [py.int] at ry
    split at e
    · rename_i hc
      cases e
      exact op_mul pins s σ H _ _ v u Q I rx ry ⟨_, _, rfl, rfl, .inl hc, PV.at w q Rep.mk_int⟩
    · cases e
  · rename_i xs k
    obtain ⟨a, vs, rfl, za, ha, la, qa⟩ := px.lst
    rw [py.int] at ry
    split at e
    · rename_i hc
      obtain ⟨h0, h1, h2⟩ := hc
      cases e
      have hl : vs.length * k.toNat ≤ sizeLine := by
        rw [qa.length]
        have : xs.length * k.toNat ≤ 1000 * 1000 := Nat.mul_le_mul h2 (by omega)
        exact sl16 (by omega)
      refine op_rep pins s σ H _ _ v u Q I rx ry ⟨a, k, vs, rfl, rfl, ha, by omega, by omega, hl, PV.lst q w (reps_rep qa _) ?_⟩
      rw [len_rep, Nat.mul_comm]
      exact hl
    · cases e
  · cases e
theorem o_fdiv : OpR X (binaryOp .FloorDiv) (r2 (X.gd Tz) fdivD) := by
  rintro pins s σ H x y v u Q I rx ry ⟨r, Z, dx, dy, d, w, px, py, e, q⟩
  unfold fdivD at e
  split at e
  · rw [px.int] at rx; rw [py.int] at ry
    split at e
    · rename_i hc
      cases e
      exact op_fdiv pins s σ H _ _ v u Q I rx ry ⟨_, _, rfl, rfl, hc, PV.at w q Rep.mk_int⟩
    · cases e
  · cases e
theorem o_mod : OpR X (binaryOp .Mod) (r2 (X.gd Tz) modD) := by
  rintro pins s σ H x y v u Q I rx ry ⟨r, Z, dx, dy, d, w, px, py, e, q⟩
  unfold modD at e
  split at e
  · rw [px.int] at rx; rw [py.int] at ry
    split at e
    · rename_i hc
      cases e
      exact op_mod pins s σ H _ _ v u Q I rx ry ⟨_, _, rfl, rfl, hc, PV.at w q Rep.mk_int⟩
    · cases e
  · cases e
theorem o_pow : OpR X (binaryOp .Pow) (r2 (X.gd Tz) powD) := by
  rintro pins s σ H x y v u Q I rx ry ⟨r, Z, dx, dy, d, w, px, py, e, q⟩
  unfold powD at e
  split at e
  · rw [px.int] at rx; rw [py.int] at ry
    split at e
    · rename_i hc
      cases e
      exact op_pow pins s σ H _ _ v u Q I rx ry ⟨_, _, rfl, rfl, ⟨hc.1, by omega, by omega⟩, PV.at w q Rep.mk_int⟩
    · cases e
  · cases e
end

/-! ## equality -/
mutual
def beqD : Dt → Dt → Bool
  | .non, .non => true
  | .bl a, .bl b => a == b
  | .bl a, .int b => (if a then 1 else 0) == b
  | .int a, .bl b => a == (if b then 1 else 0)
  | .int a, .int b => a == b
  | .str a, .str b => a == b
  | .tup a, .tup b => beqDs a b
  | .lst a, .lst b => beqDs a b
  | _, _ => false
def beqDs : List Dt → List Dt → Bool
  | [], [] => true
  | a :: x, b :: y => beqD a b && beqDs x y
  | _, _ => false
end
mutual
/-- no dicts; signs are signs; nested to a depth at most -/
def plainD : Nat → Dt → Bool
  | _, .non => true
  | _, .bl _ => true
  | _, .int _ => true
  | _, .str x => x.all fun c => decide (c < 1114112)
  | n + 1, .tup xs => plainDs n xs
  | n + 1, .lst xs => plainDs n xs
  | _, _ => false
def plainDs : Nat → List Dt → Bool
  | _, [] => true
  | n, x :: xs => plainD n x && plainDs n xs
end
mutual
def toPy : Dt → PyData
  | .non => .none
  | .bl b => .bool b
  | .int i => .int i
  | .str x => .str (st x)
  | .tup xs => .tuple (toPys xs)
  | .lst xs => .list (toPys xs)
  | _ => .none
def toPys : List Dt → List PyData
  | [] => []
  | x :: xs => toPy x :: toPys xs
end
theorem st_beq (a b : List Nat) : (st a == st b) = (a == b) := by
  by_cases h : a = b
  · subst h
    rw [beq_self_eq_true, beq_self_eq_true]
  · rw [beq_eq_false_iff_ne.mpr h, beq_eq_false_iff_ne.mpr fun e => h (st_inj e)]
mutual
theorem plain_py : ∀ (n : Nat) (d : Dt), plainD n d = true → (toPy d).canLay0 = true ∧ (toPy d).depth ≤ n
  | n, .non, _ => by simp [toPy, PyData.canLay0, PyData.depth]
  | n, .bl _, _ => by simp [toPy, PyData.canLay0, PyData.depth]
  | n, .int _, _ => by simp [toPy, PyData.canLay0, PyData.depth]
  | n, .str x, h => by
    refine ⟨?_, by simp [toPy, PyData.depth]⟩
    unfold plainD at h
    unfold toPy PyData.canLay0 PyData.strOk
    simpa [st] using h
  | 0, .tup _, h => by unfold plainD at h; cases h
  | 0, .lst _, h => by unfold plainD at h; cases h
  | n + 1, .tup xs, h => by
    unfold plainD at h
    obtain ⟨h1, h2⟩ := plain_pys n xs h
    unfold toPy PyData.canLay0 PyData.depth
    exact ⟨h1, Nat.succ_le_succ h2⟩
  | n + 1, .lst xs, h => by
    unfold plainD at h
    obtain ⟨h1, h2⟩ := plain_pys n xs h
    unfold toPy PyData.canLay0 PyData.depth
    exact ⟨h1, Nat.succ_le_succ h2⟩
  | n, .dk _ _, h => by cases n <;> (unfold plainD at h; cases h)
  | n, .ntp _, h => by cases n <;> (unfold plainD at h; cases h)
  | n, .dt _ _, h => by cases n <;> (unfold plainD at h; cases h)
  | n, .row, h => by cases n <;> (unfold plainD at h; cases h)
  | n, .fn _, h => by cases n <;> (unfold plainD at h; cases h)
  | n, .lam _, h => by cases n <;> (unfold plainD at h; cases h)
theorem plain_pys : ∀ (n : Nat) (d : List Dt), plainDs n d = true → PyData.canLayAll0 (toPys d) = true ∧ PyData.depthAll (toPys d) ≤ n
  | n, [], _ => by simp [toPys, PyData.canLayAll0, PyData.depthAll]
  | n, x :: xs, h => by
    unfold plainDs at h
    rw [Bool.and_eq_true] at h
    obtain ⟨h1, h2⟩ := plain_py n x h.1
    obtain ⟨h3, h4⟩ := plain_pys n xs h.2
    unfold toPys PyData.canLayAll0 PyData.depthAll
    exact ⟨by rw [h1, h3]; rfl, Nat.max_le.mpr ⟨h2, h4⟩⟩
end
section
variable {K : Gd} {r : Addr} {Z : Addr → Prop} {H : Hp}
mutual
theorem Rep.dp : ∀ {n : Nat} {d : Dt} {v : V}, Rep K r Z H v d → plainD n d = true → Dp K.K H v (toPy d)
  | n, .non, v, h, _ => by rw [h.non]; unfold toPy; exact .non
  | n, .bl b, v, h, _ => by rw [h.bl]; unfold toPy; exact .bl b
  | n, .int b, v, h, _ => by rw [h.int]; unfold toPy; exact .int b
  | n, .str b, v, h, _ => by rw [h.str]; unfold toPy; exact .str _
  | 0, .tup _, _, _, h => by unfold plainD at h; cases h
  | 0, .lst _, _, _, h => by unfold plainD at h; cases h
  | n + 1, .tup xs, v, h, p => by
    obtain ⟨a, vs, rfl, t, _, q⟩ := h.tup
    unfold plainD at p
    unfold toPy
    exact .tup t.sq (Reps.dp q p)
  | n + 1, .lst xs, v, h, p => by
    obtain ⟨a, vs, rfl, z, t, _, q⟩ := h.lst
    unfold plainD at p
    unfold toPy
    exact .lst (.inl (.inl t)) (Reps.dp q p)
  | n, .dk _ _, _, _, h => by cases n <;> (unfold plainD at h; cases h)
  | n, .ntp _, _, _, h => by cases n <;> (unfold plainD at h; cases h)
  | n, .dt _ _, _, _, h => by cases n <;> (unfold plainD at h; cases h)
  | n, .row, _, _, h => by cases n <;> (unfold plainD at h; cases h)
  | n, .fn _, _, _, h => by cases n <;> (unfold plainD at h; cases h)
  | n, .lam _, _, _, h => by cases n <;> (unfold plainD at h; cases h)
theorem Reps.dp : ∀ {n : Nat} {d : List Dt} {v : List V}, Reps K r Z H v d → plainDs n d = true → DpAll K.K H v (toPys d)
  | n, [], v, h, _ => by rw [h.inv_nil]; unfold toPys; exact .nil
  | n, x :: xs, v, h, p => by
    obtain ⟨u, us, rfl, h1, h2⟩ := h.inv_cons
    unfold plainDs at p
    rw [Bool.and_eq_true] at p
    unfold toPys
    exact .cons (Rep.dp h1 p.1) (Reps.dp h2 p.2)
end
end
mutual
theorem eqv_toPy : ∀ (n m : Nat) (a b : Dt), plainD n a = true → plainD m b = true → PyData.eqv (toPy a) (toPy b) = beqD a b
  | n, m, a, b, ha, hb => by
    cases a <;> cases b <;> first
      | (simp only [toPy, PyData.eqv, beqD, st_beq]; done)
      | (cases n <;> (unfold plainD at ha; cases ha); done)
      | (cases m <;> (unfold plainD at hb; cases hb); done)
      | (rename_i x y
         cases n with
         | zero => unfold plainD at ha; cases ha
         | succ n =>
           cases m with
           | zero => unfold plainD at hb; cases hb
           | succ m =>
             unfold plainD at ha hb
             unfold toPy PyData.eqv beqD
             exact eqv_toPys n m x y ha hb)
theorem eqv_toPys : ∀ (n m : Nat) (a b : List Dt), plainDs n a = true → plainDs m b = true → PyData.eqvAll (toPys a) (toPys b) = beqDs a b
  | n, m, [], [], _, _ => by simp only [toPys, PyData.eqvAll, beqDs]
  | n, m, [], _ :: _, _, _ => by simp only [toPys, PyData.eqvAll, beqDs]
  | n, m, _ :: _, [], _, _ => by simp only [toPys, PyData.eqvAll, beqDs]
  | n, m, a :: x, b :: y, ha, hb => by
    unfold plainDs at ha hb
    rw [Bool.and_eq_true] at ha hb
    simp only [toPys, PyData.eqvAll, beqDs]
    rw [eqv_toPy n m a b ha.1 hb.1, eqv_toPys n m x y ha.2 hb.2]
end
def eqD (neg : Bool) (a b : Dt) : Option Dt := if plainD 64 a && plainD 64 b then some (.bl (xor neg (beqD a b))) else none
section
variable {X : Cx} {Tz : Tbs}
theorem o_eq (hu : X.A.units + 64 < cLine) : OpR X (compareOp .Eq) (r2 (X.gd Tz) (eqD false)) := by
  rintro pins s σ H x y v u Q I rx ry ⟨r, Z, dx, dy, d, w, px, py, e, q⟩
  unfold eqD at e
  split at e
  · rename_i hp
    rw [Bool.and_eq_true] at hp
    cases e
    obtain ⟨l1, d1⟩ := plain_py 64 dx hp.1
    obtain ⟨l2, d2⟩ := plain_py 64 dy hp.2
    refine op_eqD hu pins s σ H x y v u Q I rx ry ⟨toPy dx, toPy dy, px.dp hp.1, py.dp hp.2, ?_, ?_, ?_⟩
    · unfold SeqAt.shaped; rw [l1, decide_eq_true d1]; rfl
    · unfold SeqAt.shaped; rw [l2, decide_eq_true d2]; rfl
    · rw [eqv_toPy 64 64 dx dy hp.1 hp.2]
      have := PV.at w q Rep.mk_bl
      rwa [Bool.false_xor] at this
  · cases e
theorem o_ne (hu : X.A.units + 64 < cLine) : OpR X (compareOp .NotEq) (r2 (X.gd Tz) (eqD true)) := by
  rintro pins s σ H x y v u Q I rx ry ⟨r, Z, dx, dy, d, w, px, py, e, q⟩
  unfold eqD at e
  split at e
  · rename_i hp
    rw [Bool.and_eq_true] at hp
    cases e
    obtain ⟨l1, d1⟩ := plain_py 64 dx hp.1
    obtain ⟨l2, d2⟩ := plain_py 64 dy hp.2
    refine op_neD hu pins s σ H x y v u Q I rx ry ⟨toPy dx, toPy dy, px.dp hp.1, py.dp hp.2, ?_, ?_, ?_⟩
    · unfold SeqAt.shaped; rw [l1, decide_eq_true d1]; rfl
    · unfold SeqAt.shaped; rw [l2, decide_eq_true d2]; rfl
    · rw [eqv_toPy 64 64 dx dy hp.1 hp.2]
      have := PV.at w q Rep.mk_bl
      rwa [Bool.true_xor] at this
  · cases e
end
end Fw
set_option Elab.async false
set_option linter.all false
set_option maxRecDepth 100000
set_option maxHeartbeats 4000000
namespace Fw
open PySem PySem.Spec PyProof.Rows L2

/-! ## in, is, < -/
def flatD : Dt → Bool
  | .non => true | .bl _ => true | .int _ => true | .str _ => true
  | _ => false
def inD (neg : Bool) (x y : Dt) : Option Dt := match y with
  | .tup xs => if flatD x && xs.all flatD then some (.bl (xor neg (xs.any fun z => beqD z x))) else none
  | .lst xs => if flatD x && xs.all flatD then some (.bl (xor neg (xs.any fun z => beqD z x))) else none
  | .str z => match x with
    | .str [c] => some (.bl (xor neg (z.contains c)))
    | _ => none
  | _ => none
def isD (neg : Bool) (x y : Dt) : Option Dt := match y with
  | .non => match x with
    | .row => none
    | .non => some (.bl (xor neg true))
    | _ => some (.bl (xor neg false))
  | .bl b => match x with
    | .bl a => some (.bl (xor neg (a == b)))
    | _ => none
  | _ => none
def ltS : List Nat → List Nat → Bool
  | [], [] => false
  | [], _ :: _ => true
  | _ :: _, [] => false
  | x :: xs, y :: ys => if x < y then true else if y < x then false else ltS xs ys
theorem ltS_eq : ∀ a b : List Nat, decide (a < b) = ltS a b
  | [], [] => by simp [ltS]
  | [], _ :: _ => by simp [ltS]
  | _ :: _, [] => by simp [ltS]
  | x :: xs, y :: ys => by
    unfold ltS
    have ih := ltS_eq xs ys
    by_cases h : x < y
    · rw [if_pos h, decide_eq_true (List.cons_lt_cons_iff.mpr (.inl h))]
    · rw [if_neg h]
      by_cases h2 : y < x
      · rw [if_pos h2, decide_eq_false]
        intro q
        rcases List.cons_lt_cons_iff.mp q with q | ⟨q, _⟩ <;> omega
      · rw [if_neg h2, ← ih]
        have e : x = y := by omega
        subst e
        congr 1
        exact propext ⟨fun q => (List.cons_lt_cons_iff.mp q).elim (fun z => absurd z h) fun z => z.2, fun q => List.cons_lt_cons_iff.mpr (.inr ⟨rfl, q⟩)⟩
inductive CO | lt | le | gt | ge
def ordD : CO → Dt → Dt → Option Dt
  | .lt, .int i, .int j => some (.bl (decide (i < j)))
  | .le, .int i, .int j => some (.bl (decide (i ≤ j)))
  | .gt, .int i, .int j => some (.bl (decide (j < i)))
  | .ge, .int i, .int j => some (.bl (decide (j ≤ i)))
  | .lt, .str x, .str y => some (.bl (ltS x y))
  | _, _, _ => none
section
variable {K : Gd} {r : Addr} {Z : Addr → Prop} {H : Hp}
theorem Rep.flat {d : Dt} {v : V} (h : Rep K r Z H v d) (f : flatD d = true) : flatV v = true := by
  cases d with
  | non => rw [h.non]; rfl
  | bl b => rw [h.bl]; rfl
  | int b => rw [h.int]; rfl
  | str b => rw [h.str]; rfl
  | _ => cases f
theorem Reps.flat : ∀ {d : List Dt} {v : List V}, Reps K r Z H v d → d.all flatD = true → v.all flatV = true
  | [], v, h, _ => by rw [h.inv_nil]; rfl
  | x :: xs, v, h, f => by
    obtain ⟨u, us, rfl, h1, h2⟩ := h.inv_cons
    rw [List.all_cons, Bool.and_eq_true] at f ⊢
    exact ⟨h1.flat f.1, Reps.flat h2 f.2⟩
theorem Rep.eqV {a b : Dt} {u v : V} (h : Rep K r Z H u a) (q : Rep K r Z H v b) (f : flatD a = true) (g : flatD b = true) : eqV u v = beqD a b := by
  cases a with
  | non => rw [h.non]; cases b <;> first | (cases g; done) | (first | rw [q.non] | rw [q.bl] | rw [q.int] | rw [q.str]) <;> simp [L2.eqV, beqD]
  | bl x => rw [h.bl]; cases b <;> first | (cases g; done) | (first | rw [q.non] | rw [q.bl] | rw [q.int] | rw [q.str]) <;> simp [L2.eqV, beqD]
  | int x => rw [h.int]; cases b <;> first | (cases g; done) | (first | rw [q.non] | rw [q.bl] | rw [q.int] | rw [q.str]) <;> simp [L2.eqV, beqD]
  | str x => rw [h.str]; cases b <;> first | (cases g; done) | (first | rw [q.non] | rw [q.bl] | rw [q.int] | rw [q.str]) <;> simp [L2.eqV, beqD, st_beq]
  | _ => cases f
theorem Reps.any {x : Dt} {u : V} (h : Rep K r Z H u x) (f : flatD x = true) : ∀ {d : List Dt} {v : List V}, Reps K r Z H v d → d.all flatD = true → (v.any fun y => L2.eqV y u) = d.any fun z => beqD z x
  | [], v, q, _ => by rw [q.inv_nil]; rfl
  | y :: ys, v, q, g => by
    obtain ⟨w, ws, rfl, h1, h2⟩ := q.inv_cons
    rw [List.all_cons, Bool.and_eq_true] at g
    rw [List.any_cons, List.any_cons, Reps.any h f h2 g.2, h1.eqV h g.1 f]
end
section
variable {X : Cx} {Tz : Tbs}
theorem o_in_ {neg : Bool} {op : CmpOp} (h1 : OpR X (compareOp op) (rIn X.K neg)) (h2 : OpR X (compareOp op) (fun x y H Q => ∃ (c : Nat) (z : Str), x = .str ⟨#[c]⟩ ∧ y = .str z ∧ Q (.bl (xor neg (decide (c ∈ z.cps.toList)))) H)) : OpR X (compareOp op) (r2 (X.gd Tz) (inD neg)) := by
  rintro pins s σ H x y v u Q I rx ry ⟨r, Z, dx, dy, d, w, px, py, e, q⟩
  have bb : ∀ b : Bool, (if neg = true then !b else b) = xor neg b := fun b => by cases neg <;> cases b <;> rfl
  unfold inD at e
  split at e
  · rename_i xs
    obtain ⟨a, vs, rfl, ha, la, qa⟩ := py.tup
    split at e
    · rename_i hf
      rw [Bool.and_eq_true] at hf
      cases e
      refine h1 pins s σ H _ _ v u Q I rx ry ⟨a, vs, rfl, .inr ha.sq, px.flat hf.1, qa.flat hf.2, ?_⟩
      unfold inV
      rw [bb, qa.any px hf.1 hf.2]
      exact PV.at w q Rep.mk_bl
    · cases e
  · rename_i xs
    obtain ⟨a, vs, rfl, za, ha, la, qa⟩ := py.lst
    split at e
    · rename_i hf
      rw [Bool.and_eq_true] at hf
      cases e
      refine h1 pins s σ H _ _ v u Q I rx ry ⟨a, vs, rfl, .inl (.of ha), px.flat hf.1, qa.flat hf.2, ?_⟩
      unfold inV
      rw [bb, qa.any px hf.1 hf.2]
      exact PV.at w q Rep.mk_bl
    · cases e
  · split at e
    · rw [px.str] at rx; rw [py.str] at ry
      cases e
      refine h2 pins s σ H _ _ v u Q I rx ry ⟨_, _, rfl, rfl, ?_⟩
      have hc : ∀ (c : Nat) (z : List Nat), decide (c ∈ z) = z.contains c := fun c z => by rw [Bool.eq_iff_iff, decide_eq_true_iff, List.contains_iff_mem]
      rw [cps_st, hc]
      exact PV.at w q Rep.mk_bl
    · cases e
  · cases e
theorem o_in : OpR X (compareOp .In) (r2 (X.gd Tz) (inD false)) := o_in_ op_in_seq (by
  rintro pins s σ H x y v u Q I rx ry ⟨c, z, e1, e2, q⟩
  rw [Bool.false_xor] at q
  exact op_in_sign pins s σ H x y v u Q I rx ry ⟨c, z, e1, e2, q⟩)
theorem o_notIn : OpR X (compareOp .NotIn) (r2 (X.gd Tz) (inD true)) := o_in_ op_notIn_seq (by
  rintro pins s σ H x y v u Q I rx ry ⟨c, z, e1, e2, q⟩
  rw [Bool.true_xor] at q
  exact op_notIn_sign pins s σ H x y v u Q I rx ry ⟨c, z, e1, e2, q⟩)
theorem Rep.isNon {K : Gd} {r : Addr} {Z : Addr → Prop} {H : Hp} {d : Dt} {v : V} (h : Rep K r Z H v d) : v = .non ↔ d = .non := by
  constructor
  · intro e
    subst e
    cases d with
    | non => rfl
    | bl b => exact nomatch h.bl
    | int b => exact nomatch h.int
    | str b => exact nomatch h.str
    | tup b => obtain ⟨a, vs, e, _⟩ := h.tup; cases e
    | lst b => obtain ⟨a, vs, e, _⟩ := h.lst; cases e
    | ntp b => obtain ⟨a, vs, ob, e, _⟩ := h.ntp; cases e
    | dk b c => unfold Rep at h; obtain ⟨a, vs, e, _⟩ := h; cases e
    | dt b c => unfold Rep at h; obtain ⟨a, vs, e, _⟩ := h; cases e
    | row => unfold Rep at h; cases h
    | fn a => unfold Rep at h; cases h
    | lam i => unfold Rep at h; obtain ⟨_, h, _⟩ := h; cases h
  · intro e
    subst e
    exact h.non
theorem o_is_ {neg : Bool} {op : CmpOp} (h1 : OpR X (compareOp op) (fun x y H Q => y = .non ∧ Q (.bl (xor neg (decide (x = .non)))) H)) (h2 : OpR X (compareOp op) (fun x y H Q => ∃ a b : Bool, x = .bl a ∧ y = .bl b ∧ Q (.bl (xor neg (decide (a = b)))) H)) : OpR X (compareOp op) (r2 (X.gd Tz) (isD neg)) := by
  rintro pins s σ H x y v u Q I rx ry ⟨r, Z, dx, dy, d, w, px, py, e, q⟩
  unfold isD at e
  split at e
  · rw [py.non] at ry
    split at e
    · cases e
    · cases e
      refine h1 pins s σ H _ _ v u Q I rx ry ⟨rfl, ?_⟩
      rw [decide_eq_true px.non]
      exact PV.at w q Rep.mk_bl
    · rename_i hn
      cases e
      refine h1 pins s σ H _ _ v u Q I rx ry ⟨rfl, ?_⟩
      rw [decide_eq_false fun z => hn (px.isNon.mp z)]
      exact PV.at w q Rep.mk_bl
  · rw [py.bl] at ry
    split at e
    · rw [px.bl] at rx
      cases e
      refine h2 pins s σ H _ _ v u Q I rx ry ⟨_, _, rfl, rfl, ?_⟩
      rw [← Bool.beq_eq_decide_eq]
      exact PV.at w q Rep.mk_bl
    · cases e
  · cases e
theorem o_is : OpR X (compareOp .Is) (r2 (X.gd Tz) (isD false)) := o_is_
  (by rintro pins s σ H x y v u Q I rx ry ⟨e, q⟩; rw [Bool.false_xor] at q; exact op_isN pins s σ H x y v u Q I rx ry ⟨e, q⟩)
  (by rintro pins s σ H x y v u Q I rx ry ⟨a, b, e, e2, q⟩; rw [Bool.false_xor] at q; exact op_isBl pins s σ H x y v u Q I rx ry ⟨a, b, e, e2, q⟩)
theorem o_isnt : OpR X (compareOp .IsNot) (r2 (X.gd Tz) (isD true)) := o_is_
  (by rintro pins s σ H x y v u Q I rx ry ⟨e, q⟩; rw [Bool.true_xor] at q; exact op_notN pins s σ H x y v u Q I rx ry ⟨e, q⟩)
  (by rintro pins s σ H x y v u Q I rx ry ⟨a, b, e, e2, q⟩; rw [Bool.true_xor] at q; exact op_notBl pins s σ H x y v u Q I rx ry ⟨a, b, e, e2, q⟩)
theorem o_lt : OpR X (compareOp .Lt) (r2 (X.gd Tz) (ordD .lt)) := by
  rintro pins s σ H x y v u Q I rx ry ⟨r, Z, dx, dy, d, w, px, py, e, q⟩
  unfold ordD at e
  split at e <;> first | (cases e; done) | skip
  all_goals (rename_i h; try cases h)
  · rw [px.int] at rx; rw [py.int] at ry; cases e
    exact op_lt pins s σ H _ _ v u Q I rx ry ⟨_, _, rfl, rfl, PV.at w q Rep.mk_bl⟩
  · rw [px.str] at rx; rw [py.str] at ry; cases e
    refine op_lt_str pins s σ H _ _ v u Q I rx ry ⟨_, _, rfl, rfl, ?_⟩
    rw [cps_st, cps_st, ltS_eq]
    exact PV.at w q Rep.mk_bl
theorem o_le : OpR X (compareOp .LtE) (r2 (X.gd Tz) (ordD .le)) := by
  rintro pins s σ H x y v u Q I rx ry ⟨r, Z, dx, dy, d, w, px, py, e, q⟩
  unfold ordD at e
  split at e <;> first | (cases e; done) | skip
  all_goals (rename_i h; try cases h)
  · rw [px.int] at rx; rw [py.int] at ry; cases e
    exact op_le pins s σ H _ _ v u Q I rx ry ⟨_, _, rfl, rfl, PV.at w q Rep.mk_bl⟩
theorem o_gt : OpR X (compareOp .Gt) (r2 (X.gd Tz) (ordD .gt)) := by
  rintro pins s σ H x y v u Q I rx ry ⟨r, Z, dx, dy, d, w, px, py, e, q⟩
  unfold ordD at e
  split at e <;> first | (cases e; done) | skip
  all_goals (rename_i h; try cases h)
  · rw [px.int] at rx; rw [py.int] at ry; cases e
    exact op_gt pins s σ H _ _ v u Q I rx ry ⟨_, _, rfl, rfl, PV.at w q Rep.mk_bl⟩
theorem o_ge : OpR X (compareOp .GtE) (r2 (X.gd Tz) (ordD .ge)) := by
  rintro pins s σ H x y v u Q I rx ry ⟨r, Z, dx, dy, d, w, px, py, e, q⟩
  unfold ordD at e
  split at e <;> first | (cases e; done) | skip
  all_goals (rename_i h; try cases h)
  · rw [px.int] at rx; rw [py.int] at ry; cases e
    exact op_ge pins s σ H _ _ v u Q I rx ry ⟨_, _, rfl, rfl, PV.at w q Rep.mk_bl⟩
end
end Fw
set_option Elab.async false
set_option linter.all false
set_option maxRecDepth 100000
set_option maxHeartbeats 4000000
namespace Fw
open PySem PySem.Spec PyProof.Rows L2

section
variable {X : Cx} {Tz : Tbs} {XR : XRel} {E : Sg → XK} {a b c e : Expr} {ma mb mc : En → Mo Dt} {pos : Pos}

/-! ## tests -/
def truD : Dt → Option Bool
  | .non => some false
  | .bl b => some b
  | .int i => some (i != 0)
  | .str x => if x.length ≤ 16777216 then some (!x.isEmpty) else none
  | .tup x => some (!x.isEmpty)
  | .lst x => some (!x.isEmpty)
  | _ => none
def tstD : Dt → Option Bool
  | .bl b => some b
  | _ => none
def mTru (m : En → Mo Dt) : En → Mo Bool := fun ρ => (m ρ).bind fun d => ofO (truD d)
def mTst (m : En → Mo Dt) : En → Mo Bool := fun ρ => (m ρ).bind fun d => ofO (tstD d)
theorem reps_empty {K : Gd} {r : Addr} {Z : Addr → Prop} {H : Hp} {vs : List V} {ds : List Dt} (h : Reps K r Z H vs ds) : ds.isEmpty = vs.isEmpty := by
  cases ds with
  | nil => rw [h.inv_nil]; rfl
  | cons d ds => obtain ⟨v, us, rfl, _⟩ := h.inv_cons; rfl
theorem t_val (ha : PE X a (tM (X.gd Tz) XR E ma)) (he : ∀ whole, isTrue a X.env whole = (do let v ← whole; standAt a.pos; holding [v] (truthy v)) := by intro _; rfl) : PT X a (tMb (X.gd Tz) XR E (mTru ma)) :=
  PT.imp (pt_truth ha he) fun σ H Q ⟨r, Z, ρ, w, s, h⟩ => tM.split w s h fun v H1 Z1 d e1 w1 s1 rp h1 => by
    obtain ⟨k, ek, hk⟩ := wp_ofO h1
    refine ⟨k, ?_, hk H1 Z1 e1⟩
    unfold truD at ek
    split at ek
    · cases ek; rw [rp.non]; rfl
    · cases ek; rw [rp.bl]; rfl
    · cases ek; rw [rp.int]; rfl
    · split at ek
      · rename_i x hl
        cases ek
        rw [rp.str]
        refine ⟨by rw [st_length]; exact sl16 hl, ?_⟩
        rw [st_length]
        cases x with
        | nil => rfl
        | cons c x =>
          show true = (((x.length + 1 : Nat) : Int) != 0)
          rw [eq_comm, bne_iff_ne]
          omega
      · cases ek
    · cases ek
      obtain ⟨a, vs, rfl, t, l, q⟩ := rp.tup
      exact .inr (.inl ⟨vs, t.sq, by rw [reps_empty q]⟩)
    · cases ek
      obtain ⟨a, vs, rfl, z, t, l, q⟩ := rp.lst
      exact .inl ⟨vs, .of t, by rw [reps_empty q]⟩
    · cases ek
theorem t_cmp {op : CmpOp} {g : Dt → Dt → Option Dt} (ho : OpR X (compareOp op) (r2 (X.gd Tz) g)) (ha : PE X a (tM (X.gd Tz) XR E ma)) (hb : PE X b (tM (X.gd Tz) XR E mb)) (hm : behindInMarks op b = false := by first | exact nobehind _ (by decide) (by decide) | rfl) : PT X (.Compare a [op] [b] pos) (tMb (X.gd Tz) XR E (mTst (m2 g ma mb))) :=
  PT.imp (pt_cmpR ho ha hb hm) fun σ H Q ⟨r, Z, ρ, w, s, h⟩ => r2_of (Q := fun x H' => ∃ k, x = .bl k ∧ Q k H') ⟨r, Z, ρ, w, s, (Mo.wp_bind.mp h).mono (fun d hd v H1 Z1 e1 rp => by
    obtain ⟨k, ek, hk⟩ := wp_ofO hd
    unfold tstD at ek
    split at ek
    · cases ek
      exact ⟨_, rp.bl, hk H1 Z1 e1⟩
    · cases ek) fun _ _ x => x⟩
def mNot (m : En → Mo Bool) : En → Mo Bool := fun ρ => (m ρ).bind fun b => .ret (!b)
theorem t_not {m : En → Mo Bool} (ha : PT X a (tMb (X.gd Tz) XR E m)) : PT X (.UnaryOp .Not a pos) (tMb (X.gd Tz) XR E (mNot m)) :=
  PT.imp (pt_not ha) fun σ H Q ⟨r, Z, ρ, w, s, h⟩ => tMb.split w s h fun H1 Z1 d e1 w1 s1 h1 => h1 H1 Z1 e1
def mAnd (m n : En → Mo Bool) : En → Mo Bool := fun ρ => (m ρ).bind fun b => match b with | true => n ρ | false => .ret false
def mOr (m n : En → Mo Bool) : En → Mo Bool := fun ρ => (m ρ).bind fun b => match b with | true => .ret true | false => n ρ
variable {rest : List Expr} {m n : En → Mo Bool}
theorem w_and1 (ha : PT X a (tMb (X.gd Tz) XR E m)) : PW X (.BoolOp .And [a] pos) (tMb (X.gd Tz) XR E m) := pw_and1 ha
theorem w_or1 (ha : PT X a (tMb (X.gd Tz) XR E m)) : PW X (.BoolOp .Or [a] pos) (tMb (X.gd Tz) XR E m) := pw_or1 ha
theorem w_and (ha : PT X a (tMb (X.gd Tz) XR E m)) (hb : PW X (.BoolOp .And (b :: rest) pos) (tMb (X.gd Tz) XR E n)) : PW X (.BoolOp .And (a :: b :: rest) pos) (tMb (X.gd Tz) XR E (mAnd m n)) :=
  PW.imp (pw_and ha hb) fun σ H Q ⟨r, Z, ρ, w, s, h⟩ => tMb.split w s h fun H1 Z1 d e1 w1 s1 h1 => by
    cases d with
    | true => exact ⟨r, Z1, ρ, w1, s1, h1.mono (fun _ p => p.ext e1) fun _ _ p => p.ext e1⟩
    | false => exact h1 H1 Z1 e1
theorem w_or (ha : PT X a (tMb (X.gd Tz) XR E m)) (hb : PW X (.BoolOp .Or (b :: rest) pos) (tMb (X.gd Tz) XR E n)) : PW X (.BoolOp .Or (a :: b :: rest) pos) (tMb (X.gd Tz) XR E (mOr m n)) :=
  PW.imp (pw_or ha hb) fun σ H Q ⟨r, Z, ρ, w, s, h⟩ => tMb.split w s h fun H1 Z1 d e1 w1 s1 h1 => by
    cases d with
    | false => exact ⟨r, Z1, ρ, w1, s1, h1.mono (fun _ p => p.ext e1) fun _ _ p => p.ext e1⟩
    | true => exact h1 H1 Z1 e1

/-! ## and, or, not as values; if .. else -/
def mAndV (m n : En → Mo Dt) : En → Mo Dt := fun ρ => (m ρ).bind fun x => match x with | .bl true => n ρ | .bl false => .ret (.bl false) | _ => .err
def mOrV (m n : En → Mo Dt) : En → Mo Dt := fun ρ => (m ρ).bind fun x => match x with | .bl true => .ret (.bl true) | .bl false => n ρ | _ => .err
def mNotV (m : En → Mo Dt) : En → Mo Dt := fun ρ => (m ρ).bind fun x => match x with | .bl b => .ret (.bl (!b)) | _ => .err
theorem e_one {op} (h : PE X a (tM (X.gd Tz) XR E ma)) : PE X (.BoolOp op [a] pos) (tM (X.gd Tz) XR E ma) := pe_one h
theorem e_and (ha : PE X a (tM (X.gd Tz) XR E ma)) (hb : PE X (.BoolOp .And (b :: rest) pos) (tM (X.gd Tz) XR E mb)) : PE X (.BoolOp .And (a :: b :: rest) pos) (tM (X.gd Tz) XR E (mAndV ma mb)) :=
  PE.imp (pe_and ha hb) fun σ H Q ⟨r, Z, ρ, w, s, h⟩ => tM.split w s h fun v H1 Z1 d e1 w1 s1 rp h1 => by
    cases d with
    | bl k =>
      refine ⟨k, rp.bl, ?_⟩
      cases k with
      | true => exact ⟨r, Z1, ρ, w1, s1, h1.mono (fun _ p => p.ext e1) fun _ _ p => p.ext e1⟩
      | false => exact h1 _ H1 Z1 e1 Rep.mk_bl
    | _ => exact h1.elim
theorem e_or (ha : PE X a (tM (X.gd Tz) XR E ma)) (hb : PE X (.BoolOp .Or (b :: rest) pos) (tM (X.gd Tz) XR E mb)) : PE X (.BoolOp .Or (a :: b :: rest) pos) (tM (X.gd Tz) XR E (mOrV ma mb)) :=
  PE.imp (pe_or ha hb) fun σ H Q ⟨r, Z, ρ, w, s, h⟩ => tM.split w s h fun v H1 Z1 d e1 w1 s1 rp h1 => by
    cases d with
    | bl k =>
      refine ⟨k, rp.bl, ?_⟩
      cases k with
      | false => exact ⟨r, Z1, ρ, w1, s1, h1.mono (fun _ p => p.ext e1) fun _ _ p => p.ext e1⟩
      | true => exact h1 _ H1 Z1 e1 Rep.mk_bl
    | _ => exact h1.elim
theorem e_not (ha : PE X a (tM (X.gd Tz) XR E ma)) : PE X (.UnaryOp .Not a pos) (tM (X.gd Tz) XR E (mNotV ma)) :=
  PE.imp (pe_not ha) fun σ H Q ⟨r, Z, ρ, w, s, h⟩ => tM.split w s h fun v H1 Z1 d e1 w1 s1 rp h1 => by
    cases d with
    | bl k => exact ⟨k, rp.bl, h1 _ H1 Z1 e1 Rep.mk_bl⟩
    | _ => exact h1.elim
def mIf (c : En → Mo Bool) (m n : En → Mo Dt) : En → Mo Dt := fun ρ => (c ρ).bind fun b => match b with | true => m ρ | false => n ρ
theorem e_if {mt : En → Mo Bool} (hc : PT X c (tMb (X.gd Tz) XR E mt)) (ha : PE X a (tM (X.gd Tz) XR E ma)) (hb : PE X b (tM (X.gd Tz) XR E mb)) : PE X (.IfExp c a b pos) (tM (X.gd Tz) XR E (mIf mt ma mb)) :=
  PE.imp (pe_ifExp hc ha hb) fun σ H Q ⟨r, Z, ρ, w, s, h⟩ => tMb.split w s h fun H1 Z1 d e1 w1 s1 h1 => by
    cases d with
    | true => exact ⟨r, Z1, ρ, w1, s1, h1.mono (fun _ p => p.ext e1) fun _ _ p => p.ext e1⟩
    | false => exact ⟨r, Z1, ρ, w1, s1, h1.mono (fun _ p => p.ext e1) fun _ _ p => p.ext e1⟩

/-! ## chains -/
structure PCh (X : Cx) (Tz : Tbs) (XR : XRel) (E : Sg → XK) (ops : List CmpOp) (cs : List Expr) (m : Dt → En → Mo Dt) : Prop where
  run : ∀ (pos : Pos) (pins : List (Addr × Obj)) (s : Shared) (σ : Sg) (H : Hp) (Q : VK) (x : V) (v : Value) (r : Addr) (Z : Addr → Prop) (ρ : En) (d : Dt), Inv X pins σ H s → RelV x v → Wf (X.gd Tz) r Z H → StOk (X.gd Tz) r Z H σ ρ → Rep (X.gd Tz) r Z H x d →
    (m d ρ).wp (PV (X.gd Tz) r Z H Q) (PX (X.gd Tz) XR r Z H (E σ)) → wpAny (model X.prog X.w) X.A (compareChain pos v ops (evalEach cs X.env)) (EP X pins σ Q) X.xe s
theorem ch_last {op : CmpOp} {g : Dt → Dt → Option Dt} (ho : OpR X (compareOp op) (r2 (X.gd Tz) g)) (hc : PE X c (tM (X.gd Tz) XR E mc)) : PCh X Tz XR E [op] [c] (fun d ρ => (mc ρ).bind fun y => ofO (g d y)) := by
  refine ⟨fun pos pins s σ H Q x v r Z ρ d I rx w st rp h => ?_⟩
  refine chain_last (thn (hc.run pins s σ H (fun y H1 => r2 (X.gd Tz) g x y H1 Q) I (tM.split w st h fun u H1 Z1 d1 e1 w1 s1 rp1 h1 => ?_)) fun u s1 ⟨y, H1, I1, r1, q1⟩ => ho pins s1 σ H1 x y v u Q I1 rx r1 q1)
  obtain ⟨d2, e2, h2⟩ := wp_ofO h1
  exact ⟨r, Z1, d, d1, d2, w1, rp.frz (e1.frz w), rp1, e2, h2.ext e1⟩
theorem ch_link {op op' : CmpOp} {g : Dt → Dt → Option Dt} {ops : List CmpOp} {c' : Expr} {cs : List Expr} {m' : Dt → En → Mo Dt} (ho : OpR X (compareOp op) (r2 (X.gd Tz) g)) (hc : PE X c (tM (X.gd Tz) XR E mc)) (ht : PCh X Tz XR E (op' :: ops) (c' :: cs) m') :
    PCh X Tz XR E (op :: op' :: ops) (c :: c' :: cs) (fun d ρ => (mc ρ).bind fun y => (ofO (g d y)).bind fun t => match t with | .bl true => m' y ρ | .bl false => .ret (.bl false) | _ => .err) := by
  refine ⟨fun pos pins s σ H Q x v r Z ρ d I rx w st rp h => ?_⟩
  show wpAny _ _ (compareChain pos v (op :: op' :: ops) (eval c X.env :: eval c' X.env :: evalEach cs X.env)) _ _ s
  refine chain_link (thn (hc.run pins s σ H (fun y H1 => ∃ Z1 d1, Ext (X.gd Tz) r Z H Z1 H1 ∧ Rep (X.gd Tz) r Z1 H1 y d1 ∧ ∃ d2, g d d1 = some d2 ∧
      Mo.wp (match d2 with | .bl true => m' d1 ρ | .bl false => .ret (.bl false) | _ => .err) (PV (X.gd Tz) r Z H Q) (PX (X.gd Tz) XR r Z H (E σ))) I (tM.split w st h fun u H1 Z1 d1 e1 w1 s1 rp1 h1 => ?_)) fun u s1 ⟨y, H1, I1, r1, Z1, d1, e1, rp1, d2, e2, h2⟩ => ?_)
  · obtain ⟨d2, e2, h2⟩ := wp_ofO (Mo.wp_bind.mp h1)
    exact ⟨Z1, d1, e1, rp1, d2, e2, h2⟩
  · have w1 := e1.wf
    refine thn (ho pins s1 σ H1 x y v u (fun z H2 => ∃ Z2, Ext (X.gd Tz) r Z1 H1 Z2 H2 ∧ ∃ k, z = .bl k ∧ d2 = .bl k) I1 rx r1 ⟨r, Z1, d, d1, d2, w1, rp.frz (e1.frz w), rp1, e2, fun z H2 Z2 e3 rp3 => ?_⟩) fun t s2 ⟨z, H2, I2, r2', Z2, e3, k, ez, ek⟩ => ?_
    · cases d2 with
      | bl k => exact ⟨Z2, e3, k, rp3.bl, rfl⟩
      | _ => exact h2.elim
    · subst ez ek
      cases r2'
      refine wpAny_truthy_bool ?_
      have e4 := e1.trans e3
      cases k with
      | true => exact ite_tt (ht.run pos pins s2 σ H2 Q y u r Z2 ρ d1 I2 r1 e3.wf (st.ext w e4) (rp1.frz (e3.frz w1)) (h2.mono (fun _ p => p.ext e4) fun _ _ p => p.ext e4))
      | false => exact ite_ff ⟨.bl false, H2, I2, rfl, h2 _ H2 Z2 e4 Rep.mk_bl⟩
theorem e_chain {op op' : CmpOp} {ops : List CmpOp} {c' : Expr} {cs : List Expr} {m' : Dt → En → Mo Dt} (ha : PE X a (tM (X.gd Tz) XR E ma)) (ht : PCh X Tz XR E (op :: op' :: ops) (c :: c' :: cs) m')
    (hm : lastMarks (op :: op' :: ops) (c :: c' :: cs) = false := by with_unfolding_all rfl) : PE X (.Compare a (op :: op' :: ops) (c :: c' :: cs) pos) (tM (X.gd Tz) XR E fun ρ => (ma ρ).bind fun d => m' d ρ) := by
  refine ⟨fun pins s σ H Q I ⟨r, Z, ρ, w, st, h⟩ => ?_⟩
  refine Compare_chain (thn (ha.run pins s σ H (fun y H1 => ∃ Z1 d1, Ext (X.gd Tz) r Z H Z1 H1 ∧ Rep (X.gd Tz) r Z1 H1 y d1 ∧ (m' d1 ρ).wp (PV (X.gd Tz) r Z H Q) (PX (X.gd Tz) XR r Z H (E σ))) I (tM.split w st h fun u H1 Z1 d1 e1 w1 s1 rp1 h1 => ⟨Z1, d1, e1, rp1, h1⟩)) fun u s1 ⟨y, H1, I1, r1, Z1, d1, e1, rp1, h1⟩ => ?_) hm
  exact ht.run pos pins s1 σ H1 Q y u r Z1 ρ d1 I1 r1 e1.wf (st.ext w e1) rp1 (h1.mono (fun _ p => p.ext e1) fun _ _ p => p.ext e1)

/-! ## argument lists, displays -/
def mNil : En → Mo (List Dt) := fun _ => .ret []
def mCons (m : En → Mo Dt) (ms : En → Mo (List Dt)) : En → Mo (List Dt) := fun ρ => (m ρ).bind fun x => (ms ρ).bind fun xs => .ret (x :: xs)
def mStar (m : En → Mo Dt) (ms : En → Mo (List Dt)) : En → Mo (List Dt) := fun ρ => (m ρ).bind fun x => match x with
  | .tup ys => (ms ρ).bind fun xs => .ret (ys ++ xs)
  | .lst ys => (ms ρ).bind fun xs => .ret (ys ++ xs)
  | _ => .err
variable {es : List Expr} {ms : En → Mo (List Dt)}
theorem a_nil : PA X [] (tMs (X.gd Tz) XR E mNil) := PA.imp pa_nil fun σ H Q ⟨r, Z, ρ, w, s, h⟩ => h [] H Z (Ext.refl w) Reps.nil
theorem a_cons (ha : PE X e (tM (X.gd Tz) XR E ma)) (hr : PA X es (tMs (X.gd Tz) XR E ms)) (hs : starEach (e :: es) X.env = (false, eval e X.env) :: starEach es X.env := by rfl) : PA X (e :: es) (tMs (X.gd Tz) XR E (mCons ma ms)) :=
  PA.imp (pa_cons ha hr hs) fun σ H Q ⟨r, Z, ρ, w, s, h⟩ => tM.split w s h fun v H1 Z1 d e1 w1 s1 rp h1 =>
    tMs.split w1 s1 (h1.mono (fun _ p => p) fun _ _ p => p.ext e1) fun vs H2 Z2 ds e2 w2 s2 rp2 h2 => h2 _ H2 Z2 (e1.trans e2) (Reps.cons (rp.frz (e2.frz w1)) rp2)
theorem a_star {p : Pos} (ha : PE X e (tM (X.gd Tz) XR E ma)) (hr : PA X es (tMs (X.gd Tz) XR E ms)) (hs : starEach (.Starred e p :: es) X.env = (true, eval e X.env) :: starEach es X.env := by rfl) : PA X (.Starred e p :: es) (tMs (X.gd Tz) XR E (mStar ma ms)) :=
  PA.imp (StX.pa_star ha hr hs) fun σ H Q ⟨r, Z, ρ, w, s, h⟩ => tM.split w s h fun v H1 Z1 d e1 w1 s1 rp h1 => by
    cases d with
    | tup ys =>
      obtain ⟨p, xs, rfl, t, l, q⟩ := rp.tup
      exact ⟨p, xs, rfl, .inl t.sq, tMs.split w1 s1 (h1.mono (fun _ p => p) fun _ _ p => p.ext e1) fun vs H2 Z2 ds e2 w2 s2 rp2 h2 => h2 _ H2 Z2 (e1.trans e2) ((q.frz (e2.frz w1)).append rp2)⟩
    | lst ys =>
      obtain ⟨p, xs, rfl, z, t, l, q⟩ := rp.lst
      exact ⟨p, xs, rfl, .inr (.of t), tMs.split w1 s1 (h1.mono (fun _ p => p) fun _ _ p => p.ext e1) fun vs H2 Z2 ds e2 w2 s2 rp2 h2 => h2 _ H2 Z2 (e1.trans e2) ((q.frz (e2.frz w1)).append rp2)⟩
    | _ => exact h1.elim
def mTup (ms : En → Mo (List Dt)) : En → Mo Dt := fun ρ => (ms ρ).bind fun xs => if xs.length ≤ 16777216 then .ret (.tup xs) else .err
def mLst (ms : En → Mo (List Dt)) : En → Mo Dt := fun ρ => (ms ρ).bind fun xs => if xs.length ≤ 16777216 then .ret (.lst xs) else .err
theorem e_tup {x1} (h : PA X es (tMs (X.gd Tz) XR E ms)) : PE X (.Tuple es x1 pos) (tM (X.gd Tz) XR E (mTup ms)) :=
  PE.imp (pe_tup h) fun σ H Q ⟨r, Z, ρ, w, s, h⟩ => tMs.split w s h fun vs H1 Z1 ds e1 w1 s1 rp h1 => by
    split at h1
    · rename_i hl
      have l : vs.length ≤ sizeLine := by rw [rp.length]; exact sl16 hl
      exact ⟨l, (PV.ext (show PV (X.gd Tz) r Z H Q _ from h1) e1).tup w1 rp l⟩
    · exact h1.elim
theorem e_lst (h : PA X es (tMs (X.gd Tz) XR E ms)) : PE X (.List es pos) (tM (X.gd Tz) XR E (mLst ms)) :=
  PE.imp (pe_lst h) fun σ H Q ⟨r, Z, ρ, w, s, h⟩ => tMs.split w s h fun vs H1 Z1 ds e1 w1 s1 rp h1 => by
    split at h1
    · rename_i hl
      have l : vs.length ≤ sizeLine := by rw [rp.length]; exact sl16 hl
      exact ⟨l, (PV.ext (show PV (X.gd Tz) r Z H Q _ from h1) e1).lst w1 rp l⟩
    · exact h1.elim

/-! ## calls of built-ins by values; subscripts; slices -/
def rC (K : Gd) (g : List Dt → Option Dt) : List V → Hp → VK → Prop := fun xs H Q => ∃ r Z ds d, Wf K r Z H ∧ Reps K r Z H xs ds ∧ g ds = some d ∧ PV K r Z H Q d
def mCall (g : List Dt → Option Dt) (ms : En → Mo (List Dt)) : En → Mo Dt := fun ρ => (ms ρ).bind fun xs => ofO (g xs)
variable {x : Str} {p : Pos} {g : List Dt → Option Dt} {id T : String}
theorem rC_of {σ : Sg} {H : Hp} {Q : VK} (h : tM (X.gd Tz) XR E (mCall g ms) σ H Q) : tMs (X.gd Tz) XR E ms σ H fun vs H1 => rC (X.gd Tz) g vs H1 Q := by
  obtain ⟨r, Z, ρ, w, s, h⟩ := h
  refine tMs.split w s h fun vs H1 Z1 ds e1 w1 s1 rp h1 => ?_
  obtain ⟨d, e2, h2⟩ := wp_ofO h1
  exact ⟨r, Z1, ds, d, w1, rp, e2, h2.ext e1⟩
theorem e_callB (hc : CallR X (.builtin id) (rC (X.gd Tz) g)) (hg : Gl X x) (hm : X.mg x = none) (hv : bootBuiltins x = some (.builtin id)) (ha : PA X (e :: es) (tMs (X.gd Tz) XR E ms)) (hn : x ≠ "__name__" := by decide) (hdb : (x == ("__debug__" : Str)) = false := by decide)
    (he : starEach (e :: es) X.env = (false, eval e X.env) :: starEach es X.env := by rfl) (hpl : (backTo pos (starEach es X.env)).any (·.1) = false := by rfl) : PE X (.Call (.Name x p) (e :: es) [] pos) (tM (X.gd Tz) XR E (mCall g ms)) :=
  PE.imp (pe_callB hc hg hm hv ha hn hdb he hpl) fun σ H Q h => rC_of h
theorem e_callTy (hc : CallR X (.type T) (rC (X.gd Tz) g)) (hg : Gl X x) (hm : X.mg x = none) (hv : bootBuiltins x = some (.type T)) (ha : PA X (e :: es) (tMs (X.gd Tz) XR E ms)) (hn : x ≠ "__name__" := by decide) (hdb : (x == ("__debug__" : Str)) = false := by decide)
    (he : starEach (e :: es) X.env = (false, eval e X.env) :: starEach es X.env := by rfl) (hpl : (backTo pos (starEach es X.env)).any (·.1) = false := by rfl) : PE X (.Call (.Name x p) (e :: es) [] pos) (tM (X.gd Tz) XR E (mCall g ms)) :=
  PE.imp (pe_callTy hc hg hm hv ha hn hdb he hpl) fun σ H Q h => rC_of h
theorem e_ix {g : Dt → Dt → Option Dt} (hr : IxR X (r2 (X.gd Tz) g)) (ha : PE X a (tM (X.gd Tz) XR E ma)) (hb : PE X b (tM (X.gd Tz) XR E mb)) (hs : PlainIx b := by exact fun _ _ => rfl) : PE X (.Subscript a b pos) (tM (X.gd Tz) XR E (m2 g ma mb)) :=
  PE.imp (pe_ix hr ha hb hs) fun σ H Q h => r2_of h
/-- a method of a built-in type, by values -/
def rMt (K : Gd) (g : Dt → List Dt → Option Dt) : V → List V → Hp → VK → Prop := fun x xs H Q => ∃ r Z dx ds d, Wf K r Z H ∧ Rep K r Z H x dx ∧ Reps K r Z H xs ds ∧ g dx ds = some d ∧ PV K r Z H Q d
end
end Fw
set_option Elab.async false
set_option linter.all false
set_option maxRecDepth 100000
set_option maxHeartbeats 4000000
namespace Fw
open PySem PySem.Spec PyProof.Rows L2

/-! ## the least and the greatest of two texts -/
section
variable {prog : Program} {w : World} {A : Around} {E : Value → Shared → Prop} {s : Shared}
def sAt (xs : Array (Str × Tok)) (i : Nat) : List Nat := (match xs[i]? with | some p => p.1 | none => (⟨#[]⟩ : Str)).cps.toList
theorem cmp_strs_gt (xs : Array (Str × Tok)) : CmpOf prog w A .Gt (fun i v => (xs.map fun p => Value.str p.1 p.2)[i]? = some v) (fun i j => decide (sAt xs j < sAt xs i)) := fun i j vi vj s Q E hi hj h => by
  simp only [Array.getElem?_map, Option.map_eq_some_iff] at hi hj
  obtain ⟨p, hp, rfl⟩ := hi
  obtain ⟨q, hq, rfl⟩ := hj
  have h' : Q (.bool (decide (q.1.cps.toList < p.1.cps.toList))) s := by
    have := h
    simp only [sAt, hp, hq] at this
    exact this
  exact (PySem.P.gt_str h' : wpAny (model prog w) A (compareOp .Gt (.str p.1 p.2) (.str q.1 q.2)) Q E s)
theorem cmp_strs_lt (xs : Array (Str × Tok)) : CmpOf prog w A .Lt (fun i v => (xs.map fun p => Value.str p.1 p.2)[i]? = some v) (fun i j => decide (sAt xs i < sAt xs j)) := fun i j vi vj s Q E hi hj h => by
  simp only [Array.getElem?_map, Option.map_eq_some_iff] at hi hj
  obtain ⟨p, hp, rfl⟩ := hi
  obtain ⟨q, hq, rfl⟩ := hj
  have h' : Q (.bool (decide (p.1.cps.toList < q.1.cps.toList))) s := by
    have := h
    simp only [sAt, hp, hq] at this
    exact this
  exact (PyProof.Rows.lt_str h' : wpAny (model prog w) A (compareOp .Lt (.str p.1 p.2) (.str q.1 q.2)) Q E s)
theorem max_two_strs {a b : Str} {t u : Tok} {Q : Value → Shared → Prop} (hh : A.handled = none)
    (h : ∀ h' tk, (∀ c o, s.heap.get? c = some o → h'.get? c = some o) → Q (if a.cps.toList < b.cps.toList then .str b u else .str a t) { s with heap := h', toks := tk }) :
    wpAny (model prog w) A (call (.builtin "max") [.str a t, .str b u]) Q E s := by
  have hT : (s.heap.push { cls := .type "tuple", data := .seq #[.str a t, .str b u] }).IsTuple s.heap.objs.size ((#[(a, t), (b, u)] : Array (Str × Tok)).map fun p => Value.str p.1 p.2) := ⟨_, Heap.get?_push_size _ rfl, rfl, 0, by simp⟩
  refine call_max_two (wpAny_pyIter_tuple hT ?_)
  have hsz : (s.heap.push { cls := .type "tuple", data := .seq #[.str a t, .str b u] }).objs.size = s.heap.objs.size + 1 := Heap.size_push ..
  refine ⟨_, [_, s.heap.objs.size], [_], _, _, _, _, rfl, Walks.tuple (A := A.in1) hh _ s.heap.objs.size (by rw [hsz]; exact Nat.ne_of_lt (Nat.lt_succ_self _)) _,
    ⟨⟨_, Heap.get?_push_size _ rfl, rfl, rfl⟩, hT.push _⟩, fun c hc => ?_, by simp, cmp_strs_gt #[(a, t), (b, u)], fun v h' tk hP hk => ?_⟩
  · show c < ((s.heap.push _).push _).objs.size
    rw [Heap.size_push, hsz]
    rcases List.mem_cons.mp hc with rfl | hc
    · rw [hsz]; exact Nat.lt_succ_self _
    · rcases List.mem_cons.mp hc with rfl | hc
      · exact Nat.lt_succ_of_lt (Nat.lt_succ_self _)
      · cases hc
  · have hold : ∀ c o, s.heap.get? c = some o → h'.get? c = some o := fun c o e => by
      refine hk c o (fun hm => ?_) (Heap.get?_push_of_some _ (Heap.get?_push_of_some _ e))
      rcases List.mem_cons.mp hm with e1 | hm
      · have := Heap.lt_size e; rw [e1, hsz] at this; exact Nat.lt_irrefl _ (Nat.lt_of_succ_lt this)
      · cases hm
    have := h h' tk hold
    have hv : v = if a.cps.toList < b.cps.toList then Value.str b u else Value.str a t := by
      by_cases hba : a.cps.toList < b.cps.toList
      · rw [if_pos hba]
        have hb2 : a.cps < b.cps := hba
        simpa [argBest, sAt, hb2] using hP.symm
      · rw [if_neg hba]
        have hb2 : ¬ a.cps < b.cps := hba
        simpa [argBest, sAt, hb2] using hP.symm
    rw [hv]; exact this
theorem min_two_strs {a b : Str} {t u : Tok} {Q : Value → Shared → Prop} (hh : A.handled = none)
    (h : ∀ h' tk, (∀ c o, s.heap.get? c = some o → h'.get? c = some o) → Q (if b.cps.toList < a.cps.toList then .str b u else .str a t) { s with heap := h', toks := tk }) :
    wpAny (model prog w) A (call (.builtin "min") [.str a t, .str b u]) Q E s := by
  have hT : (s.heap.push { cls := .type "tuple", data := .seq #[.str a t, .str b u] }).IsTuple s.heap.objs.size ((#[(a, t), (b, u)] : Array (Str × Tok)).map fun p => Value.str p.1 p.2) := ⟨_, Heap.get?_push_size _ rfl, rfl, 0, by simp⟩
  refine call_min_two (wpAny_pyIter_tuple hT ?_)
  have hsz : (s.heap.push { cls := .type "tuple", data := .seq #[.str a t, .str b u] }).objs.size = s.heap.objs.size + 1 := Heap.size_push ..
  refine ⟨_, [_, s.heap.objs.size], [_], _, _, _, _, rfl, Walks.tuple (A := A.in1) hh _ s.heap.objs.size (by rw [hsz]; exact Nat.ne_of_lt (Nat.lt_succ_self _)) _,
    ⟨⟨_, Heap.get?_push_size _ rfl, rfl, rfl⟩, hT.push _⟩, fun c hc => ?_, by simp, cmp_strs_lt #[(a, t), (b, u)], fun v h' tk hP hk => ?_⟩
  · show c < ((s.heap.push _).push _).objs.size
    rw [Heap.size_push, hsz]
    rcases List.mem_cons.mp hc with rfl | hc
    · rw [hsz]; exact Nat.lt_succ_self _
    · rcases List.mem_cons.mp hc with rfl | hc
      · exact Nat.lt_succ_of_lt (Nat.lt_succ_self _)
      · cases hc
  · have hold : ∀ c o, s.heap.get? c = some o → h'.get? c = some o := fun c o e => by
      refine hk c o (fun hm => ?_) (Heap.get?_push_of_some _ (Heap.get?_push_of_some _ e))
      rcases List.mem_cons.mp hm with e1 | hm
      · have := Heap.lt_size e; rw [e1, hsz] at this; exact Nat.lt_irrefl _ (Nat.lt_of_succ_lt this)
      · cases hm
    have := h h' tk hold
    have hv : v = if b.cps.toList < a.cps.toList then Value.str b u else Value.str a t := by
      by_cases hba : b.cps.toList < a.cps.toList
      · rw [if_pos hba]
        have hb2 : b.cps < a.cps := hba
        simpa [argBest, sAt, hb2] using hP.symm
      · rw [if_neg hba]
        have hb2 : ¬ b.cps < a.cps := hba
        simpa [argBest, sAt, hb2] using hP.symm
    rw [hv]; exact this
end

/-! ## built-ins by data -/
def lenD : List Dt → Option Dt
  | [.tup x] => some (.int x.length)
  | [.lst x] => some (.int x.length)
  | [.str x] => if x.length ≤ 16777216 then some (.int x.length) else none
  | _ => none
def tupleD : List Dt → Option Dt
  | [.tup x] => some (.tup x)
  | [.lst x] => some (.tup x)
  | [.str x] => if x.length ≤ 16777216 then some (.tup (x.map fun c => .str [c])) else none
  | _ => none
def listD : List Dt → Option Dt
  | [.tup x] => some (.lst x)
  | [.lst x] => some (.lst x)
  | [.str x] => if x.length ≤ 16777216 then some (.lst (x.map fun c => .str [c])) else none
  | _ => none
def intD : List Dt → Option Dt
  | [.int i] => some (.int i)
  | _ => none
def intsOf : List Dt → Option (List Int)
  | [] => some []
  | .int i :: r => (intsOf r).map (i :: ·)
  | _ => none
def boolsOf : List Dt → Option (List Bool)
  | [] => some []
  | .bl i :: r => (boolsOf r).map (i :: ·)
  | _ => none
def strsOf : List Dt → Option (List (List Nat))
  | [] => some []
  | .str i :: r => (strsOf r).map (i :: ·)
  | _ => none
def sumD : List Dt → Option Dt
  | [.lst x] => (intsOf x).map fun l => .int l.sum
  | _ => none
def allD : List Dt → Option Dt
  | [.lst x] => (boolsOf x).map fun l => .bl (l.all id)
  | _ => none
def anyD : List Dt → Option Dt
  | [.lst x] => (boolsOf x).map fun l => .bl (l.any id)
  | _ => none
def minD : List Dt → Option Dt
  | [.str a, .str b] => some (.str (if ltS b a then b else a))
  | _ => none
def maxD : List Dt → Option Dt
  | [.str a, .str b] => some (.str (if ltS a b then b else a))
  | _ => none
section
variable {K : Gd} {r : Addr} {Z : Addr → Prop} {H : Hp}
theorem reps_ints : ∀ {ds : List Dt} {vs : List V} {l : List Int}, Reps K r Z H vs ds → intsOf ds = some l → vs = l.map V.int
  | [], vs, l, h, e => by rw [h.inv_nil]; cases e; rfl
  | d :: ds, vs, l, h, e => by
    obtain ⟨v, us, rfl, h1, h2⟩ := h.inv_cons
    cases d with
    | int i =>
      obtain ⟨l', e1, rfl⟩ := Option.map_eq_some_iff.mp (show (intsOf ds).map (i :: ·) = some l from e)
      rw [h1.int, reps_ints h2 e1]
      rfl
    | _ => cases e
theorem reps_bools : ∀ {ds : List Dt} {vs : List V} {l : List Bool}, Reps K r Z H vs ds → boolsOf ds = some l → vs = l.map V.bl
  | [], vs, l, h, e => by rw [h.inv_nil]; cases e; rfl
  | d :: ds, vs, l, h, e => by
    obtain ⟨v, us, rfl, h1, h2⟩ := h.inv_cons
    cases d with
    | bl i =>
      obtain ⟨l', e1, rfl⟩ := Option.map_eq_some_iff.mp (show (boolsOf ds).map (i :: ·) = some l from e)
      rw [h1.bl, reps_bools h2 e1]
      rfl
    | _ => cases e
theorem reps_strs : ∀ {ds : List Dt} {vs : List V} {l : List (List Nat)}, Reps K r Z H vs ds → strsOf ds = some l → vs = l.map fun x => V.str (st x)
  | [], vs, l, h, e => by rw [h.inv_nil]; cases e; rfl
  | d :: ds, vs, l, h, e => by
    obtain ⟨v, us, rfl, h1, h2⟩ := h.inv_cons
    cases d with
    | str i =>
      obtain ⟨l', e1, rfl⟩ := Option.map_eq_some_iff.mp (show (strsOf ds).map (i :: ·) = some l from e)
      rw [h1.str, reps_strs h2 e1]
      rfl
    | _ => cases e
theorem mk_strs : ∀ (l : List (List Nat)), Reps K r Z H (l.map fun x => V.str (st x)) (l.map Dt.str)
  | [] => Reps.nil
  | x :: l => Reps.cons Rep.mk_str (mk_strs l)
theorem Reps.one {d : Dt} {vs : List V} (h : Reps K r Z H vs [d]) : ∃ v, vs = [v] ∧ Rep K r Z H v d := by
  obtain ⟨v, us, rfl, h1, h2⟩ := h.inv_cons
  rw [h2.inv_nil]
  exact ⟨v, rfl, h1⟩
theorem Reps.two {d e : Dt} {vs : List V} (h : Reps K r Z H vs [d, e]) : ∃ v u, vs = [v, u] ∧ Rep K r Z H v d ∧ Rep K r Z H u e := by
  obtain ⟨v, us, rfl, h1, h2⟩ := h.inv_cons
  obtain ⟨u, rfl, h3⟩ := h2.one
  exact ⟨v, u, rfl, h1, h3⟩
end
section
variable {X : Cx} {Tz : Tbs}
theorem c_len : CallR X (.builtin "len") (rC (X.gd Tz) lenD) := by
  rintro pins s σ H xs us Q I rx ⟨r, Z, ds, d, w, px, e, q⟩
  unfold lenD at e
  split at e
  · obtain ⟨v, rfl, h⟩ := px.one
    obtain ⟨a, vs, rfl, t, l, qs⟩ := h.tup
    cases e
    refine call_len pins s σ H _ us Q I rx ⟨_, vs.length, rfl, .inr ⟨vs, t.sq, rfl⟩, ?_⟩
    rw [qs.length]
    exact PV.at w q Rep.mk_int
  · obtain ⟨v, rfl, h⟩ := px.one
    obtain ⟨a, vs, rfl, z, t, l, qs⟩ := h.lst
    cases e
    refine call_len pins s σ H _ us Q I rx ⟨_, vs.length, rfl, .inl ⟨vs, .of t, rfl⟩, ?_⟩
    rw [qs.length]
    exact PV.at w q Rep.mk_int
  · obtain ⟨v, rfl, h⟩ := px.one
    rw [h.str] at rx
    split at e
    · rename_i x hl
      cases e
      refine call_len pins s σ H _ us Q I rx ⟨_, x.length, rfl, ⟨by rw [st_length]; exact sl16 hl, (st_length x).symm⟩, PV.at w q Rep.mk_int⟩
    · cases e
  · cases e
theorem vals_signs {x : List Nat} {acc : Array Value} (hacc : ItemsOf (SignAt (st x)) acc (st x).cps.size) : Vals (x.map fun c => V.str (st [c])) acc.toList := by
  have hsz : acc.toList.length = (x.map fun c => V.str (st [c])).length := by
    rw [List.length_map, Array.length_toList, hacc.1]
    exact st_length x
  have key : ∀ (xs : List V) (us : List Value), us.length = xs.length → (∀ (i : Nat) (x : V), xs[i]? = some x → ∃ u, us[i]? = some u ∧ RelV x u) → Vals xs us := by
    intro xs
    induction xs with
    | nil => intro us hl _; cases us with
      | nil => exact .nil
      | cons u us => cases hl
    | cons x xs ih => intro us hl hg; cases us with
      | nil => cases hl
      | cons u us =>
        obtain ⟨u', e1, r1⟩ := hg 0 x rfl
        have e1' : u = u' := by simpa using e1
        subst e1'
        exact .cons r1 (ih us (by simpa using hl) fun i y e => by simpa using hg (i + 1) y (by simpa using e))
  refine key _ _ hsz fun i y hy => ?_
  rw [List.getElem?_map, Option.map_eq_some_iff] at hy
  obtain ⟨c, hc', rfl⟩ := hy
  have hi : i < acc.toList.length := by
    rw [hsz, List.length_map]
    exact (List.getElem?_eq_some_iff.mp hc').1
  obtain ⟨c2, u2, hc2, e2⟩ := hacc.2 i acc.toList[i] (by
    have := List.getElem?_eq_getElem hi
    simpa using this)
  have : c2 = c := by
    have e3 : (st x).cps[i]? = some c := by
      simpa [st] using hc'
    rw [e3] at hc2
    exact (Option.some.inj hc2).symm
  subst this
  exact ⟨_, List.getElem?_eq_getElem hi, u2, e2⟩
theorem reps_signs {K : Gd} {r : Addr} {Z : Addr → Prop} {H : Hp} : ∀ x : List Nat, Reps K r Z H (x.map fun c => V.str (st [c])) (x.map fun c => .str [c])
  | [] => Reps.nil
  | c :: x => Reps.cons Rep.mk_str (reps_signs x)
/-- list(x): of a list, a tuple, a text -/
def rListA (K : PySem.W.Frag) : List V → Hp → VK → Prop := fun xs H Q => (∃ p ys, xs = [.ref p] ∧ (SqL K H p ys ∨ SqT K H p ys) ∧ ∀ l, H l = none → Q (.ref l) (upd H l (.lst ys))) ∨
  ∃ x : List Nat, xs = [.str (st x)] ∧ x.length ≤ 16777216 ∧ ∀ l, H l = none → Q (.ref l) (upd H l (.lst (x.map fun c => V.str (st [c]))))
theorem call_listA (hc : X.calm = true) : CallR X (.type "list") (rListA X.K) := by
  intro pins s σ H xs us Q I rx h
  rcases h with h | ⟨x, rfl, hl, q⟩
  · exact call_list_of pins s σ H xs us Q I rx h
  · obtain ⟨u, rfl, tk0, rfl⟩ := Vals.one rx
    have hl' : (st x).cps.size ≤ sizeLine := by
      have := st_length x
      rw [show (st x).cps.size = x.length from this]
      exact sl16 hl
    refine call_list_str (hn := hl') (I.ok.hd hc) (st x) tk0 fun h' tk acc c' hk hS hacc => ?_
    refine ⟨.ref s.heap.objs.size, _, I.laid (o := .lst (x.map fun c => V.str (st [c]))) (t' := tk) (fun b u e => hk b u e) (Nat.le_refl _) ⟨?_, acc.toList, c', vals_signs hacc, by rw [Array.toArray_toList]; exact hS⟩, rfl, q _ (I.hok.fresh (Nat.le_refl _))⟩
    rw [List.length_map]
    exact sl16 hl
theorem c_list (hc : X.calm = true) : CallR X (.type "list") (rC (X.gd Tz) listD) := by
  rintro pins s σ H xs us Q I rx ⟨r, Z, ds, d, w, px, e, q⟩
  unfold listD at e
  split at e
  · obtain ⟨v, rfl, h⟩ := px.one
    obtain ⟨a, vs, rfl, t, l, qs⟩ := h.tup
    cases e
    exact call_listA hc pins s σ H _ us Q I rx (.inl ⟨a, vs, rfl, .inr t.sq, PV.lst q w qs l⟩)
  · obtain ⟨v, rfl, h⟩ := px.one
    obtain ⟨a, vs, rfl, z, t, l, qs⟩ := h.lst
    cases e
    exact call_listA hc pins s σ H _ us Q I rx (.inl ⟨a, vs, rfl, .inl (.of t), PV.lst q w qs l⟩)
  · split at e
    · rename_i x hl
      cases e
      obtain ⟨v, rfl, h⟩ := px.one
      rw [h.str] at rx
      have hq : Reps (X.gd Tz) r Z H (x.map fun c => V.str (st [c])) (x.map fun c => .str [c]) := reps_signs x
      exact call_listA hc pins s σ H _ us Q I rx (.inr ⟨x, rfl, hl, PV.lst q w hq (by rw [List.length_map]; exact sl16 hl)⟩)
    · cases e
  · cases e
theorem c_int : CallR X (.type "int") (rC (X.gd Tz) intD) := by
  rintro pins s σ H xs us Q I rx ⟨r, Z, ds, d, w, px, e, q⟩
  unfold intD at e
  split at e
  · obtain ⟨v, rfl, h⟩ := px.one
    rw [h.int] at rx
    cases e
    exact call_int1 pins s σ H _ us Q I rx (.inl ⟨_, rfl, PV.at w q Rep.mk_int⟩)
  · cases e
theorem c_sum (hc : X.calm = true) : CallR X (.builtin "sum") (rC (X.gd Tz) sumD) := by
  rintro pins s σ H xs us Q I rx ⟨r, Z, ds, d, w, px, e, q⟩
  unfold sumD at e
  split at e
  · obtain ⟨l, e1, rfl⟩ := Option.map_eq_some_iff.mp e
    obtain ⟨v, rfl, h⟩ := px.one
    obtain ⟨a, vs, rfl, z, t, _, qs⟩ := h.lst
    rw [reps_ints qs e1] at t
    exact cr_sum hc pins s σ H _ us Q I rx ⟨a, l, rfl, .of t, PV.at w q Rep.mk_int⟩
  · cases e
theorem c_all (hc : X.calm = true) : CallR X (.builtin "all") (rC (X.gd Tz) allD) := by
  rintro pins s σ H xs us Q I rx ⟨r, Z, ds, d, w, px, e, q⟩
  unfold allD at e
  split at e
  · obtain ⟨l, e1, rfl⟩ := Option.map_eq_some_iff.mp e
    obtain ⟨v, rfl, h⟩ := px.one
    obtain ⟨a, vs, rfl, z, t, _, qs⟩ := h.lst
    rw [reps_bools qs e1] at t
    exact cr_all hc pins s σ H _ us Q I rx ⟨a, l, rfl, .of t, PV.at w q Rep.mk_bl⟩
  · cases e
theorem c_any (hc : X.calm = true) : CallR X (.builtin "any") (rC (X.gd Tz) anyD) := by
  rintro pins s σ H xs us Q I rx ⟨r, Z, ds, d, w, px, e, q⟩
  unfold anyD at e
  split at e
  · obtain ⟨l, e1, rfl⟩ := Option.map_eq_some_iff.mp e
    obtain ⟨v, rfl, h⟩ := px.one
    obtain ⟨a, vs, rfl, z, t, _, qs⟩ := h.lst
    rw [reps_bools qs e1] at t
    exact cr_any hc pins s σ H _ us Q I rx ⟨a, l, rfl, .of t, PV.at w q Rep.mk_bl⟩
  · cases e
theorem c_min (hc : X.calm = true) : CallR X (.builtin "min") (rC (X.gd Tz) minD) := by
  rintro pins s σ H xs us Q I rx ⟨r, Z, ds, d, w, px, e, q⟩
  unfold minD at e
  split at e
  · rename_i a b
    obtain ⟨v, v', rfl, h, h'⟩ := px.two
    rw [h.str, h'.str] at rx
    cases e
    obtain ⟨u, w', rfl, ⟨t, rfl⟩, ⟨t', rfl⟩⟩ := vals2 rx
    refine min_two_strs (I.ok.hd hc) fun h' tk k => ?_
    rw [cps_st, cps_st]
    have hq := PV.at w q Rep.mk_str
    by_cases hb : b < a
    · rw [if_pos hb]
      rw [← ltS_eq, decide_eq_true hb] at hq
      exact ⟨.str _, H, I.kept k, ⟨_, rfl⟩, hq⟩
    · rw [if_neg hb]
      rw [← ltS_eq, decide_eq_false hb] at hq
      exact ⟨.str _, H, I.kept k, ⟨_, rfl⟩, hq⟩
  · cases e
theorem c_max (hc : X.calm = true) : CallR X (.builtin "max") (rC (X.gd Tz) maxD) := by
  rintro pins s σ H xs us Q I rx ⟨r, Z, ds, d, w, px, e, q⟩
  unfold maxD at e
  split at e
  · rename_i a b
    obtain ⟨v, v', rfl, h, h'⟩ := px.two
    rw [h.str, h'.str] at rx
    cases e
    obtain ⟨u, w', rfl, ⟨t, rfl⟩, ⟨t', rfl⟩⟩ := vals2 rx
    refine max_two_strs (I.ok.hd hc) fun h' tk k => ?_
    rw [cps_st, cps_st]
    have hq := PV.at w q Rep.mk_str
    by_cases hb : a < b
    · rw [if_pos hb]
      rw [← ltS_eq, decide_eq_true hb] at hq
      exact ⟨.str _, H, I.kept k, ⟨_, rfl⟩, hq⟩
    · rw [if_neg hb]
      rw [← ltS_eq, decide_eq_false hb] at hq
      exact ⟨.str _, H, I.kept k, ⟨_, rfl⟩, hq⟩
  · cases e
/-- a tuple of a text's signs -/
theorem c_tuple (hc : X.calm = true) : CallR X (.type "tuple") (rC (X.gd Tz) tupleD) := by
  rintro pins s σ H xs us Q I rx ⟨r, Z, ds, d, w, px, e, q⟩
  unfold tupleD at e
  split at e
  · obtain ⟨v, rfl, h⟩ := px.one
    obtain ⟨a, vs, rfl, t, l, qs⟩ := h.tup
    cases e
    exact call_tuple_of pins s σ H _ us Q I rx ⟨a, vs, rfl, .inr ⟨t.sq, PV.at w q (Rep.mk_tup t l qs)⟩⟩
  · obtain ⟨v, rfl, h⟩ := px.one
    obtain ⟨a, vs, rfl, z, t, l, qs⟩ := h.lst
    cases e
    exact call_tuple_of pins s σ H _ us Q I rx ⟨a, vs, rfl, .inl ⟨.of t, PV.tup q w qs l⟩⟩
  · rename_i x
    obtain ⟨v, rfl, h⟩ := px.one
    rw [h.str] at rx
    split at e
    · rename_i hl
      cases e
      obtain ⟨u, rfl, tk0, rfl⟩ := Vals.one rx
      have hl' : (st x).cps.size ≤ sizeLine := by
        have := st_length x
        rw [show (st x).cps.size = x.length from this]
        exact sl16 hl
      refine call_tuple_str (hsz := hl') (I.ok.hd hc) (st x) tk0 fun h' tk acc hk hacc => ?_
      have I1 : Inv X pins σ H { s with heap := h', toks := tk } := I.kept hk
      have hn : H h'.objs.size = none := I1.hok.fresh (Nat.le_refl _)
      have hv : Vals ((x.map fun c => V.str (st [c]))) acc.toList := by
        have hsz : acc.toList.length = (x.map fun c => V.str (st [c])).length := by
          rw [List.length_map, Array.length_toList, hacc.1]
          exact st_length x
        have key : ∀ (xs : List V) (us : List Value), us.length = xs.length → (∀ (i : Nat) (x : V), xs[i]? = some x → ∃ u, us[i]? = some u ∧ RelV x u) → Vals xs us := by
          intro xs
          induction xs with
          | nil => intro us hl _; cases us with
            | nil => exact .nil
            | cons u us => cases hl
          | cons x xs ih => intro us hl hg; cases us with
            | nil => cases hl
            | cons u us =>
              obtain ⟨u', e1, r1⟩ := hg 0 x rfl
              have e1' : u = u' := by simpa using e1
              subst e1'
              exact .cons r1 (ih us (by simpa using hl) fun i y e => by simpa using hg (i + 1) y (by simpa using e))
        refine key _ _ hsz fun i y hy => ?_
        rw [List.getElem?_map, Option.map_eq_some_iff] at hy
        obtain ⟨c, hc', rfl⟩ := hy
        have hi : i < acc.toList.length := by
          rw [hsz, List.length_map]
          exact (List.getElem?_eq_some_iff.mp hc').1
        obtain ⟨c2, u2, hc2, e2⟩ := hacc.2 i acc.toList[i] (by
          have := List.getElem?_eq_getElem hi
          simpa using this)
        have : c2 = c := by
          have e3 : (st x).cps[i]? = some c := by
            simpa [st] using hc'
          rw [e3] at hc2
          exact (Option.some.inj hc2).symm
        subst this
        exact ⟨_, List.getElem?_eq_getElem hi, u2, e2⟩
      refine ⟨.ref h'.objs.size, upd H h'.objs.size (.tup (x.map fun c => V.str (st [c]))), I1.laid (t' := tk) (fun b o e => Heap.get?_push_of_some _ e) (Nat.le_refl _) ?_, rfl, ?_⟩
      · refine ⟨?_, acc.toList, hv, ⟨_, Heap.get?_push_size _ rfl, rfl, 0, by simp⟩⟩
        rw [List.length_map]
        exact sl16 hl
      · have hr : Reps (X.gd Tz) r Z H (x.map fun c => V.str (st [c])) (x.map fun c => Dt.str [c]) := by
          have := mk_strs (K := (X.gd Tz)) (r := r) (Z := Z) (H := H) (x.map fun c => [c])
          rw [List.map_map, List.map_map] at this
          exact this
        exact PV.tup q w hr (by rw [List.length_map]; exact sl16 hl) _ hn
    · cases e
  · cases e
end
end Fw
set_option Elab.async false
set_option linter.all false
set_option maxRecDepth 100000
set_option maxHeartbeats 4000000
namespace Fw
open PySem PySem.Spec PyProof.Rows L2

/-! ## items and slices -/
def ixD (a i : Dt) : Option Dt := match i with
  | .int i => match a with
    | .tup x => atI x i
    | .lst x => atI x i
    | .str x => if x.length ≤ 16777216 then (atI x i).map fun c => .str [c] else none
    | _ => none
  | _ => none
def cutL {α : Type} (xs : List α) (lo hi : Option Int) : List α := (xs.drop (HT.sIx xs.length 0 lo)).take (HT.sIx xs.length xs.length hi - HT.sIx xs.length 0 lo)
def slD (a : Dt) (lo hi : Option Int) : Option Dt := match a with
  | .tup x => some (.tup (cutL x lo hi))
  | .lst x => some (.lst (cutL x lo hi))
  | .str x => if x.length ≤ 16777216 then some (.str (cutL x lo hi)) else none
  | _ => none
section
variable {K : Gd} {r : Addr} {Z : Addr → Prop} {H : Hp}
theorem Reps.atI {ds : List Dt} {vs : List V} {i : Int} {d : Dt} (h : Reps K r Z H vs ds) (e : L2.atI ds i = some d) : ∃ v, L2.atI vs i = some v ∧ Rep K r Z H v d := by
  unfold L2.atI at e ⊢
  rw [h.length]
  cases q : ixN ds.length i with
  | none => rw [q] at e; cases e
  | some j =>
    rw [q] at e
    exact h.get (show ds[j]? = some d from e)
theorem Reps.cut {ds : List Dt} {vs : List V} (h : Reps K r Z H vs ds) (lo hi : Option Int) : Reps K r Z H (cutV vs lo hi) (cutL ds lo hi) := by
  unfold cutV cutL
  rw [h.length]
  exact (h.drop).take
end
section
variable {X : Cx} {Tz : Tbs}
theorem i_seq : IxR X (r2 (X.gd Tz) ixD) := by
  rintro value slice pins s σ H x y v u Q I rx ry ⟨r, Z, dx, dy, d, w, px, py, e, q⟩ hs
  unfold ixD at e
  split at e
  · rw [py.int] at ry
    split at e
    · obtain ⟨a, vs, rfl, t, l, qs⟩ := px.tup
      obtain ⟨z, e1, h1⟩ := qs.atI e
      exact ix_tup value slice pins s σ H _ _ v u Q I rx ry ⟨a, vs, _, z, rfl, rfl, t.sq, e1, PV.at w q h1⟩ hs
    · obtain ⟨a, vs, rfl, zz, t, l, qs⟩ := px.lst
      obtain ⟨z, e1, h1⟩ := qs.atI e
      exact ix_list value slice pins s σ H _ _ v u Q I rx ry ⟨a, vs, _, z, rfl, rfl, .of t, e1, PV.at w q h1⟩ hs
    · rw [px.str] at rx
      split at e
      · rename_i hl
        obtain ⟨c, e1, rfl⟩ := Option.map_eq_some_iff.mp e
        refine ix_str value slice pins s σ H _ _ v u Q I rx ry ⟨_, _, c, rfl, rfl, by rw [st_length]; exact sl16 hl, by rw [cps_st]; exact e1, PV.at w q Rep.mk_str⟩ hs
      · cases e
    · cases e
  · cases e
end
section
variable {X : Cx} {Tz : Tbs} {XR : XRel} {E : Sg → XK} {a b c e : Expr} {ma mb mc : En → Mo Dt} {pos : Pos}
/-- a slice's bound -/
def tMo (K : Gd) (XR : XRel) (E : Sg → XK) (m : En → Mo (Option Int)) : TO := fun σ H Q => ∃ r Z ρ, Wf K r Z H ∧ StOk K r Z H σ ρ ∧ (m ρ).wp (fun o => ∀ H' Z', Ext K r Z H Z' H' → Q o H') (PX K XR r Z H (E σ))
def mNo : En → Mo (Option Int) := fun _ => .ret none
def mSome (m : En → Mo Dt) : En → Mo (Option Int) := fun ρ => (m ρ).bind fun d => match d with | .int i => .ret (some i) | _ => .err
theorem p_none : PO X none (tMo (X.gd Tz) XR E mNo) := ⟨fun pins s σ H Q I ⟨r, Z, ρ, w, st, h⟩ => po_none.run pins s σ H Q I (h H Z (Ext.refl w))⟩
theorem p_some (h : PE X e (tM (X.gd Tz) XR E ma)) : PO X (some e) (tMo (X.gd Tz) XR E (mSome ma)) := ⟨fun pins s σ H Q I ⟨r, Z, ρ, w, st, q⟩ => (po_some h).run pins s σ H Q I (tM.split w st q fun v H1 Z1 d e1 w1 s1 rp h1 => by
    cases d with
    | int i => exact ⟨i, rp.int, h1 H1 Z1 e1⟩
    | _ => exact h1.elim)⟩
def mSl (m : En → Mo Dt) (lo hi : En → Mo (Option Int)) : En → Mo Dt := fun ρ => (m ρ).bind fun x => (lo ρ).bind fun l => (hi ρ).bind fun u => ofO (slD x l u)
theorem sl_all : SlR X (fun x lo hi H Q => ∃ r Z dx d, Wf (X.gd Tz) r Z H ∧ Rep (X.gd Tz) r Z H x dx ∧ slD dx lo hi = some d ∧ PV (X.gd Tz) r Z H Q d) := by
  rintro pins s σ H x v vl vu lo hi sl Q I rx hs pl pu ⟨r, Z, dx, d, w, px, e, q⟩
  unfold slD at e
  split at e
  · obtain ⟨a, vs, rfl, t, l, qs⟩ := px.tup
    cases e
    have hq := qs.cut lo hi
    refine sl_tupA pins s σ H _ v vl vu lo hi sl Q I rx hs pl pu ⟨a, vs, rfl, t.sq, fun hw => ?_, fun _ => PV.tup q w hq (Nat.le_trans (cutV_length vs lo hi) l)⟩
    have e1 : cutV vs lo hi = vs := by
      unfold cutV
      rw [hw.1, hw.2, Nat.sub_zero, List.drop_zero, List.take_length]
    rw [e1] at hq
    exact PV.at w q (Rep.mk_tup t l hq)
  · obtain ⟨a, vs, rfl, z, t, l, qs⟩ := px.lst
    cases e
    exact sl_list pins s σ H _ v vl vu lo hi sl Q I rx hs pl pu ⟨a, vs, rfl, .of t, PV.lst q w (qs.cut lo hi) (Nat.le_trans (cutV_length vs lo hi) l)⟩
  · rw [px.str] at rx
    split at e
    · rename_i hl
      cases e
      refine sl_str pins s σ H _ v vl vu lo hi sl Q I rx hs pl pu ⟨_, rfl, by rw [st_length]; exact sl16 hl, ?_⟩
      unfold cutS
      rw [cps_st, st_length]
      exact PV.at w q Rep.mk_str
    · cases e
  · cases e
theorem e_slice {lo hi : Option Expr} {ml mh : En → Mo (Option Int)} {p2 : Pos} (he : PE X a (tM (X.gd Tz) XR E ma)) (hl : PO X lo (tMo (X.gd Tz) XR E ml)) (hu : PO X hi (tMo (X.gd Tz) XR E mh)) : PE X (.Subscript a (.Slice lo hi none p2) pos) (tM (X.gd Tz) XR E (mSl ma ml mh)) :=
  PE.imp (pe_slice sl_all he hl hu) fun σ H Q ⟨r, Z, ρ, w, s, h⟩ => tM.split w s h fun v H1 Z1 d e1 w1 s1 rp h1 =>
    ⟨r, Z1, ρ, w1, s1, (Mo.wp_bind.mp h1).mono (fun l hl2 H2 Z2 e2 => ⟨r, Z2, ρ, e2.wf, s1.ext w1 e2, (Mo.wp_bind.mp hl2).mono (fun u hu2 H3 Z3 e3 => by
      obtain ⟨d2, e4, h4⟩ := wp_ofO hu2
      have e5 := e2.trans e3
      exact ⟨r, Z3, d, d2, e3.wf, rp.frz (e5.frz w1), e4, h4.ext (e1.trans e5)⟩) fun _ _ p => p.ext (e1.trans e2)⟩) fun _ _ p => p.ext e1⟩

/-! ## isinstance of a built-in class -/
inductive Ty | str | tup | lst | int | bl
def Ty.name : Ty → String
  | .str => "str" | .tup => "tuple" | .lst => "list" | .int => "int" | .bl => "bool"
inductive Tn | non | bl | int | str | tup | lst | dct
def Tn.name : Tn → String
  | .non => "NoneType" | .bl => "bool" | .int => "int" | .str => "str" | .tup => "tuple" | .lst => "list" | .dct => "dict"
def tyK : Dt → Option Tn
  | .non => some .non | .bl _ => some .bl | .int _ => some .int | .str _ => some .str | .tup _ => some .tup | .lst _ => some .lst | .dk _ _ => some .dct | .dt _ _ => some .dct | .ntp _ => none | .row => none | .fn _ => none | .lam _ => none
def tyB : Ty → Tn → Bool
  | .str, .str => true
  | .tup, .tup => true
  | .lst, .lst => true
  | .int, .int => true
  | .int, .bl => true
  | .bl, .bl => true
  | _, _ => false
def tyD (T : Ty) (d : Dt) : Option Bool := (tyK d).map (tyB T)
theorem kit_B (T : Ty) (n : Tn) : kitB n.name T.name = some (tyB T n) := by
  cases T <;> cases n <;> decide +kernel
theorem Rep.tyn {K : Gd} {r : Addr} {Z : Addr → Prop} {H : Hp} {d : Dt} {v : V} {n : Tn} (h : Rep K r Z H v d) (en : tyK d = some n) : ∃ m : Tn, TyX K.K H v (.type m.name) ∧ m = n := by
  refine ⟨n, ?_, rfl⟩
  cases d with
  | non => cases en; rw [h.non]; exact .base .non
  | bl b => cases en; rw [h.bl]; exact .base (.bl b)
  | int b => cases en; rw [h.int]; exact .base (.int b)
  | str b => cases en; rw [h.str]; exact .base (.str _)
  | tup b =>
    cases en
    obtain ⟨a, vs, rfl, t, _⟩ := h.tup
    rcases t with ⟨_, t⟩ | ⟨o, its, n, hk, hc, _⟩
    · exact .base (.tup t)
    · exact .kTuple hk hc
  | lst b =>
    cases en
    obtain ⟨a, vs, rfl, _, t, _⟩ := h.lst
    exact .base (.lst t)
  | dk ks vs =>
    cases en
    unfold Rep at h
    obtain ⟨a, us, rfl, t, _⟩ := h
    rcases t with ⟨_, t⟩ | ⟨_, _, _, es, n, hk, _⟩
    · exact .base (.dK t)
    · exact .kDict hk rfl
  | dt ks vs =>
    cases en
    unfold Rep at h
    obtain ⟨a, us, rfl, _, t, _⟩ := h
    exact .base (.dT t)
  | row => cases en
  | ntp _ => cases en
  | fn a => cases en
  | lam i => cases en
theorem Rep.ty {K : Gd} {r : Addr} {Z : Addr → Prop} {H : Hp} {d : Dt} {v : V} {T : Ty} {b : Bool} (h : Rep K r Z H v d) (e : tyD T d = some b) : ∃ n : Tn, TyX K.K H v (.type n.name) ∧ tyB T n = b := by
  obtain ⟨n, en, eb⟩ := Option.map_eq_some_iff.mp e
  obtain ⟨m, hm, rfl⟩ := h.tyn en
  exact ⟨_, hm, eb⟩
def mIs (T : Ty) (m : En → Mo Dt) : En → Mo Dt := fun ρ => (m ρ).bind fun d => ofO ((tyD T d).map .bl)
theorem e_isi {T : Ty} {tn : Str} {p p2 : Pos} (hg : Gl X "isinstance") (hm : X.mg "isinstance" = none) (hgt : Gl X tn) (hmt : X.mg tn = none) (ht : bootBuiltins tn = some (.type T.name)) (ha : PE X e (tM (X.gd Tz) XR E ma)) (hn : tn ≠ "__name__" := by decide) (hd : (tn == ("__debug__" : Str)) = false := by decide)
    (hs : starEach [e, .Name tn p2] X.env = (false, eval e X.env) :: starEach [.Name tn p2] X.env := by rfl) (hpl : (backTo pos (starEach [.Name tn p2] X.env)).any (·.1) = false := by rfl) (hs2 : starEach [.Name tn p2] X.env = (false, eval (.Name tn p2) X.env) :: starEach [] X.env := by rfl) : PE X (.Call (.Name "isinstance" p) [e, .Name tn p2] [] pos) (tM (X.gd Tz) XR E (mIs T ma)) :=
  PE.imp (pe_callB call_isi hg hm PyProof.Rows.boot_isinstance (pa_cons ha (pa_cons (pe_bltn (v := .ty T.name) hgt hmt ht rfl hn hd) pa_nil hs2) hs) (by decide) (by decide) hs hpl) fun σ H Q ⟨r, Z, ρ, w, s, h⟩ =>
    tM.split w s h fun v H1 Z1 d e1 w1 s1 rp h1 => by
      obtain ⟨d2, e2, h2⟩ := wp_ofO h1
      obtain ⟨b, e3, rfl⟩ := Option.map_eq_some_iff.mp e2
      obtain ⟨n, hn, rfl⟩ := rp.ty e3
      exact ⟨v, .ty T.name, .type n.name, .type T.name, _, rfl, .ty _, hn, kit_ty (kit_B T n), h2 _ H1 Z1 e1 Rep.mk_bl⟩
def mIs2 (T U : Ty) (m : En → Mo Dt) : En → Mo Dt := fun ρ => (m ρ).bind fun d => ofO ((tyD T d).bind fun a => (tyD U d).map fun b => .bl (a || b))
theorem e_isi2 {T U : Ty} {tn un : Str} {k : Nat} {p p2 p3 p4 : Pos} (hg : Gl X "isinstance") (hm : X.mg "isinstance" = none) (hgt : Gl X tn) (hmt : X.mg tn = none) (ht : bootBuiltins tn = some (.type T.name)) (hgu : Gl X un) (hmu : X.mg un = none) (hu : bootBuiltins un = some (.type U.name)) (ha : PE X e (tM (X.gd Tz) XR E ma))
    (hn : tn ≠ "__name__" := by decide) (hd : (tn == ("__debug__" : Str)) = false := by decide) (hn2 : un ≠ "__name__" := by decide) (hd2 : (un == ("__debug__" : Str)) = false := by decide)
    (hs : starEach [e, .Tuple [.Name tn p2, .Name un p3] k p4] X.env = (false, eval e X.env) :: starEach [.Tuple [.Name tn p2, .Name un p3] k p4] X.env := by rfl) (hpl : (backTo pos (starEach [.Tuple [.Name tn p2, .Name un p3] k p4] X.env)).any (·.1) = false := by rfl)
    (hs2 : starEach [.Tuple [.Name tn p2, .Name un p3] k p4] X.env = (false, eval (.Tuple [.Name tn p2, .Name un p3] k p4) X.env) :: starEach [] X.env := by rfl)
    (hs3 : starEach [.Name tn p2, .Name un p3] X.env = (false, eval (.Name tn p2) X.env) :: starEach [.Name un p3] X.env := by rfl) (hs4 : starEach [.Name un p3] X.env = (false, eval (.Name un p3) X.env) :: starEach [] X.env := by rfl) :
    PE X (.Call (.Name "isinstance" p) [e, .Tuple [.Name tn p2, .Name un p3] k p4] [] pos) (tM (X.gd Tz) XR E (mIs2 T U ma)) :=
  PE.imp (pe_callB call_isiT hg hm PyProof.Rows.boot_isinstance (pa_cons ha (pa_cons (pe_tup (pa_cons (pe_bltn (v := .ty T.name) hgt hmt ht rfl hn hd) (pa_cons (pe_bltn (v := .ty U.name) hgu hmu hu rfl hn2 hd2) pa_nil hs4) hs3)) pa_nil hs2) hs) (by decide) (by decide) hs hpl) fun σ H Q ⟨r, Z, ρ, w, s, h⟩ =>
    tM.split w s h fun v H1 Z1 d e1 w1 s1 rp h1 => ⟨by show 2 ≤ sizeLine; decide, fun q hq => by
      obtain ⟨d2, e2, h2⟩ := wp_ofO h1
      obtain ⟨a, e3, e4⟩ := Option.bind_eq_some_iff.mp e2
      obtain ⟨b, e5, rfl⟩ := Option.map_eq_some_iff.mp e4
      have ee := Ext.own (o := .tup [.ty T.name, .ty U.name]) w1 hq
      obtain ⟨n, en, ea⟩ := Option.map_eq_some_iff.mp e3
      obtain ⟨n2, en2, eb⟩ := Option.map_eq_some_iff.mp e5
      rw [en] at en2
      cases en2
      obtain ⟨m, hm, _⟩ := (rp.frz (ee.frz w1)).ty e3
      obtain ⟨n3, hn3, hx⟩ : ∃ n3 : Tn, TyX X.K (upd H1 q (.tup [.ty T.name, .ty U.name])) v (.type n3.name) ∧ n3 = n := (rp.frz (ee.frz w1)).tyn en
      subst hx ea eb
      refine ⟨v, q, [.ty T.name, .ty U.name], .type n3.name, [.type T.name, .type U.name], tyB T n3 || tyB U n3, rfl, upd_same, .cons (.ty _) (.cons (.ty _) .nil), hn3, ?_, h2 _ _ Z1 (e1.trans ee) Rep.mk_bl⟩
      refine kitAny_cons (kit_ty (kit_B T n3)) (r := tyB T n3 || tyB U n3) (fun ha => ?_) fun ha => by rw [ha]; rfl
      rw [ha, Bool.false_or]
      exact kitAny_cons (kit_ty (kit_B U n3)) (fun hb => by rw [hb]; exact kitAny_nil) fun hb => hb⟩
end
end Fw
set_option Elab.async false
set_option linter.all false
set_option maxRecDepth 100000
set_option maxHeartbeats 4000000
namespace Fw
open PySem PySem.Spec PyProof.Rows L2

/-! ## dicts: what is read -/
section
variable {X : Cx} {Tz : Tbs} {pins : List (Addr × Obj)} {σ : Sg} {H : Hp} {s : Shared} {a : Addr}
theorem kv_keys : ∀ {kvs : List (Key × V)} {vs : List (Key × Value)}, KV kvs vs → vs.map (·.1) = kvs.map (·.1)
  | _, _, .nil => rfl
  | _, _, .cons p t => by rw [List.map_cons, List.map_cons, kv_keys t, p.1]
theorem KDk.ents {P : Program} {w : World} : ∀ {es : List DictEntry} {kvs : List (Key × V)}, KEnts w.params es kvs → ∃ vs, KV kvs vs ∧ Pairs (mixKind P w) es vs ∧ (∀ e ∈ es, ∃ k : Key, (mixKind P w).is k e.key = true ∧ e.hash = (mixKind P w).hash k)
  | _, _, .nil => ⟨[], .nil, .nil, fun _ h => nomatch h⟩
  | _, _, .cons (e := e) (x := x) (t := t) (v := v) e1 e2 e3 r => by
    obtain ⟨vs, h1, h2, h3⟩ := KDk.ents (P := P) r
    have hk : (mixKind P w).is (Sum.inr x) e.key = true := by rw [e1]; exact mixKind_str P w x t
    refine ⟨(Sum.inr x, e.val) :: vs, .cons ⟨rfl, e3⟩ h1, .cons hk rfl h2, fun d hd => ?_⟩
    rcases List.mem_cons.mp hd with rfl | hd
    · exact ⟨Sum.inr x, hk, e2⟩
    · exact h3 d hd
theorem KDk.dict (I : Inv X pins σ H s) {kvs : List (Key × V)} (h : KDk X.K X.w.params a kvs) : ∃ vs, KV kvs vs ∧ s.heap.DictOf (mixKind X.prog X.w) a vs := by
  obtain ⟨_, nd, _, es, n, hl, he⟩ := h
  obtain ⟨vs, h1, h2, h3⟩ := KDk.ents (P := X.prog) he
  refine ⟨vs, h1, ⟨_, es, n, I.kIn a _ hl, ⟨rfl, rfl, rfl⟩, rfl, fun e he' => h3 e (Array.mem_toList_iff.mpr he'), h2, ?_⟩⟩
  rw [kv_keys h1]
  exact nd
/-- a dict with text keys, as it stands -/
theorem DkAt.dict {Z : Addr → Prop} (I : Inv X pins σ H s) {kvs : List (Key × V)} (h : DkAt (X.gd Tz) Z H a kvs) : (a == sysModules) = false ∧ kvs.length ≤ sizeLine ∧ ∃ vs, KV kvs vs ∧ s.heap.DictOf (mixKind X.prog X.w) a vs := by
  rcases h with ⟨_, h⟩ | h
  · obtain ⟨z, hd, vs, r, d⟩ := dk_rd I.hok (.inl h)
    exact ⟨hd, z, vs, r, d⟩
  · exact ⟨h.1, Nat.le_trans h.2.2.1 (by decide), KDk.dict I h⟩
theorem key_ofT {ks : List Key} {b : Addr} (I : Inv X pins σ H s) (e : SqT X.K H b (ks.map kV)) : (tupleKind (mixKind X.prog X.w)).is s.heap ks b := by
  obtain ⟨its, r, ⟨o, h1, h2, n, h3⟩, _⟩ := I.tuple e
  exact ⟨o, its.toArray, n, h1, h2, h3, by simpa using items_are r⟩
/-- what a key finds -/
inductive DGx (X : Cx) (H : Hp) (a : Addr) (y : V) (r : Option V) : Prop
  | k {T : Tbs} {Z : Addr → Prop} {kvs : List (Key × V)} {k : Key} (h : DkAt (X.gd T) Z H a kvs) (e : y = kV k) (l : r = valV kvs k)
  | t {kvs : List (List Key × V)} {k : List Key} {b : Addr} (h : Rd H a (.dT kvs)) (e : y = .ref b) (hb : SqT X.K H b (k.map kV)) (l : r = valV kvs k)
variable {y v d : V} {u rr : Value} {o : Option V} {A : Around} {E : Value → Shared → Prop}
theorem DGx.typeIs (I : Inv X pins σ H s) (g : DGx X H a y o) : s.TypeIs (.ref a) "dict" := by
  cases g with
  | k h e l =>
    obtain ⟨_, _, vs, _, dd⟩ := h.dict I
    exact dd.typeIs
  | t h e hb l =>
    obtain ⟨_, _, xs, _, dd⟩ := dt_rd I.hok h
    exact dd.typeIs
theorem DGx.noDict (I : Inv X pins σ H s) (g : DGx X H a y o) : ∀ b, Value.ref a = .ref b → ∃ ob, s.heap.get? b = some ob ∧ ob.dict = none := fun b q => by
  cases q
  cases g with
  | k h e l =>
    obtain ⟨_, _, vs, _, ob, _, _, h1, h2, _⟩ := h.dict I
    exact ⟨ob, h1, h2.2.1⟩
  | t h e hb l =>
    obtain ⟨_, _, xs, _, ob, _, _, h1, h2, _⟩ := dt_rd I.hok h
    exact ⟨ob, h1, h2.2.1⟩
theorem x_getItem {Q : Value → Shared → Prop} (hu : A.units + 1 < cLine) (I : Inv X pins σ H s) (g : DGx X H a y (some v)) (ry : RelV y u) (h : ∀ w' s', Inv X pins σ H s' → RelV v w' → Q w' s') :
    wpAny (model X.prog X.w) A (getItem (.ref a) u) Q E s := by
  cases g with
  | k hd e l =>
    subst e
    obtain ⟨hs, z, vs, rel, dd⟩ := hd.dict I
    obtain ⟨w', hw, rw'⟩ := RelO.some_of (v := v) (by rw [l]; exact rel.val _)
    exact wpAny_getItem_of (kV_is ry) dd.mapOf hw (h w' _ (I.tok _) rw')
  | @t kvs k b hd e eb l =>
    subst e
    cases (show u = Value.ref _ from ry)
    obtain ⟨z, hs, xs, rel, dd⟩ := dt_rd I.hok hd
    obtain ⟨w', hw, rw'⟩ := RelO.some_of (v := v) (by rw [l]; exact rel.val _)
    obtain ⟨p, hp, hp2⟩ := Option.map_eq_some_iff.mp hw
    refine wpAny_getItem_heap (tupleKind_room_in1 hu) (key_ofT I eb) dd hp ?_
    rw [hp2]
    exact h w' _ (I.tok _) rw'
theorem x_in {Q : Value → Shared → Prop} (hu : A.units + 1 < cLine) (I : Inv X pins σ H s) (g : DGx X H a y o) (ry : RelV y u) (h : ∀ s', Inv X pins σ H s' → Q (.bool o.isSome) s') :
    wpAny (model X.prog X.w) A (compareOp .In u (.ref a)) Q E s := by
  cases g with
  | k hd e l =>
    subst e
    obtain ⟨hs, z, vs, rel, dd⟩ := hd.dict I
    refine wpAny_in_of (kV_is ry) hs dd.mapOf ?_
    rw [← (rel.val _).isSome_eq, ← l]
    exact h _ (I.tok _)
  | @t kvs k b hd e eb l =>
    subst e
    cases (show u = Value.ref _ from ry)
    obtain ⟨z, hs, xs, rel, dd⟩ := dt_rd I.hok hd
    refine wpAny_in_heap (tupleKind_room_in1 hu) (key_ofT I eb) hs dd ?_
    have q := (rel.val k).isSome_eq
    rw [Option.isSome_map] at q
    rw [← q, ← l]
    exact h _ (I.tok _)
theorem x_notIn {Q : Value → Shared → Prop} (hu : A.units + 1 < cLine) (I : Inv X pins σ H s) (g : DGx X H a y o) (ry : RelV y u) (h : ∀ s', Inv X pins σ H s' → Q (.bool (!o.isSome)) s') :
    wpAny (model X.prog X.w) A (compareOp .NotIn u (.ref a)) Q E s := by
  cases g with
  | k hd e l =>
    subst e
    obtain ⟨hs, z, vs, rel, dd⟩ := hd.dict I
    refine wpAny_notIn_of (kV_is ry) hs dd.mapOf ?_
    rw [← (rel.val _).isSome_eq, ← l]
    exact h _ (I.tok _)
  | @t kvs k b hd e eb l =>
    subst e
    cases (show u = Value.ref _ from ry)
    obtain ⟨z, hs, xs, rel, dd⟩ := dt_rd I.hok hd
    refine wpAny_notIn_heap (tupleKind_room_in1 hu) (key_ofT I eb) hs dd ?_
    have q := (rel.val k).isSome_eq
    rw [Option.isSome_map] at q
    rw [← q, ← l]
    exact h _ (I.tok _)
theorem x_get1 {Q : Value → Shared → Prop} (hu : A.units + 1 < cLine) (I : Inv X pins σ H s) (g : DGx X H a y o) (ry : RelV y u) (h : ∀ w' s', Inv X pins σ H s' → RelV (o.getD .non) w' → Q w' s') :
    wpAny (model X.prog X.w) A (call (.builtin "dict.get") [.ref a, u]) Q E s := by
  cases g with
  | k hd e l =>
    subst e
    obtain ⟨hs, z, vs, rel, dd⟩ := hd.dict I
    refine call_meetsIn PySem.F.slot_dict_get dd.typeIs PySem.F.entry_dict_get (PySem.F.args_dict_get_2 _ _) (meets_dict_get (mixKind X.prog X.w) a (kV_is ry) hs) ⟨_, dd.mapOf, h _ _ (I.tok _) ?_⟩
    rw [l]
    exact (rel.val _).getD rfl
  | @t kvs k b hd e eb l =>
    subst e
    cases (show u = Value.ref _ from ry)
    obtain ⟨z, hs, xs, rel, dd⟩ := dt_rd I.hok hd
    refine call_meetsIn PySem.F.slot_dict_get dd.typeIs PySem.F.entry_dict_get (PySem.F.args_dict_get_2 _ _) (meetsH_dict_get (tupleKind (mixKind X.prog X.w)) a _ hs) ⟨tupleKind_room_in1 hu, _, xs, key_ofT I eb, dd, h _ _ (I.tok _) ?_⟩
    rw [l]
    exact (rel.val _).getD rfl
theorem x_get2 {Q : Value → Shared → Prop} (hu : A.units + 1 < cLine) (I : Inv X pins σ H s) (g : DGx X H a y o) (ry : RelV y u) (rd : RelV d rr) (h : ∀ w' s', Inv X pins σ H s' → RelV (o.getD d) w' → Q w' s') :
    wpAny (model X.prog X.w) A (call (.builtin "dict.get") [.ref a, u, rr]) Q E s := by
  cases g with
  | k hd e l =>
    subst e
    obtain ⟨hs, z, vs, rel, dd⟩ := hd.dict I
    refine call_meetsIn PySem.F.slot_dict_get dd.typeIs PySem.F.entry_dict_get (PySem.F.args_dict_get_3 _ _ _) (meets_dict_get_default (mixKind X.prog X.w) a (kV_is ry) hs rr) ⟨_, dd.mapOf, h _ _ (I.tok _) ?_⟩
    rw [l]
    exact (rel.val _).getD rd
  | @t kvs k b hd e eb l =>
    subst e
    cases (show u = Value.ref _ from ry)
    obtain ⟨z, hs, xs, rel, dd⟩ := dt_rd I.hok hd
    refine call_meetsIn PySem.F.slot_dict_get dd.typeIs PySem.F.entry_dict_get (PySem.F.args_dict_get_3 _ _ _) (meetsH_dict_get_default (tupleKind (mixKind X.prog X.w)) a _ hs rr) ⟨tupleKind_room_in1 hu, _, xs, key_ofT I eb, dd, h _ _ (I.tok _) ?_⟩
    rw [l]
    exact (rel.val _).getD rd
end

/-! ## by data -/
def lkS {α : Type} : List (List Nat) → List α → List Nat → Option α
  | k :: ks, v :: vs, x => if k == x then some v else lkS ks vs x
  | _, _, _ => none
def lkT {α : Type} : List (List (List Nat)) → List α → List (List Nat) → Option α
  | k :: ks, v :: vs, x => if k == x then some v else lkT ks vs x
  | _, _, _ => none
/-- what a key finds in a dict: none: no such question -/
def findD (d k : Dt) : Option (Option Dt) := match d with
  | .dk ks vs => match k with
    | .str x => some (lkS ks vs x)
    | _ => none
  | .dt ks vs => match k with
    | .tup xs => (strsOf xs).map fun x => lkT ks vs x
    | _ => none
  | _ => none
def getD' (d k : Dt) : Option Dt := (findD d k).bind id
def inDk (neg : Bool) (k d : Dt) : Option Dt := (findD d k).map fun o => .bl (xor neg o.isSome)
section
variable {K : Gd} {r : Addr} {Z : Addr → Prop} {H : Hp}
theorem kT_inj : ∀ {a b : List (List Nat)}, (a.map fun x => (Sum.inr (st x) : Key)) = b.map (fun x => (Sum.inr (st x) : Key)) → a = b
  | [], [], _ => rfl
  | [], _ :: _, h => nomatch h
  | _ :: _, [], h => nomatch h
  | x :: a, y :: b, h => by
    rw [List.map_cons, List.map_cons] at h
    injection h with h1 h2
    injection h1 with h3
    rw [st_inj h3, kT_inj h2]
theorem valV_S : ∀ {ks : List (List Nat)} {vs : List V} {ds : List Dt} (x : List Nat), Reps K r Z H vs ds → ks.length = vs.length →
    (∀ d, lkS ks ds x = some d → ∃ v, valV ((kS ks).zip vs) (Sum.inr (st x)) = some v ∧ Rep K r Z H v d) ∧ (lkS ks ds x = none → valV ((kS ks).zip vs) (Sum.inr (st x)) = none)
  | [], vs, ds, x, h, hl => ⟨fun d e => (by unfold lkS at e; cases e), fun _ => rfl⟩
  | k :: ks, vs, [], x, h, hl => by rw [h.inv_nil] at hl; cases hl
  | k :: ks, vs, d :: ds, x, h, hl => by
    obtain ⟨v, us, rfl, h1, h2⟩ := h.inv_cons
    have ih := valV_S (ks := ks) x h2 (by simpa using hl)
    show (∀ d', lkS (k :: ks) (d :: ds) x = some d' → ∃ v', valV ((Sum.inr (st k), v) :: (kS ks).zip us) (Sum.inr (st x)) = some v' ∧ Rep K r Z H v' d') ∧ (lkS (k :: ks) (d :: ds) x = none → valV ((Sum.inr (st k), v) :: (kS ks).zip us) (Sum.inr (st x)) = none)
    unfold lkS
    by_cases e : k = x
    · subst e
      rw [if_pos (beq_self_eq_true k), valV_pos rfl]
      exact ⟨fun d' q => ⟨v, rfl, (by cases q; exact h1)⟩, fun q => nomatch q⟩
    · rw [if_neg (by rw [beq_iff_eq]; exact e), valV_neg (fun q => e (st_inj (Sum.inr.inj q)))]
      exact ih
theorem valV_T : ∀ {ks : List (List (List Nat))} {vs : List V} {ds : List Dt} (x : List (List Nat)), Reps K r Z H vs ds → ks.length = vs.length →
    (∀ d, lkT ks ds x = some d → ∃ v, valV ((kT ks).zip vs) (x.map fun y => (Sum.inr (st y) : Key)) = some v ∧ Rep K r Z H v d) ∧ (lkT ks ds x = none → valV ((kT ks).zip vs) (x.map fun y => (Sum.inr (st y) : Key)) = none)
  | [], vs, ds, x, h, hl => ⟨fun d e => (by unfold lkT at e; cases e), fun _ => rfl⟩
  | k :: ks, vs, [], x, h, hl => by rw [h.inv_nil] at hl; cases hl
  | k :: ks, vs, d :: ds, x, h, hl => by
    obtain ⟨v, us, rfl, h1, h2⟩ := h.inv_cons
    have ih := valV_T (ks := ks) x h2 (by simpa using hl)
    show (∀ d', lkT (k :: ks) (d :: ds) x = some d' → ∃ v', valV ((k.map (fun y => (Sum.inr (st y) : Key)), v) :: (kT ks).zip us) (x.map fun y => (Sum.inr (st y) : Key)) = some v' ∧ Rep K r Z H v' d') ∧ (lkT (k :: ks) (d :: ds) x = none → valV ((k.map (fun y => (Sum.inr (st y) : Key)), v) :: (kT ks).zip us) (x.map fun y => (Sum.inr (st y) : Key)) = none)
    unfold lkT
    by_cases e : k = x
    · subst e
      rw [if_pos (beq_self_eq_true k), valV_pos rfl]
      exact ⟨fun d' q => ⟨v, rfl, (by cases q; exact h1)⟩, fun q => nomatch q⟩
    · rw [if_neg (by rw [beq_iff_eq]; exact e), valV_neg (fun q => e (kT_inj q))]
      exact ih
end
section
variable {X : Cx} {Tz : Tbs} {r : Addr} {Z : Addr → Prop} {H : Hp}
/-- a dict's question by data, by values -/
theorem Rep.find {d k : Dt} {v u : V} {o : Option Dt} (h : Rep (X.gd Tz) r Z H v d) (q : Rep (X.gd Tz) r Z H u k) (e : findD d k = some o) : ∃ a ov, v = .ref a ∧ DGx X H a u ov ∧ (∀ x, o = some x → ∃ w, ov = some w ∧ Rep (X.gd Tz) r Z H w x) ∧ (o = none → ov = none) := by
  unfold findD at e
  split at e
  · split at e
    · rename_i ks vs x
      cases e
      unfold Rep at h
      obtain ⟨a, us, rfl, t, l, l2, qs⟩ := h
      obtain ⟨h1, h2⟩ := valV_S x qs l
      exact ⟨a, _, rfl, .k t (by rw [q.str]; rfl) rfl, h1, h2⟩
    · cases e
  · split at e
    · rename_i ks vs xs
      obtain ⟨x, e1, rfl⟩ := Option.map_eq_some_iff.mp e
      unfold Rep at h
      obtain ⟨a, us, rfl, z, t, l, l2, qs⟩ := h
      obtain ⟨b, ws, rfl, tb, lb, qb⟩ := q.tup
      rw [reps_strs qb e1] at tb
      obtain ⟨h1, h2⟩ := valV_T x qs l
      refine ⟨a, _, rfl, .t (k := x.map fun y => (Sum.inr (st y) : Key)) (.inl t) rfl ?_ rfl, h1, h2⟩
      have := tb.sq
      rw [List.map_map]
      exact this
    · cases e
  · cases e
end
section
variable {X : Cx} {Tz : Tbs} {XR : XRel} {E : Sg → XK} {o i e f : Expr} {mo mi mf : En → Mo Dt} {pos : Pos}
/-- d[k] -/
theorem e_dget (hu : X.A.units + 1 < cLine) (ho : PE X o (tM (X.gd Tz) XR E mo)) (hi : PE X i (tM (X.gd Tz) XR E mi)) (hs : NoSl i := by exact fun _ _ => rfl) : PE X (.Subscript o i pos) (tM (X.gd Tz) XR E (m2 getD' mo mi)) := by
  refine ⟨fun pins s σ H Q I h => ?_⟩
  refine subD_of PySem.F.slot_dict_getitem.lookup hs (thn (ho.run pins s σ H _ I (r2_of h)) fun u s1 ⟨x, H1, I1, rx, q1⟩ => thn (hi.run pins s1 σ H1 _ I1 q1) fun iv s2 ⟨y, H2, I2, ry, r, Z, dx, dy, d, w, px, py, e, q⟩ => ?_)
  obtain ⟨od, e1, e2⟩ := Option.bind_eq_some_iff.mp e
  obtain ⟨a, ov, rfl, g, h1, _⟩ := px.find py e1
  obtain ⟨v, rfl, h3⟩ := h1 d e2
  cases rx
  exact ⟨g.typeIs I2, x_getItem hu I2 g ry fun w' s3 I3 rw' => ⟨v, H2, I3, rw', PV.at w q h3⟩⟩
theorem o_inK (hu : X.A.units + 1 < cLine) : OpR X (compareOp .In) (r2 (X.gd Tz) (inDk false)) := by
  rintro pins s σ H x y v u Q I rx ry ⟨r, Z, dx, dy, d, w, px, py, e, q⟩
  obtain ⟨od, e1, rfl⟩ := Option.map_eq_some_iff.mp e
  obtain ⟨a, ov, rfl, g, h1, h2⟩ := py.find px e1
  cases ry
  refine x_in hu I g rx fun s' I' => ⟨.bl _, H, I', rfl, ?_⟩
  rw [Bool.false_xor] at q
  have : ov.isSome = od.isSome := by
    cases od with
    | none => rw [h2 rfl]; rfl
    | some z => obtain ⟨w', e', _⟩ := h1 z rfl; rw [e']; rfl
  rw [this]
  exact PV.at w q Rep.mk_bl
theorem o_notInK (hu : X.A.units + 1 < cLine) : OpR X (compareOp .NotIn) (r2 (X.gd Tz) (inDk true)) := by
  rintro pins s σ H x y v u Q I rx ry ⟨r, Z, dx, dy, d, w, px, py, e, q⟩
  obtain ⟨od, e1, rfl⟩ := Option.map_eq_some_iff.mp e
  obtain ⟨a, ov, rfl, g, h1, h2⟩ := py.find px e1
  cases ry
  refine x_notIn hu I g rx fun s' I' => ⟨.bl _, H, I', rfl, ?_⟩
  rw [Bool.true_xor] at q
  have : ov.isSome = od.isSome := by
    cases od with
    | none => rw [h2 rfl]; rfl
    | some z => obtain ⟨w', e', _⟩ := h1 z rfl; rw [e']; rfl
  rw [this]
  exact PV.at w q Rep.mk_bl
/-- d.get(k), d.get(k, x) -/
def isDk : Dt → Bool
  | .dk _ _ => true
  | .dt _ _ => true
  | _ => false
theorem findD_isDk {d k : Dt} {o : Option Dt} (e : findD d k = some o) : isDk d = true := by
  cases d <;> first | rfl | (cases e)
theorem Rep.isD (pins : List (Addr × Obj)) {σ : Sg} {s : Shared} {H : Hp} {r : Addr} {Z : Addr → Prop} {d : Dt} {v : V} (I : Inv X pins σ H s) (h : Rep (X.gd Tz) r Z H v d) (e : isDk d = true) : ∃ a, v = .ref a ∧ s.TypeIs (.ref a) "dict" ∧ (∀ b, Value.ref a = .ref b → ∃ ob, s.heap.get? b = some ob ∧ ob.dict = none) := by
  cases d with
  | dk ks vs =>
    unfold Rep at h
    obtain ⟨a, us, rfl, t, _⟩ := h
    have g : DGx X H a (kV (Sum.inr (st []))) _ := .k t rfl rfl
    exact ⟨a, rfl, g.typeIs I, g.noDict I⟩
  | dt ks vs =>
    unfold Rep at h
    obtain ⟨a, us, rfl, z, t, _⟩ := h
    obtain ⟨_, _, xs, _, dd⟩ := dt_rd I.hok (.inl t)
    refine ⟨a, rfl, dd.typeIs, fun b q => ?_⟩
    cases q
    obtain ⟨ob, _, _, h1, h2, _⟩ := dd
    exact ⟨ob, h1, h2.2.1⟩
  | _ => cases e
def chkD (d : Dt) : Mo Dt := match isDk d with | true => .ret d | false => .err
def mGet1 (mo mi : En → Mo Dt) : En → Mo Dt := fun ρ => (mo ρ).bind fun d => (chkD d).bind fun d => (mi ρ).bind fun k => ofO ((findD d k).map fun o => o.getD .non)
def mGet2 (mo mi mf : En → Mo Dt) : En → Mo Dt := fun ρ => (mo ρ).bind fun d => (chkD d).bind fun d => (mi ρ).bind fun k => (mf ρ).bind fun z => ofO ((findD d k).map fun o => o.getD z)
theorem wp_chk {β : Type} {d : Dt} {k : Dt → Mo β} {P : β → Prop} {R : Nat → Dt → Prop} (h : ((chkD d).bind k).wp P R) : isDk d = true ∧ (k d).wp P R := by
  unfold chkD at h
  split at h
  · rename_i e; exact ⟨e, h⟩
  · exact h.elim
theorem e_get1 {apos cpos : Pos} (hu : X.A.units + 1 < cLine) (ho : PE X o (tM (X.gd Tz) XR E mo)) (hi : PE X e (tM (X.gd Tz) XR E mi)) (m : M1 X o "get" apos e cpos := by exact ⟨rfl, rfl, rfl, rfl⟩) : PE X (.Call (.Attribute o "get" apos) [e] [] cpos) (tM (X.gd Tz) XR E (mGet1 mo mi)) := by
  refine ⟨fun pins s σ H Q I ⟨r, Z, ρ, w, st, h⟩ => ?_⟩
  refine wpAny_Call_method m.base m.few m.line PySem.F.plainAttrs_dict PySem.F.slot_dict_get PySem.F.type_dict_get (thn (ho.run pins s σ H (fun x H1 => ∃ Z1 d, Ext (X.gd Tz) r Z H Z1 H1 ∧ Rep (X.gd Tz) r Z1 H1 x d ∧ isDk d = true ∧
    Mo.wp ((mi ρ).bind fun k => ofO ((findD d k).map fun o => o.getD .non)) (PV (X.gd Tz) r Z H Q) (PX (X.gd Tz) XR r Z H (E σ))) I (tM.split w st h fun u H1 Z1 d1 e1 w1 s1 rp1 h1 => ⟨Z1, d1, e1, rp1, wp_chk h1⟩)) fun u s1 ⟨x, H1, I1, rx, Z1, d, e1, rp, hk, h1⟩ => ?_)
  obtain ⟨a, rfl, t1, t2⟩ := rp.isD pins I1 hk
  obtain rfl : u = Value.ref a := rx
  refine ⟨t1, t2, ?_⟩
  rw [m.trees]
  have w1 := e1.wf
  have s1' := st.ext w e1
  refine Calls.callWith_builtin rfl (Calls.evalArgs_plain (Calls.spliced_cons (thn (hi.run pins s1 σ H1 (fun y H2 => ∃ Z2 dk d2, Ext (X.gd Tz) r Z1 H1 Z2 H2 ∧ Rep (X.gd Tz) r Z2 H2 y dk ∧ (findD d dk).map (fun o => o.getD .non) = some d2 ∧ PV (X.gd Tz) r Z H Q d2) I1
    (tM.split w1 s1' (h1.mono (fun _ p => p) fun _ _ p => p.ext e1) fun u2 H2 Z2 d2 e2 w2 s2 rp2 h2 => ?_)) fun iv s2 ⟨y, H2, I2, ry, Z2, dk, d2, e2, rp2, e4, q⟩ => Calls.spliced_nil ?_)))
  · obtain ⟨d3, e3, h3⟩ := wp_ofO h2
    exact ⟨Z2, d2, d3, e2, rp2, e3, h3⟩
  · obtain ⟨od, e5, rfl⟩ := Option.map_eq_some_iff.mp e4
    obtain ⟨a', ov, ea, g, f1, f2⟩ := (rp.frz (e2.frz w1)).find rp2 e5
    cases ea
    refine x_get1 hu I2 g ry fun w' s4 I4 rw' => ⟨_, H2, I4, rw', ?_⟩
    have e6 := e1.trans e2
    cases od with
    | none =>
      rw [f2 rfl]
      exact PV.at e2.wf (q.ext e6) Rep.mk_non
    | some z =>
      obtain ⟨w2, rfl, h2⟩ := f1 z rfl
      exact PV.at e2.wf (q.ext e6) h2
theorem e_get2 {apos cpos : Pos} (hu : X.A.units + 1 < cLine) (ho : PE X o (tM (X.gd Tz) XR E mo)) (hi : PE X e (tM (X.gd Tz) XR E mi)) (hf : PE X f (tM (X.gd Tz) XR E mf)) (m : M2 X o "get" apos e f cpos := by exact ⟨rfl, rfl, rfl, rfl⟩) : PE X (.Call (.Attribute o "get" apos) [e, f] [] cpos) (tM (X.gd Tz) XR E (mGet2 mo mi mf)) := by
  refine ⟨fun pins s σ H Q I ⟨r, Z, ρ, w, st, h⟩ => ?_⟩
  refine wpAny_Call_method m.base m.few m.line PySem.F.plainAttrs_dict PySem.F.slot_dict_get PySem.F.type_dict_get (thn (ho.run pins s σ H (fun x H1 => ∃ Z1 d, Ext (X.gd Tz) r Z H Z1 H1 ∧ Rep (X.gd Tz) r Z1 H1 x d ∧ isDk d = true ∧
    Mo.wp ((mi ρ).bind fun k => (mf ρ).bind fun z => ofO ((findD d k).map fun o => o.getD z)) (PV (X.gd Tz) r Z H Q) (PX (X.gd Tz) XR r Z H (E σ))) I (tM.split w st h fun u H1 Z1 d1 e1 w1 s1 rp1 h1 => ⟨Z1, d1, e1, rp1, wp_chk h1⟩)) fun u s1 ⟨x, H1, I1, rx, Z1, d, e1, rp, hk, h1⟩ => ?_)
  obtain ⟨a, rfl, t1, t2⟩ := rp.isD pins I1 hk
  obtain rfl : u = Value.ref a := rx
  refine ⟨t1, t2, ?_⟩
  rw [m.trees]
  have w1 := e1.wf
  have s1' := st.ext w e1
  refine Calls.callWith_builtin rfl (Calls.evalArgs_plain (Calls.spliced_cons (thn (hi.run pins s1 σ H1 (fun y H2 => ∃ Z2 dk, Ext (X.gd Tz) r Z1 H1 Z2 H2 ∧ Rep (X.gd Tz) r Z2 H2 y dk ∧
    Mo.wp ((mf ρ).bind fun z => ofO ((findD d dk).map fun o => o.getD z)) (PV (X.gd Tz) r Z H Q) (PX (X.gd Tz) XR r Z1 H1 (E σ))) I1
    (tM.split w1 s1' (h1.mono (fun _ p => p) fun _ _ p => p.ext e1) fun u2 H2 Z2 d2 e2 w2 s2 rp2 h2 => ⟨Z2, d2, e2, rp2, h2⟩)) fun iv s2 ⟨y, H2, I2, ry, Z2, dk, e2, rp2, h2⟩ =>
    Calls.spliced_cons (thn (hf.run pins s2 σ H2 (fun z H3 => ∃ Z3 dz d2, Ext (X.gd Tz) r Z2 H2 Z3 H3 ∧ Rep (X.gd Tz) r Z3 H3 z dz ∧ (findD d dk).map (fun o => o.getD dz) = some d2 ∧ PV (X.gd Tz) r Z H Q d2) I2
    (tM.split e2.wf (s1'.ext w1 e2) (h2.mono (fun _ p => p) fun _ _ p => p.ext e2) fun u3 H3 Z3 d3 e3 w3 s3 rp3 h3 => ?_)) fun fv s3 ⟨z, H3, I3, rz, Z3, dz, d2, e3, rp3, e4, q⟩ => Calls.spliced_nil ?_))))
  · obtain ⟨d4, e4, h4⟩ := wp_ofO h3
    exact ⟨Z3, d3, d4, e3, rp3, e4, h4⟩
  · obtain ⟨od, e5, rfl⟩ := Option.map_eq_some_iff.mp e4
    obtain ⟨a', ov, ea, g, f1, f2⟩ := (rp.frz ((e2.trans e3).frz w1)).find (rp2.frz (e3.frz e2.wf)) e5
    cases ea
    refine x_get2 hu I3 g ry rz fun w' s4 I4 rw' => ⟨_, H3, I4, rw', ?_⟩
    have e6 := e1.trans (e2.trans e3)
    cases od with
    | none =>
      rw [f2 rfl]
      exact PV.at e3.wf (q.ext e6) rp3
    | some z =>
      obtain ⟨w2, rfl, h2⟩ := f1 z rfl
      exact PV.at e3.wf (q.ext e6) h2
end
end Fw
set_option Elab.async false
set_option linter.all false
set_option maxRecDepth 100000
set_option maxHeartbeats 4000000
namespace Fw
open PySem PySem.Spec PyProof.Rows L2

/-! ## what is walked -/
structure ItOk (G : Gd) (r : Addr) (Z : Addr → Prop) (H : Hp) (J : It) (ds : List Dt) : Prop where
  len : ds.length ≤ sizeLine
  go : ∀ Z1 H1, Wf G r Z1 H1 → Frz Z H Z1 H1 → ∀ i, i < ds.length → J.go i H1
  stop : ∀ Z1 H1, Wf G r Z1 H1 → Frz Z H Z1 H1 → J.stop ds.length H1
  yld : ∀ Z1 H1, Wf G r Z1 H1 → Frz Z H Z1 H1 → ∀ (i : Nat) d x H', ds[i]? = some d → J.yld i H1 x H' → ∃ Z2, Ext G r Z1 H1 Z2 H' ∧ Rep G r Z2 H' x d
def iM (G : Gd) (XR : XRel) (E : Sg → XK) (m : En → Mo (List Dt)) : TI := fun σ H R => ∃ r Z ρ, Wf G r Z H ∧ StOk G r Z H σ ρ ∧
  (m ρ).wp (fun ds => ∀ J H' Z', Ext G r Z H Z' H' → ItOk G r Z' H' J ds → R J H') (PX G XR r Z H (E σ))
section
variable {G : Gd} {r : Addr} {Z : Addr → Prop} {H : Hp}
theorem it_lst {a : Addr} {vs : List V} {ds : List Dt} (z : Z a) (h : H a = some (.lst vs)) (l : vs.length ≤ sizeLine) (q : Reps G r Z H vs ds) : ItOk G r Z H (Itl G.K a) ds where
  len := by rw [← q.length]; exact l
  go := fun Z1 H1 w f i hi => by
    obtain ⟨v, e1, _⟩ := q.get (List.getElem?_eq_getElem hi)
    exact ⟨vs, v, .inl (.inl (by rw [(f a z).2]; exact h)), e1⟩
  stop := fun Z1 H1 w f => ⟨vs, .inl (.inl (by rw [(f a z).2]; exact h)), by rw [q.length]; exact Nat.le_refl _⟩
  yld := fun Z1 H1 w f i d x H' e y => by
    obtain ⟨e2, y⟩ := y
    subst e2
    have e3 := y vs (.inl (.inl (by rw [(f a z).2]; exact h)))
    obtain ⟨v, e4, rp⟩ := q.get e
    rw [e4] at e3
    cases e3
    exact ⟨Z1, Ext.refl w, rp.frz f⟩
theorem it_tup {a : Addr} {vs : List V} {ds : List Dt} (h : TupAt G Z H a vs) (l : vs.length ≤ sizeLine) (q : Reps G r Z H vs ds) : ItOk G r Z H (Itt G.K a) ds where
  len := by rw [← q.length]; exact l
  go := fun Z1 H1 w f i hi => by
    obtain ⟨v, e1, _⟩ := q.get (List.getElem?_eq_getElem hi)
    exact ⟨vs, v, (h.frz f).sq, e1⟩
  stop := fun Z1 H1 w f => ⟨vs, (h.frz f).sq, by rw [q.length]; exact Nat.le_refl _⟩
  yld := fun Z1 H1 w f i d x H' e y => by
    obtain ⟨e2, y⟩ := y
    subst e2
    have e3 := y vs (h.frz f).sq
    obtain ⟨v, e4, rp⟩ := q.get e
    rw [e4] at e3
    cases e3
    exact ⟨Z1, Ext.refl w, rp.frz f⟩
theorem it_str {x : List Nat} (l : x.length ≤ sizeLine) : ItOk G r Z H (Its (st x)) (x.map fun c => .str [c]) where
  len := by rw [List.length_map]; exact l
  go := fun Z1 H1 w f i hi => by
    rw [List.length_map] at hi
    show i < (st x).cps.size
    rw [show (st x).cps.size = x.length from st_length x]
    exact hi
  stop := fun Z1 H1 w f => by
    show (st x).cps.size ≤ (x.map fun c => Dt.str [c]).length
    rw [show (st x).cps.size = x.length from st_length x, List.length_map]
    exact Nat.le_refl _
  yld := fun Z1 H1 w f i d v H' e y => by
    obtain ⟨e2, c, hc, rfl⟩ := y
    subst e2
    rw [List.getElem?_map, Option.map_eq_some_iff] at e
    obtain ⟨c2, h2, rfl⟩ := e
    have : c2 = c := by
      have e3 : (st x).cps[i]? = some c2 := by simpa [st] using h2
      rw [e3] at hc
      exact Option.some.inj hc
    subst this
    exact ⟨Z1, Ext.refl w, Rep.mk_str⟩
def rngD (n : Int) : List Dt := (List.range n.toNat).map fun (i : Nat) => .int (i : Int)
theorem it_rng {n : Int} (l : n.toNat ≤ sizeLine) : ItOk G r Z H (Itr 0 n.toNat) (rngD n) where
  len := by unfold rngD; rw [List.length_map, List.length_range]; exact l
  go := fun Z1 H1 w f i hi => by
    unfold rngD at hi
    rw [List.length_map, List.length_range] at hi
    exact hi
  stop := fun Z1 H1 w f => by
    show n.toNat ≤ (rngD n).length
    unfold rngD
    rw [List.length_map, List.length_range]
    exact Nat.le_refl _
  yld := fun Z1 H1 w f i d v H' e y => by
    obtain ⟨e2, rfl⟩ := y
    subst e2
    unfold rngD at e
    rw [List.getElem?_map, Option.map_eq_some_iff] at e
    obtain ⟨c2, h2, rfl⟩ := e
    obtain ⟨h3, h4⟩ := List.getElem?_eq_some_iff.mp h2
    rw [List.getElem_range] at h4
    subst h4
    rw [Int.zero_add]
    exact ⟨Z1, Ext.refl w, Rep.mk_int⟩
def enumD : Nat → List Dt → List Dt
  | _, [] => []
  | i, d :: ds => .tup [.int (i : Int), d] :: enumD (i + 1) ds
theorem enumD_length : ∀ (ds : List Dt) (i : Nat), (enumD i ds).length = ds.length
  | [], _ => rfl
  | d :: ds, i => congrArg (· + 1) (enumD_length ds (i + 1))
theorem enumD_get : ∀ (ds : List Dt) (i j : Nat), (enumD i ds)[j]? = (ds[j]?).map fun d => .tup [.int ((i + j : Nat) : Int), d]
  | [], _, _ => by simp [enumD]
  | d :: ds, i, 0 => by simp [enumD]
  | d :: ds, i, j + 1 => by
    have := enumD_get ds (i + 1) j
    show (enumD (i + 1) ds)[j]? = (ds[j]?).map _
    rw [this, show i + 1 + j = i + (j + 1) by omega]
theorem it_enum {a : Addr} {vs : List V} {ds : List Dt} (z : Z a) (h : H a = some (.lst vs)) (l : vs.length ≤ sizeLine) (q : Reps G r Z H vs ds) : ItOk G r Z H (Ite G.K a) (enumD 0 ds) where
  len := by rw [enumD_length, ← q.length]; exact l
  go := fun Z1 H1 w f i hi => by
    rw [enumD_length] at hi
    obtain ⟨v, e1, _⟩ := q.get (List.getElem?_eq_getElem hi)
    exact ⟨vs, v, .inl (.inl (by rw [(f a z).2]; exact h)), e1⟩
  stop := fun Z1 H1 w f => ⟨vs, .inl (.inl (by rw [(f a z).2]; exact h)), by rw [enumD_length, q.length]; exact Nat.le_refl _⟩
  yld := fun Z1 H1 w f i d x H' e y => by
    obtain ⟨T, x1, rfl, nT, rfl, y⟩ := y
    have e3 := y vs (.inl (.inl (by rw [(f a z).2]; exact h)))
    rw [enumD_get, Option.map_eq_some_iff] at e
    obtain ⟨d1, e5, rfl⟩ := e
    obtain ⟨v, e4, rp⟩ := q.get e5
    rw [e4] at e3
    cases e3
    have ee := Ext.laid (o := .tup [.int (i : Nat), x1]) w nT
    rw [Nat.zero_add]
    exact ⟨_, ee, Rep.mk_tup (.inl ⟨.inr rfl, upd_same⟩) (by show 2 ≤ sizeLine; decide) (Reps.cons Rep.mk_int (Reps.cons (rp.frz (f.trans (ee.frz w))) Reps.nil))⟩
def zipD : List Dt → List Dt → List Dt
  | x :: xs, y :: ys => .tup [x, y] :: zipD xs ys
  | _, _ => []
theorem zipD_length : ∀ (xs ys : List Dt), (zipD xs ys).length = min xs.length ys.length
  | [], ys => by simp [zipD]
  | x :: xs, [] => by simp [zipD]
  | x :: xs, y :: ys => by
    have := zipD_length xs ys
    simp only [zipD, List.length_cons, this]
    omega
theorem zipD_get : ∀ (xs ys : List Dt) (j : Nat) (d : Dt), (zipD xs ys)[j]? = some d → ∃ x y, xs[j]? = some x ∧ ys[j]? = some y ∧ d = .tup [x, y]
  | [], ys, j, d, e => by simp [zipD] at e
  | x :: xs, [], j, d, e => by simp [zipD] at e
  | x :: xs, y :: ys, 0, d, e => ⟨x, y, rfl, rfl, by simpa [zipD, eq_comm] using e⟩
  | x :: xs, y :: ys, j + 1, d, e => by
    obtain ⟨a, b, h1, h2, h3⟩ := zipD_get xs ys j d (by simpa [zipD] using e)
    exact ⟨a, b, by simpa using h1, by simpa using h2, h3⟩
theorem it_zipT {a b : Addr} {vs us : List V} {ds es : List Dt} (h : TupAt G Z H a vs) (l : vs.length ≤ sizeLine) (q : Reps G r Z H vs ds) (h' : TupAt G Z H b us) (q' : Reps G r Z H us es) : ItOk G r Z H (RZ.ItzT G.K a b) (zipD ds es) where
  len := by rw [zipD_length]; exact Nat.le_trans (Nat.min_le_left _ _) (by rw [← q.length]; exact l)
  go := fun Z1 H1 w f i hi => by
    rw [zipD_length] at hi
    obtain ⟨v, e1, _⟩ := q.get (List.getElem?_eq_getElem (show i < ds.length by omega))
    obtain ⟨u, e2, _⟩ := q'.get (List.getElem?_eq_getElem (show i < es.length by omega))
    exact ⟨vs, us, v, u, (h.frz f).sq, (h'.frz f).sq, e1, e2⟩
  stop := fun Z1 H1 w f => ⟨vs, us, (h.frz f).sq, (h'.frz f).sq, by rw [zipD_length, q.length, q'.length]; omega⟩
  yld := fun Z1 H1 w f i d x H' e y => by
    obtain ⟨T, x1, x2, rfl, nT, rfl, y1, y2⟩ := y
    have e3 := y1 vs (h.frz f).sq
    have e4 := y2 us (h'.frz f).sq
    obtain ⟨d1, d2, e5, e6, rfl⟩ := zipD_get _ _ _ _ e
    obtain ⟨v, e7, rp⟩ := q.get e5
    obtain ⟨u, e8, rp'⟩ := q'.get e6
    rw [e7] at e3
    rw [e8] at e4
    cases e3
    cases e4
    have ee := Ext.laid (o := .tup [x1, x2]) w nT
    exact ⟨_, ee, Rep.mk_tup (.inl ⟨.inr rfl, upd_same⟩) (by show 2 ≤ sizeLine; decide) (Reps.cons (rp.frz (f.trans (ee.frz w))) (Reps.cons (rp'.frz (f.trans (ee.frz w))) Reps.nil))⟩
end
section
variable {X : Cx} {Tz : Tbs} {XR : XRel} {E : Sg → XK} {tg e e2 : Expr} {m : En → Mo Dt} {ms : En → Mo (List Dt)} {p pos tpos : Pos} {elts : List Expr} {kk : Nat}
def seqD : Dt → Option (List Dt)
  | .tup x => some x
  | .lst x => some x
  | .str x => if x.length ≤ 16777216 then some (x.map fun c => .str [c]) else none
  | _ => none
def mSeq (m : En → Mo Dt) : En → Mo (List Dt) := fun ρ => (m ρ).bind fun d => ofO (seqD d)
theorem i_seq_ (he : PE X e (tM (X.gd Tz) XR E m)) : PI X tg e (iM (X.gd Tz) XR E (mSeq m)) := by
  refine ⟨fun pins s σ H R I ⟨r, Z, ρ, w, st0, h⟩ => ?_⟩
  refine thn (he.run pins s σ H (fun x H1 => ∃ Z1 d ds, Ext (X.gd Tz) r Z H Z1 H1 ∧ Rep (X.gd Tz) r Z1 H1 x d ∧ seqD d = some ds ∧ ∀ J, ItOk (X.gd Tz) r Z1 H1 J ds → R J H1) I (tM.split w st0 h fun u H1 Z1 d1 e1 w1 s1 rp1 h1 => ?_)) fun v s1 ⟨x, H1, I1, r1, Z1, d, ds, e1, rp, es, hR⟩ => ?_
  · obtain ⟨ds, e2, h2⟩ := wp_ofO h1
    exact ⟨Z1, d1, ds, e1, rp1, e2, fun J ok => h2 J H1 Z1 e1 ok⟩
  · have w1 := e1.wf
    unfold seqD at es
    split at es
    · obtain ⟨a, vs, rfl, t, l, q⟩ := rp.tup
      cases es
      cases r1
      obtain ⟨its, rv, pp, hz⟩ := I1.tuple t.sq
      refine wpAny_pyIter_tuple (show s1.heap.IsTuple a its.toArray from pp) ?_
      refine ⟨s1.heap.objs.size, [s1.heap.objs.size], _, _, H1, rfl, I1.kept (t' := s1.toks) fun b o e => Heap.get?_push_of_some _ e, turn_tuple a _, ⟨_, Heap.get?_push_size _ rfl, rfl, rfl⟩, fun b hb => ?_, hR _ (it_tup t l q)⟩
      have e : b = s1.heap.objs.size := by simpa using hb
      subst e
      exact I1.fpOk (Nat.le_refl _) (I1.hok.fresh (Nat.le_refl _))
    · obtain ⟨a, vs, rfl, z, t, l, q⟩ := rp.lst
      cases es
      cases r1
      obtain ⟨its, rv, pp, hz⟩ := I1.list (SqL.of t)
      refine wpAny_pyIter_list pp.isList ?_
      refine ⟨s1.heap.objs.size, [s1.heap.objs.size], _, _, H1, rfl, I1.kept (t' := s1.toks) fun b o e => Heap.get?_push_of_some _ e, turn_list a _, ⟨_, Heap.get?_push_size _ rfl, rfl, rfl⟩, fun b hb => ?_, hR _ (it_lst z t l q)⟩
      have e : b = s1.heap.objs.size := by simpa using hb
      subst e
      exact I1.fpOk (Nat.le_refl _) (I1.hok.fresh (Nat.le_refl _))
    · rename_i x0
      rw [rp.str] at r1
      split at es
      · rename_i hl
        cases es
        obtain ⟨t, rfl⟩ := r1
        have q := hR _ (it_str (G := (X.gd Tz)) (r := r) (Z := Z1) (H := H1) (x := x0) (sl16 hl))
        cases ha : (st x0).cps.all (· < 128)
        · exact wpAny_pyIter_wide ha (pi_one (tk := s1.toks) I1 _ (turn_str _ (st x0) t "str_iterator" (.inr rfl)) ⟨_, Heap.get?_push_size _ rfl, rfl, rfl⟩ q)
        · exact wpAny_pyIter_ascii ha (pi_one (tk := s1.toks) I1 _ (turn_str _ (st x0) t "str_ascii_iterator" (.inl rfl)) ⟨_, Heap.get?_push_size _ rfl, rfl, rfl⟩ q)
      · cases es
    · cases es
theorem PI.imp {t t' : TI} (h : PI X tg e t) (i : ∀ σ H Q, t' σ H Q → t σ H Q) : PI X tg e t' := ⟨fun pins s σ H Q I q => h.run pins s σ H Q I (i σ H Q q)⟩
def mRng (m : En → Mo Dt) : En → Mo (List Dt) := fun ρ => (m ρ).bind fun d => match d with | .int n => if 0 ≤ n ∧ n ≤ 16777216 then .ret (rngD n) else .err | _ => .err
theorem i_range (hg : Gl X "range") (hm : X.mg "range" = none) (ha : PE X e (tM (X.gd Tz) XR E m)) (hs : starEach [e] X.env = [(false, eval e X.env)] := by rfl) : PI X tg (.Call (.Name "range" p) [e] [] pos) (iM (X.gd Tz) XR E (mRng m)) :=
  PI.imp (pi_range1 hg hm (pa_cons ha pa_nil hs) hs) fun σ H R ⟨r, Z, ρ, w, s, h⟩ => tM.split w s h fun v H1 Z1 d e1 w1 s1 rp h1 => by
    cases d with
    | int n =>
      dsimp only at h1
      split at h1
      · rename_i hl
        exact ⟨n, by rw [rp.int], by omega, by omega, h1 _ H1 Z1 e1 (it_rng (sl16 (by omega)))⟩
      · exact h1.elim
    | _ => exact h1.elim
def mEnum (m : En → Mo Dt) : En → Mo (List Dt) := fun ρ => (m ρ).bind fun d => match d with | .lst ds => .ret (enumD 0 ds) | _ => .err
theorem i_enum (hg : Gl X "enumerate") (hm : X.mg "enumerate" = none) (ha : PE X e (tM (X.gd Tz) XR E m)) (hs : starEach [e] X.env = [(false, eval e X.env)] := by rfl) : PI X (.Tuple elts kk tpos) (.Call (.Name "enumerate" p) [e] [] pos) (iM (X.gd Tz) XR E (mEnum m)) :=
  PI.imp (pi_enum hg hm (pa_cons ha pa_nil hs) hs) fun σ H R ⟨r, Z, ρ, w, s, h⟩ => tM.split w s h fun v H1 Z1 d e1 w1 s1 rp h1 => by
    cases d with
    | lst ds =>
      obtain ⟨a, vs, rfl, z, t, l, q⟩ := rp.lst
      exact ⟨a, vs, rfl, .of t, h1 _ H1 Z1 e1 (it_enum z t l q)⟩
    | _ => exact h1.elim
def mZip (m n : En → Mo Dt) : En → Mo (List Dt) := fun ρ => (m ρ).bind fun d => (n ρ).bind fun d' => match d, d' with | .tup xs, .tup ys => .ret (zipD xs ys) | _, _ => .err
theorem i_zip {n : En → Mo Dt} (hg : Gl X "zip") (hm : X.mg "zip" = none) (ha : PE X e (tM (X.gd Tz) XR E m)) (hb : PE X e2 (tM (X.gd Tz) XR E n)) (hs : starEach [e, e2] X.env = (false, eval e X.env) :: starEach [e2] X.env := by rfl) (hpl : (backTo pos (starEach [e2] X.env)).any (·.1) = false := by rfl) (hs2 : starEach [e2] X.env = (false, eval e2 X.env) :: starEach [] X.env := by rfl) :
    PI X (.Tuple elts kk tpos) (.Call (.Name "zip" p) [e, e2] [] pos) (iM (X.gd Tz) XR E (mZip m n)) :=
  PI.imp (RZ.pi_zipA hg hm (pa_cons ha (pa_cons hb pa_nil hs2) hs) hs hpl) fun σ H R ⟨r, Z, ρ, w, s, h⟩ => tM.split w s h fun v H1 Z1 d e1 w1 s1 rp h1 => tM.split w1 s1 (h1.mono (fun _ p => p) fun _ _ p => p.ext e1) fun u H2 Z2 d2 e2 w2 s2 rp2 h2 => by
    cases d with
    | tup xs =>
      cases d2 with
      | tup ys =>
        obtain ⟨a, vs, rfl, t, l, q⟩ := (rp.frz (e2.frz w1)).tup
        obtain ⟨b, us, rfl, t', l', q'⟩ := rp2.tup
        exact ⟨a, b, vs, us, rfl, .inr ⟨t.sq, t'.sq, h2 _ H2 Z2 (e1.trans e2) (it_zipT t l q t' q')⟩⟩
      | _ => exact h2.elim
    | _ => exact h2.elim

/-! ## targets -/
def gM (G : Gd) (ts : List Nat) (mg : Dt → En → Mo En) : TG := fun v σ H Q => ∃ r Z ρ d, Wf G r Z H ∧ StOk G r Z H σ ρ ∧ Rep G r Z H v d ∧
  (mg d ρ).wp (fun ρ' => ∀ σ', StOk G r Z H σ' ρ' → σ'.length = σ.length → (∀ j, j ∉ ts → σ'[j]? = σ[j]?) → (∀ (i : Nat) s p, ρ'[i]? = some s → isOwn s = true → σ'[i]? = some (some (V.ref p)) → ρ[i]? = some s ∧ σ[i]? = some (some (V.ref p))) → Q σ' H) (fun _ _ => False)
section
variable {G : Gd} {r : Addr} {Z : Addr → Prop} {H : Hp} {σ : Sg} {ρ : En}
theorem StOk.set (s : StOk G r Z H σ ρ) {i : Nat} {v : V} {d : Dt} (rp : Rep G r Z H v d) : StOk G r Z H (σ.set i (some v)) (ρ.set i (.fz d)) where
  len := by rw [List.length_set, List.length_set, s.len]
  sl := fun j w t e1 e2 => by
    by_cases h : i = j
    · subst h
      have h1 : i < σ.length := by
        have := (List.getElem?_eq_some_iff.mp e1).1
        rwa [List.length_set] at this
      rw [List.getElem?_set_self h1] at e1
      rw [List.getElem?_set_self (by rw [s.len]; exact h1)] at e2
      cases e1
      cases e2
      exact ⟨v, rfl, rp⟩
    · rw [List.getElem?_set_ne h] at e1 e2
      exact s.sl j w t e1 e2
  own := fun a b t u p e1 e2 o1 o2 s1 s2 => by
    have key : ∀ c t, (ρ.set i (.fz d))[c]? = some t → isOwn t = true → c ≠ i ∧ ρ[c]? = some t := fun c t e o => by
      by_cases h : i = c
      · subst h
        have h1 : i < ρ.length := by
          have := (List.getElem?_eq_some_iff.mp e).1
          rwa [List.length_set] at this
        rw [List.getElem?_set_self h1] at e
        cases e
        cases o
      · rw [List.getElem?_set_ne h] at e
        exact ⟨Ne.symm h, e⟩
    obtain ⟨n1, r1⟩ := key a t e1 o1
    obtain ⟨n2, r2⟩ := key b u e2 o2
    rw [List.getElem?_set_ne (Ne.symm n1)] at s1
    rw [List.getElem?_set_ne (Ne.symm n2)] at s2
    exact s.own a b t u p r1 r2 o1 o2 s1 s2
theorem own_set {i : Nat} {v : V} {d : Dt} : ∀ (c : Nat) (t : Slo) (p : Addr), (ρ.set i (.fz d))[c]? = some t → isOwn t = true → (σ.set i (some v))[c]? = some (some (V.ref p)) → ρ[c]? = some t ∧ σ[c]? = some (some (V.ref p)) := fun c t p e o e2 => by
  by_cases h : i = c
  · subst h
    have h1 : i < ρ.length := by
      have := (List.getElem?_eq_some_iff.mp e).1
      rwa [List.length_set] at this
    rw [List.getElem?_set_self h1] at e
    cases e
    cases o
  · rw [List.getElem?_set_ne h] at e e2
    exact ⟨e, e2⟩
end
def mgN (i : Nat) : Dt → En → Mo En := fun d ρ => .ret (ρ.set i (.fz d))
def setsE : List Nat → List Dt → En → En
  | i :: is, d :: ds, ρ => setsE is ds (ρ.set i (.fz d))
  | _, _, ρ => ρ
def mgT (is : List Nat) : Dt → En → Mo En := fun d ρ => match d with
  | .tup ds => if ds.length = is.length then .ret (setsE is ds ρ) else .err
  | _ => .err
def mgL (is : List Nat) : Dt → En → Mo En := fun d ρ => match d with
  | .lst ds => if ds.length = is.length then .ret (setsE is ds ρ) else .err
  | _ => .err
theorem PG.imp {t t' : TG} {tg : Expr} (h : PG X tg t) (i : ∀ v σ H Q, t' v σ H Q → t v σ H Q) : PG X tg t' := ⟨fun pins s σ H v u Q I r q => h.run pins s σ H v u Q I r (i v σ H Q q)⟩
theorem g_name {x : Str} (i : Nat) (hN : X.N.Nodup) (hi : X.N[i]? = some x) (hx : Loc X.env.scope x) (hf : X.fn x = true ∨ X.env.scope.names.lookup x = some .local := by first | exact .inl rfl | exact .inr rfl | assumption) : PG X (.Name x pos) (gM (X.gd Tz) [i] (mgN i)) :=
  PG.imp (pg_name hN hi hx hf) fun v σ H Q ⟨r, Z, ρ, d, w, s, rp, h⟩ => h _ (s.set rp) (List.length_set ..) (fun j hj => List.getElem?_set_ne (fun e => hj (by rw [e]; exact List.mem_cons_self))) fun c t p => own_set c t p
def gNames : List Nat → TGs
  | [] => gNil
  | i :: is => gCons (gName i) (gNames is)
theorem gNames_of {G : Gd} {r : Addr} {Z : Addr → Prop} {H : Hp} {Q : Sg → Hp → Prop} : ∀ {is : List Nat} {vs : List V} {ds : List Dt} {σ : Sg} {ρ : En}, Reps G r Z H vs ds → StOk G r Z H σ ρ → ds.length = is.length →
    (∀ σ', StOk G r Z H σ' (setsE is ds ρ) → σ'.length = σ.length → (∀ j, j ∉ is → σ'[j]? = σ[j]?) → (∀ (i : Nat) s p, (setsE is ds ρ)[i]? = some s → isOwn s = true → σ'[i]? = some (some (V.ref p)) → ρ[i]? = some s ∧ σ[i]? = some (some (V.ref p))) → Q σ' H) → gNames is vs σ H Q
  | [], vs, [], σ, ρ, h, s, _, hQ => ⟨h.inv_nil, hQ σ s rfl (fun _ _ => rfl) fun _ _ _ a _ b => ⟨a, b⟩⟩
  | [], vs, _ :: _, σ, ρ, h, s, l, hQ => by cases l
  | i :: is, vs, [], σ, ρ, h, s, l, hQ => by cases l
  | i :: is, vs, d :: ds, σ, ρ, h, s, l, hQ => by
    obtain ⟨v, us, rfl, h1, h2⟩ := h.inv_cons
    refine ⟨v, us, rfl, gNames_of (is := is) h2 (s.set h1) (by simpa using l) fun σ' s' l' ho hw => ?_⟩
    refine hQ σ' s' (by rw [l', List.length_set]) (fun j hj => ?_) fun c t p e1 e2 e3 => ?_
    · rw [ho j fun z => hj (List.mem_cons_of_mem _ z), List.getElem?_set_ne (fun e => hj (by rw [e]; exact List.mem_cons_self))]
    · obtain ⟨h3, h4⟩ := hw c t p e1 e2 e3
      exact own_set c t p h3 e2 h4
theorem g_tup {es : List Expr} {k : Nat} (is : List Nat) (hc : X.calm = true) (h : PGs X es (gNames is)) (hn : (assignEach es X.env).length = is.length := by rfl) (hst : (assignEach es X.env).findIdx? (·.1) = none := by rfl) : PG X (.Tuple es k pos) (gM (X.gd Tz) is (mgT is)) :=
  PG.imp (pg_tup hc h hn hst) fun v σ H Q ⟨r, Z, ρ, d, w, s, rp, h⟩ => by
    unfold mgT at h
    split at h
    · split at h
      · rename_i hl
        obtain ⟨a, vs, rfl, t, l, q⟩ := rp.tup
        exact ⟨a, vs, rfl, t.sq, by rw [q.length]; exact hl, gNames_of q s hl h⟩
      · exact h.elim
    · exact h.elim
theorem g_lst {es : List Expr} {k : Nat} (is : List Nat) (hc : X.calm = true) (h : PGs X es (gNames is)) (hn : (assignEach es X.env).length = is.length := by rfl) (hst : (assignEach es X.env).findIdx? (·.1) = none := by rfl) : PG X (.Tuple es k pos) (gM (X.gd Tz) is (mgL is)) :=
  PG.imp (pg_unl hc h hn hst) fun v σ H Q ⟨r, Z, ρ, d, w, s, rp, h⟩ => by
    unfold mgL at h
    split at h
    · split at h
      · rename_i hl
        obtain ⟨a, vs, rfl, z, t, l, q⟩ := rp.lst
        exact ⟨a, vs, rfl, .of t, by rw [q.length]; exact hl, gNames_of q s hl h⟩
      · exact h.elim
    · exact h.elim
end
end Fw
set_option Elab.async false
set_option linter.all false
set_option maxRecDepth 100000
set_option maxHeartbeats 4000000
namespace Fw
open PySem PySem.Spec PyProof.Rows L2

/-! ## comprehensions -/
def Mo.nox {α : Type} : Mo α → Mo α
  | .ret a => .ret a
  | .any P k => .any P fun d => (k d).nox
  | .exc _ _ => .err
  | .err => .err
theorem Mo.nox_wp {α : Type} {P : α → Prop} {R R' : Nat → Dt → Prop} : ∀ {m : Mo α}, (Mo.nox m).wp P R → m.wp P R'
  | .ret a, h => h
  | .any Q k, h => fun d q => nox_wp (h d q)
  | .exc _ _, h => h.elim
  | .err, h => h.elim
def wipeE (ρ : En) : List Nat → En
  | [] => ρ
  | v :: vs => (wipeE ρ vs).set v .un
section
variable {G : Gd} {r : Addr} {Z : Addr → Prop} {H : Hp} {σ : Sg} {ρ : En}
theorem StOk.unset (s : StOk G r Z H σ ρ) {i : Nat} : StOk G r Z H (σ.set i none) (ρ.set i .un) where
  len := by rw [List.length_set, List.length_set, s.len]
  sl := fun j w t e1 e2 => by
    by_cases h : i = j
    · subst h
      have h1 : i < σ.length := by
        have := (List.getElem?_eq_some_iff.mp e1).1
        rwa [List.length_set] at this
      rw [List.getElem?_set_self (by rw [s.len]; exact h1)] at e2
      cases e2
      trivial
    · rw [List.getElem?_set_ne h] at e1 e2
      exact s.sl j w t e1 e2
  own := fun a b t u p e1 e2 o1 o2 s1 s2 => by
    have key : ∀ c t, (ρ.set i .un)[c]? = some t → isOwn t = true → c ≠ i ∧ ρ[c]? = some t := fun c t e o => by
      by_cases h : i = c
      · subst h
        have h1 : i < ρ.length := by
          have := (List.getElem?_eq_some_iff.mp e).1
          rwa [List.length_set] at this
        rw [List.getElem?_set_self h1] at e
        cases e
        cases o
      · rw [List.getElem?_set_ne h] at e
        exact ⟨Ne.symm h, e⟩
    obtain ⟨n1, r1⟩ := key a t e1 o1
    obtain ⟨n2, r2⟩ := key b u e2 o2
    rw [List.getElem?_set_ne (Ne.symm n1)] at s1
    rw [List.getElem?_set_ne (Ne.symm n2)] at s2
    exact s.own a b t u p r1 r2 o1 o2 s1 s2
theorem StOk.wipe (s : StOk G r Z H σ ρ) : ∀ vs : List Nat, StOk G r Z H (wipe σ vs) (wipeE ρ vs)
  | [] => s
  | v :: vs => (StOk.wipe s vs).unset
/-- slots that part at wiped places alone are alike when wiped -/
theorem wipe_eq {σ' : Sg} {vs : List Nat} (hl : σ'.length = σ.length) (h : ∀ j, j ∉ vs → σ'[j]? = σ[j]?) : wipe σ' vs = wipe σ vs := by
  have len : ∀ (τ : Sg) (vs : List Nat), (wipe τ vs).length = τ.length := fun τ vs => wipe_length τ vs
  have inn : ∀ (τ : Sg) (vs : List Nat) (j : Nat), j ∈ vs → j < τ.length → (wipe τ vs)[j]? = some none := by
    intro τ vs
    induction vs with
    | nil => intro j hj; cases hj
    | cons v vs ih =>
      intro j hj hl
      unfold wipe
      by_cases e : v = j
      · subst e
        rw [List.getElem?_set_self (by rw [len]; exact hl)]
      · rw [List.getElem?_set_ne e]
        rcases List.mem_cons.mp hj with z | z
        · exact absurd z.symm e
        · exact ih j z hl
  have out : ∀ (τ : Sg) (vs : List Nat) (j : Nat), j ∉ vs → (wipe τ vs)[j]? = τ[j]? := by
    intro τ vs
    induction vs with
    | nil => intro j _; rfl
    | cons v vs ih =>
      intro j hj
      unfold wipe
      rw [List.getElem?_set_ne (fun e => hj (by rw [e]; exact List.mem_cons_self))]
      exact ih j fun z => hj (List.mem_cons_of_mem _ z)
  apply List.ext_getElem?
  intro j
  by_cases hj : j ∈ vs
  · by_cases hlt : j < σ.length
    · rw [inn σ' vs j hj (by rw [hl]; exact hlt), inn σ vs j hj hlt]
    · rw [List.getElem?_eq_none (by rw [len, hl]; omega), List.getElem?_eq_none (by rw [len]; omega)]
  · rw [out σ' vs j hj, out σ vs j hj, h j hj]
theorem wipe_wipe {vs : List Nat} : wipe (wipe σ vs) vs = wipe σ vs := wipe_eq (wipe_length σ vs) fun j hj => by
  have out : ∀ (τ : Sg) (vs : List Nat) (j : Nat), j ∉ vs → (wipe τ vs)[j]? = τ[j]? := by
    intro τ vs
    induction vs with
    | nil => intro j _; rfl
    | cons v vs ih =>
      intro j hj
      unfold wipe
      rw [List.getElem?_set_ne (fun e => hj (by rw [e]; exact List.mem_cons_self))]
      exact ih j fun z => hj (List.mem_cons_of_mem _ z)
  exact out σ vs j hj
end
def lcGo (vs : List Nat) (mg : Dt → En → Mo En) (mt : En → Mo Bool) (me : En → Mo Dt) (ρ : En) : List Dt → Mo (List Dt)
  | [] => .ret []
  | d :: ds => (mg d (wipeE ρ vs)).nox.bind fun ρ1 => (mt ρ1).nox.bind fun b => match b with
    | true => (me ρ1).nox.bind fun y => (lcGo vs mg mt me ρ ds).bind fun ys => .ret (y :: ys)
    | false => lcGo vs mg mt me ρ ds
def mLc (vs : List Nat) (mi : En → Mo (List Dt)) (mg : Dt → En → Mo En) (mt : En → Mo Bool) (me : En → Mo Dt) : En → Mo Dt := fun ρ => (mi ρ).bind fun ds => (lcGo vs mg mt me ρ ds).bind fun ys => .ret (.lst ys)
abbrev EX0 : Sg → XK := fun _ _ _ _ => False
section
variable {G : Gd} {XR : XRel} {E : Sg → XK}
/-- one turn's reading, from what is left -/
theorem lc_turn {vs ts : List Nat} {mg : Dt → En → Mo En} {mt : En → Mo Bool} {me : En → Mo Dt} (hts : ∀ i ∈ ts, i ∈ vs) {σ : Sg} {ρ : En} {r : Addr} {Z : Addr → Prop} {H H' : Hp} {Z' : Addr → Prop} {D : Addr} {x : V} {d : Dt} {acc : List V} {accd ds : List Dt}
    {β : Type} {k : List Dt → Mo β} {P : β → Prop} {R : Nat → Dt → Prop} (w : Wf G r Z H) (st0 : StOk G r Z H σ ρ) (nD : ¬ Z D) (hD : H D = some (.lst acc)) (hDr : D ≠ r) (ra : Reps G r Z H acc accd) (hl : acc.length < sizeLine) (e : Ext G r Z H Z' H') (rp : Rep G r Z' H' x d)
    (h : ((lcGo vs mg mt me ρ (d :: ds)).bind fun ys => k (accd ++ ys)).wp P R) (Nx : Hp → Prop)
    (h1 : ∀ Z2 H2 y, Ext G r Z H Z2 H2 → ∀ yd, Rep G r Z2 H2 y yd → H2 D = some (.lst acc) → ¬ Z2 D → ((lcGo vs mg mt me ρ ds).bind fun ys => k ((accd ++ [yd]) ++ ys)).wp P R → Nx (upd H2 D (.lst (acc ++ [y]))))
    (h2 : ∀ Z2 H2, Ext G r Z H Z2 H2 → H2 D = some (.lst acc) → ¬ Z2 D → ((lcGo vs mg mt me ρ ds).bind fun ys => k (accd ++ ys)).wp P R → Nx H2) :
    gM G ts mg x (wipe σ vs) H' fun σ2 H2 => wipe σ2 vs = wipe σ vs ∧ tMb G XR EX0 mt σ2 H2 fun b H3 =>
      if b = true then tM G XR EX0 me σ2 H3 fun y H4 => ∃ acc, H4 D = some (.lst acc) ∧ acc.length < sizeLine ∧ Nx (upd H4 D (.lst (acc ++ [y]))) else Nx H3 := by
  have st1 : StOk G r Z' H' (wipe σ vs) (wipeE ρ vs) := (st0.ext w e).wipe vs
  have zD : ∀ {Z2 H2}, Ext G r Z H Z2 H2 → ¬ Z2 D ∧ H2 D = some (.lst acc) := fun e2 => ⟨fun z => (e2.new D z).elim nD fun q => new_no q hD trivial, e2.grow D _ hDr hD trivial⟩
  rw [show lcGo vs mg mt me ρ (d :: ds) = (mg d (wipeE ρ vs)).nox.bind fun ρ1 => (mt ρ1).nox.bind fun b => match b with
    | true => (me ρ1).nox.bind fun y => (lcGo vs mg mt me ρ ds).bind fun ys => .ret (y :: ys)
    | false => lcGo vs mg mt me ρ ds from rfl, Mo.bind_assoc] at h
  refine ⟨r, Z', wipeE ρ vs, d, e.wf, st1, rp, Mo.nox_wp (Mo.wp_bind.mp h |>.mono (fun ρ1 hρ => ?_) fun _ _ _ => trivial) (R := fun _ _ => True)⟩
  intro σ2 s2 l2 o2 _
  refine ⟨?_, ?_⟩
  · rw [wipe_eq l2 fun j hj => o2 j fun z => hj (hts j z), wipe_wipe]
  · rw [Mo.bind_assoc] at hρ
    refine ⟨r, Z', ρ1, e.wf, s2, Mo.nox_wp (Mo.wp_bind.mp hρ |>.mono (fun b hb => ?_) fun _ _ _ => trivial) (R := fun _ _ => True)⟩
    intro H3 Z3 e3
    have e4 := e.trans e3
    cases b with
    | false => exact h2 Z3 H3 e4 (zD e4).2 (zD e4).1 hb
    | true =>
      rw [if_pos rfl]
      dsimp only at hb
      rw [Mo.bind_assoc] at hb
      refine ⟨r, Z3, ρ1, e4.wf, s2.ext e.wf e3, Mo.nox_wp (Mo.wp_bind.mp hb |>.mono (fun y hy => ?_) fun _ _ _ => trivial) (R := fun _ _ => True)⟩
      intro v H4 Z4 e5 rp5
      have e6 := e4.trans e5
      refine ⟨acc, (zD e6).2, hl, h1 Z4 H4 v e6 y rp5 (zD e6).2 (zD e6).1 ?_⟩
      rw [Mo.bind_assoc] at hy
      have : (fun ys => k (accd ++ [y] ++ ys)) = fun a => (Mo.ret (y :: a)).bind fun ys => k (accd ++ ys) := by
        funext a
        show _ = k (accd ++ y :: a)
        rw [List.append_assoc]
        rfl
      rw [this]
      exact hy
end
section
variable {X : Cx} {Tz : Tbs} {XR : XRel} {E : Sg → XK} {elt tg iter : Expr} {ifs : List Expr} {scope : Scope} {own : List (Str × Nat)} {pos : Pos} {mi : En → Mo (List Dt)} {mg : Dt → En → Mo En} {mt : En → Mo Bool} {me : En → Mo Dt} {ts : List Nat}
theorem ts_nil {X : Cx} {Tz : Tbs} {XR : XRel} {E : Sg → XK} : PTs X [] (tMb (X.gd Tz) XR E (fun _ => .ret true)) := ⟨fun pins s σ H Q I ⟨r, Z, ρ, w, st, h⟩ => pts_nil.run pins s σ H Q I (h H Z (Ext.refl w))⟩
theorem ts_one {X : Cx} {Tz : Tbs} {XR : XRel} {E : Sg → XK} {c : Expr} {m : En → Mo Bool} (h : PT X c (tMb (X.gd Tz) XR E m)) : PTs X [c] (tMb (X.gd Tz) XR E m) := pts_one h
theorem lc_of (hts : ∀ i ∈ ts, i ∈ own.map (·.2)) {σ : Sg} {H : Hp} {Q : VK} (h : tM (X.gd Tz) XR E (mLc (own.map (·.2)) mi mg mt me) σ H Q) : tLc (iM (X.gd Tz) XR E mi) (gM (X.gd Tz) ts mg) (tMb (X.gd Tz) XR EX0 mt) (tM (X.gd Tz) XR EX0 me) (own.map (·.2)) σ H Q := by
  obtain ⟨r, Z, ρ, w, st0, h⟩ := h
  refine ⟨r, Z, ρ, w, st0, (Mo.wp_bind.mp h).mono (fun ds hds J H1 Z1 e1 ok D hD => ?_) fun _ _ x => x⟩
  have w1 := e1.wf
  have nD := w1.nz hD
  refine ⟨fun i m H2 => m = ds.length - i ∧ i ≤ ds.length ∧ ∃ Z2 acc accd, Ext (X.gd Tz) r Z1 H1 Z2 H2 ∧ ¬ Z2 D ∧ H2 D = some (.lst acc) ∧ Reps (X.gd Tz) r Z2 H2 acc accd ∧ acc.length ≤ i ∧
    ((lcGo (own.map (·.2)) mg mt me ρ (ds.drop i)).bind fun ys => .ret (.lst (accd ++ ys))).wp (PV (X.gd Tz) r Z H Q) (PX (X.gd Tz) XR r Z H (E σ)), ⟨ds.length, by simp, Nat.zero_le _, Z1, [], [], Ext.own w1 hD, nD.1, upd_same, Reps.nil, Nat.le_refl _, hds⟩, ?_⟩
  rintro i m H2 ⟨rfl, hi, Z2, acc, accd, e2, nD2, hD2, ra, la, h2⟩
  have w2 := e2.wf
  have st2 : StOk (X.gd Tz) r Z2 H2 σ ρ := (st0.ext w e1).ext w1 e2
  by_cases hlt : i < ds.length
  · refine .inr ⟨ok.go Z2 H2 w2 (e2.frz w1) i hlt, fun H' => (ds.length - (i + 1)) = ds.length - (i + 1) ∧ i + 1 ≤ ds.length ∧ ∃ Z2 acc accd, Ext (X.gd Tz) r Z1 H1 Z2 H' ∧ ¬ Z2 D ∧ H' D = some (.lst acc) ∧ Reps (X.gd Tz) r Z2 H' acc accd ∧ acc.length ≤ i + 1 ∧
      ((lcGo (own.map (·.2)) mg mt me ρ (ds.drop (i + 1))).bind fun ys => .ret (.lst (accd ++ ys))).wp (PV (X.gd Tz) r Z H Q) (PX (X.gd Tz) XR r Z H (E σ)), fun H' hN => ⟨ds.length - (i + 1), by omega, hN⟩, fun x H' hy => ?_⟩
    obtain ⟨Z3, e3, rp3⟩ := ok.yld Z2 H2 w2 (e2.frz w1) i ds[i] x H' (List.getElem?_eq_getElem hlt) hy
    rw [List.drop_eq_getElem_cons hlt] at h2
    have hl : acc.length < sizeLine := Nat.lt_of_le_of_lt la (Nat.lt_of_lt_of_le hlt ok.len)
    have hk : ∀ {Zk Hk}, Ext (X.gd Tz) r Z2 H2 Zk Hk → Reps (X.gd Tz) r Zk Hk acc accd := fun ek => ra.frz (ek.frz w2)
    refine lc_turn (k := fun ys => (Mo.ret (Dt.lst ys) : Mo Dt)) hts w2 st2 nD2 hD2 nD.2 ra hl e3 rp3 h2 _ (fun Zk Hk y ek yd ry hDk nDk hw => ⟨rfl, by omega, Zk, acc ++ [y], accd ++ [yd], ?_, nDk, upd_same, ?_, ?_, hw⟩) fun Zk Hk ek hDk nDk hw => ⟨rfl, by omega, Zk, acc, accd, e2.trans ek, nDk, hDk, hk ek, by omega, hw⟩
    · have e4 := e2.trans ek
      exact e4.wr nD.2 nDk hD hDk trivial
    · exact ((hk ek).append (Reps.cons ry Reps.nil)).frz (frz_upd nDk)
    · rw [List.length_append]; show acc.length + 1 ≤ i + 1; omega
  · have ei : i = ds.length := by omega
    subst ei
    refine .inl ⟨ok.stop Z2 H2 w2 (e2.frz w1), ?_⟩
    rw [List.drop_length] at h2
    have h3 : PV (X.gd Tz) r Z H Q (.lst (accd ++ [])) := h2
    rw [List.append_nil] at h3
    have w3 : Wf (X.gd Tz) r (Zp Z2 D) H2 := w2.zp nD.2 ⟨_, hD2, trivial⟩
    have e5 : Ext (X.gd Tz) r Z H (Zp Z2 D) H2 := by
      have e4 := e1.trans e2
      refine ⟨w3, e4.grow, e4.tgrow, fun a z => .inl (e4.sub a z), fun a z => ?_⟩
      rcases z with z | z
      · exact e4.new a z
      · rw [z]; exact .inr (.inl (e1.noneOf hD))
    refine h3 _ H2 _ e5 (Rep.mk_lst (.inr rfl) hD2 (Nat.le_trans la ok.len) (ra.frz fun a z => ⟨.inl z, rfl⟩))
theorem e_lc (hts : ∀ i ∈ ts, i ∈ own.map (·.2)) (hc : X.calm = true) (hN : X.N.Nodup) (hi : PI X tg iter (iM (X.gd Tz) XR E mi)) (ok : BlkOk X.N X.env.scope scope own)
    (hg : ∀ (s : Shared) (H : Hp) (C : Addr) (cl : List (Str × Addr)) (fp : List Addr), PG (X.blk s H scope (compEnvC scope cl C X.env) fp) tg (gM (X.gd Tz) ts mg)) (ht : ∀ (s : Shared) (H : Hp) (C : Addr) (cl : List (Str × Addr)) (fp : List Addr), PTs (X.blk s H scope (compEnvC scope cl C X.env) fp) ifs (tMb (X.gd Tz) XR EX0 mt))
    (he : ∀ (s : Shared) (H : Hp) (C : Addr) (cl : List (Str × Addr)) (fp : List Addr), PE (X.blk s H scope (compEnvC scope cl C X.env) fp) elt (tM (X.gd Tz) XR EX0 me)) (hs : ∀ x, foldedSetIterable iter X.env x = pure x := by intro _; rfl) :
    PE X (.ListComp elt [⟨tg, iter, ifs, 0⟩] scope pos) (tM (X.gd Tz) XR E (mLc (own.map (·.2)) mi mg mt me)) :=
  PE.imp (pe_lc hc hN hi ok hg ht he hs) fun σ H Q h => lc_of hts h
end
end Fw
set_option Elab.async false
set_option linter.all false
set_option maxRecDepth 100000
set_option maxHeartbeats 4000000
namespace Fw
open PySem PySem.Spec PyProof.Rows L2

/-! ## statements -/
inductive Fl where
  | nx (ρ : En) | rt (d : Dt) | bk (ρ : En) | ct (ρ : En)
def Own0 (H0 : Hp) (σ : Sg) (ρ : En) : Prop := ∀ (i : Nat) (s : Slo) (p : Addr), ρ[i]? = some s → isOwn s = true → σ[i]? = some (some (V.ref p)) → H0 p = none
section
variable (G : Gd) (XR : XRel) (r : Addr) (Z0 : Addr → Prop) (H0 : Hp)
def PF (Zs : Addr → Prop) (Hs : Hp) (D : Ends) : Fl → Prop
  | .nx ρ' => ∀ σ' H' Z', Ext G r Z0 H0 Z' H' → StOk G r Z' H' σ' ρ' → Own0 H0 σ' ρ' → Frz Zs Hs Z' H' → D.nx σ' H'
  | .bk ρ' => ∀ σ' H' Z', Ext G r Z0 H0 Z' H' → StOk G r Z' H' σ' ρ' → Own0 H0 σ' ρ' → Frz Zs Hs Z' H' → D.bk σ' H'
  | .ct ρ' => ∀ σ' H' Z', Ext G r Z0 H0 Z' H' → StOk G r Z' H' σ' ρ' → Own0 H0 σ' ρ' → Frz Zs Hs Z' H' → D.ct σ' H'
  | .rt d => ∀ v H' Z', Ext G r Z0 H0 Z' H' → Rep G r Z' H' v d → D.rt v H'
def PXS (E : Sg → XK) : Nat → Dt → Prop := fun c d => ∀ σ' cv od H' Z', Ext G r Z0 H0 Z' H' → XR H' c d cv od → E σ' cv od H'
end
/-- where a statement stands -/
structure At (G : Gd) (r : Addr) (Z0 : Addr → Prop) (H0 : Hp) (Z : Addr → Prop) (H : Hp) (σ : Sg) (ρ : En) : Prop where
  st : StOk G r Z H σ ρ
  ext : Ext G r Z0 H0 Z H
  own : Own0 H0 σ ρ
def tS (G : Gd) (XR : XRel) (E : Sg → XK) (m : En → Mo Fl) : TS := fun D σ H => ∃ r Z ρ Z0 H0, At G r Z0 H0 Z H σ ρ ∧ (m ρ).wp (PF G r Z0 H0 Z H D) (PXS G XR r Z0 H0 E)
section
variable {G : Gd} {XR : XRel} {E : Sg → XK} {r : Addr} {Z0 Z : Addr → Prop} {H0 H : Hp} {σ : Sg} {ρ : En} {β : Type}
theorem At.wf (a : At G r Z0 H0 Z H σ ρ) : Wf G r Z H := a.ext.wf
theorem At.go {Z1 : Addr → Prop} {H1 : Hp} (a : At G r Z0 H0 Z H σ ρ) (e : Ext G r Z H Z1 H1) : At G r Z0 H0 Z1 H1 σ ρ := ⟨a.st.ext a.wf e, a.ext.trans e, a.own⟩
theorem PXS.px {c : Nat} {d : Dt} (h : PXS G XR r Z0 H0 E c d) (e : Ext G r Z0 H0 Z H) : PX G XR r Z H (E σ) c d := fun cv od H' Z' e' q => h σ cv od H' Z' (e.trans e') q
theorem tS.split {m : En → Mo Dt} {k : Dt → Mo β} {P : β → Prop} {Q : VK} (a : At G r Z0 H0 Z H σ ρ) (h : ((m ρ).bind k).wp P (PXS G XR r Z0 H0 E))
    (hQ : ∀ v H1 Z1 d, Ext G r Z H Z1 H1 → At G r Z0 H0 Z1 H1 σ ρ → Rep G r Z1 H1 v d → (k d).wp P (PXS G XR r Z0 H0 E) → Q v H1) : tM G XR E m σ H Q :=
  ⟨r, Z, ρ, a.wf, a.st, (Mo.wp_bind.mp h).mono (fun d hd v H1 Z1 e rp => hQ v H1 Z1 d e (a.go e) rp hd) fun _ _ x => x.px a.ext⟩
theorem tS.splitB {m : En → Mo Bool} {k : Bool → Mo β} {P : β → Prop} {Q : Bool → Hp → Prop} (a : At G r Z0 H0 Z H σ ρ) (h : ((m ρ).bind k).wp P (PXS G XR r Z0 H0 E))
    (hQ : ∀ H1 Z1 d, Ext G r Z H Z1 H1 → At G r Z0 H0 Z1 H1 σ ρ → (k d).wp P (PXS G XR r Z0 H0 E) → Q d H1) : tMb G XR E m σ H Q :=
  ⟨r, Z, ρ, a.wf, a.st, (Mo.wp_bind.mp h).mono (fun d hd H1 Z1 e => hQ H1 Z1 d e (a.go e) hd) fun _ _ x => x.px a.ext⟩
/-- the end's wish, from a later place -/
theorem PF.later {Zs Z1 : Addr → Prop} {Hs H1 : Hp} {D : Ends} (f : Frz Zs Hs Z1 H1) : ∀ {x : Fl}, PF G r Z0 H0 Zs Hs D x → PF G r Z0 H0 Z1 H1 D x
  | .nx _, h => fun σ' H' Z' e s o q => h σ' H' Z' e s o (f.trans q)
  | .bk _, h => fun σ' H' Z' e s o q => h σ' H' Z' e s o (f.trans q)
  | .ct _, h => fun σ' H' Z' e s o q => h σ' H' Z' e s o (f.trans q)
  | .rt _, h => h
theorem PF.nx {Zs : Addr → Prop} {Hs : Hp} {D : Ends} {ρ' : En} (h : PF G r Z0 H0 Zs Hs D (.nx ρ')) {σ' : Sg} {Z' : Addr → Prop} {H' : Hp} (a : At G r Z0 H0 Z' H' σ' ρ') (f : Frz Zs Hs Z' H') : D.nx σ' H' := h σ' H' Z' a.ext a.st a.own f
theorem tS.go {m : En → Mo Fl} {D : Ends} {Zs : Addr → Prop} {Hs : Hp} (a : At G r Z0 H0 Z H σ ρ) (h : (m ρ).wp (PF G r Z0 H0 Zs Hs D) (PXS G XR r Z0 H0 E)) (f : Frz Zs Hs Z H) : tS G XR E m D σ H :=
  ⟨r, Z, ρ, Z0, H0, a, h.mono (fun _ p => p.later f) fun _ _ p => p⟩
end
def mNx : En → Mo Fl := fun ρ => .ret (.nx ρ)
def mSq (m n : En → Mo Fl) : En → Mo Fl := fun ρ => (m ρ).bind fun f => match f with | .nx ρ' => n ρ' | f => .ret f
def mRet (m : En → Mo Dt) : En → Mo Fl := fun ρ => (m ρ).bind fun d => .ret (.rt d)
def mDrop (m : En → Mo Dt) : En → Mo Fl := fun ρ => (m ρ).bind fun _ => .ret (.nx ρ)
def mSet (i : Nat) (m : En → Mo Dt) : En → Mo Fl := fun ρ => (m ρ).bind fun d => .ret (.nx (ρ.set i (.fz d)))
def mAsg (m : En → Mo Dt) (mg : Dt → En → Mo En) : En → Mo Fl := fun ρ => (m ρ).bind fun d => (mg d ρ).nox.bind fun ρ' => .ret (.nx ρ')
def mIfS (c : En → Mo Bool) (m n : En → Mo Fl) : En → Mo Fl := fun ρ => (c ρ).bind fun b => match b with | true => m ρ | false => n ρ
def mBk : En → Mo Fl := fun ρ => .ret (.bk ρ)
def mCt : En → Mo Fl := fun ρ => .ret (.ct ρ)
def mErr : En → Mo Fl := fun _ => .err
def forGo (mg : Dt → En → Mo En) (mb : En → Mo Fl) : List Dt → En → Mo Fl
  | [], ρ => .ret (.nx ρ)
  | d :: ds, ρ => (mg d ρ).nox.bind fun ρ1 => (mb ρ1).bind fun f => match f with
    | .nx ρ2 => forGo mg mb ds ρ2
    | .ct ρ2 => forGo mg mb ds ρ2
    | .bk ρ2 => .ret (.nx ρ2)
    | .rt d => .ret (.rt d)
def mFor (mi : En → Mo (List Dt)) (mg : Dt → En → Mo En) (mb : En → Mo Fl) : En → Mo Fl := fun ρ => (mi ρ).bind fun ds => forGo mg mb ds ρ
section
variable {X : Cx} {Tz : Tbs} {XR : XRel} {E : Sg → XK} {e c tg : Expr} {st : Stmt} {sts as bs : List Stmt} {m : En → Mo Dt} {n k : En → Mo Fl} {mc : En → Mo Bool} {mg : Dt → En → Mo En} {pos : Pos} {ts : List Nat}
theorem b_nil : PSs X [] (tS (X.gd Tz) XR E mNx) := PSs.imp pss_nil fun D σ H ⟨r, Z, ρ, Z0, H0, a, h⟩ => PF.nx h a Frz.refl
theorem b_one (h : PS X st (tS (X.gd Tz) XR E n)) : PSs X [st] (tS (X.gd Tz) XR E n) := pss_one h
theorem b_cons (h1 : PS X st (tS (X.gd Tz) XR E n)) (h2 : PSs X sts (tS (X.gd Tz) XR E k)) : PSs X (st :: sts) (tS (X.gd Tz) XR E (mSq n k)) :=
  PSs.imp (pss_cons h1 h2) fun D σ H ⟨r, Z, ρ, Z0, H0, a, h⟩ => ⟨r, Z, ρ, Z0, H0, a, (Mo.wp_bind.mp h).mono (fun f hf => by
    cases f with
    | nx ρ' => exact fun σ' H' Z' e s o q => tS.go ⟨s, e, o⟩ hf q
    | rt d => exact hf
    | bk ρ' => exact hf
    | ct ρ' => exact hf) fun _ _ p => p⟩
theorem s_pass : PS X (.Pass pos) (tS (X.gd Tz) XR E mNx) := PS.imp ps_pass fun D σ H ⟨r, Z, ρ, Z0, H0, a, h⟩ => PF.nx h a Frz.refl
theorem s_never : PS X st (tS (X.gd Tz) XR E mErr) := PS.imp ps_never fun D σ H ⟨r, Z, ρ, Z0, H0, a, h⟩ => h.elim
theorem b_never : PSs X sts (tS (X.gd Tz) XR E mErr) := PSs.imp pss_never fun D σ H ⟨r, Z, ρ, Z0, H0, a, h⟩ => h.elim
theorem s_ret (he : PE X e (tM (X.gd Tz) XR E m)) : PS X (.Return (some e) pos) (tS (X.gd Tz) XR E (mRet m)) :=
  PS.imp (ps_ret he) fun D σ H ⟨r, Z, ρ, Z0, H0, a, h⟩ => tS.split a h fun v H1 Z1 d e1 a1 rp h1 => h1 v H1 Z1 a1.ext rp
theorem s_retN : PS X (.Return none pos) (tS (X.gd Tz) XR E (fun _ => .ret (.rt .non))) :=
  PS.imp ps_retN fun D σ H ⟨r, Z, ρ, Z0, H0, a, h⟩ => h _ H Z a.ext Rep.mk_non
theorem s_expr (he : PE X e (tM (X.gd Tz) XR E m)) (hs : swapsWith e none pos.line X.env = pure false := by rfl) : PS X (.Expr e pos) (tS (X.gd Tz) XR E (mDrop m)) :=
  PS.imp (ps_expr he hs) fun D σ H ⟨r, Z, ρ, Z0, H0, a, h⟩ => tS.split a h fun v H1 Z1 d e1 a1 rp h1 => PF.nx h1 a1 (e1.frz a.wf)
theorem At.set {G : Gd} {r : Addr} {Z0 Z : Addr → Prop} {H0 H : Hp} {σ : Sg} {ρ : En} (a : At G r Z0 H0 Z H σ ρ) {i : Nat} {v : V} {d : Dt} (rp : Rep G r Z H v d) : At G r Z0 H0 Z H (σ.set i (some v)) (ρ.set i (.fz d)) :=
  ⟨a.st.set rp, a.ext, fun c t p h1 h2 h3 => by
    obtain ⟨q1, q2⟩ := own_set c t p h1 h2 h3
    exact a.own c t p q1 h2 q2⟩
theorem s_set {x : Str} {pos' : Pos} (i : Nat) (hN : X.N.Nodup) (hi : X.N[i]? = some x) (hx : Loc X.env.scope x) (he : PE X e (tM (X.gd Tz) XR E m)) (hs : swapsWith e (some (.Name x pos')) pos.line X.env = pure false := by rfl) (hf : X.fn x = true ∨ X.env.scope.names.lookup x = some .local := by first | exact .inl rfl | exact .inr rfl | assumption) :
    PS X (.Assign [.Name x pos'] e pos) (tS (X.gd Tz) XR E (mSet i m)) :=
  PS.imp (ps_set hN hi hx he hs hf) fun D σ H ⟨r, Z, ρ, Z0, H0, a, h⟩ => tS.split a h fun v H1 Z1 d e1 a1 rp h1 => PF.nx h1 (a1.set rp) (e1.frz a.wf)
theorem s_asg (he : PE X e (tM (X.gd Tz) XR E m)) (hg : PG X tg (gM (X.gd Tz) ts mg)) (hs : swapsWithSole [tg] e pos.line X.env = pure false := by rfl) (hw : swappedStores [tg] e X.env = pure none := by rfl)
    (h1 : (assignEach [tg] X.env).map (·.2) = [assign tg X.env] := by rfl) : PS X (.Assign [tg] e pos) (tS (X.gd Tz) XR E (mAsg m mg)) :=
  PS.imp (ps_asg he hg hs hw h1) fun D σ H ⟨r, Z, ρ, Z0, H0, a, h⟩ => tS.split a h fun v H1 Z1 d e1 a1 rp h1 =>
    ⟨r, Z1, ρ, d, a1.wf, a1.st, rp, Mo.nox_wp ((Mo.wp_bind.mp h1).mono (R' := fun _ _ => True) (fun ρ' hρ σ' s' l' o' w' => PF.nx hρ (σ' := σ') ⟨s', a1.ext, fun c t p q1 q2 q3 => by
      obtain ⟨q4, q5⟩ := w' c t p q1 q2 q3
      exact a1.own c t p q4 q2 q5⟩ (e1.frz a.wf)) fun _ _ _ => trivial)⟩
theorem s_if (hc : PT X c (tMb (X.gd Tz) XR E mc)) (ha : PSs X as (tS (X.gd Tz) XR E n)) (hb : PSs X bs (tS (X.gd Tz) XR E k)) : PS X (.If c as bs pos) (tS (X.gd Tz) XR E (mIfS mc n k)) :=
  PS.imp (ps_if hc ha hb) fun D σ H ⟨r, Z, ρ, Z0, H0, a, h⟩ => tS.splitB a h fun H1 Z1 b e1 a1 h1 => by
    cases b with
    | true => exact tS.go a1 h1 (e1.frz a.wf)
    | false => exact tS.go a1 h1 (e1.frz a.wf)
theorem s_for {iter : Expr} {mi : En → Mo (List Dt)} (hp : PassesOwn (model X.prog X.w) X.A X.env X.xe) (hc : X.calm = true) (hi : PI X tg iter (iM (X.gd Tz) XR E mi)) (hg : PG X tg (gM (X.gd Tz) ts mg)) (hb : PSs X bs (tS (X.gd Tz) XR E n))
    (hs : ∀ x, foldedSetIterable iter X.env x = pure x := by intro _; rfl) : PS X (.For tg iter bs [] pos) (tS (X.gd Tz) XR E (mFor mi mg n)) :=
  PS.imp (ps_for hp hc hi hg hb hs) fun D σ H ⟨r, Z, ρ, Z0, H0, a, h⟩ => ⟨r, Z, ρ, a.wf, a.st, (Mo.wp_bind.mp h).mono (fun ds hds J H1 Z1 e1 ok => by
    refine ⟨fun i m σ' H' => m = ds.length - i ∧ i ≤ ds.length ∧ ∃ Z' ρ', At (X.gd Tz) r Z0 H0 Z' H' σ' ρ' ∧ Frz Z1 H1 Z' H' ∧ (forGo mg n (ds.drop i) ρ').wp (PF (X.gd Tz) r Z0 H0 Z H D) (PXS (X.gd Tz) XR r Z0 H0 E),
      ⟨ds.length, by simp, Nat.zero_le _, Z1, ρ, a.go e1, Frz.refl, hds⟩, ?_⟩
    rintro i m σ' H' ⟨rfl, hi, Z', ρ', a', f', h'⟩
    by_cases hlt : i < ds.length
    · refine .inr ⟨ok.go Z' H' a'.wf f' i hlt, fun σ' H' => ∃ Z' ρ', At (X.gd Tz) r Z0 H0 Z' H' σ' ρ' ∧ Frz Z1 H1 Z' H' ∧ (forGo mg n (ds.drop (i + 1)) ρ').wp (PF (X.gd Tz) r Z0 H0 Z H D) (PXS (X.gd Tz) XR r Z0 H0 E),
        fun σ2 H2 hN => ⟨ds.length - (i + 1), by omega, rfl, hlt, hN⟩, fun x H2 hy => ?_⟩
      obtain ⟨Z2, e2, rp⟩ := ok.yld Z' H' a'.wf f' i ds[i] x H2 (List.getElem?_eq_getElem hlt) hy
      rw [List.drop_eq_getElem_cons hlt] at h'
      have a2 := a'.go e2
      have f2 : Frz Z1 H1 Z2 H2 := f'.trans (e2.frz a'.wf)
      refine ⟨r, Z2, ρ', ds[i], a2.wf, a2.st, rp, Mo.nox_wp ((Mo.wp_bind.mp h').mono (R' := fun _ _ => True) (fun ρ1 hρ σ3 s3 l3 o3 w3 => ?_) fun _ _ _ => trivial)⟩
      have a3 : At (X.gd Tz) r Z0 H0 Z2 H2 σ3 ρ1 := ⟨s3, a2.ext, fun c t p q1 q2 q3 => by
        obtain ⟨q4, q5⟩ := w3 c t p q1 q2 q3
        exact a2.own c t p q4 q2 q5⟩
      refine ⟨r, Z2, ρ1, Z0, H0, a3, (Mo.wp_bind.mp hρ).mono (fun f hf => ?_) fun _ _ p => p⟩
      cases f with
      | nx ρ2 => exact fun σ4 H4 Z4 e4 s4 o4 f4 => ⟨Z4, ρ2, ⟨s4, e4, o4⟩, f2.trans f4, hf⟩
      | ct ρ2 => exact fun σ4 H4 Z4 e4 s4 o4 f4 => ⟨Z4, ρ2, ⟨s4, e4, o4⟩, f2.trans f4, hf⟩
      | bk ρ2 => exact fun σ4 H4 Z4 e4 s4 o4 f4 => hf σ4 H4 Z4 e4 s4 o4 (((e1.frz a.wf).trans f2).trans f4)
      | rt d => exact hf
    · have ei : i = ds.length := by omega
      subst ei
      rw [List.drop_length] at h'
      exact .inl ⟨ok.stop Z' H' a'.wf f', PF.nx h' a' ((e1.frz a.wf).trans f')⟩) fun _ _ x => x.px a.ext⟩

/-! ## own lists and dicts -/
/-- x = [..], fresh and not shared -/
def mOwn (i : Nat) (m : En → Mo (List Dt)) : En → Mo Fl := fun ρ => (m ρ).bind fun ds => if ds.length ≤ 16777216 then .ret (.nx (ρ.set i (.ol ds))) else .err
theorem tS.splitL {G : Gd} {XR : XRel} {E : Sg → XK} {r : Addr} {Z0 Z : Addr → Prop} {H0 H : Hp} {σ : Sg} {ρ : En} {β : Type} {m : En → Mo (List Dt)} {k : List Dt → Mo β} {P : β → Prop} {Q : List V → Hp → Prop} (a : At G r Z0 H0 Z H σ ρ) (h : ((m ρ).bind k).wp P (PXS G XR r Z0 H0 E))
    (hQ : ∀ v H1 Z1 d, Ext G r Z H Z1 H1 → At G r Z0 H0 Z1 H1 σ ρ → Reps G r Z1 H1 v d → (k d).wp P (PXS G XR r Z0 H0 E) → Q v H1) : tMs G XR E m σ H Q :=
  ⟨r, Z, ρ, a.wf, a.st, (Mo.wp_bind.mp h).mono (fun d hd v H1 Z1 e rp => hQ v H1 Z1 d e (a.go e) rp hd) fun _ _ x => x.px a.ext⟩
/-- a new own object goes into a slot -/
theorem At.setOwn {G : Gd} {r : Addr} {Z0 Z : Addr → Prop} {H0 H : Hp} {σ : Sg} {ρ : En} (a : At G r Z0 H0 Z H σ ρ) {i : Nat} {p : Addr} {o : HO} {t : Slo} (hn : H p = none) (ht : SlOk G r Z (upd H p o) (some (.ref p)) t) (hσ : ∀ (j : Nat) (q : Slo), ρ[j]? = some q → isOwn q = true → σ[j]? ≠ some (some (V.ref p))) :
    At G r Z0 H0 Z (upd H p o) (σ.set i (some (.ref p))) (ρ.set i t) := by
  have e := Ext.own (o := o) a.wf hn
  have a1 := a.go e
  have key : ∀ c u q, (ρ.set i t)[c]? = some u → isOwn u = true → (σ.set i (some (V.ref p)))[c]? = some (some (V.ref q)) → (c = i ∧ q = p) ∨ (c ≠ i ∧ ρ[c]? = some u ∧ σ[c]? = some (some (V.ref q))) := fun c u q h1 h2 h3 => by
    by_cases h : i = c
    · subst h
      have hl : i < σ.length := by
        have := (List.getElem?_eq_some_iff.mp h3).1
        rwa [List.length_set] at this
      rw [List.getElem?_set_self hl] at h3
      cases h3
      exact .inl ⟨rfl, rfl⟩
    · rw [List.getElem?_set_ne h] at h1 h3
      exact .inr ⟨Ne.symm h, h1, h3⟩
  refine ⟨⟨by rw [List.length_set, List.length_set, a.st.len], fun j w u e1 e2 => ?_, fun b c u u' q e1 e2 o1 o2 s1 s2 => ?_⟩, a1.ext, fun c u q h1 h2 h3 => ?_⟩
  · by_cases h : i = j
    · subst h
      have hl : i < σ.length := by
        have := (List.getElem?_eq_some_iff.mp e1).1
        rwa [List.length_set] at this
      rw [List.getElem?_set_self hl] at e1
      rw [List.getElem?_set_self (by rw [a.st.len]; exact hl)] at e2
      cases e1
      cases e2
      exact ht
    · rw [List.getElem?_set_ne h] at e1 e2
      exact a1.st.sl j w u e1 e2
  · rcases key b u q e1 o1 s1 with ⟨rfl, rfl⟩ | ⟨n1, h1, h2⟩
    · rcases key c u' q e2 o2 s2 with ⟨rfl, _⟩ | ⟨n2, h3, h4⟩
      · rfl
      · exact absurd h4 (hσ c u' h3 o2)
    · rcases key c u' q e2 o2 s2 with ⟨rfl, rfl⟩ | ⟨n2, h3, h4⟩
      · exact absurd h2 (hσ b u h1 o1)
      · exact a.st.own b c u u' q h1 h3 o1 o2 h2 h4
  · rcases key c u q h1 h2 h3 with ⟨rfl, rfl⟩ | ⟨n1, h4, h5⟩
    · exact a.ext.noneOf hn
    · exact a.own c u q h4 h2 h5
theorem StOk.notNone {G : Gd} {r : Addr} {Z : Addr → Prop} {H : Hp} {σ : Sg} {ρ : En} (s : StOk G r Z H σ ρ) {p : Addr} (hn : H p = none) : ∀ (j : Nat) (q : Slo), ρ[j]? = some q → isOwn q = true → σ[j]? ≠ some (some (V.ref p)) := fun j q e o h => by
  have := s.sl j _ q h e
  cases q with
  | ol ds =>
    obtain ⟨p', vs, e1, _, _, hp, _⟩ := this
    cases e1
    rw [hn] at hp
    cases hp
  | od ks ds =>
    obtain ⟨p', vs, e1, _, _, hp, _⟩ := this
    cases e1
    rw [hn] at hp
    cases hp
  | un => cases o
  | fz d => cases o
theorem s_own {x : Str} {pos' p2 : Pos} {es : List Expr} {ms : En → Mo (List Dt)} (i : Nat) (hN : X.N.Nodup) (hi : X.N[i]? = some x) (hx : Loc X.env.scope x) (he : PA X es (tMs (X.gd Tz) XR E ms)) (hs : swapsWith (.List es p2) (some (.Name x pos')) pos.line X.env = pure false := by rfl) (hf : X.fn x = true ∨ X.env.scope.names.lookup x = some .local := by first | exact .inl rfl | exact .inr rfl | assumption) :
    PS X (.Assign [.Name x pos'] (.List es p2) pos) (tS (X.gd Tz) XR E (mOwn i ms)) :=
  PS.imp (ps_set hN hi hx (pe_lst he) hs hf) fun D σ H ⟨r, Z, ρ, Z0, H0, a, h⟩ => tS.splitL a h fun vs H1 Z1 ds e1 a1 rp h1 => by
    split at h1
    · rename_i hl
      have l : vs.length ≤ sizeLine := by rw [rp.length]; exact sl16 hl
      refine ⟨l, fun p hp => ?_⟩
      have nz := a1.wf.nz hp
      exact PF.nx h1 (a1.setOwn hp ⟨p, vs, rfl, nz.2, nz.1, upd_same, l, rp.frz (frz_upd nz.1)⟩ (a1.st.notNone hp)) ((e1.frz a.wf).trans (frz_upd nz.1))
    · exact h1.elim
/-- freezing an own object -/
def frzE (i : Nat) (ρ : En) : En := match ρ[i]? with
  | some (.ol ds) => ρ.set i (.fz (.lst ds))
  | some (.od ks ds) => ρ.set i (.fz (.dt ks ds))
  | _ => ρ
theorem At.frz {Z0 Z : Addr → Prop} {H0 H : Hp} {G : Gd} {r : Addr} {σ : Sg} {ρ : En} (a : At G r Z0 H0 Z H σ ρ) (i : Nat) : ∃ Z', At G r Z0 H0 Z' H σ (frzE i ρ) ∧ Frz Z H Z' H := by
  have go : ∀ (t : Slo) (d : Dt) (p : Addr), ρ[i]? = some t → isOwn t = true → σ[i]? = some (some (V.ref p)) → p ≠ r → (∃ o, H p = some o ∧ nTb o) → Rep G r (Zp Z p) H (.ref p) d → ∃ Z', At G r Z0 H0 Z' H σ (ρ.set i (.fz d)) ∧ Frz Z H Z' H := fun t d p e1 e2 e3 e4 e5 rp => by
    have wz := a.wf.zp e4 e5
    have ez : Ext G r Z0 H0 (Zp Z p) H := ⟨wz, a.ext.grow, a.ext.tgrow, fun b z => .inl (a.ext.sub b z), fun b z => z.elim (a.ext.new b) fun z => (by rw [z]; exact .inr (.inl (a.own i t p e1 e2 e3)))⟩
    have hl : i < ρ.length := (List.getElem?_eq_some_iff.mp e1).1
    have key : ∀ c u, (ρ.set i (.fz d))[c]? = some u → isOwn u = true → c ≠ i ∧ ρ[c]? = some u := fun c u h1 h2 => by
      by_cases h : i = c
      · subst h
        rw [List.getElem?_set_self hl] at h1
        cases h1
        cases h2
      · rw [List.getElem?_set_ne h] at h1
        exact ⟨Ne.symm h, h1⟩
    refine ⟨Zp Z p, ⟨⟨by rw [List.length_set]; exact a.st.len, fun j v u h1 h2 => ?_, fun b c u u' q h1 h2 o1 o2 s1 s2 => ?_⟩, ez, fun c u q h1 h2 h3 => ?_⟩, fun b z => ⟨.inl z, rfl⟩⟩
    · by_cases h : i = j
      · subst h
        rw [List.getElem?_set_self hl] at h2
        cases h2
        rw [e3] at h1
        cases h1
        exact ⟨_, rfl, rp⟩
      · rw [List.getElem?_set_ne h] at h2
        have q := a.st.sl j v u h1 h2
        have ff : Frz Z H (Zp Z p) H := fun b z => ⟨.inl z, rfl⟩
        cases u with
        | un => trivial
        | fz d' => obtain ⟨x, q1, q2⟩ := q; exact ⟨x, q1, q2.frz ff⟩
        | ol ds =>
          obtain ⟨p', vs, q1, q2, q3, q4, q5, q6⟩ := q
          subst q1
          exact ⟨p', vs, rfl, q2, fun z => z.elim q3 fun z => h (a.st.own i j t _ p e1 h2 e2 rfl e3 (by rw [z] at h1; exact h1)), q4, q5, q6.frz ff⟩
        | od ks ds =>
          obtain ⟨p', vs, q1, q2, q3, q4, q5, q5', q6⟩ := q
          subst q1
          exact ⟨p', vs, rfl, q2, fun z => z.elim q3 fun z => h (a.st.own i j t _ p e1 h2 e2 rfl e3 (by rw [z] at h1; exact h1)), q4, q5, q5', q6.frz ff⟩
    · obtain ⟨n1, h3⟩ := key b u h1 o1
      obtain ⟨n2, h4⟩ := key c u' h2 o2
      exact a.st.own b c u u' q h3 h4 o1 o2 s1 s2
    · obtain ⟨n1, h4⟩ := key c u h1 h2
      exact a.own c u q h4 h2 h3
  unfold frzE
  split
  · rename_i ds e1
    obtain ⟨v, e2, p, vs, rfl, n1, n2, h1, h2, h3⟩ := a.st.get e1
    exact go _ _ p e1 rfl e2 n1 ⟨_, h1, trivial⟩ (Rep.mk_lst (.inr rfl) h1 h2 (h3.frz fun b z => ⟨.inl z, rfl⟩))
  · rename_i ks ds e1
    obtain ⟨v, e2, p, vs, rfl, n1, n2, h1, h2, h2', h3⟩ := a.st.get e1
    refine go _ _ p e1 rfl e2 n1 ⟨_, h1, trivial⟩ ?_
    unfold Rep
    exact ⟨p, vs, rfl, .inr rfl, h1, h2, h2', h3.frz fun b z => ⟨.inl z, rfl⟩⟩
  · exact ⟨Z, a, Frz.refl⟩
theorem s_frz (i : Nat) (h : PS X st (tS (X.gd Tz) XR E n)) : PS X st (tS (X.gd Tz) XR E (fun ρ => n (frzE i ρ))) :=
  PS.imp h fun D σ H ⟨r, Z, ρ, Z0, H0, a, q⟩ => by
    obtain ⟨Z', a', f⟩ := a.frz i
    exact tS.go a' q f
/-- a change of an own object -/
theorem At.change {Z0 Z : Addr → Prop} {H0 H : Hp} {G : Gd} {r : Addr} {σ : Sg} {ρ : En} (a : At G r Z0 H0 Z H σ ρ) {i : Nat} {p : Addr} {o : HO} {t t' : Slo} (e1 : ρ[i]? = some t) (ot : isOwn t = true) (ot' : isOwn t' = true) (e2 : σ[i]? = some (some (V.ref p))) (n1 : p ≠ r) (n2 : ¬ Z p) (ht : SlOk G r Z (upd H p o) (some (.ref p)) t') :
    At G r Z0 H0 Z (upd H p o) σ (ρ.set i t') := by
  have ff := frz_upd (H := H) (o := o) n2
  have hl : i < ρ.length := (List.getElem?_eq_some_iff.mp e1).1
  have hn := a.own i t p e1 ot e2
  have hx : Ext G r Z0 H0 Z (upd H p o) := by
    have q := a.st.sl i _ t e2 e1
    cases t with
    | un => cases ot
    | fz d => cases ot
    | ol ds =>
      obtain ⟨p', vs, q1, _, _, q4, _⟩ := q
      cases q1
      exact a.ext.wr n1 n2 hn q4 trivial
    | od ks ds =>
      obtain ⟨p', vs, q1, _, _, q4, _⟩ := q
      cases q1
      exact a.ext.wr n1 n2 hn q4 trivial
  refine ⟨⟨by rw [List.length_set]; exact a.st.len, fun j v u h1 h2 => ?_, fun b c u u' q h1 h2 o1 o2 s1 s2 => ?_⟩, hx, fun c u q h1 h2 h3 => ?_⟩
  · by_cases h : i = j
    · subst h
      rw [List.getElem?_set_self hl] at h2
      cases h2
      rw [e2] at h1
      cases h1
      exact ht
    · rw [List.getElem?_set_ne h] at h2
      have q := a.st.sl j v u h1 h2
      cases u with
      | un => trivial
      | fz d' => obtain ⟨x, q1, q2⟩ := q; exact ⟨x, q1, q2.frz ff⟩
      | ol ds =>
        obtain ⟨p', vs, q1, q2, q3, q4, q5, q6⟩ := q
        subst q1
        exact ⟨p', vs, rfl, q2, q3, by rw [upd_ne (fun z => h (a.st.own i j t _ p e1 h2 ot rfl e2 (by rw [z] at h1; exact h1)))]; exact q4, q5, q6.frz ff⟩
      | od ks ds =>
        obtain ⟨p', vs, q1, q2, q3, q4, q5, q5', q6⟩ := q
        subst q1
        exact ⟨p', vs, rfl, q2, q3, by rw [upd_ne (fun z => h (a.st.own i j t _ p e1 h2 ot rfl e2 (by rw [z] at h1; exact h1)))]; exact q4, q5, q5', q6.frz ff⟩
  · have key : ∀ c u, (ρ.set i t')[c]? = some u → ∃ u0, ρ[c]? = some u0 ∧ (isOwn u = true → isOwn u0 = true) := fun c u h => by
      by_cases hc : i = c
      · subst hc
        exact ⟨t, e1, fun _ => ot⟩
      · rw [List.getElem?_set_ne hc] at h
        exact ⟨u, h, id⟩
    obtain ⟨u0, k1, k2⟩ := key b u h1
    obtain ⟨u1, k3, k4⟩ := key c u' h2
    exact a.st.own b c u0 u1 q k1 k3 (k2 o1) (k4 o2) s1 s2
  · by_cases hc : i = c
    · subst hc
      rw [e2] at h3
      cases h3
      exact hn
    · rw [List.getElem?_set_ne hc] at h1
      exact a.own c u q h1 h2 h3
end
end Fw
set_option Elab.async false
set_option linter.all false
set_option maxRecDepth 100000
set_option maxHeartbeats 4000000
namespace Fw
open PySem PySem.Spec PyProof.Rows L2

def olAt (ρ : En) (i : Nat) : Option (List Dt) := match ρ[i]? with | some (.ol ds) => some ds | _ => none
theorem olAt_eq {ρ : En} {i : Nat} {ds : List Dt} (h : olAt ρ i = some ds) : ρ[i]? = some (.ol ds) := by
  unfold olAt at h
  split at h
  · rename_i q; cases h; exact q
  · cases h
def odAt (ρ : En) (i : Nat) : Option (List (List (List Nat)) × List Dt) := match ρ[i]? with | some (.od ks ds) => some (ks, ds) | _ => none
theorem odAt_eq {ρ : En} {i : Nat} {ks : List (List (List Nat))} {ds : List Dt} (h : odAt ρ i = some (ks, ds)) : ρ[i]? = some (.od ks ds) := by
  unfold odAt at h
  split at h
  · rename_i q; cases h; exact q
  · cases h
section
variable {X : Cx} {Tz : Tbs} {XR : XRel} {E : Sg → XK} {e : Expr} {m mi : En → Mo Dt} {pos : Pos}
/-! ## own lists are changed -/
def mApp (i : Nat) (m : En → Mo Dt) : En → Mo Fl := fun ρ => (ofO (olAt ρ i)).bind fun ds => (m ρ).bind fun d => if ds.length < 16777216 then .ret (.nx (ρ.set i (.ol (ds ++ [d])))) else .err
theorem wp_o {α β : Type} {o : Option α} {k : α → Mo β} {P : β → Prop} {R : Nat → Dt → Prop} (h : ((ofO o).bind k).wp P R) : ∃ a, o = some a ∧ (k a).wp P R := by
  cases o with
  | none => exact h.elim
  | some a => exact ⟨a, rfl, h⟩
theorem s_app {x : Str} {p1 apos cpos : Pos} (i : Nat) (hv : PE X (.Name x p1) (tVar i)) (he : PE X e (tM (X.gd Tz) XR E m))
    (hbase : attributeBase (.Name x p1) "append" X.env (eval (.Name x p1) X.env) = eval (.Name x p1) X.env := by rfl)
    (hfew : ((backTo cpos (starEach [e] X.env)).all (fun x => !x.1) && (backToKw cpos (keywordEach [] X.env)).all (fun x => x.1.isSome) && decide (([e] : List Expr).length + ([] : List Keyword).length + (if ([] : List Keyword).isEmpty then 0 else 1) < 30)) = true := by rfl)
    (hline : (apos.endLine == cpos.line) = true := by rfl) (hs : starEach [e] X.env = (false, eval e X.env) :: starEach [] X.env := by rfl) (hplain : (backTo cpos (starEach [] X.env)).any (·.1) = false := by rfl) (hsw : swapsWith (.Call (.Attribute (.Name x p1) "append" apos) [e] [] cpos) none pos.line X.env = pure false := by rfl) :
    PS X (.Expr (.Call (.Attribute (.Name x p1) "append" apos) [e] [] cpos) pos) (tS (X.gd Tz) XR E (mApp i m)) :=
  PS.imp (ps_expr (pe_bm PySem.F.plainAttrs_list PySem.F.slot_list_append PySem.F.type_list_append mt_append hv (pa_cons he pa_nil hs) hbase hfew hline hs hplain) hsw) fun D σ H ⟨r, Z, ρ, Z0, H0, a, h⟩ => by
    obtain ⟨ds, e0, h⟩ := wp_o h
    have e1 := olAt_eq e0
    obtain ⟨v, e2, p, vs, rfl, n1, n2, hp, l, rp⟩ := a.st.get e1
    refine ⟨.ref p, e2, .inl ⟨rfl, vs, .of hp⟩, tS.split a h fun v H1 Z1 d e3 a1 rp1 h1 => ?_⟩
    split at h1
    · rename_i hl
      have hp1 := e3.grow p _ n1 hp trivial
      have n3 : ¬ Z1 p := fun z => (e3.new p z).elim n2 fun z => new_no z hp trivial
      have rp2 := rp.frz (e3.frz a.wf)
      have hl2 : vs.length < sizeLine := by rw [rp.length, sizeLine_eq]; exact hl
      refine ⟨p, vs, v, rfl, rfl, hp1, hl2, PF.nx h1 (a1.change e1 rfl rfl e2 n1 n3 ⟨p, vs ++ [v], rfl, n1, n3, upd_same, by rw [List.length_append]; exact hl2, (rp2.append (Reps.cons rp1 Reps.nil)).frz (frz_upd n3)⟩) ((e3.frz a.wf).trans (frz_upd n3))⟩
    · exact h1.elim
def mExt (i : Nat) (m : En → Mo Dt) : En → Mo Fl := fun ρ => (ofO (olAt ρ i)).bind fun ds => (m ρ).bind fun d => match d with
  | .lst es => if ds.length + es.length ≤ 16777216 then .ret (.nx (ρ.set i (.ol (ds ++ es)))) else .err
  | _ => .err
theorem s_ext {x : Str} {p1 apos cpos : Pos} (i : Nat) (hv : PE X (.Name x p1) (tVar i)) (he : PE X e (tM (X.gd Tz) XR E m))
    (hbase : attributeBase (.Name x p1) "extend" X.env (eval (.Name x p1) X.env) = eval (.Name x p1) X.env := by rfl)
    (hfew : ((backTo cpos (starEach [e] X.env)).all (fun x => !x.1) && (backToKw cpos (keywordEach [] X.env)).all (fun x => x.1.isSome) && decide (([e] : List Expr).length + ([] : List Keyword).length + (if ([] : List Keyword).isEmpty then 0 else 1) < 30)) = true := by rfl)
    (hline : (apos.endLine == cpos.line) = true := by rfl) (hs : starEach [e] X.env = (false, eval e X.env) :: starEach [] X.env := by rfl) (hplain : (backTo cpos (starEach [] X.env)).any (·.1) = false := by rfl) (hsw : swapsWith (.Call (.Attribute (.Name x p1) "extend" apos) [e] [] cpos) none pos.line X.env = pure false := by rfl) :
    PS X (.Expr (.Call (.Attribute (.Name x p1) "extend" apos) [e] [] cpos) pos) (tS (X.gd Tz) XR E (mExt i m)) :=
  PS.imp (ps_expr (pe_bm PySem.F.plainAttrs_list PySem.F.slot_list_extend PySem.F.type_list_extend mt_extend hv (pa_cons he pa_nil hs) hbase hfew hline hs hplain) hsw) fun D σ H ⟨r, Z, ρ, Z0, H0, a, h⟩ => by
    obtain ⟨ds, e0, h⟩ := wp_o h
    have e1 := olAt_eq e0
    obtain ⟨v, e2, p, vs, rfl, n1, n2, hp, l, rp⟩ := a.st.get e1
    refine ⟨.ref p, e2, .inl ⟨rfl, vs, .of hp⟩, tS.split a h fun v H1 Z1 d e3 a1 rp1 h1 => ?_⟩
    cases d with
    | lst es =>
      dsimp only at h1
      split at h1
      · rename_i hl
        obtain ⟨b, us, rfl, zb, hb, lb, rb⟩ := rp1.lst
        have hp1 := e3.grow p _ n1 hp trivial
        have n3 : ¬ Z1 p := fun z => (e3.new p z).elim n2 fun z => new_no z hp trivial
        have rp2 := rp.frz (e3.frz a.wf)
        have hl2 : vs.length + us.length ≤ sizeLine := by rw [rp.length, rb.length]; exact sl16 hl
        refine ⟨p, b, vs, us, rfl, rfl, hp1, hb, hl2, PF.nx h1 (a1.change e1 rfl rfl e2 n1 n3 ⟨p, vs ++ us, rfl, n1, n3, upd_same, by rw [List.length_append]; exact hl2, (rp2.append rb).frz (frz_upd n3)⟩) ((e3.frz a.wf).trans (frz_upd n3))⟩
      · exact h1.elim
    | _ => exact h1.elim
/-- x[i] = e of an own list -/
def mPutL (i : Nat) (mi m : En → Mo Dt) : En → Mo Fl := fun ρ => (ofO (olAt ρ i)).bind fun ds => (m ρ).bind fun d => (mi ρ).bind fun ix => match ix with
  | .int k => (ofO (ixN ds.length k)).bind fun j => .ret (.nx (ρ.set i (.ol (ds.set j d))))
  | _ => .err
theorem s_putL {x : Str} {ie : Expr} {p1 p2 : Pos} (i : Nat) (hv : PE X (.Name x p1) (tVar i)) (hi : PE X ie (tM (X.gd Tz) XR E mi)) (he : PE X e (tM (X.gd Tz) XR E m))
    (ha : ∀ v, assign (.Subscript (.Name x p1) ie p2) X.env v = (do
      let ov ← holding [v] (eval (.Name x p1) X.env)
      let iv ← holding [v, ov] (eval ie X.env)
      standAt p2
      holding [v, ov, iv] (setItem ov iv v)
      release [v, ov, iv] []) := by intro _; rfl)
    (hs : swapsWithSole [.Subscript (.Name x p1) ie p2] e pos.line X.env = pure false := by rfl) (hw : swappedStores [.Subscript (.Name x p1) ie p2] e X.env = pure none := by rfl)
    (h1 : (assignEach [.Subscript (.Name x p1) ie p2] X.env).map (·.2) = [assign (.Subscript (.Name x p1) ie p2) X.env] := by rfl) :
    PS X (.Assign [.Subscript (.Name x p1) ie p2] e pos) (tS (X.gd Tz) XR E (mPutL i mi m)) :=
  PS.imp (ps_asg he (pg_sub hv hi set_list ha) hs hw h1) fun D σ H ⟨r, Z, ρ, Z0, H0, a, h⟩ => by
    obtain ⟨ds, e0, h⟩ := wp_o h
    have e1 := olAt_eq e0
    obtain ⟨v0, e2, p, vs, rfl, n1, n2, hp, l, rp⟩ := a.st.get e1
    refine tS.split a h fun v H1 Z1 d e3 a1 rp1 h1 => ⟨.ref p, e2, tS.split a1 h1 fun u H2 Z2 di e4 a2 rp2 h2 => ?_⟩
    cases di with
    | int k =>
      obtain ⟨j, ej, h2⟩ := wp_o h2
      have e5 := e3.trans e4
      have hp1 := e5.grow p _ n1 hp trivial
      have n3 : ¬ Z2 p := fun z => (e5.new p z).elim n2 fun z => new_no z hp trivial
      have rp3 := rp.frz (e5.frz a.wf)
      have rp4 := rp1.frz (e4.frz a1.wf)
      rw [← rp.length] at ej
      exact ⟨p, vs, k, j, rfl, rp2.int, hp1, ej, PF.nx h2 (a2.change e1 rfl rfl e2 n1 n3 ⟨p, vs.set j v, rfl, n1, n3, upd_same, by rw [List.length_set]; exact l, (Reps.set rp4 rp3).frz (frz_upd n3)⟩) ((e5.frz a.wf).trans (frz_upd n3))⟩
    | _ => exact h2.elim
/-- x[a, b, ..] = e of an own dict, a key that is not there yet -/
def mPutD (i : Nat) (mk : En → Mo (List Dt)) (m : En → Mo Dt) : En → Mo Fl := fun ρ => (ofO (odAt ρ i)).bind fun q => (m ρ).bind fun d => (mk ρ).bind fun kd => (ofO (strsOf kd)).bind fun k =>
  if q.1.contains k = false ∧ q.1.length < 999 ∧ kd.length < 1000 then .ret (.nx (ρ.set i (.od (q.1 ++ [k]) (q.2 ++ [d])))) else .err
theorem kT_append (a : List (List (List Nat))) (k : List (List Nat)) : kT (a ++ [k]) = kT a ++ [k.map fun x => (Sum.inr (st x) : Key)] := by
  unfold kT
  rw [List.map_append]
  rfl
theorem zip_append1 {α β : Type} : ∀ {as : List α} {bs : List β} {a : α} {b : β}, as.length = bs.length → (as ++ [a]).zip (bs ++ [b]) = as.zip bs ++ [(a, b)]
  | [], [], _, _, _ => rfl
  | _ :: as, _ :: bs, a, b, h => by
    show _ :: (as ++ [a]).zip (bs ++ [b]) = _
    rw [zip_append1 (by simpa using h)]
    rfl
  | [], _ :: _, _, _, h => nomatch h
  | _ :: _, [], _, _, h => nomatch h
theorem put_new {ks : List (List (List Nat))} {vs : List V} {k : List (List Nat)} {v : V} (hk : ks.contains k = false) (hl : ks.length = vs.length) : putK ((kT ks).zip vs) (k.map fun x => (Sum.inr (st x) : Key)) v = (kT (ks ++ [k])).zip (vs ++ [v]) := by
  have : (((kT ks).zip vs).any fun kv => decide (kv.1 = k.map fun x => (Sum.inr (st x) : Key))) = false := by
    rw [List.any_eq_false]
    intro kv hkv
    rw [decide_eq_true_iff]
    intro e
    have h1 := (List.of_mem_zip hkv).1
    unfold kT at h1
    obtain ⟨k2, h2, h3⟩ := List.mem_map.mp h1
    rw [← h3] at e
    have := kT_inj e
    subst this
    rw [List.contains_iff_mem.mpr h2] at hk
    cases hk
  unfold putK
  rw [if_neg (by rw [this]; exact Bool.false_ne_true), kT_append, zip_append1 (by unfold kT; rw [List.length_map]; exact hl)]
theorem s_putD {x : Str} {es : List Expr} {mk : En → Mo (List Dt)} {p1 p2 p3 : Pos} {k1 : Nat} (i : Nat) (hu : X.A.units + 1 < cLine) (hv : PE X (.Name x p1) (tVar i)) (hk : PA X es (tMs (X.gd Tz) XR E mk)) (he : PE X e (tM (X.gd Tz) XR E m)) (hs : swapsWith e (some (.Subscript (.Name x p1) (.Tuple es k1 p3) p2)) pos.line X.env = pure false := by rfl) :
    PS X (.Assign [.Subscript (.Name x p1) (.Tuple es k1 p3) p2] e pos) (tS (X.gd Tz) XR E (mPutD i mk m)) :=
  PS.imp (ps_dput hu hv (pe_tup hk) he hs) fun D σ H ⟨r, Z, ρ, Z0, H0, a, h⟩ => by
    obtain ⟨⟨ks, ds⟩, e0, h⟩ := wp_o h
    have e1 := odAt_eq e0
    obtain ⟨v0, e2, p, vs, rfl, n1, n2, hp, l, l2, rp⟩ := a.st.get e1
    refine tS.split a h fun v H1 Z1 d e3 a1 rp1 h1 => ⟨.ref p, e2, tS.splitL a1 h1 fun us H2 Z2 kd e4 a2 rp2 h2 => ?_⟩
    obtain ⟨k, ek, h2⟩ := wp_o h2
    split at h2
    · rename_i hc
      obtain ⟨hc1, hc2, hc3⟩ := hc
      rw [reps_strs rp2 ek]
      have lk : (k.map fun x => V.str (st x)).length ≤ sizeLine := by
        rw [← reps_strs rp2 ek, rp2.length]
        exact sl16 (by omega)
      refine ⟨lk, fun q hq => ?_⟩
      have e5 := e3.trans e4
      have ee := Ext.own (o := .tup (k.map fun x => V.str (st x))) a2.wf hq
      have e6 := e5.trans ee
      have hp1 := e6.grow p _ n1 hp trivial
      have n3 : ¬ Z2 p := fun z => (e5.new p z).elim n2 fun z => new_no z hp trivial
      have rp3 := rp.frz (e6.frz a.wf)
      have rp4 := rp1.frz ((e4.trans ee).frz a1.wf)
      have a3 := a2.go ee
      refine ⟨p, _, rfl, DPut.t (k := k.map fun x => (Sum.inr (st x) : Key)) hp1 (by rw [upd_same, List.map_map]; rfl) ?_, PF.nx h2 (a3.change e1 rfl rfl e2 n1 n3 ⟨p, vs ++ [v], rfl, n1, n3, ?_, ?_, ?_, ?_⟩) ((e6.frz a.wf).trans (frz_upd n3))⟩
      · rw [List.length_zip]
        exact Nat.lt_of_le_of_lt (Nat.min_le_right _ _) (by rw [← l, sizeLine_eq]; omega)
      · rw [upd_same, put_new hc1 l]
      · rw [List.length_append, List.length_append, l]; rfl
      · rw [List.length_append]; show ks.length + 1 < 1000; have : ks.length < 999 := hc2; omega
      · exact (rp3.append (Reps.cons rp4 Reps.nil)).frz (frz_upd n3)
    · exact h2.elim
end
end Fw
set_option Elab.async false
set_option linter.all false
set_option maxRecDepth 100000
set_option maxHeartbeats 4000000
namespace Fw
open PySem PySem.Spec PyProof.Rows L2

section
variable {X : Cx} {Tz : Tbs} {XR : XRel} {E : Sg → XK} {e : Expr} {m mi : En → Mo Dt} {pos : Pos}
/-- x = list(e), fresh and not shared -/
def mOwnL (i : Nat) (m : En → Mo Dt) : En → Mo Fl := fun ρ => (m ρ).bind fun d => match d with
  | .lst ds => .ret (.nx (ρ.set i (.ol ds)))
  | .tup ds => .ret (.nx (ρ.set i (.ol ds)))
  | .str x => if x.length ≤ 16777216 then .ret (.nx (ρ.set i (.ol (x.map fun c => .str [c])))) else .err
  | _ => .err
theorem s_ownL {x : Str} {pos' p1 p2 : Pos} (i : Nat) (hg : Gl X "list") (hm : X.mg "list" = none) (hN : X.N.Nodup) (hi : X.N[i]? = some x) (hx : Loc X.env.scope x) (he : PE X e (tM (X.gd Tz) XR E m)) (hc : X.calm = true := by rfl) (hs : swapsWith (.Call (.Name "list" p1) [e] [] p2) (some (.Name x pos')) pos.line X.env = pure false := by rfl)
    (hst : starEach [e] X.env = (false, eval e X.env) :: starEach [] X.env := by rfl) (hpl : (backTo p2 (starEach [] X.env)).any (·.1) = false := by rfl) (hf : X.fn x = true ∨ X.env.scope.names.lookup x = some .local := by first | exact .inl rfl | exact .inr rfl | assumption) :
    PS X (.Assign [.Name x pos'] (.Call (.Name "list" p1) [e] [] p2) pos) (tS (X.gd Tz) XR E (mOwnL i m)) :=
  PS.imp (ps_set hN hi hx (pe_callTy (call_listA hc) hg hm (by decide +kernel) (pa_cons he pa_nil hst) (by decide) (by decide) hst hpl) hs hf) fun D σ H ⟨r, Z, ρ, Z0, H0, a, h⟩ => tS.split a h fun v H1 Z1 d e1 a1 rp h1 => by
    have go : ∀ (vs : List V) (ds : List Dt), Reps (X.gd Tz) r Z1 H1 vs ds → vs.length ≤ sizeLine → PF (X.gd Tz) r Z0 H0 Z H D (.nx (ρ.set i (.ol ds))) → ∀ p, H1 p = none → D.nx (σ.set i (some (.ref p))) (upd H1 p (.lst vs)) := fun vs ds rq l hq p hp => by
      have nz := a1.wf.nz hp
      exact PF.nx hq (a1.setOwn hp ⟨p, vs, rfl, nz.2, nz.1, upd_same, l, rq.frz (frz_upd nz.1)⟩ (a1.st.notNone hp)) ((e1.frz a.wf).trans (frz_upd nz.1))
    cases d with
    | lst ds =>
      obtain ⟨b, vs, rfl, z, t, l, q⟩ := rp.lst
      exact .inl ⟨b, vs, rfl, .inl (.of t), go vs ds q l h1⟩
    | tup ds =>
      obtain ⟨b, vs, rfl, t, l, q⟩ := rp.tup
      exact .inl ⟨b, vs, rfl, .inr t.sq, go vs ds q l h1⟩
    | str x =>
      dsimp only at h1
      split at h1
      · rename_i hl
        exact .inr ⟨x, by rw [rp.str], hl, go _ _ (reps_signs x) (by rw [List.length_map]; exact sl16 hl) h1⟩
      · exact h1.elim
    | _ => exact h1.elim

/-! ## dict displays -/
def mPairs : List ((En → Mo Dt) × (En → Mo Dt)) → En → Mo (List (Dt × Dt))
  | [], _ => .ret []
  | (k, v) :: r, ρ => (k ρ).bind fun x => (v ρ).bind fun y => (mPairs r ρ).bind fun ps => .ret ((x, y) :: ps)
def trs (G : Gd) (XR : XRel) (E : Sg → XK) (l : List ((En → Mo Dt) × (En → Mo Dt))) : List (TE × TE) := l.map fun p => (tM G XR E p.1, tM G XR E p.2)
def RepP (G : Gd) (r : Addr) (Z : Addr → Prop) (H : Hp) : List (V × V) → List (Dt × Dt) → Prop
  | [], [] => True
  | (x, y) :: a, (d, f) :: b => Rep G r Z H x d ∧ Rep G r Z H y f ∧ RepP G r Z H a b
  | _, _ => False
theorem RepP.frz {G : Gd} {r : Addr} {Z Z' : Addr → Prop} {H H' : Hp} (f : Frz Z H Z' H') : ∀ {a : List (V × V)} {b : List (Dt × Dt)}, RepP G r Z H a b → RepP G r Z' H' a b
  | [], [], _ => trivial
  | (_, _) :: _, (_, _) :: _, ⟨h1, h2, h3⟩ => ⟨h1.frz f, h2.frz f, RepP.frz f h3⟩
  | [], _ :: _, h => h.elim
  | _ :: _, [], h => h.elim
theorem tM.splitR {G : Gd} {r : Addr} {σ : Sg} {ρ : En} {β : Type} {Z : Addr → Prop} {H : Hp} {m : En → Mo Dt} {k : Dt → Mo β} {P : β → Prop} {R : Nat → Dt → Prop} {Q : VK} (w : Wf G r Z H) (s : StOk G r Z H σ ρ) (hR : ∀ c d, R c d → PX G XR r Z H (E σ) c d) (h : ((m ρ).bind k).wp P R)
    (hQ : ∀ v H1 Z1 d, Ext G r Z H Z1 H1 → Wf G r Z1 H1 → StOk G r Z1 H1 σ ρ → Rep G r Z1 H1 v d → (k d).wp P R → Q v H1) : tM G XR E m σ H Q :=
  ⟨r, Z, ρ, w, s, (Mo.wp_bind.mp h).mono (fun d hd v H1 Z1 e rp => hQ v H1 Z1 d e e.wf (s.ext w e) rp hd) hR⟩
theorem pairs_of {G : Gd} {r : Addr} {σ : Sg} {ρ : En} {β : Type} {R : Nat → Dt → Prop} : ∀ {l : List ((En → Mo Dt) × (En → Mo Dt))} {Z : Addr → Prop} {H : Hp} {k : List (Dt × Dt) → Mo β} {P : β → Prop} {Q : List (V × V) → Hp → Prop}, Wf G r Z H → StOk G r Z H σ ρ → (∀ c d, R c d → PX G XR r Z H (E σ) c d) → ((mPairs l ρ).bind k).wp P R →
    (∀ ps H1 Z1 pd, Ext G r Z H Z1 H1 → StOk G r Z1 H1 σ ρ → RepP G r Z1 H1 ps pd → (k pd).wp P R → Q ps H1) → tPairs (trs G XR E l) σ H Q
  | [], Z, H, k, P, Q, w, s, hR, h, hQ => hQ [] H Z [] (Ext.refl w) s trivial h
  | (mk, mv) :: l, Z, H, k, P, Q, w, s, hR, h, hQ => by
    rw [show mPairs ((mk, mv) :: l) ρ = (mk ρ).bind fun x => (mv ρ).bind fun y => (mPairs l ρ).bind fun ps => .ret ((x, y) :: ps) from rfl, Mo.bind_assoc] at h
    refine tM.splitR w s hR h fun v H1 Z1 d e1 w1 s1 rp h1 => ?_
    rw [Mo.bind_assoc] at h1
    refine tM.splitR w1 s1 (fun c d q => (hR c d q).ext e1) h1 fun u H2 Z2 d2 e2 w2 s2 rp2 h2 => ?_
    rw [Mo.bind_assoc] at h2
    refine pairs_of (l := l) w2 s2 (fun c d q => (hR c d q).ext (e1.trans e2)) h2 fun ps H3 Z3 pd e3 s3 rp3 h3 => ?_
    have e4 := e2.trans e3
    exact hQ _ H3 Z3 ((d, d2) :: pd) (e1.trans e4) s3 ⟨rp.frz (e4.frz w1), rp2.frz (e3.frz w2), rp3⟩ h3
/-- the keys: texts, all different -/
def keysS : List (Dt × Dt) → Option (List (List Nat))
  | [] => some []
  | (.str x, _) :: r => (keysS r).bind fun ks => if ks.contains x then none else some (x :: ks)
  | _ => none
def kDict (ps : List (Dt × Dt)) : Mo Dt := (ofO (keysS ps)).bind fun ks => if ps.length ≤ 15 then .ret (.dk ks (ps.map (·.2))) else .err
def mDict (l : List ((En → Mo Dt) × (En → Mo Dt))) : En → Mo Dt := fun ρ => (mPairs l ρ).bind kDict
theorem keysS_length : ∀ {pd : List (Dt × Dt)} {ks : List (List Nat)}, keysS pd = some ks → ks.length = pd.length
  | [], ks, h => by cases h; rfl
  | (k, v) :: pd, ks, h => by
    cases k with
    | str x =>
      obtain ⟨ks', h1, h2⟩ := Option.bind_eq_some_iff.mp (show (keysS pd).bind _ = some ks from h)
      split at h2
      · cases h2
      · cases h2
        rw [List.length_cons, List.length_cons, keysS_length h1]
    | _ => cases h
theorem keysS_nodup : ∀ {pd : List (Dt × Dt)} {ks : List (List Nat)}, keysS pd = some ks → ks.Nodup
  | [], ks, h => by cases h; exact List.nodup_nil
  | (k, v) :: pd, ks, h => by
    cases k with
    | str x =>
      obtain ⟨ks', h1, h2⟩ := Option.bind_eq_some_iff.mp (show (keysS pd).bind _ = some ks from h)
      split at h2
      · cases h2
      · rename_i hc
        cases h2
        refine List.nodup_cons.mpr ⟨fun z => hc (List.contains_iff_mem.mpr z), keysS_nodup h1⟩
    | _ => cases h
theorem merge_new : ∀ (more : List (Key × V)) (acc : List (Key × V)), (acc ++ more).map (·.1) |>.Nodup → mergeK acc more = acc ++ more
  | [], acc, _ => by simp [mergeK]
  | (k, v) :: more, acc, h => by
    have hp : putK acc k v = acc ++ [(k, v)] := by
      unfold putK
      rw [if_neg]
      rw [List.any_eq_true]
      rintro ⟨⟨k2, v2⟩, hm, e⟩
      have e' : k2 = k := of_decide_eq_true e
      subst e'
      rw [List.map_append, List.nodup_append] at h
      exact h.2.2 k2 (List.mem_map.mpr ⟨_, hm, rfl⟩) k2 (by simp) rfl
    show mergeK (putK acc k v) more = _
    rw [hp, merge_new more _ (by rw [List.append_assoc]; exact h), List.append_assoc]
    rfl
theorem repP_S {G : Gd} {r : Addr} {Z : Addr → Prop} {H : Hp} : ∀ {ps : List (V × V)} {pd : List (Dt × Dt)} {ks : List (List Nat)}, RepP G r Z H ps pd → keysS pd = some ks → ∃ vs, ps = ((kS ks).zip vs).map (fun kv => (kV kv.1, kv.2)) ∧ ks.length = vs.length ∧ Reps G r Z H vs (pd.map (·.2))
  | [], [], ks, _, e => by cases e; exact ⟨[], rfl, rfl, Reps.nil⟩
  | (x, y) :: ps, (k, v) :: pd, ks, h, e => by
    obtain ⟨h1, h2, h3⟩ := h
    cases k with
    | str z =>
      obtain ⟨ks', e1, e2⟩ := Option.bind_eq_some_iff.mp (show (keysS pd).bind _ = some ks from e)
      split at e2
      · cases e2
      · cases e2
        obtain ⟨vs, rfl, hl, q⟩ := repP_S h3 e1
        refine ⟨y :: vs, ?_, by rw [List.length_cons, List.length_cons, hl], Reps.cons h2 q⟩
        rw [h1.str]
        rfl
    | _ => cases e
  | [], _ :: _, _, h, _ => h.elim
  | _ :: _, [], _, h, _ => h.elim
theorem kS_nodup {ks : List (List Nat)} (h : ks.Nodup) : (kS ks).Nodup := by
  unfold kS
  induction ks with
  | nil => exact List.nodup_nil
  | cons x ks ih =>
    obtain ⟨h1, h2⟩ := List.nodup_cons.mp h
    rw [List.map_cons]
    refine List.nodup_cons.mpr ⟨fun z => ?_, ih h2⟩
    obtain ⟨y, hy, e⟩ := List.mem_map.mp z
    have := st_inj (Sum.inr.inj e)
    subst this
    exact h1 hy
theorem zip_fst {α β : Type} : ∀ {as : List α} {bs : List β}, as.length = bs.length → (as.zip bs).map (·.1) = as
  | [], [], _ => rfl
  | a :: as, b :: bs, h => by
    show a :: (as.zip bs).map (·.1) = a :: as
    rw [zip_fst (by simpa using h)]
  | [], _ :: _, h => nomatch h
  | _ :: _, [], h => nomatch h
theorem e_dict {keys : List (Option Expr)} {values : List Expr} (l : List ((En → Mo Dt) × (En → Mo Dt))) (h : PPs X pos keys values (trs (X.gd Tz) XR E l)) (hall : keys.all (·.isSome) = true := by rfl) (hl : keys.length = values.length := by rfl) (h0 : keys ≠ [] := by exact fun z => nomatch z) (h15 : keys.length ≤ 15 := by decide) :
    PE X (.Dict keys values pos) (tM (X.gd Tz) XR E (mDict l)) :=
  PE.imp (pe_disp h hall hl h0 h15) fun σ H Q ⟨r, Z, ρ, w, s, h⟩ p hp => by
    have nz := w.nz hp
    have e0 := Ext.own (o := .dK []) w hp
    refine pairs_of (R := PX (X.gd Tz) XR r Z H (E σ)) (k := kDict) e0.wf (s.ext w e0) (fun c d q => q.ext e0) h fun ps H1 Z1 pd e1 s1 rp h1 => ?_
    obtain ⟨ks, ek, h1⟩ := wp_o h1
    split at h1
    · rename_i hlen
      obtain ⟨vs, rfl, hl2, q⟩ := repP_S rp ek
      have hp1 : H1 p = some (.dK []) := e1.grow p _ nz.2 upd_same trivial
      have nz1 : ¬ Z1 p := fun z => (e1.new p z).elim nz.1 fun z => new_no z upd_same trivial
      have kl := keysS_length ek
      refine ⟨hp1, (kS ks).zip vs, rfl, ?_, ?_⟩
      · rw [List.length_zip]
        refine Nat.le_trans (Nat.min_le_right _ _) ?_
        rw [← hl2, kl]
        exact hlen
      · rw [merge_new _ [] (by rw [List.nil_append, zip_fst (by unfold kS; rw [List.length_map]; exact hl2)]; exact kS_nodup (keysS_nodup ek)), List.nil_append]
        have ff := frz_upd (H := H1) (o := .dK ((kS ks).zip vs)) nz1
        have wz : Wf (X.gd Tz) r (Zp Z1 p) (upd H1 p (.dK ((kS ks).zip vs))) := (e1.wf.put nz.2 nz1 (low_at hp1 trivial)).zp nz.2 ⟨_, upd_same, trivial⟩
        refine h1 _ _ (Zp Z1 p) ⟨wz, fun a o n e q => ?_, fun a ps e => ?_, fun a z => .inl (e1.sub a z), fun a z => ?_⟩ ?_
        · have ap : a ≠ p := ne_of_none e hp
          rw [upd_ne ap]
          exact e1.grow a o n (by rw [upd_ne ap]; exact e) q
        · have ap : a ≠ p := ne_of_none e hp
          rw [upd_ne ap]
          exact e1.tgrow a ps (by rw [upd_ne ap]; exact e)
        · rcases z with z | z
          · rcases e1.new a z with z | z
            · exact .inl z
            · exact .inr (e0.newOf z)
          · rw [z]; exact .inr (.inl hp)
        · unfold Rep
          exact ⟨p, vs, rfl, .inl ⟨.inr rfl, upd_same⟩, hl2, by omega, q.frz (ff.trans fun a z => ⟨.inl z, rfl⟩)⟩
    · exact h1.elim
theorem pp_nil : PPs X pos [] [] (trs (X.gd Tz) XR E []) := pps_nil
theorem pp_cons {k v : Expr} {ks : List (Option Expr)} {vs : List Expr} {mk mv : En → Mo Dt} {l : List ((En → Mo Dt) × (En → Mo Dt))} (hk : PE X k (tM (X.gd Tz) XR E mk)) (hv : PE X v (tM (X.gd Tz) XR E mv)) (hr : PPs X pos ks vs (trs (X.gd Tz) XR E l)) : PPs X pos (some k :: ks) (v :: vs) (trs (X.gd Tz) XR E ((mk, mv) :: l)) := pps_cons hk hv hr
end
end Fw
set_option Elab.async false
set_option linter.all false
set_option maxRecDepth 100000
set_option maxHeartbeats 4000000
namespace Fw
open PySem PySem.Spec PyProof.Rows L2

/-! ## a dict display whose keys are tuples of texts -/
theorem atKey_none {K : Type} [DecidableEq K] {k : K} : ∀ {xs : List (K × Addr × Value)}, (∀ x ∈ xs, x.1 ≠ k) → atKey xs k = none := fun {xs} h => by
  unfold atKey
  induction xs with
  | nil => rfl
  | cons x xs ih =>
    have h1 := h x List.mem_cons_self
    have h2 := ih fun y hy => h y (List.mem_cons_of_mem _ hy)
    simp [List.find?_cons, h1] at h2 ⊢
    exact h2
theorem storedAll_new {K : Type} [DecidableEq K] : ∀ (ps acc : List (K × Addr × Value)), ((acc ++ ps).map (·.1)).Nodup → storedAllH acc ps = acc ++ ps
  | [], acc, _ => by simp [storedAllH]
  | (k, a, v) :: ps, acc, h => by
    have hn : atKey acc k = none := atKey_none fun x hx e => by
      rw [List.map_append, List.nodup_append] at h
      exact h.2.2 x.1 (List.mem_map.mpr ⟨x, hx, rfl⟩) k (by simp) e
    show storedAllH (storedH acc k a v) ps = _
    rw [storedH_new hn, storedAll_new ps _ (by rw [List.append_assoc]; exact h), List.append_assoc]
    rfl
abbrev TK := List Key × Addr × V
def tDispT (trs : List (TE × TE)) : TE := fun σ H Q => ∀ p, H p = none → tPairs trs σ (upd H p (.dT [])) fun ps H2 => H2 p = some (.dT []) ∧ ∃ kvs : List TK, ps = kvs.map (fun kv => (V.ref kv.2.1, kv.2.2)) ∧ (∀ kv ∈ kvs, H2 kv.2.1 = some (.tup (kv.1.map kV))) ∧ (kvs.map (·.1)).Nodup ∧ kvs.length ≤ 15 ∧ Q (.ref p) (upd H2 p (.dT (kvs.map fun kv => (kv.1, kv.2.2))))
theorem carriesH_of {P : Program} {w : World} {H : Hp} {h : Heap} (hok : HOk P w H h) : ∀ {kvs : List TK} {ws : List (Value × Value)}, VV (kvs.map fun kv => (V.ref kv.2.1, kv.2.2)) ws → (∀ kv ∈ kvs, H kv.2.1 = some (.tup (kv.1.map kV))) →
    ∃ rs : List (List Key × Addr × Value), CarriesH (tupleKind (mixKind P w)) h ws rs ∧ KT H (kvs.map fun kv => (kv.1, kv.2.2)) rs ∧ rs.map (·.1) = kvs.map (·.1)
  | [], ws, r, _ => by rw [List.map_nil] at r; cases r; exact ⟨[], True.intro, .nil, rfl⟩
  | (k, a, v) :: kvs, _, r, ht => by
    rw [List.map_cons] at r
    cases r with
    | @cons p q ps qs hpq t =>
      obtain ⟨rs, c, kt, e⟩ := carriesH_of hok t fun kv hkv => ht kv (List.mem_cons_of_mem _ hkv)
      obtain ⟨q1, q2⟩ := q
      obtain ⟨h1, h2⟩ := hpq
      have e1 : q1 = Value.ref a := h1
      subst e1
      have h3 := ht (k, a, v) List.mem_cons_self
      exact ⟨(k, a, q2) :: rs, ⟨rfl, rfl, key_of hok h3, c⟩, .cons ⟨rfl, h3, h2⟩ kt, by rw [List.map_cons, List.map_cons, e]⟩
theorem KT.upd {H : Hp} {p : Addr} {o : HO} (hp : ∀ xs, H p ≠ some (.tup xs)) : ∀ {kvs : List (List Key × V)} {xs : List (List Key × Addr × Value)}, KT H kvs xs → KT (L2.upd H p o) kvs xs
  | _, _, .nil => .nil
  | _, _, .cons h t => .cons ⟨h.1, by rw [upd_ne (fun e => hp _ (e ▸ h.2.1))]; exact h.2.1, h.2.2⟩ (KT.upd hp t)
theorem pe_dispT {X : Cx} {pos : Pos} {keys : List (Option Expr)} {values : List Expr} {trs : List (TE × TE)} (hu : X.A.units + 1 < cLine) (h : PPs X pos keys values trs) (hall : keys.all (·.isSome) = true) (hl : keys.length = values.length) (h0 : keys ≠ [])
    (h15 : keys.length ≤ 15) : PE X (.Dict keys values pos) (tDispT trs) := by
  refine ⟨fun pins s σ H Q I q => ?_⟩
  have hn := I.hok.fresh (Nat.le_refl s.heap.objs.size)
  have I1 := I.laid (a := s.heap.objs.size) (o := .dT []) (h' := s.heap.push { cls := .type "dict", data := .dict #[] }) (t' := s.toks) (fun _ _ q => Heap.get?_push_of_some _ q) (Nat.le_refl _) (dt_empty s.heap I.big)
  have hln := pairTrees_length keys values X.env pos hall hl
  have hne : pairTrees keys values X.env pos ≠ [] := fun he => by
    rw [he] at hln
    exact h0 (List.length_eq_zero_iff.mp hln.symm)
  rw [arm_eval_Dict, zip_pairTrees keys values X.env pos hall hl, dictDisplay_pairs _ hne (by omega)]
  refine wpAny_bind (wpAny_standAt (wpAny_bind (wpAny_subDictH (knd := tupleKind (mixKind X.prog X.w)) (Nat.lt_of_succ_lt hu : X.A.units < cLine) (by omega) (thn (h.run pins _ σ _ _ I1 (q _ hn)) fun ws s2 ⟨ps, H2, I2, rel, e, kvs, ep, ht, nd, lk, q2⟩ => ?_))))
  subst ep
  obtain ⟨rs, c, kt, er⟩ := carriesH_of (P := X.prog) (w := X.w) I2.hok rel ht
  obtain ⟨z, hd, xs0, r0, dd⟩ := dt_rd I2.hok (.inl e)
  cases r0
  refine ⟨rs, c, dd, fun h' tk dd' hs => wpAny_pure ⟨.ref s.heap.objs.size, _, ?_, rfl, q2⟩⟩
  rw [storedAll_new rs [] (by rw [List.nil_append, er]; exact nd), List.nil_append] at dd'
  obtain ⟨o, es, ep, ho, h2, h3, h4, _, h5⟩ := dd'
  refine d_write I2 (by rw [e]; exact True.intro) hs ⟨o, ho⟩ ⟨?_, hd, rs, KT.upd (fun xs z => by rw [e] at z; cases z) kt, o, es, ep, ho, h2, h3, h4, h5⟩
  rw [List.length_map, sizeLine_eq]
  omega

section
variable {X : Cx} {Tz : Tbs} {XR : XRel} {E : Sg → XK} {pos : Pos}
abbrev KVm := (En → Mo (List Dt)) × (En → Mo Dt)
def mPairsT : List KVm → En → Mo (List (List (List Nat) × Dt))
  | [], _ => .ret []
  | (k, v) :: r, ρ => (k ρ).bind fun kd => (ofO (if kd.length < 1000 then strsOf kd else none)).bind fun x => (v ρ).bind fun y => (mPairsT r ρ).bind fun ps => .ret ((x, y) :: ps)
def trsT (G : Gd) (XR : XRel) (E : Sg → XK) (l : List KVm) : List (TE × TE) := l.map fun p => (tTup (tMs G XR E p.1), tM G XR E p.2)
def RepT (G : Gd) (r : Addr) (Z : Addr → Prop) (H : Hp) : List (V × V) → List (List (List Nat) × Dt) → Prop
  | [], [] => True
  | (x, y) :: a, (k, f) :: b => (∃ p, x = .ref p ∧ p ≠ r ∧ H p = some (.tup (k.map fun x => V.str (st x)))) ∧ Rep G r Z H y f ∧ RepT G r Z H a b
  | _, _ => False
theorem RepT.ext {G : Gd} {r : Addr} {Z Z' : Addr → Prop} {H H' : Hp} (w : Wf G r Z H) (f : Ext G r Z H Z' H') : ∀ {a : List (V × V)} {b : List (List (List Nat) × Dt)}, RepT G r Z H a b → RepT G r Z' H' a b
  | [], [], _ => trivial
  | (_, _) :: _, (_, _) :: _, ⟨⟨p, h0, h1, h1'⟩, h2, h3⟩ => ⟨⟨p, h0, h1, f.grow p _ h1 h1' trivial⟩, h2.frz (f.frz w), RepT.ext w f h3⟩
  | [], _ :: _, h => h.elim
  | _ :: _, [], h => h.elim
theorem tMs.splitR {G : Gd} {r : Addr} {σ : Sg} {ρ : En} {β : Type} {Z : Addr → Prop} {H : Hp} {m : En → Mo (List Dt)} {k : List Dt → Mo β} {P : β → Prop} {R : Nat → Dt → Prop} {Q : List V → Hp → Prop} (w : Wf G r Z H) (s : StOk G r Z H σ ρ) (hR : ∀ c d, R c d → PX G XR r Z H (E σ) c d) (h : ((m ρ).bind k).wp P R)
    (hQ : ∀ v H1 Z1 d, Ext G r Z H Z1 H1 → Wf G r Z1 H1 → StOk G r Z1 H1 σ ρ → Reps G r Z1 H1 v d → (k d).wp P R → Q v H1) : tMs G XR E m σ H Q :=
  ⟨r, Z, ρ, w, s, (Mo.wp_bind.mp h).mono (fun d hd v H1 Z1 e rp => hQ v H1 Z1 d e e.wf (s.ext w e) rp hd) hR⟩
theorem pairsT_of {G : Gd} {r : Addr} {σ : Sg} {ρ : En} {β : Type} {R : Nat → Dt → Prop} : ∀ {l : List KVm} {Z : Addr → Prop} {H : Hp} {k : List (List (List Nat) × Dt) → Mo β} {P : β → Prop} {Q : List (V × V) → Hp → Prop}, Wf G r Z H → StOk G r Z H σ ρ → (∀ c d, R c d → PX G XR r Z H (E σ) c d) → ((mPairsT l ρ).bind k).wp P R →
    (∀ ps H1 Z1 pd, Ext G r Z H Z1 H1 → StOk G r Z1 H1 σ ρ → RepT G r Z1 H1 ps pd → (k pd).wp P R → Q ps H1) → tPairs (trsT G XR E l) σ H Q
  | [], Z, H, k, P, Q, w, s, hR, h, hQ => hQ [] H Z [] (Ext.refl w) s trivial h
  | (mk, mv) :: l, Z, H, k, P, Q, w, s, hR, h, hQ => by
    rw [show mPairsT ((mk, mv) :: l) ρ = (mk ρ).bind fun kd => (ofO (if kd.length < 1000 then strsOf kd else none)).bind fun x => (mv ρ).bind fun y => (mPairsT l ρ).bind fun ps => .ret ((x, y) :: ps) from rfl, Mo.bind_assoc] at h
    refine tMs.splitR w s hR h fun vs H1 Z1 kd e1 w1 s1 rp h1 => ?_
    rw [Mo.bind_assoc] at h1
    obtain ⟨x, ex, h1⟩ := wp_o h1
    split at ex
    · rename_i hl
      refine ⟨by rw [rp.length]; exact sl16 (by omega), fun p hp => ?_⟩
      rw [reps_strs rp ex] at *
      have ee := Ext.own (o := .tup (x.map fun x => V.str (st x))) w1 hp
      have e2 := e1.trans ee
      rw [Mo.bind_assoc] at h1
      refine tM.splitR ee.wf (s1.ext w1 ee) (fun c d q => (hR c d q).ext e2) h1 fun u H2 Z2 d2 e3 w2 s2 rp2 h2 => ?_
      rw [Mo.bind_assoc] at h2
      refine pairsT_of (l := l) w2 s2 (fun c d q => (hR c d q).ext (e2.trans e3)) h2 fun ps H3 Z3 pd e4 s3 rp3 h3 => ?_
      refine hQ _ H3 Z3 ((x, d2) :: pd) ((e2.trans e3).trans e4) s3 ⟨⟨p, rfl, (w1.nz hp).2, (e3.trans e4).grow p _ (w1.nz hp).2 upd_same trivial⟩, rp2.frz (e4.frz w2), rp3⟩ h3
    · cases ex
def kOwnT (i : Nat) (ρ : En) (ps : List (List (List Nat) × Dt)) : Mo Fl := if (ps.map (·.1)).Nodup ∧ ps.length ≤ 15 then .ret (.nx (ρ.set i (.od (ps.map (·.1)) (ps.map (·.2))))) else .err
def mOwnT (i : Nat) (l : List KVm) : En → Mo Fl := fun ρ => (mPairsT l ρ).bind (kOwnT i ρ)
theorem repT_out {G : Gd} {r : Addr} {Z : Addr → Prop} {H : Hp} : ∀ {ps : List (V × V)} {pd : List (List (List Nat) × Dt)}, RepT G r Z H ps pd → ∃ kvs : List TK, ps = kvs.map (fun kv => (V.ref kv.2.1, kv.2.2)) ∧ (∀ kv ∈ kvs, H kv.2.1 = some (.tup (kv.1.map kV))) ∧ kvs.map (·.1) = kT (pd.map (·.1)) ∧ Reps G r Z H (kvs.map (·.2.2)) (pd.map (·.2))
  | [], [], _ => ⟨[], rfl, (fun _ h => nomatch h), rfl, Reps.nil⟩
  | (x, y) :: ps, (k, f) :: pd, ⟨⟨p, h0, h1, h1'⟩, h2, h3⟩ => by
    obtain ⟨kvs, rfl, q1, q2, q3⟩ := repT_out h3
    subst h0
    refine ⟨(k.map (fun x => (Sum.inr (st x) : Key)), p, y) :: kvs, rfl, fun kv hkv => ?_, ?_, Reps.cons h2 q3⟩
    · rcases List.mem_cons.mp hkv with rfl | hkv
      · rw [h1', List.map_map]; rfl
      · exact q1 kv hkv
    · rw [List.map_cons, q2]; rfl
  | [], _ :: _, h => h.elim
  | _ :: _, [], h => h.elim
theorem kT_nodup {ks : List (List (List Nat))} (h : ks.Nodup) : (kT ks).Nodup := by
  unfold kT
  induction ks with
  | nil => exact List.nodup_nil
  | cons x ks ih =>
    obtain ⟨h1, h2⟩ := List.nodup_cons.mp h
    rw [List.map_cons]
    refine List.nodup_cons.mpr ⟨fun z => ?_, ih h2⟩
    obtain ⟨y, hy, e⟩ := List.mem_map.mp z
    have := kT_inj e
    subst this
    exact h1 hy
theorem map_zip {α β γ : Type} (f : γ → α) (g : γ → β) : ∀ l : List γ, l.map (fun x => (f x, g x)) = (l.map f).zip (l.map g)
  | [] => rfl
  | x :: l => by
    show (f x, g x) :: _ = (f x, g x) :: _
    rw [map_zip f g l]
    rfl
theorem s_ownT {x : Str} {keys : List (Option Expr)} {values : List Expr} {pos' p2 : Pos} (i : Nat) (l : List KVm) (hu : X.A.units + 1 < cLine) (hN : X.N.Nodup) (hi : X.N[i]? = some x) (hx : Loc X.env.scope x) (h : PPs X p2 keys values (trsT (X.gd Tz) XR E l)) (hall : keys.all (·.isSome) = true := by rfl) (hl : keys.length = values.length := by rfl) (h0 : keys ≠ [] := by exact fun z => nomatch z) (h15 : keys.length ≤ 15 := by decide)
    (hs : swapsWith (.Dict keys values p2) (some (.Name x pos')) pos.line X.env = pure false := by rfl) (hf : X.fn x = true ∨ X.env.scope.names.lookup x = some .local := by first | exact .inl rfl | exact .inr rfl | assumption) :
    PS X (.Assign [.Name x pos'] (.Dict keys values p2) pos) (tS (X.gd Tz) XR E (mOwnT i l)) :=
  PS.imp (ps_set hN hi hx (pe_dispT hu h hall hl h0 h15) hs hf) fun D σ H ⟨r, Z, ρ, Z0, H0, a, h⟩ p hp => by
    have nz := a.wf.nz hp
    have e0 := Ext.own (o := .dT []) a.wf hp
    refine pairsT_of (R := PXS (X.gd Tz) XR r Z0 H0 E) (k := kOwnT i ρ) e0.wf (a.st.ext a.wf e0) (fun c d q => q.px (a.ext.trans e0)) h fun ps H1 Z1 pd e1 s1 rp h1 => ?_
    unfold kOwnT at h1
    split at h1
    · rename_i hc
      obtain ⟨hc1, hc2⟩ := hc
      obtain ⟨kvs, rfl, q1, q2, q3⟩ := repT_out rp
      have hp1 : H1 p = some (.dT []) := e1.grow p _ nz.2 upd_same trivial
      have nz1 : ¬ Z1 p := fun z => (e1.new p z).elim nz.1 fun z => new_no z upd_same trivial
      have lk : kvs.length = pd.length := by
        have := congrArg List.length q2
        unfold kT at this
        rw [List.length_map, List.length_map, List.length_map] at this
        exact this
      refine ⟨hp1, kvs, rfl, q1, by rw [q2]; exact kT_nodup hc1, by omega, ?_⟩
      rw [show (kvs.map fun kv => (kv.1, kv.2.2)) = (kvs.map (·.1)).zip (kvs.map (·.2.2)) from map_zip _ _ kvs, q2]
      have ff := frz_upd (H := H1) (o := .dT ((kT (pd.map (·.1))).zip (kvs.map (·.2.2)))) nz1
      have e2 := e0.trans e1
      -- the object, seen as laid behind the pairs
      have a2 : At (X.gd Tz) r Z0 H0 Z1 (upd H1 p (.dT ((kT (pd.map (·.1))).zip (kvs.map (·.2.2))))) (σ.set i (some (.ref p))) (ρ.set i (.od (pd.map (·.1)) (pd.map (·.2)))) := by
        have a1 := (a.go e0).go e1
        have hown : ∀ (j : Nat) (q : Slo), ρ[j]? = some q → isOwn q = true → σ[j]? ≠ some (some (V.ref p)) := a.st.notNone hp
        have ex : Ext (X.gd Tz) r Z0 H0 Z1 (upd H1 p (.dT ((kT (pd.map (·.1))).zip (kvs.map (·.2.2))))) := a1.ext.wr nz.2 nz1 (a.ext.noneOf hp) hp1 trivial
        have key : ∀ c u q, (ρ.set i (.od (pd.map (·.1)) (pd.map (·.2))))[c]? = some u → isOwn u = true → (σ.set i (some (V.ref p)))[c]? = some (some (V.ref q)) → (c = i ∧ q = p) ∨ (c ≠ i ∧ ρ[c]? = some u ∧ σ[c]? = some (some (V.ref q))) := fun c u q h1 h2 h3 => by
          by_cases h : i = c
          · subst h
            have hl : i < σ.length := by
              have := (List.getElem?_eq_some_iff.mp h3).1
              rwa [List.length_set] at this
            rw [List.getElem?_set_self hl] at h3
            cases h3
            exact .inl ⟨rfl, rfl⟩
          · rw [List.getElem?_set_ne h] at h1 h3
            exact .inr ⟨Ne.symm h, h1, h3⟩
        refine ⟨⟨by rw [List.length_set, List.length_set, a.st.len], fun j w u e3 e4 => ?_, fun b c u u' q e3 e4 o1 o2 s1 s2 => ?_⟩, ex, fun c u q h1 h2 h3 => ?_⟩
        · by_cases h : i = j
          · subst h
            have hl : i < σ.length := by
              have := (List.getElem?_eq_some_iff.mp e3).1
              rwa [List.length_set] at this
            rw [List.getElem?_set_self hl] at e3
            rw [List.getElem?_set_self (by rw [a.st.len]; exact hl)] at e4
            cases e3
            cases e4
            exact ⟨p, _, rfl, nz.2, nz1, upd_same, by rw [List.length_map, List.length_map, lk], by rw [List.length_map]; omega, q3.frz ff⟩
          · rw [List.getElem?_set_ne h] at e3 e4
            have q := a1.st.sl j w u e3 e4
            cases u with
            | un => trivial
            | fz d' => obtain ⟨x, q1, q2⟩ := q; exact ⟨x, q1, q2.frz ff⟩
            | ol ds =>
              obtain ⟨p', vs, q1, q2, q3, q4, q5, q6⟩ := q
              subst q1
              exact ⟨p', vs, rfl, q2, q3, by rw [upd_ne (fun z => hown j _ e4 rfl (by rw [← z]; exact e3))]; exact q4, q5, q6.frz ff⟩
            | od ks ds =>
              obtain ⟨p', vs, q1, q2, q3, q4, q5, q5', q6⟩ := q
              subst q1
              exact ⟨p', vs, rfl, q2, q3, by rw [upd_ne (fun z => hown j _ e4 rfl (by rw [← z]; exact e3))]; exact q4, q5, q5', q6.frz ff⟩
        · rcases key b u q e3 o1 s1 with ⟨rfl, rfl⟩ | ⟨n1, k1, k2⟩
          · rcases key c u' q e4 o2 s2 with ⟨rfl, _⟩ | ⟨n2, k3, k4⟩
            · rfl
            · exact absurd k4 (hown c u' k3 o2)
          · rcases key c u' q e4 o2 s2 with ⟨rfl, rfl⟩ | ⟨n2, k3, k4⟩
            · exact absurd k2 (hown b u k1 o1)
            · exact a.st.own b c u u' q k1 k3 o1 o2 k2 k4
        · rcases key c u q h1 h2 h3 with ⟨rfl, rfl⟩ | ⟨n1, k4, k5⟩
          · exact a.ext.noneOf hp
          · exact a.own c u q k4 h2 k5
      exact PF.nx h1 a2 ((e2.frz a.wf).trans ff)
    · exact h1.elim
theorem ppT_nil : PPs X pos [] [] (trsT (X.gd Tz) XR E []) := pps_nil
theorem ppT_cons {es : List Expr} {k1 : Nat} {p3 : Pos} {v : Expr} {ks : List (Option Expr)} {vs : List Expr} {mk : En → Mo (List Dt)} {mv : En → Mo Dt} {l : List KVm} (hk : PA X es (tMs (X.gd Tz) XR E mk)) (hv : PE X v (tM (X.gd Tz) XR E mv)) (hr : PPs X pos ks vs (trsT (X.gd Tz) XR E l)) : PPs X pos (some (.Tuple es k1 p3) :: ks) (v :: vs) (trsT (X.gd Tz) XR E ((mk, mv) :: l)) := pps_cons (pe_tup hk) hv hr
end
end Fw
set_option Elab.async false
set_option linter.all false
set_option maxRecDepth 100000
set_option maxHeartbeats 4000000
namespace Fw
open PySem PySem.Spec PyProof.Rows L2

/-! ## functions -/
def spM (G : Gd) (n : Nat) (F : List Dt → Mo Dt) : Sp := fun vs H Q _ => vs.length = n ∧ ∃ r Z ds, Wf G r Z H ∧ Reps G r Z H vs ds ∧ (F ds).wp (PV G r Z H Q) (fun _ _ => False)
def flo : Fl → Mo Dt
  | .rt d => .ret d
  | .nx _ => .ret .non
  | _ => .err
/-- a body's reading as a function: N slots -/
def run (N : Nat) (m : En → Mo Fl) (ds : List Dt) : Mo Dt := (m (ds.map .fz ++ List.replicate (N - ds.length) .un)).bind flo
abbrev XR0 : XRel := fun _ _ _ _ _ => True
abbrev EE : Sg → XK := fun _ => E0
theorem stok_start {G : Gd} {r : Addr} {Z : Addr → Prop} {H : Hp} {vs : List V} {ds : List Dt} {N : List Str} (rp : Reps G r Z H vs ds) : StOk G r Z H (L2.start N vs) (ds.map .fz ++ List.replicate (N.length - ds.length) .un) := by
  have hl := rp.length
  have key : ∀ (i : Nat) (v : Option V) (s : Slo), (L2.start N vs)[i]? = some v → (ds.map Slo.fz ++ List.replicate (N.length - ds.length) Slo.un)[i]? = some s → SlOk G r Z H v s ∧ isOwn s = false := fun i v s h1 h2 => by
    unfold L2.start at h1
    by_cases hi : i < ds.length
    · rw [List.getElem?_append_left (by rw [List.length_map]; exact hi), List.getElem?_map, List.getElem?_eq_getElem hi] at h2
      rw [List.getElem?_append_left (by rw [List.length_map, hl]; exact hi), List.getElem?_map] at h1
      obtain ⟨x, e1, e2⟩ := rp.get (List.getElem?_eq_getElem hi)
      rw [e1] at h1
      cases h1
      cases h2
      exact ⟨⟨x, rfl, e2⟩, rfl⟩
    · rw [List.getElem?_append_right (by rw [List.length_map]; omega), List.getElem?_replicate] at h2
      split at h2
      · cases h2
        exact ⟨trivial, rfl⟩
      · cases h2
  refine ⟨?_, fun i v s h1 h2 => (key i v s h1 h2).1, fun i j s t p h1 h2 o1 o2 s1 s2 => ?_⟩
  · unfold L2.start
    simp [hl]
  · rw [(key i _ s s1 h1).2] at o1
    cases o1
section
variable {P : Program} {w : World} {K : PySem.W.Frag} {mg : Str → Option Value} {base : Heap}
/-- a def by its body's reading -/
theorem fnM {Tz : Tbs} {x qual : Str} {st : Stmt} {f : Addr} {fd : FuncData} {N ps : List Str} {k : Nat} {m : En → Mo Fl} (F : Fun K x qual st f fd) (S : FnScope N ps (defScope st))
    (hb : ∀ (cdv : Value) (A : Around) (outer : List Env) (s : Shared) (H : Hp) (E : XK), Room k (A.deeper (envOfC qual (defScope st) s.heap.objs.size f cdv)) →
      PSs (cxOf CX0 P w K mg base N qual (defScope st) f cdv A outer s H E).nox (defBody st) (tS ⟨K, w.params, Tz⟩ XR0 EE m)) : FnOk P w K mg base CX0 (k + 1) f fd ps (spM ⟨K, w.params, Tz⟩ ps.length (run N.length m)) := by
  refine F.ok S (fun vs H Q E h => h.1) fun cdv A outer s H vs Q E hr h => ?_
  obtain ⟨_, r, Z, ds, wf, rp, h⟩ := h
  refine ⟨_, hb cdv A outer s H E hr, r, Z, _, Z, H, ⟨stok_start rp, Ext.refl wf, fun i s p h1 h2 h3 => ?_⟩, (Mo.wp_bind.mp h).mono (fun fl hf => ?_) fun _ _ x => x.elim⟩
  · have := List.mem_of_getElem? h1
    rw [List.mem_append] at this
    rcases this with q | q
    · obtain ⟨d, _, rfl⟩ := List.mem_map.mp q
      cases h2
    · rw [(List.mem_replicate.mp q).2] at h2
      cases h2
  · cases fl with
    | nx ρ => exact fun σ' H' Z' e _ _ _ => hf .non H' Z' e Rep.mk_non
    | rt d => exact hf
    | bk ρ => exact hf.elim
    | ct ρ => exact hf.elim
/-- a def that may be called by its name -/
structure Cal (P : Program) (w : World) (K : PySem.W.Frag) (mg : Str → Option Value) (base : Heap) (k : Nat) (x : Str) (n : Nat) (F : List Dt → Mo Dt) : Prop where
  ex : ∃ (f : Addr) (fd : FuncData) (ps : List Str), (∀ Tz : Tbs, FnOk P w K mg base CX0 k f fd ps (spM ⟨K, w.params, Tz⟩ n F)) ∧ mg x = some (.ref f) ∧ PySem.W.keepIn K (.ref f) = true ∧ Binds K fd ps []
/-- a def of the text, under its name -/
structure Df (K : PySem.W.Frag) (mg : Str → Option Value) (x : Str) (st : Stmt) (ps : List Str) : Prop where
  ex : ∃ (f : Addr) (fd : FuncData), Fun K x x st f fd ∧ mg x = some (.ref f) ∧ Binds K fd ps []
theorem Cal.imp {k j n : Nat} {x : Str} {F F' : List Dt → Mo Dt} (c : Cal P w K mg base k x n F) (hk : k ≤ j) (h : ∀ ds Q R, (F' ds).wp Q R → (F ds).wp Q R) : Cal P w K mg base j x n F' := by
  obtain ⟨f, fd, ps, G, a⟩ := c.ex
  exact ⟨f, fd, ps, fun Tz => ((G Tz).mono hk).imp fun vs H Q E ⟨q, r, Z, ds, q1, q2, q3⟩ => ⟨q, r, Z, ds, q1, q2, h _ _ _ q3⟩, a⟩
theorem Cal.mono {k j n : Nat} {x : Str} {F : List Dt → Mo Dt} (c : Cal P w K mg base k x n F) (hk : k ≤ j) : Cal P w K mg base j x n F := c.imp hk fun _ _ _ h => h
theorem calM {x : Str} {st : Stmt} {N ps : List Str} {k : Nat} {m : En → Mo Fl} (D : Df K mg x st ps) (S : FnScope N ps (defScope st))
    (hb : ∀ (Tz : Tbs) (f : Addr) (cdv : Value) (A : Around) (outer : List Env) (s : Shared) (H : Hp) (E : XK), Room k (A.deeper (envOfC x (defScope st) s.heap.objs.size f cdv)) →
      PSs (cxOf CX0 P w K mg base N x (defScope st) f cdv A outer s H E).nox (defBody st) (tS ⟨K, w.params, Tz⟩ XR0 EE m)) : Cal P w K mg base (k + 1) x ps.length (run N.length m) := by
  obtain ⟨f, fd, F, hm, b⟩ := D.ex
  exact ⟨f, fd, ps, fun Tz => fnM F S (hb Tz f), hm, F.kp, b⟩
end
section
variable {X : Cx} {Tz : Tbs} {k j n : Nat} {x : Str} {p pos : Pos} {e : Expr} {es : List Expr} {F : List Dt → Mo Dt} {ms : En → Mo (List Dt)}
def mCal (n : Nat) (F : List Dt → Mo Dt) (ms : En → Mo (List Dt)) : En → Mo Dt := fun ρ => (ms ρ).bind fun ds => if ds.length = n then F ds else .err
def mCal0 (F : List Dt → Mo Dt) : En → Mo Dt := fun _ => F []
theorem px_false {G : Gd} {r : Addr} {Z : Addr → Prop} {H : Hp} {c : Nat} {d : Dt} {σ : Sg} (w : Wf G r Z H) (h : PX G XR0 r Z H (EE σ) c d) : False := h .none none H Z (Ext.refl w) trivial
theorem e_call (c : Cal X.prog X.w X.K X.mg X.base k x n F) (hr : Room j X.A) (hg : Gl X x) (ha : PA X (e :: es) (tMs (X.gd Tz) XR0 EE ms)) (hk : k ≤ j := by omega)
    (hdb : (x == ("__debug__" : Str)) = false := by decide) (he : starEach (e :: es) X.env = (false, eval e X.env) :: starEach es X.env := by rfl) (hpl : (backTo pos (starEach es X.env)).any (·.1) = false := by rfl) :
    PE X (.Call (.Name x p) (e :: es) [] pos) (tM (X.gd Tz) XR0 EE (mCal n F ms)) := by
  obtain ⟨f, fd, ps, G, hm, kp, b⟩ := c.ex
  refine PE.imp (pe_call (G Tz) (hr.mono hk) hg hm kp b .nil pass0 ha hdb he hpl) fun σ H Q ⟨r, Z, ρ, w, s, h⟩ => tMs.split w s h fun vs H1 Z1 ds e1 w1 s1 rp h1 => ?_
  split at h1
  · rename_i hl
    refine ⟨by rw [List.append_nil, rp.length]; exact hl, r, Z1, ds, w1, by rw [List.append_nil]; exact rp, h1.mono (fun d hd => hd.ext e1) fun c d q => px_false w q⟩
  · exact h1.elim
theorem e_call0 (c : Cal X.prog X.w X.K X.mg X.base k x 0 F) (hr : Room j X.A) (hg : Gl X x) (hk : k ≤ j := by omega)
    (hdb : (x == ("__debug__" : Str)) = false := by decide) : PE X (.Call (.Name x p) [] [] pos) (tM (X.gd Tz) XR0 EE (mCal0 F)) := by
  obtain ⟨f, fd, ps, G, hm, kp, b⟩ := c.ex
  exact PE.imp (pe_call0 (G Tz) (hr.mono hk) hg hm kp b .nil pass0 hdb) fun σ H Q ⟨r, Z, ρ, w, s, h⟩ =>
    ⟨rfl, r, Z, [], w, Reps.nil, h.mono (fun d hd => hd) fun c d q => px_false w q⟩
end
end Fw
set_option Elab.async false
set_option linter.all false
set_option maxRecDepth 100000
set_option maxHeartbeats 4000000
namespace Fw
open PySem PySem.Spec PyProof.Rows L2

section
variable {X : Cx} {Tz : Tbs} {XR : XRel} {E : Sg → XK} {elt tg iter : Expr} {ifs : List Expr} {scope : Scope} {own : List (Str × Nat)} {pos : Pos} {mi : En → Mo (List Dt)} {mg : Dt → En → Mo En} {mt : En → Mo Bool} {me : En → Mo Dt} {ts : List Nat}
/-- name = [.. for ..] on one line, the name a local -/
theorem s_setLc {y : Str} {py spos : Pos} (i : Nat) (hts : ∀ i ∈ ts, i ∈ own.map (·.2)) (hc : X.calm = true) (hN : X.N.Nodup) (hy : X.N[i]? = some y) (hyl : X.env.scope.names.lookup y = some .local)
    (hsw : swapsWith (.ListComp elt [⟨tg, iter, ifs, 0⟩] scope pos) (some (.Name y py)) spos.line X.env = pure true) (hi : PI X tg iter (iM (X.gd Tz) XR E mi)) (ok : BlkOk X.N X.env.scope scope own)
    (hg : ∀ (s : Shared) (H : Hp) (C : Addr) (cl : List (Str × Addr)) (fp : List Addr), PG (X.blk s H scope (compEnvC scope cl C X.env) fp) tg (gM (X.gd Tz) ts mg)) (ht : ∀ (s : Shared) (H : Hp) (C : Addr) (cl : List (Str × Addr)) (fp : List Addr), PTs (X.blk s H scope (compEnvC scope cl C X.env) fp) ifs (tMb (X.gd Tz) XR EX0 mt))
    (he : ∀ (s : Shared) (H : Hp) (C : Addr) (cl : List (Str × Addr)) (fp : List Addr), PE (X.blk s H scope (compEnvC scope cl C X.env) fp) elt (tM (X.gd Tz) XR EX0 me)) (hs : ∀ x, foldedSetIterable iter X.env x = pure x := by intro _; rfl) :
    PS X (.Assign [.Name y py] (.ListComp elt [⟨tg, iter, ifs, 0⟩] scope pos) spos) (tS (X.gd Tz) XR E (mSet i (mLc (own.map (·.2)) mi mg mt me))) :=
  PS.imp (ps_setLc hc hN hy hyl hsw hi ok hg ht he hs) fun D σ H ⟨r, Z, ρ, Z0, H0, a, h⟩ => lc_of hts (tS.split a h fun v H1 Z1 d e1 a1 rp h1 => PF.nx h1 (a1.set rp) (e1.frz a.wf))
end
section
variable {X : Cx} {Tz : Tbs} {XR : XRel} {E : Sg → XK} {a b c : Expr} {ma mb mc : En → Mo Dt} {pos : Pos}
/-- a global of the top: written data -/
structure Gv (K : PySem.W.Frag) (P : Params) (mg : Str → Option Value) (x : Str) (d : Dt) : Prop where
  ex : ∃ (u : Value) (v : V), mg x = some u ∧ RelV v u ∧ ∀ T r Z H, Rep ⟨K, P, T⟩ r Z H v d
theorem e_gv {x : Str} {d : Dt} (g : Gv X.K X.w.params X.mg x d) (hg : Gl X x) (hd : (x == ("__debug__" : Str)) = false := by decide) : PE X (.Name x pos) (tM (X.gd Tz) XR E (mC d)) := by
  obtain ⟨u, v, hm, rv, hr⟩ := g.ex
  exact e_glob hg hm rv (hr Tz) hd
theorem e_neg {i : Int} {j : Nat} {p2 : Pos} : PE X (.UnaryOp .USub (.Constant (.int i) j p2) pos) (tM (X.gd Tz) XR E (mC (.int (-i)))) :=
  PE.imp (pe_un un_neg pe_int) fun σ H Q ⟨r, Z, ρ, w, s, h⟩ => ⟨i, rfl, PV.at w h Rep.mk_int⟩
/-! chains, named -/
def cLast (g : Dt → Dt → Option Dt) (mc : En → Mo Dt) : Dt → En → Mo Dt := fun d ρ => (mc ρ).bind fun y => ofO (g d y)
def cLink (g : Dt → Dt → Option Dt) (mc : En → Mo Dt) (m' : Dt → En → Mo Dt) : Dt → En → Mo Dt := fun d ρ => (mc ρ).bind fun y => (ofO (g d y)).bind fun t => match t with | .bl true => m' y ρ | .bl false => .ret (.bl false) | _ => .err
def mChain (ma : En → Mo Dt) (m' : Dt → En → Mo Dt) : En → Mo Dt := fun ρ => (ma ρ).bind fun d => m' d ρ
theorem h_last {op : CmpOp} {g : Dt → Dt → Option Dt} (ho : OpR X (compareOp op) (r2 (X.gd Tz) g)) (hc : PE X c (tM (X.gd Tz) XR E mc)) : PCh X Tz XR E [op] [c] (cLast g mc) := ch_last ho hc
theorem h_link {op op' : CmpOp} {g : Dt → Dt → Option Dt} {ops : List CmpOp} {c' : Expr} {cs : List Expr} {m' : Dt → En → Mo Dt} (ho : OpR X (compareOp op) (r2 (X.gd Tz) g)) (hc : PE X c (tM (X.gd Tz) XR E mc)) (ht : PCh X Tz XR E (op' :: ops) (c' :: cs) m') : PCh X Tz XR E (op :: op' :: ops) (c :: c' :: cs) (cLink g mc m') := ch_link ho hc ht
theorem h_chain {op op' : CmpOp} {ops : List CmpOp} {c' : Expr} {cs : List Expr} {m' : Dt → En → Mo Dt} (ha : PE X a (tM (X.gd Tz) XR E ma)) (ht : PCh X Tz XR E (op :: op' :: ops) (c :: c' :: cs) m')
    (hm : lastMarks (op :: op' :: ops) (c :: c' :: cs) = false := by with_unfolding_all rfl) : PE X (.Compare a (op :: op' :: ops) (c :: c' :: cs) pos) (tM (X.gd Tz) XR E (mChain ma m')) := e_chain ha ht hm
end
theorem room_u {k : Nat} {A : Around} (h : Room k A) : A.units + 64 < cLine := by have := h.un; omega
theorem room_u65 {k : Nat} {A : Around} (h : Room k A) : A.units + 64 + 1 < cLine := by have := h.un; omega
theorem room_u1 {k : Nat} {A : Around} (h : Room k A) : A.units + 1 < cLine := by have := h.un; omega
end Fw
set_option Elab.async false
set_option linter.all false
set_option maxRecDepth 100000
set_option maxHeartbeats 4000000
namespace Fw
open PySem PySem.Spec PyProof.Rows L2

/-! ## texts in order -/
theorem lt_tot : ∀ a b : List Nat, ltCps a b = false → ltCps b a = false → a = b
  | [], [], _, _ => rfl
  | [], _ :: _, h, _ => by cases h
  | _ :: _, [], _, h => by cases h
  | x :: a, y :: b, h, h' => by
    simp only [ltCps, Bool.or_eq_false_iff, decide_eq_false_iff_not, Bool.and_eq_false_iff, beq_eq_false_iff_ne] at h h'
    have e : x = y := by omega
    subst e
    rw [lt_tot a b (h.2.resolve_left fun z => z rfl) (h'.2.resolve_left fun z => z rfl)]
theorem lt_irr : ∀ a : List Nat, ltCps a a = false
  | [] => rfl
  | x :: a => by simp [ltCps, lt_irr a]
/-- b ≤ a, c ≤ b, so c ≤ a -/
theorem le_tr : ∀ a b c : List Nat, ltCps b a = false → ltCps c b = false → ltCps c a = false
  | [], _, [], _, _ => rfl
  | [], _, _ :: _, _, _ => rfl
  | _ :: _, [], _, h, _ => by cases h
  | _ :: _, _ :: _, [], _, h => by cases h
  | x :: a, y :: b, z :: c, h, h' => by
    simp only [ltCps, Bool.or_eq_false_iff, decide_eq_false_iff_not, Bool.and_eq_false_iff, beq_eq_false_iff_ne] at h h' ⊢
    refine ⟨by omega, ?_⟩
    by_cases e : z = x
    · have e1 : y = x := by omega
      have e2 : z = y := by omega
      exact .inr (le_tr a b c (h.2.resolve_left fun q => q e1) (h'.2.resolve_left fun q => q e2))
    · exact .inl e
def insN (x : List Nat) : List (List Nat) → List (List Nat)
  | [] => [x]
  | y :: r => if ltCps y x then y :: insN x r else x :: y :: r
def srtN : List (List Nat) → List (List Nat)
  | [] => []
  | x :: r => insN x (srtN r)
theorem insN_perm (x : List Nat) : ∀ l, (insN x l).Perm (x :: l)
  | [] => .refl _
  | y :: r => by
    unfold insN
    split
    · exact ((insN_perm x r).cons y).trans (.swap x y r)
    · exact .refl _
theorem srtN_perm : ∀ l, (srtN l).Perm l
  | [] => .refl _
  | x :: r => (insN_perm x _).trans ((srtN_perm r).cons x)
def LeC (a b : List Nat) : Prop := ltCps b a = false
theorem lt_asym {a b : List Nat} (h : ltCps a b = true) : ltCps b a = false := by
  cases e : ltCps b a with
  | false => rfl
  | true =>
    have h1 : ∀ a b : List Nat, ltCps a b = true → ltCps b a = true → False := by
      intro a
      induction a with
      | nil => intro b h1 h2; cases b <;> cases h2
      | cons x a ih =>
        intro b h1 h2
        cases b with
        | nil => cases h1
        | cons y b =>
          simp only [ltCps, Bool.or_eq_true, decide_eq_true_eq, Bool.and_eq_true, beq_iff_eq] at h1 h2
          rcases h1 with h1 | ⟨h1, h3⟩
          · rcases h2 with h2 | ⟨h2, _⟩ <;> omega
          · rcases h2 with h2 | ⟨_, h4⟩
            · omega
            · exact ih b h3 h4
    exact (h1 _ _ h e).elim
theorem insN_srt (x : List Nat) : ∀ l, l.Pairwise LeC → (insN x l).Pairwise LeC
  | [], _ => by unfold insN; exact List.pairwise_singleton _ _
  | y :: r, h => by
    obtain ⟨h1, h2⟩ := List.pairwise_cons.mp h
    unfold insN
    split
    · rename_i hl
      refine List.pairwise_cons.mpr ⟨fun z hz => ?_, insN_srt x r h2⟩
      rcases List.mem_cons.mp ((insN_perm x r).mem_iff.mp hz) with rfl | hz
      · exact lt_asym hl
      · exact h1 z hz
    · rename_i hl
      have hl' : ltCps y x = false := by simpa using hl
      refine List.pairwise_cons.mpr ⟨fun z hz => ?_, h⟩
      rcases List.mem_cons.mp hz with rfl | hz
      · exact hl'
      · exact le_tr _ _ _ hl' (h1 z hz)
theorem srtN_srt : ∀ l, (srtN l).Pairwise LeC
  | [] => List.Pairwise.nil
  | x :: r => insN_srt x _ (srtN_srt r)
theorem srt_uniq : ∀ {a b : List (List Nat)}, a.Perm b → a.Pairwise LeC → b.Pairwise LeC → a = b
  | [], b, p, _, _ => (List.nil_perm.mp p).symm
  | x :: a, [], p, _, _ => by have := p.length_eq; simp at this
  | x :: a, y :: b, p, h, h' => by
    obtain ⟨h1, h2⟩ := List.pairwise_cons.mp h
    obtain ⟨h3, h4⟩ := List.pairwise_cons.mp h'
    have e : x = y := by
      rcases List.mem_cons.mp (p.mem_iff.mp List.mem_cons_self) with e | e
      · exact e
      · rcases List.mem_cons.mp (p.mem_iff.mpr List.mem_cons_self) with q | q
        · exact q.symm
        · exact lt_tot _ _ (h3 x e) (h1 y q)
    subst e
    rw [srt_uniq (List.perm_cons _ |>.mp p) h2 h4]
theorem rising_pw : ∀ (l : List Str) (p : Str), risingS p l = true → (p :: l).Pairwise fun a b => ltCps b.cps.toList a.cps.toList = false
  | [], p, _ => List.pairwise_singleton _ _
  | x :: r, p, h => by
    unfold risingS at h
    rw [Bool.and_eq_true, Bool.not_eq_true'] at h
    have ih := rising_pw r x h.2
    refine List.pairwise_cons.mpr ⟨fun z hz => ?_, ih⟩
    rcases List.mem_cons.mp hz with rfl | hz
    · exact h.1
    · exact le_tr _ _ _ h.1 ((List.pairwise_cons.mp ih).1 z hz)
theorem sortedS_out {ys : List Str} {ks : List (List Nat)} (p : ys.Perm (ks.map st)) (h : sortedS ys = true) : ys = (srtN ks).map st := by
  have h1 : ys.Pairwise fun a b => ltCps b.cps.toList a.cps.toList = false := by
    cases ys with
    | nil => exact List.Pairwise.nil
    | cons x r => exact rising_pw r x h
  have h2 : (ys.map fun s => s.cps.toList).Pairwise LeC := by
    rw [List.pairwise_map]
    exact h1
  have h3 : (ys.map fun s => s.cps.toList).Perm (srtN ks) := by
    refine (p.map _).trans ?_
    rw [List.map_map]
    have : (fun s : Str => s.cps.toList) ∘ st = id := by funext x; exact cps_st x
    rw [this, List.map_id]
    exact (srtN_perm ks).symm
  have h4 := srt_uniq h3 h2 (srtN_srt ks)
  rw [← h4, List.map_map]
  have : st ∘ (fun s : Str => s.cps.toList) = id := by funext x; exact st_cps x
  rw [this, List.map_id]

/-! ## sorted: a list of texts, the keys of a dict -/
def sortD : List Dt → Option Dt
  | [.lst xs] => (strsOf xs).bind fun l => if l.length < 64 then some (.lst ((srtN l).map .str)) else none
  | [.dk ks _] => if ks.length < 64 then some (.lst ((srtN ks).map .str)) else none
  | _ => none
section
variable {X : Cx} {Tz : Tbs} {XR : XRel} {E : Sg → XK} {a b c o e : Expr} {ma mb mc mo : En → Mo Dt} {p pos apos cpos : Pos}
theorem reps_strN {K : Gd} {r : Addr} {Z : Addr → Prop} {H : Hp} : ∀ l : List (List Nat), Reps K r Z H ((l.map st).map V.str) (l.map .str)
  | [] => Reps.nil
  | x :: l => Reps.cons Rep.mk_str (reps_strN l)
theorem laid_lst {r : Addr} {Z : Addr → Prop} {H : Hp} {Q : VK} {K : Gd} {D : Addr} {vs : List V} {ds : List Dt} (w : Wf K r Z H) (q : PV K r Z H Q (.lst ds)) (hn : H D = none) (hl : vs.length ≤ sizeLine) (rp : Reps K r Z H vs ds) : Q (.ref D) (upd H D (.lst vs)) := by
  have ex := Ext.laid (o := .lst vs) w hn
  exact q _ _ _ ex (Rep.mk_lst (.inr rfl) upd_same hl (rp.frz (ex.frz w)))
theorem kS_strs (ks : List (List Nat)) (us : List V) (l : ks.length = us.length) : ((kS ks).zip us).map (·.1) = (ks.map st).map (Sum.inr : Str → Key) := by
  unfold kS
  rw [List.map_fst_zip (by rw [List.length_map]; omega), List.map_map]
  rfl
theorem c_sorted (hc : X.calm = true) : CallR X (.builtin "sorted") (rC (X.gd Tz) sortD) := by
  rintro pins s σ H xs us Q I rx ⟨r, Z, ds, d, w, px, e, q⟩
  unfold sortD at e
  split at e
  · obtain ⟨l, e1, e2⟩ := Option.bind_eq_some_iff.mp e
    split at e2
    · rename_i hl
      cases e2
      obtain ⟨v, rfl, h⟩ := px.one
      obtain ⟨a, vs, rfl, z, t, l2, qs⟩ := h.lst
      have ev := reps_strs qs e1
      refine cr_sortedS pins s σ H _ us Q I rx ⟨a, l.map st, rfl, .inl (.inl (by rw [t, ev, List.map_map]; rfl)), by rw [List.length_map]; exact hl, fun ys D p1 p2 hD => ?_⟩
      rw [sortedS_out p1 p2]
      refine laid_lst w q hD ?_ (reps_strN _)
      rw [List.length_map, List.length_map, (srtN_perm l).length_eq]
      exact sl16 (by omega)
    · cases e2
  · split at e
    · rename_i ks vs hl
      cases e
      obtain ⟨v, rfl, h⟩ := px.one
      unfold Rep at h
      obtain ⟨d, us', rfl, hd, lk, l2, qs⟩ := h
      obtain ⟨u, eu, ru⟩ := vals1 rx
      subst eu
      cases ru
      obtain ⟨lo, z, vs, rel, dd⟩ := hd.dict I
      obtain ⟨ep, hat⟩ := dd.dictAt
      have hks := kS_strs ks us' lk
      have hkeys : vs.map (·.1) = (ks.map st).map Sum.inr := (kv_keys rel).trans hks
      have hl' : vs.length = (ks.map st).length := by
        have e := congrArg List.length hkeys
        rw [List.length_map, List.length_map] at e
        exact e
      have hlk : (ks.map st).length < 64 := by rw [List.length_map]; exact hl
      have h16 : vs.length ≤ sizeLine := by rw [hl', sizeLine_eq]; omega
      refine Calls.call_function_entry PyProof.Rows.kind_sorted PyProof.Rows.plain_sorted PyProof.Rows.entry_sorted (PyProof.Rows.args_sorted1 _) ?_
      unfold Builtin.«sorted»
      refine wpAny_bind (m := checkCount "sorted" 1 1 _) (wpAny_pure ?_)
      refine wpAny_bind (PySem.W.kdu_collect (A := X.A.in1) (PySem.W.kdl_dict (knd := mixKind X.prog X.w) (kvs := vs) (ep := ep) lo) (I.ok.hd hc) hat h16 fun h' tk acc hk hacc => ?_)
      have hal : acc.toList.length = (ks.map st).length := by rw [Array.length_toList, hacc.1, hl']
      have hS : StrsAre acc.toList (ks.map st) := strs_at hal fun j v e => by
        obtain ⟨k, x, e1, e2⟩ := hacc.2 j v (by rw [← Array.getElem?_toList]; exact e)
        have e3 : (vs.map (·.1))[j]? = some k := by rw [List.getElem?_map, e1]; all_goals rfl
        rw [hkeys, List.getElem?_map] at e3
        cases e4 : (ks.map st)[j]? with
        | none => rw [e4] at e3; cases e3
        | some y =>
          rw [e4] at e3
          have e5 : Sum.inr y = k := Option.some.inj e3
          subst e5
          obtain ⟨t, ev⟩ := Value.isStrOf_shape (x := y) (v := v) e2
          exact ⟨y, t, rfl, ev⟩
      have I1 : Inv X pins σ H { s with heap := h', toks := tk } := I.kept hk
      refine wpAny_bind (wpAny_newList ?_ (by rw [hal, sizeLine_eq]; omega))
      have hoL : (h'.push (seqObj "list" acc.toList.toArray 0)).get? h'.objs.size = some (seqObj "list" acc.toList.toArray 0) := Heap.get?_push_size _ rfl
      show wpAny _ _ _ _ _ { s with heap := h'.push (seqObj "list" acc.toList.toArray 0), toks := tk }
      refine wpAny_bind (wpAny_holding (wpAny_call_entry PyProof.Rows.slot_list_sort ⟨_, hoL, rfl⟩ PyProof.Rows.entry_list_sort
        (list_sort_treeK strKind_oneLt (s := { s with heap := h'.push (seqObj "list" acc.toList.toArray 0), toks := tk }) hoL hS.keysOf (fun v₁ v₂ rest e => keyKind_strs (by rw [← e]; exact hS)) (by rw [hal]; exact hlk) fun st' hp hs => ⟨_, rfl, ?_⟩)
        (PyProof.Rows.args_list_sort _)))
      obtain ⟨ys, g1, g2, g3⟩ := sorted_out_str hS hp hs
      obtain ⟨e', he'⟩ := PyProof.Rows.sortedHeap_at (vs := acc.toList) (out := (arrOf st').map (·.2)) hoL
      have hlen : (ys.map V.str).length ≤ sizeLine := by
        rw [List.length_map, g2.length_eq]
        exact Nat.le_trans (Nat.le_of_lt hlk) (by decide)
      have hfr := I1.hok.fresh (Nat.le_refl h'.objs.size)
      have hq : Q (.ref h'.objs.size) (upd H h'.objs.size (.lst (ys.map V.str))) := by
        have hlen' := hlen
        rw [sortedS_out g2 g3] at hlen' ⊢
        exact laid_lst w q hfr hlen' (reps_strN _)
      refine wpAny_pure ⟨_, rfl, .ref h'.objs.size, upd H h'.objs.size (.lst (ys.map V.str)), I1.laid (t' := tk) (fun b u e => ?_) (Nat.le_refl _)
        (show ObjOk X.prog X.w _ _ _ (.lst (ys.map V.str)) from ⟨hlen, ((arrOf st').map (·.2)).toList, e', vals_of_strs g1, by rw [Array.toArray_toList]; exact he'⟩), rfl, hq⟩
      have hb : b < h'.objs.size := Heap.lt_size e
      rw [PyProof.Rows.sortedHeap_old (Nat.ne_of_lt hb) (by rw [size_push']; exact Nat.lt_succ_of_lt hb)]
      exact Heap.get?_push_of_some _ e
    · cases e
  · cases e
/-! ## list(d.values()) -/
def valsD : Dt → Option Dt
  | .dk _ vs => some (.lst vs)
  | _ => none
def mVals (mo : En → Mo Dt) : En → Mo Dt := fun ρ => (mo ρ).bind fun d => ofO (valsD d)
theorem e_vals (hc : X.calm = true) (hg : Gl X "list") (hm : X.mg "list" = none) (he : PE X e (tM (X.gd Tz) XR E mo)) (hv : bootBuiltins "list" = some (.type "list") := by decide +kernel) (hbase : attributeBase e "values" X.env (eval e X.env) = eval e X.env := by rfl) (hline : (apos.endLine == cpos.line) = true := by rfl)
    (hs : starEach [.Call (.Attribute e "values" apos) [] [] cpos] X.env = (false, eval (.Call (.Attribute e "values" apos) [] [] cpos) X.env) :: starEach [] X.env := by rfl) :
    PE X (.Call (.Name "list" p) [.Call (.Attribute e "values" apos) [] [] cpos] [] pos) (tM (X.gd Tz) XR E (mVals mo)) := by
  refine ⟨fun pins s σ H Q I ⟨r, Z, ρ, w, st0, h⟩ => ?_⟩
  refine wpAny_Call_Name_kw (ld_blt I hg hm hv ?_)
  refine PyProof.Rows.callWith_type1 ?_ hs rfl
  rw [hs]
  show wpAny _ _ (spliced ((false, eval (.Call (.Attribute e "values" apos) [] [] cpos) X.env) :: backTo pos (starEach [] X.env))) _ _ s
  refine Calls.spliced_cons ?_
  refine wpAny_Call_method (T := "dict") (id := "dict.values") hbase rfl hline F.plainAttrs_dict F.slot_dict_values F.type_dict_values (thn (he.run pins s σ H (fun x H1 => ∃ Z1 d d2, Ext (X.gd Tz) r Z H Z1 H1 ∧ Rep (X.gd Tz) r Z1 H1 x d ∧ valsD d = some d2 ∧ PV (X.gd Tz) r Z H Q d2) I
    (tM.split w st0 h fun u H1 Z1 d1 e1 w1 s1 rp1 h1 => ?_)) fun u s1 ⟨x, H1, I1, rx, Z1, d1, d2, e1, rp, ev, q⟩ => ?_)
  · obtain ⟨d2, e2, h2⟩ := wp_ofO h1
    exact ⟨Z1, d1, d2, e1, rp1, e2, h2⟩
  unfold valsD at ev
  split at ev
  · rename_i ks vs0
    cases ev
    unfold Rep at rp
    obtain ⟨d, us', rfl, hd, lk, l2, qs⟩ := rp
    obtain rfl : u = Value.ref d := rx
    obtain ⟨lo, z, vs, rel, hdo⟩ := hd.dict I1
    obtain ⟨ep, hat⟩ := hdo.dictAt
    have lv : vs.length = us'.length := by
      have e := congrArg List.length ((kv_keys rel).trans (kS_strs ks us' lk))
      rw [List.length_map, List.length_map, List.length_map] at e
      omega
    have I2 : Inv X pins σ H1 { s1 with heap := s1.heap.push { cls := .type "dict_values", data := .fields #[.ref d] } } := I1.kept (t' := s1.toks) fun b ob q => Heap.get?_push_of_some _ q
    refine ⟨hdo.typeIs, hdo.mapOf.noDict, ?_⟩
    show wpAny _ _ (callWith cpos (.builtin "dict.values") [.ref d] [] []) _ X.xe s1
    refine method_meetsIn F.slot_dict_values F.entry_dict_values rfl (PySem.evalArgs_none ⟨rfl, hdo.typeIs, F.args_dict_values_1 _, _, meets_dict_values (mixKind X.prog X.w) d lo, ⟨vs, hdo⟩, ?_⟩)
    refine Calls.spliced_nil ?_
    refine PySem.W.kdl_call (PySem.W.kdl_values (knd := mixKind X.prog X.w) (kvs := vs) (ep := ep)) (I1.ok.hd hc) ⟨⟨_, Heap.get?_push_size _ rfl, rfl, rfl⟩, hat.push _⟩ (by rw [lv, sizeLine_eq]; omega) fun h' tk acc c' hk hS hacc => ?_
    have hacc' : acc.toList = vs.map (·.2) := PySem.W.kdl_vals_eq acc.toList (by rw [Array.length_toList]; exact hacc.1) fun j v e => hacc.2 j v (by rw [← Array.getElem?_toList]; exact e)
    have rvs : Vals us' acc.toList := by
      rw [hacc']
      have go : ∀ {kvs : List (Key × V)} {vs : List (Key × Value)}, KV kvs vs → Vals (kvs.map (·.2)) (vs.map (·.2)) := fun h => by
        unfold KV at h
        induction h with
        | nil => exact .nil
        | cons p t ih => exact .cons p.2 ih
      have := go rel
      rw [List.map_snd_zip (by unfold kS; rw [List.length_map]; omega)] at this
      exact this
    have hfr := I2.hok.fresh (Nat.le_refl (s1.heap.push { cls := .type "dict_values", data := .fields #[.ref d] }).objs.size)
    have hz : us'.length ≤ sizeLine := by rw [sizeLine_eq]; omega
    refine ⟨.ref (s1.heap.push { cls := .type "dict_values", data := .fields #[.ref d] }).objs.size, _, I2.laid (o := .lst us') (t' := tk) (fun b u e => hk b u e) (Nat.le_refl _) ⟨hz, acc.toList, c', rvs, by rw [Array.toArray_toList]; exact hS⟩, rfl, ?_⟩
    exact laid_lst e1.wf (q.ext e1) hfr hz qs
  · cases ev
end
end Fw
set_option Elab.async false
set_option linter.all false
set_option maxRecDepth 100000
set_option maxHeartbeats 4000000
namespace Fw
open PySem PySem.Spec PyProof.Rows L2

/-! ## t.index(x), data of any depth -/
section
variable {X : Cx} {Tz : Tbs}
def rTIndexD (K : PySem.W.Frag) : V → List V → Hp → VK → Prop := fun x xs H Q => ∃ (a : Addr) (y : V) (d : PyData) (ds : List PyData) (j : Nat) (z : PyData), x = V.ref a ∧ xs = [y] ∧ Dp K H (V.ref a) (.tuple ds) ∧ Dp K H y d ∧
  SeqAt.shaped (.tuple ds) = true ∧ SeqAt.shaped d = true ∧ ds[j]? = some z ∧ PyData.eqv z d = true ∧ (∀ (m : Nat) (z' : PyData), m < j → ds[m]? = some z' → PyData.eqv z' d = false) ∧ Q (.int (j : Nat)) H
theorem mt_tindexD (hu : X.A.units + 65 < cLine) : MtR X "tuple.index" (rTIndexD X.K) := by
  intro pins s σ H x xs v us Q I rx rxs h
  obtain ⟨a, y, d, ds, j, z, rfl, rfl, hl, hy, sl, sd, hz, hzj, hno, q⟩ := h
  cases rx
  cases rxs with
  | cons ry rt =>
    rename_i uy ut
    cases rt
    obtain ⟨bs, r1⟩ := Dp.reads I d y uy hy ry
    have hxs : PyData.canLayAll0 ds = true := SeqAt.canLay_of_shaped sl
    have hroom : X.A.units + 1 + min (PyData.depthAll ds) d.depth < cLine := room_in_shaped sd hu
    cases hl with
    | tup hs ha =>
      obtain ⟨its, rv, ⟨⟨cls, dd, data, sls⟩, ho, hc, n, hdt⟩, hlen⟩ := I.tuple hs
      simp only at hc hdt
      subst hc hdt
      obtain ⟨as, h4⟩ := Dp.readsAll I ds _ its ha rv
      have hn : its.length = ds.length := SeqAt.ReadsAll.length ds its as h4
      have hmap : its.map (SeqAt.readOf s.heap) = ds := SeqAt.readsAll_map ds its as hxs h4
      obtain ⟨hjd, _⟩ := List.getElem?_eq_some_iff.mp hz
      have hjl : j < its.length := by omega
      have hj : j < its.toArray.size := by simpa using hjl
      have at_ : ∀ (m : Nat) (hm : m < its.toArray.size) (z' : PyData), ds[m]? = some z' → SeqAt.readOf s.heap its.toArray[m] = z' := by
        intro m hm z' hz'
        have hml : m < its.length := by simpa using hm
        rw [← hmap, List.getElem?_map, List.getElem?_eq_getElem hml] at hz'
        have e1 : SeqAt.readOf s.heap its[m] = z' := Option.some.inj (show some (SeqAt.readOf s.heap its[m]) = some z' from hz')
        simpa using e1
      refine call_meets PySem.F.slot_tuple_index ⟨_, ho, rfl⟩ PySem.F.entry_tuple_index (PySem.F.args_tuple_index_2 _ _)
        (TI.tuple_indexAt a its.toArray n dd sls uy (fun u => PyData.eqv (SeqAt.readOf s.heap u) d) j hj ?_ ?_) ⟨ho, SeqAt.items_eqAt (vs := its.toArray) (show ReadsAll s.heap its.toArray.toList ds as from h4) r1 hxs (SeqAt.canLay_of_shaped sd) hroom, ?_⟩
      · show PyData.eqv (SeqAt.readOf s.heap its.toArray[j]) d = true
        rw [at_ j hj z hz]
        exact hzj
      · intro m hm hmj
        have hmd : m < ds.length := by have : m < its.length := by simpa using hm
                                       omega
        have hz' : ds[m]? = some ds[m] := List.getElem?_eq_getElem hmd
        show PyData.eqv (SeqAt.readOf s.heap its.toArray[m]) d = false
        rw [at_ m hm _ hz']
        exact hno m _ hmj hz'
      · exact ⟨.int (j : Nat), H, I.tok _, ⟨_, rfl⟩, q⟩
end
/-- the first place of an equal one -/
def idxD (x : Dt) : List Dt → Nat → Option Nat
  | [], _ => none
  | y :: r, n => if beqD y x then some n else idxD x r (n + 1)
def indexD (o x : Dt) : Option Dt := match o with
  | .tup xs => if plainDs 63 xs && plainD 64 x then (idxD x xs 0).map fun n => .int (n : Nat) else none
  | _ => none
theorem toPys_get : ∀ (l : List Dt) (m : Nat), (toPys l)[m]? = (l[m]?).map toPy
  | [], m => by unfold toPys; simp
  | x :: l, 0 => by unfold toPys; simp
  | x :: l, m + 1 => by unfold toPys; simpa using toPys_get l m
theorem idxD_out {x : Dt} : ∀ {l : List Dt} {n j : Nat}, idxD x l n = some j → ∃ i z, j = n + i ∧ l[i]? = some z ∧ beqD z x = true ∧ ∀ m z', m < i → l[m]? = some z' → beqD z' x = false
  | [], _, _, h => by cases h
  | y :: r, n, j, h => by
    unfold idxD at h
    split at h
    · rename_i hb
      cases h
      exact ⟨0, y, rfl, rfl, hb, fun m z' hm => absurd hm (Nat.not_lt_zero _)⟩
    · rename_i hb
      obtain ⟨i, z, e, h1, h2, h3⟩ := idxD_out h
      refine ⟨i + 1, z, by omega, by simpa using h1, h2, fun m z' hm hz => ?_⟩
      cases m with
      | zero =>
        have : y = z' := by simpa using hz
        subst this
        simpa using hb
      | succ m => exact h3 m z' (by omega) (by simpa using hz)
theorem plainDs_get : ∀ {n : Nat} {l : List Dt} {i : Nat} {z : Dt}, plainDs n l = true → l[i]? = some z → plainD n z = true
  | n, [], i, z, _, h => by simp at h
  | n, y :: l, 0, z, hp, h => by
    unfold plainDs at hp
    rw [Bool.and_eq_true] at hp
    have : y = z := by simpa using h
    subst this
    exact hp.1
  | n, y :: l, i + 1, z, hp, h => by
    unfold plainDs at hp
    rw [Bool.and_eq_true] at hp
    exact plainDs_get hp.2 (by simpa using h)
def isTup : Dt → Bool
  | .tup _ => true
  | _ => false
section
variable {X : Cx} {Tz : Tbs} {XR : XRel} {E : Sg → XK} {a b c o e : Expr} {ma mb mc mo m : En → Mo Dt} {p pos apos cpos : Pos}
/-- a global of the top: a written tuple -/
structure Gt (K : PySem.W.Frag) (P : Params) (mg : Str → Option Value) (x : Str) (d : Dt) : Prop where
  ex : ∃ (a : Addr) (o : Obj), mg x = some (.ref a) ∧ K.lookup a = some o ∧ o.cls = .type "tuple" ∧ o.dict = none ∧ ∀ T r Z H, Rep ⟨K, P, T⟩ r Z H (.ref a) d
theorem Gt.gv {K : PySem.W.Frag} {P : Params} {mg : Str → Option Value} {x : Str} {d : Dt} (g : Gt K P mg x d) : Gv K P mg x d := by
  obtain ⟨a, o, h1, _, _, _, h2⟩ := g.ex
  exact ⟨.ref a, .ref a, h1, rfl, h2⟩
def mIndex (d : Dt) (m : En → Mo Dt) : En → Mo Dt := fun ρ => (m ρ).bind fun x => ofO (indexD d x)
theorem e_index {x : Str} {d : Dt} {p2 : Pos} (hu : X.A.units + 64 + 1 < cLine) (g : Gt X.K X.w.params X.mg x d) (hg : Gl X x) (he : PE X e (tM (X.gd Tz) XR E m)) (hd : (x == ("__debug__" : Str)) = false := by decide)
    (hbase : attributeBase (.Name x p2) "index" X.env (eval (.Name x p2) X.env) = eval (.Name x p2) X.env := by rfl)
    (hfew : ((backTo cpos (starEach (e :: []) X.env)).all (fun x => !x.1) && (backToKw cpos (keywordEach [] X.env)).all (fun x => x.1.isSome)
      && decide ((e :: ([] : List Expr)).length + ([] : List Keyword).length + (if ([] : List Keyword).isEmpty then 0 else 1) < 30)) = true := by rfl)
    (hline : (apos.endLine == cpos.line) = true := by rfl) (hs : starEach (e :: []) X.env = (false, eval e X.env) :: starEach [] X.env := by rfl) (hplain : (backTo cpos (starEach [] X.env)).any (·.1) = false := by rfl) :
    PE X (.Call (.Attribute (.Name x p2) "index" apos) [e] [] cpos) (tM (X.gd Tz) XR E (mIndex d m)) := by
  obtain ⟨a, o, hm, hlo, hcl, hdi, hr⟩ := g.ex
  refine PE.imp (pe_bm PySem.F.plainAttrs_tuple PySem.F.slot_tuple_index PySem.F.type_tuple_index (mt_tindexD hu) (pe_glob (v := .ref a) hg hm rfl hd) (pa_cons he pa_nil hs) hbase hfew hline hs hplain) fun σ H Q ⟨r, Z, ρ, w, s, h⟩ => ?_
  refine ⟨.inr (.inl ⟨rfl, o, hlo, hcl, hdi⟩), tM.split w s h fun u H2 Z2 d2 e2 w2 s2 rp2 h2 => ?_⟩
  obtain ⟨d3, e3, h3⟩ := wp_ofO h2
  cases d with
  | tup xs =>
    dsimp only [indexD] at e3
    split at e3
    · rename_i hp
      rw [Bool.and_eq_true] at hp
      obtain ⟨j, e4, rfl⟩ := Option.map_eq_some_iff.mp e3
      obtain ⟨i, z, ej, h4, h5, h6⟩ := idxD_out e4
      have ej' : j = i := by omega
      subst ej'
      have hp' : plainD 64 (.tup xs) = true := by unfold plainD; exact hp.1
      obtain ⟨l1, d1⟩ := plain_py 64 _ hp'
      obtain ⟨l2, d2'⟩ := plain_py 64 _ hp.2
      have hz := plainDs_get hp.1 h4
      refine ⟨a, u, toPy d2, toPys xs, j, toPy z, rfl, rfl, ?_, rp2.dp hp.2, ?_, ?_, by rw [toPys_get, h4]; rfl, ?_, fun m z' hm hz' => ?_, h3 _ H2 Z2 e2 Rep.mk_int⟩
      · have := (hr Tz r Z2 H2).dp hp'
        unfold toPy at this
        exact this
      · unfold SeqAt.shaped
        unfold toPy at l1 d1
        rw [l1, decide_eq_true d1]; rfl
      · unfold SeqAt.shaped; rw [l2, decide_eq_true d2']; rfl
      · rw [eqv_toPy 63 64 z _ hz hp.2]; exact h5
      · rw [toPys_get] at hz'
        obtain ⟨z2, e5, rfl⟩ := Option.map_eq_some_iff.mp hz'
        rw [eqv_toPy 63 64 z2 _ (plainDs_get hp.1 e5) hp.2]
        exact h6 m z2 hm e5
    · cases e3
  | _ => cases e3
/-! ## a, b = x, y -/
def mPar2 (i j : Nat) (ma mb : En → Mo Dt) : En → Mo Fl := fun ρ => (ma ρ).bind fun x => (mb ρ).bind fun y => .ret (.nx ((ρ.set i (.fz x)).set j (.fz y)))
def mPar3 (i j l : Nat) (ma mb mc : En → Mo Dt) : En → Mo Fl := fun ρ => (ma ρ).bind fun x => (mb ρ).bind fun y => (mc ρ).bind fun z => .ret (.nx (((ρ.set i (.fz x)).set j (.fz y)).set l (.fz z)))
variable {x y z : Str} {px py pz pt : Pos} {kt k2 : Nat} {pt2 : Pos}
theorem s_par2 (i j : Nat) (hN : X.N.Nodup) (hi : X.N[i]? = some x) (hj : X.N[j]? = some y) (hx : X.env.scope.names.lookup x = some .local) (hy : X.env.scope.names.lookup y = some .local) (ha : PE X a (tM (X.gd Tz) XR E ma)) (hb : PE X b (tM (X.gd Tz) XR E mb)) (hc : X.calm = true := by rfl) (hij : i ≠ j := by decide)
    (hw : swappedStores [.Tuple [.Name x px, .Name y py] kt pt] (.Tuple [a, b] k2 pt2) X.env = pure (some [x, y]) := by rfl)
    (hs : swapsWithSole [.Tuple [.Name x px, .Name y py] kt pt] (.Tuple [a, b] k2 pt2) pos.line X.env = pure false := by rfl)
    (h1 : starEach (a :: [b]) X.env = (false, eval a X.env) :: starEach [b] X.env := by rfl) (h2 : starEach (b :: []) X.env = (false, eval b X.env) :: starEach [] X.env := by rfl) :
    PS X (.Assign [.Tuple [.Name x px, .Name y py] kt pt] (.Tuple [a, b] k2 pt2) pos) (tS (X.gd Tz) XR E (mPar2 i j ma mb)) :=
  PS.imp (ps_par hc hN hi hj hij hx hy (a_cons ha (a_cons hb a_nil h2) h1) hw hs) fun D σ H ⟨r, Z, ρ, Z0, H0, a, h⟩ => by
    have h' : (((mCons ma (mCons mb mNil)) ρ).bind fun l => match l with | [u, v] => (.ret (.nx ((ρ.set i (.fz u)).set j (.fz v))) : Mo Fl) | _ => .err).wp (PF (X.gd Tz) r Z0 H0 Z H D) (PXS (X.gd Tz) XR r Z0 H0 E) := by
      show ((((ma ρ).bind fun x => ((mb ρ).bind fun x => (Mo.ret []).bind fun xs => .ret (x :: xs)).bind fun xs => .ret (x :: xs))).bind _).wp _ _
      simp only [Mo.bind_assoc]
      exact h
    exact tS.splitL a h' fun vs H1 Z1 ds e1 a1 rp h1 => by
      match ds, rp, h1 with
      | [u, v], rp, h1 =>
        obtain ⟨v1, v2, rfl, r1, r2⟩ := rp.two
        exact ⟨v1, v2, rfl, PF.nx h1 ((a1.set r1).set r2) (e1.frz a.wf)⟩
      | [], rp, h1 => exact h1.elim
      | [_], rp, h1 => exact h1.elim
      | _ :: _ :: _ :: _, rp, h1 => exact h1.elim
theorem s_par3 (i j l : Nat) (hN : X.N.Nodup) (hi : X.N[i]? = some x) (hj : X.N[j]? = some y) (hl : X.N[l]? = some z) (hx : X.env.scope.names.lookup x = some .local) (hy : X.env.scope.names.lookup y = some .local) (hz : X.env.scope.names.lookup z = some .local) (ha : PE X a (tM (X.gd Tz) XR E ma)) (hb : PE X b (tM (X.gd Tz) XR E mb)) (hcc : PE X c (tM (X.gd Tz) XR E mc))
    (hc : X.calm = true := by rfl) (hij : i ≠ j := by decide) (hil : i ≠ l := by decide) (hjl : j ≠ l := by decide)
    (hw : swappedStores [.Tuple [.Name x px, .Name y py, .Name z pz] kt pt] (.Tuple [a, b, c] k2 pt2) X.env = pure (some [x, y, z]) := by rfl)
    (hs : swapsWithSole [.Tuple [.Name x px, .Name y py, .Name z pz] kt pt] (.Tuple [a, b, c] k2 pt2) pos.line X.env = pure false := by rfl)
    (h1 : starEach (a :: [b, c]) X.env = (false, eval a X.env) :: starEach [b, c] X.env := by rfl) (h2 : starEach (b :: [c]) X.env = (false, eval b X.env) :: starEach [c] X.env := by rfl) (h3 : starEach (c :: []) X.env = (false, eval c X.env) :: starEach [] X.env := by rfl) :
    PS X (.Assign [.Tuple [.Name x px, .Name y py, .Name z pz] kt pt] (.Tuple [a, b, c] k2 pt2) pos) (tS (X.gd Tz) XR E (mPar3 i j l ma mb mc)) :=
  PS.imp (ps_par3 hc hN hi hj hl hij hil hjl hx hy hz (a_cons ha (a_cons hb (a_cons hcc a_nil h3) h2) h1) hw hs) fun D σ H ⟨r, Z, ρ, Z0, H0, a, h⟩ => by
    have h' : (((mCons ma (mCons mb (mCons mc mNil))) ρ).bind fun ll => match ll with | [u, v, w] => (.ret (.nx (((ρ.set i (.fz u)).set j (.fz v)).set l (.fz w))) : Mo Fl) | _ => .err).wp (PF (X.gd Tz) r Z0 H0 Z H D) (PXS (X.gd Tz) XR r Z0 H0 E) := by
      show ((((ma ρ).bind fun x => ((mb ρ).bind fun x => ((mc ρ).bind fun x => (Mo.ret []).bind fun xs => .ret (x :: xs)).bind fun xs => .ret (x :: xs)).bind fun xs => .ret (x :: xs))).bind _).wp _ _
      simp only [Mo.bind_assoc]
      exact h
    exact tS.splitL a h' fun vs H1 Z1 ds e1 a1 rp h1 => by
      match ds, rp, h1 with
      | [u, v, w], rp, h1 =>
        obtain ⟨v1, vs', rfl, r1, rp'⟩ := rp.inv_cons
        obtain ⟨v2, v3, rfl, r2, r3⟩ := rp'.two
        exact ⟨v1, v2, v3, rfl, PF.nx h1 (((a1.set r1).set r2).set r3) (e1.frz a.wf)⟩
      | [], rp, h1 => exact h1.elim
      | [_], rp, h1 => exact h1.elim
      | [_, _], rp, h1 => exact h1.elim
      | _ :: _ :: _ :: _ :: _, rp, h1 => exact h1.elim
end
end Fw
set_option Elab.async false
set_option linter.all false
set_option maxRecDepth 100000
set_option maxHeartbeats 4000000
namespace Fw
open PySem PySem.Spec PyProof.Rows L2

def blkC (N : List Str) (sc scope : Scope) (own : List (Str × Nat)) : Bool :=
  decide (scope.kind = .function) && scope.names.all (fun y => decide (scope.names.lookup y.1 = some y.2)) && own.all (fun p => decide (N[p.2]? = some p.1)) && scope.names.all (fun y => !decide (y.2 = .free) || (decide (sc.names.lookup y.1 = some .cell) || decide (sc.names.lookup y.1 = some .free))) &&
    scope.names.all (fun y => !(decide (y.2 = .local) || decide (y.2 = .cell)) || (decide (y.1 ∈ own.map (·.1)) || !decide (y.1 ∈ N)))
theorem blk_by {N : List Str} {sc scope : Scope} {own : List (Str × Nat)} (h : blkC N sc scope own = true) : BlkOk N sc scope own := by
  unfold blkC at h
  simp only [Bool.and_eq_true, List.all_eq_true, decide_eq_true_eq, Bool.or_eq_true, Bool.not_eq_true', decide_eq_false_iff_not, Bool.or_eq_false_iff] at h
  obtain ⟨⟨⟨⟨h1, h2⟩, h3⟩, h4⟩, h5⟩ := h
  exact ⟨h1, h2, h3, fun y hy e => (h4 y hy).resolve_left fun q => q e, fun y hy e => (h5 y hy).resolve_left fun q => e.elim q.1 q.2⟩
section
variable {P : Program} {w : World} {K : PySem.W.Frag} {mg : Str → Option Value} {base : Heap}
theorem calErr {x : Str} {st : Stmt} {ps : List Str} {k n : Nat} (D : Df K mg x st ps) : Cal P w K mg base k x n (fun _ => .err) := by
  obtain ⟨f, fd, F, hm, b⟩ := D.ex
  exact ⟨f, fd, ps, fun _ => ⟨fun vs H Q E ⟨_, _, _, _, _, _, h⟩ => h.elim, fun A outer s H args us vs Q E _ _ _ _ ⟨_, _, _, _, _, _, h⟩ => h.elim⟩, hm, F.kp, b⟩
end
/-! ## a draw -/
def isDraw (m : Int) (d : Dt) : Prop := ∃ i : Int, d = .int i ∧ 0 ≤ i ∧ i < m
def mTaken : List Dt → Mo Dt
  | [.row, .int m] => if 0 < m ∧ m < 1073741824 then .any (isDraw m) .ret else .err
  | _ => .err
end Fw
set_option Elab.async false
set_option linter.all false
set_option maxRecDepth 100000
set_option maxHeartbeats 4000000
namespace Fw
open PySem PySem.Spec PyProof.Rows L2

/-! ## reckoning with readings, plain: wp, closed against unfolding -/
@[irreducible] def Wp {α : Type} (m : Mo α) (Q : α → Prop) (R : Nat → Dt → Prop) : Prop := m.wp Q R
section
variable {α β : Type} {Q : α → Prop} {R : Nat → Dt → Prop} {ρ : En} {m a b c : En → Mo Dt} {n k : En → Mo Fl} {QF : Fl → Prop} {QD : Dt → Prop} {QL : List Dt → Prop} {QB : Bool → Prop} {ms : En → Mo (List Dt)} {mt nt : En → Mo Bool} {mg : Dt → En → Mo En} {i : Nat}
theorem Wp_eq (m : Mo α) (Q : α → Prop) (R : Nat → Dt → Prop) : Wp m Q R = m.wp Q R := by unfold Wp; rfl
theorem Wp.out {m : Mo α} (h : Wp m Q R) : m.wp Q R := by rw [Wp_eq] at h; exact h
theorem wq_of {m : Mo α} (h : m.wp Q R) : Wp m Q R := by rw [Wp_eq]; exact h
theorem wq_bind {m : Mo α} {f : α → Mo β} {Q : β → Prop} (h : Wp m (fun x => Wp (f x) Q R) R) : Wp (m.bind f) Q R := wq_of (Mo.wp_bind.mpr (h.out.mono (fun _ q => q.out) fun _ _ x => x))
theorem wq_val {x : α} (h : Q x) : Wp (.ret x) Q R := wq_of h
theorem wq_any {P : Dt → Prop} {f : Dt → Mo α} (h : ∀ d, P d → Wp (f d) Q R) : Wp (.any P f) Q R := wq_of fun d p => (h d p).out
theorem wq_eq {m : Mo α} {x : α} (e : m = .ret x) (h : Q x) : Wp m Q R := by rw [e]; exact wq_val h
theorem wq_go {m : Mo α} {S : α → Prop} (h : Wp m S R) (q : ∀ x, S x → Q x) : Wp m Q R := wq_of (h.out.mono q fun _ _ x => x)
theorem wq_sq (h : Wp (n ρ) (fun f => match f with | .nx ρ' => Wp (k ρ') QF R | f => QF f) R) : Wp (mSq n k ρ) QF R := wq_bind (wq_go h fun f q => by cases f <;> first | exact q | exact wq_val q)
theorem wq_sqE {ρ1 : En} (e : n ρ = .ret (.nx ρ1)) (h : Wp (k ρ1) QF R) : Wp (mSq n k ρ) QF R := wq_sq (wq_eq e h)
theorem wq_nx (h : QF (.nx ρ)) : Wp (mNx ρ) QF R := wq_val h
theorem wq_ret (h : Wp (m ρ) (fun d => QF (.rt d)) R) : Wp (mRet m ρ) QF R := wq_bind (wq_go h fun _ q => wq_val q)
theorem wq_retE {x : Dt} (e : m ρ = .ret x) (h : QF (.rt x)) : Wp (mRet m ρ) QF R := wq_ret (wq_eq e h)
theorem wq_drop (h : Wp (m ρ) (fun _ => QF (.nx ρ)) R) : Wp (mDrop m ρ) QF R := wq_bind (wq_go h fun _ q => wq_val q)
theorem wq_set (h : Wp (m ρ) (fun d => QF (.nx (ρ.set i (.fz d)))) R) : Wp (mSet i m ρ) QF R := wq_bind (wq_go h fun _ q => wq_val q)
theorem wq_asg (h : Wp (m ρ) (fun d => Wp ((mg d ρ).nox) (fun ρ' => QF (.nx ρ')) R) R) : Wp (mAsg m mg ρ) QF R := wq_bind (wq_go h fun _ q => wq_bind (wq_go q fun _ q => wq_val q))
theorem wq_if (h : Wp (mt ρ) (fun b => match b with | true => Wp (n ρ) QF R | false => Wp (k ρ) QF R) R) : Wp (mIfS mt n k ρ) QF R := wq_bind (wq_go h fun b q => by cases b <;> exact q)
theorem wq_ifT (e : mt ρ = .ret true) (h : Wp (n ρ) QF R) : Wp (mIfS mt n k ρ) QF R := wq_if (wq_eq e h)
theorem wq_ifF (e : mt ρ = .ret false) (h : Wp (k ρ) QF R) : Wp (mIfS mt n k ρ) QF R := wq_if (wq_eq e h)
theorem wq_for (h : Wp (ms ρ) (fun ds => Wp (forGo mg n ds ρ) QF R) R) : Wp (mFor ms mg n ρ) QF R := wq_bind h
theorem wq_forE {ds : List Dt} (e : ms ρ = .ret ds) (h : Wp (forGo mg n ds ρ) QF R) : Wp (mFor ms mg n ρ) QF R := wq_for (wq_eq e h)
theorem wq_done (h : QF (.nx ρ)) : Wp (forGo mg n [] ρ) QF R := wq_val h
theorem wq_lc {vs : List Nat} {me : En → Mo Dt} (h : Wp (ms ρ) (fun ds => Wp (lcGo vs mg mt me ρ ds) (fun ys => QD (.lst ys)) R) R) : Wp (mLc vs ms mg mt me ρ) QD R := wq_bind (wq_go h fun _ q => wq_bind (wq_go q fun _ q => wq_val q))
theorem wq_lcE {vs : List Nat} {me : En → Mo Dt} {ds : List Dt} (e : ms ρ = .ret ds) (h : Wp (lcGo vs mg mt me ρ ds) (fun ys => QD (.lst ys)) R) : Wp (mLc vs ms mg mt me ρ) QD R := wq_lc (wq_eq e h)
theorem wq_cal {x : Nat} {F : List Dt → Mo Dt} (h : Wp (ms ρ) (fun ds => ds.length = x ∧ Wp (F ds) QD R) R) : Wp (mCal x F ms ρ) QD R := wq_bind (wq_go h fun _ q => by rw [if_pos q.1]; exact q.2)
theorem wq_calE {x : Nat} {F : List Dt → Mo Dt} {ds : List Dt} (e : ms ρ = .ret ds) (hl : ds.length = x) (h : Wp (F ds) QD R) : Wp (mCal x F ms ρ) QD R := wq_cal (wq_eq e ⟨hl, h⟩)
theorem wq_flo {m : Mo Fl} (h : Wp m (fun f => match f with | .rt d => QD d | .nx _ => QD .non | _ => False) R) : Wp (m.bind flo) QD R := wq_bind (wq_go h fun f q => by cases f <;> first | exact wq_val q | exact q.elim)
theorem wq_run {N : Nat} {ds : List Dt} (h : Wp (n (ds.map .fz ++ List.replicate (N - ds.length) .un)) (fun f => match f with | .rt d => QD d | .nx _ => QD .non | _ => False) R) : Wp (run N n ds) QD R := wq_flo h
theorem wq_par2 {i j : Nat} (h : Wp (a ρ) (fun x => Wp (b ρ) (fun y => QF (.nx ((ρ.set i (.fz x)).set j (.fz y)))) R) R) : Wp (mPar2 i j a b ρ) QF R := wq_bind (wq_go h fun _ q => wq_bind (wq_go q fun _ q => wq_val q))
theorem wq_two {g : Dt → Dt → Option Dt} (h : Wp (a ρ) (fun x => Wp (b ρ) (fun y => Wp (ofO (g x y)) QD R) R) R) : Wp (m2 g a b ρ) QD R := wq_bind (wq_go h fun _ q => wq_bind q)
theorem wq_tru (h : Wp (m ρ) (fun d => Wp (ofO (truD d)) QB R) R) : Wp (mTru m ρ) QB R := wq_bind h
theorem wq_tst (h : Wp (m ρ) (fun d => Wp (ofO (tstD d)) QB R) R) : Wp (mTst m ρ) QB R := wq_bind h
theorem wq_not (h : Wp (mt ρ) (fun b => QB (!b)) R) : Wp (mNot mt ρ) QB R := wq_bind (wq_go h fun _ q => wq_val q)
theorem wq_or (h : Wp (mt ρ) (fun b => match b with | true => QB true | false => Wp (nt ρ) QB R) R) : Wp (mOr mt nt ρ) QB R := wq_bind (wq_go h fun b q => by cases b <;> first | exact q | exact wq_val q)
theorem wq_and (h : Wp (mt ρ) (fun b => match b with | true => Wp (nt ρ) QB R | false => QB false) R) : Wp (mAnd mt nt ρ) QB R := wq_bind (wq_go h fun b q => by cases b <;> first | exact q | exact wq_val q)
theorem wq_o {o : Option α} {x : α} (e : o = some x) (h : Q x) : Wp (ofO o) Q R := by rw [e]; exact wq_val h
theorem to_nox {m : Mo α} (h : Wp m Q (fun _ _ => False)) : Wp (Mo.nox m) Q R := by
  rw [Wp_eq] at h ⊢
  induction m with
  | ret _ => exact h
  | any P k ih => exact fun d q => ih d (h d q)
  | exc _ _ => exact h.elim
  | err => exact h.elim
theorem forGo_cons {x : Dt} {ds : List Dt} {ρ1 ρ2 : En} (h1 : (mg x ρ).nox = .ret ρ1) (h2 : n ρ1 = .ret (.nx ρ2)) : forGo mg n (x :: ds) ρ = forGo mg n ds ρ2 := by
  show (mg x ρ).nox.bind _ = _
  rw [h1]
  show (n ρ1).bind _ = _
  rw [h2]
  rfl
/-- a turn of a loop -/
theorem wq_turn {x : Dt} {ds : List Dt} {ρ1 : En} (h1 : (mg x ρ).nox = .ret ρ1) (h : Wp (n ρ1) (fun f => match f with | .nx ρ2 => Wp (forGo mg n ds ρ2) QF R | .ct ρ2 => Wp (forGo mg n ds ρ2) QF R | .bk ρ2 => QF (.nx ρ2) | .rt d => QF (.rt d)) R) : Wp (forGo mg n (x :: ds) ρ) QF R := by
  have e : forGo mg n (x :: ds) ρ = (n ρ1).bind fun f => match f with | .nx ρ2 => forGo mg n ds ρ2 | .ct ρ2 => forGo mg n ds ρ2 | .bk ρ2 => .ret (.nx ρ2) | .rt d => .ret (.rt d) := by
    show (mg x ρ).nox.bind _ = _
    rw [h1]
    rfl
  rw [e]
  exact wq_bind (wq_go h fun f q => by cases f <;> first | exact q | exact wq_val q)
/-- a turn of a comprehension -/
theorem wq_lcT {vs : List Nat} {me : En → Mo Dt} {x : Dt} {ds : List Dt} {ρ1 : En} (h1 : (mg x (wipeE ρ vs)).nox = .ret ρ1) (h : Wp (mt ρ1) (fun b => match b with | true => Wp (me ρ1) (fun y => Wp (lcGo vs mg mt me ρ ds) (fun ys => QL (y :: ys)) R) (fun _ _ => False) | false => Wp (lcGo vs mg mt me ρ ds) QL R) (fun _ _ => False)) : Wp (lcGo vs mg mt me ρ (x :: ds)) QL R := by
  have e : lcGo vs mg mt me ρ (x :: ds) = (mt ρ1).nox.bind fun b => match b with
    | true => (me ρ1).nox.bind fun y => (lcGo vs mg mt me ρ ds).bind fun ys => .ret (y :: ys)
    | false => lcGo vs mg mt me ρ ds := by
    show (mg x (wipeE ρ vs)).nox.bind _ = _
    rw [h1]
    rfl
  rw [e]
  exact wq_bind (wq_go (to_nox h) fun b q => by
    cases b
    · exact q
    · exact wq_bind (wq_go (to_nox q) fun y q => wq_bind (wq_go q fun _ q => wq_val q)))
theorem wq_lcN {vs : List Nat} {me : En → Mo Dt} (h : QL []) : Wp (lcGo vs mg mt me ρ []) QL R := wq_val h
end
end Fw
set_option Elab.async false
set_option linter.all false
set_option maxRecDepth 100000
set_option maxHeartbeats 4000000
namespace Fw
open PySem PySem.Spec PyProof.Rows L2

/-! ## what the top has written, as data -/
structure Wr (K : PySem.W.Frag) (P : Params) (u : Value) (d : Dt) : Prop where
  ex : ∃ v : V, RelV v u ∧ ∀ T r Z H, Rep ⟨K, P, T⟩ r Z H v d
inductive Wrs (K : PySem.W.Frag) (P : Params) : List Value → List Dt → Prop
  | nil : Wrs K P [] []
  | cons {u : Value} {d : Dt} {us : List Value} {ds : List Dt} : Wr K P u d → Wrs K P us ds → Wrs K P (u :: us) (d :: ds)
section
variable {K : PySem.W.Frag} {P : Params} {mg : Str → Option Value} {h : Heap}
theorem Wr.int {i : Int} {t : Tok} : Wr K P (.int i t) (.int i) := ⟨.int i, ⟨_, rfl⟩, fun _ _ _ _ => Rep.mk_int⟩
theorem Wr.str {x : Str} {t : Tok} (l : List Nat) (h : x = st l := by rfl) : Wr K P (.str x t) (.str l) := by
  subst h
  exact ⟨.str (st l), ⟨_, rfl⟩, fun _ _ _ _ => Rep.mk_str⟩
theorem Wrs.out {us : List Value} {ds : List Dt} (h : Wrs K P us ds) : ∃ vs, Vals vs us ∧ ∀ T r Z H, Reps ⟨K, P, T⟩ r Z H vs ds := by
  induction h with
  | nil => exact ⟨[], .nil, fun _ _ _ _ => Reps.nil⟩
  | cons h t ih =>
    obtain ⟨v, r1, r2⟩ := h.ex
    obtain ⟨vs, q1, q2⟩ := ih
    exact ⟨v :: vs, .cons r1 q1, fun T r Z H => Reps.cons (r2 T r Z H) (q2 T r Z H)⟩
theorem Wrs.len {us : List Value} {ds : List Dt} (h : Wrs K P us ds) : us.length = ds.length := by
  induction h with
  | nil => rfl
  | cons h t ih => rw [List.length_cons, List.length_cons, ih]
theorem rep_tup {a : Addr} {dd : Option Addr} {us : List Value} {n : Nat} {sl : Array (Option Value)} {ds : List Dt} (l : K.lookup a = some ⟨.type "tuple", dd, .seq us.toArray n, sl⟩) (h : Wrs K P us ds) (hs : ds.length ≤ 16777216) : ∀ T r Z H, Rep ⟨K, P, T⟩ r Z H (.ref a) (.tup ds) := by
  obtain ⟨vs, q1, q2⟩ := h.out
  have hl : vs.length = ds.length := (q2 ⟨[], [], []⟩ 0 (fun _ => False) (fun _ => none)).length
  have hu : us.length = ds.length := h.len
  exact fun T r Z H => Rep.mk_tup (.inr ⟨_, us.toArray, n, l, rfl, rfl, by rw [List.size_toArray, hu]; exact sl16 hs, q1⟩) (by rw [hl]; exact sl16 hs) (q2 T r Z H)
theorem Wr.tup {a : Addr} {dd : Option Addr} {us : List Value} {n : Nat} {sl : Array (Option Value)} {ds : List Dt} (l : K.lookup a = some ⟨.type "tuple", dd, .seq us.toArray n, sl⟩) (h : Wrs K P us ds) (hs : ds.length ≤ 16777216 := by decide) : Wr K P (.ref a) (.tup ds) := ⟨.ref a, rfl, rep_tup l h hs⟩
/-- entries of a written dict: key and value -/
inductive Wre (K : PySem.W.Frag) (P : Params) : List DictEntry → List (List Nat) → List Dt → Prop
  | nil : Wre K P [] [] []
  | cons {x : Str} {t : Tok} {u : Value} {d : Dt} {k : List Nat} {es : List DictEntry} {ks : List (List Nat)} {ds : List Dt} : x = st k → Wr K P u d → Wre K P es ks ds → Wre K P ({ hash := PyData.keyHash P x, key := .str x t, val := u } :: es) (k :: ks) (d :: ds)
theorem Wre.out {es : List DictEntry} {ks : List (List Nat)} {ds : List Dt} (h : Wre K P es ks ds) : ∃ vs, KEnts P es ((kS ks).zip vs) ∧ ks.length = vs.length ∧ ∀ T r Z H, Reps ⟨K, P, T⟩ r Z H vs ds := by
  induction h with
  | nil => exact ⟨[], .nil, rfl, fun _ _ _ _ => Reps.nil⟩
  | cons e h t ih =>
    obtain ⟨v, r1, r2⟩ := h.ex
    obtain ⟨vs, q1, q2, q3⟩ := ih
    subst e
    exact ⟨v :: vs, .cons rfl rfl r1 q1, by rw [List.length_cons, List.length_cons, q2], fun T r Z H => Reps.cons (r2 T r Z H) (q3 T r Z H)⟩
theorem Wr.dk {a : Addr} {es : List DictEntry} {n : Nat} {ks : List (List Nat)} {ds : List Dt} (l : K.lookup a = some ⟨.type "dict", none, .dict es.toArray n, #[]⟩) (hs : (a == sysModules) = false) (h : Wre K P es ks ds) (hn : ks.Nodup := by decide) (hl : ks.length < 1000 := by decide) : Wr K P (.ref a) (.dk ks ds) := by
  obtain ⟨vs, q1, q2, q3⟩ := h.out
  refine ⟨.ref a, rfl, fun T r Z H => ?_⟩
  unfold Rep
  refine ⟨a, vs, rfl, .inr ⟨hs, ?_, ?_, es.toArray, n, l, q1⟩, q2, hl, q3 T r Z H⟩
  · rw [List.map_fst_zip (by unfold kS; rw [List.length_map]; omega)]
    exact kS_nodup hn
  · rw [List.length_zip]
    unfold kS
    rw [List.length_map]
    omega
theorem gv_mk {x : Str} {u : Value} {d : Dt} (hm : mg x = some u) (h : Wr K P u d) : Gv K P mg x d := by
  obtain ⟨v, r1, r2⟩ := h.ex
  exact ⟨u, v, hm, r1, r2⟩
theorem gt_mk {x : Str} {a : Addr} {us : List Value} {n : Nat} {sl : Array (Option Value)} {ds : List Dt} (hm : mg x = some (.ref a)) (l : K.lookup a = some ⟨.type "tuple", none, .seq us.toArray n, sl⟩) (h : Wrs K P us ds) (hs : ds.length ≤ 16777216 := by decide) : Gt K P mg x (.tup ds) :=
  ⟨a, _, hm, l, rfl, rfl, rep_tup l h hs⟩
end
end Fw
set_option Elab.async false
set_option linter.all false
set_option maxRecDepth 100000
set_option maxHeartbeats 4000000
namespace Fw
open PySem PySem.Spec PyProof.Rows L2

/-! ## [.. for .. in .. for .. in ..] -/
def lc2Go (vs : List Nat) (mg : Dt → En → Mo En) (mt : En → Mo Bool) (inner : En → Mo (List Dt)) (ρ : En) : List Dt → Mo (List Dt)
  | [] => .ret []
  | d :: ds => (mg d (wipeE ρ vs)).nox.bind fun ρ1 => (mt ρ1).nox.bind fun b => match b with
    | true => (inner ρ1).bind fun ys => (lc2Go vs mg mt inner ρ ds).bind fun zs => .ret (ys ++ zs)
    | false => lc2Go vs mg mt inner ρ ds
/-- the second clause's list -/
def mIn (vs1 : List Nat) (mi1 : En → Mo (List Dt)) (mg1 : Dt → En → Mo En) (mt1 : En → Mo Bool) (me : En → Mo Dt) : En → Mo (List Dt) := fun ρ => (mi1 ρ).nox.bind fun ds => if ds.length ≤ 1000 then lcGo vs1 mg1 mt1 me ρ ds else .err
def mLc2 (vs vs1 : List Nat) (mi : En → Mo (List Dt)) (mg : Dt → En → Mo En) (mt : En → Mo Bool) (mi1 : En → Mo (List Dt)) (mg1 : Dt → En → Mo En) (mt1 : En → Mo Bool) (me : En → Mo Dt) : En → Mo Dt := fun ρ => (mi ρ).bind fun ds => if ds.length ≤ 1000 then (lc2Go vs mg mt (mIn vs1 mi1 mg1 mt1 me) ρ ds).bind fun ys => .ret (.lst ys) else .err
section
variable {G : Gd} {XR : XRel} {E : Sg → XK}
/-- a heap without one object -/
def less (H : Hp) (D : Addr) : Hp := fun a => if a = D then none else H a
theorem less_self {H : Hp} {D : Addr} : less H D D = none := by unfold less; rw [if_pos rfl]
theorem less_ne {H : Hp} {D a : Addr} (h : a ≠ D) : less H D a = H a := by unfold less; rw [if_neg h]
theorem less_frz {Z : Addr → Prop} {H : Hp} {D : Addr} (hz : ¬ Z D) : Frz Z H Z (less H D) := fun a z => ⟨z, less_ne fun e => hz (e ▸ z)⟩
theorem tabs_less {T : List (Addr × Str)} {H : Hp} {p : Addr} (t : LamX.Tabs T H) (h : ∀ u, H p = some u → lowO u) : LamX.Tabs T (less H p) := fun q hq => by
  obtain ⟨ps, h1, h2, h3⟩ := t q hq
  have n1 : q.1 ≠ p := fun e => by rw [e] at h1; exact h _ h1
  refine ⟨ps, by rw [less_ne n1]; exact h1, h2, fun pos cv hc => ?_⟩
  obtain ⟨c, e1, e2⟩ := h3 pos cv hc
  have n2 : c ≠ p := fun e => by rw [e] at e2; exact h _ e2
  exact ⟨c, e1, by rw [less_ne n2]; exact e2⟩
theorem less_wf {r : Addr} {Z : Addr → Prop} {H : Hp} {D : Addr} (w : Wf G r Z H) (hz : ¬ Z D) (hr : D ≠ r) (hl : ∀ u, H D = some u → lowO u) : Wf G r Z (less H D) := by
  have f := less_frz (H := H) hz
  obtain ⟨a, ns, i, s, k, e, hs, q⟩ := w.row
  refine ⟨⟨a, ns, i, s, k, by rw [less_ne (Ne.symm hr)]; exact e, hs.frz f, q⟩, w.rz, fun a z => ?_, tabs_less w.tb hl⟩
  rw [(f a z).2]
  exact w.al a z
theorem less_st {r : Addr} {Z : Addr → Prop} {H : Hp} {D : Addr} {σ : Sg} {ρ : En} (hz : ¬ Z D) (s : StOk G r Z H σ ρ) (hown : ∀ (c : Nat) t p, ρ[c]? = some t → isOwn t = true → σ[c]? = some (some (V.ref p)) → p ≠ D) : StOk G r Z (less H D) σ ρ := by
  have f := less_frz (H := H) hz
  refine ⟨s.len, fun j v t e1 e2 => ?_, s.own⟩
  have q := s.sl j v t e1 e2
  cases t with
  | un => trivial
  | fz d => obtain ⟨x, q1, q2⟩ := q; exact ⟨x, q1, q2.frz f⟩
  | ol ds =>
    obtain ⟨p, vs, q1, q2, q3, q4, q5, q6⟩ := q
    subst q1
    exact ⟨p, vs, rfl, q2, q3, by rw [less_ne (hown j _ p e2 rfl e1)]; exact q4, q5, q6.frz f⟩
  | od ks ds =>
    obtain ⟨p, vs, q1, q2, q3, q4, q5, q5', q6⟩ := q
    subst q1
    exact ⟨p, vs, rfl, q2, q3, by rw [less_ne (hown j _ p e2 rfl e1)]; exact q4, q5, q5', q6.frz f⟩
theorem less_ext {r : Addr} {Z : Addr → Prop} {H : Hp} {D : Addr} (w : Wf G r Z H) (hz : ¬ Z D) : Ext G r Z (less H D) Z H := by
  refine ⟨w, fun a o n e _ => ?_, fun a ps e => ?_, fun _ z => z, fun _ z => .inl z⟩
  · by_cases h : a = D
    · subst h; rw [less_self] at e; cases e
    · rwa [less_ne h] at e
  · by_cases h : a = D
    · subst h; rw [less_self] at e; cases e
    · rw [less_ne h] at e; exact ⟨ps, e⟩
theorem wipeE_own {ρ : En} {c : Nat} {t : Slo} (ho : isOwn t = true) : ∀ {vs : List Nat}, (wipeE ρ vs)[c]? = some t → ρ[c]? = some t
  | [], h => h
  | v :: vs, h => by
    unfold wipeE at h
    by_cases e : v = c
    · subst e
      have hl := (List.getElem?_eq_some_iff.mp h).1
      rw [List.length_set] at hl
      rw [List.getElem?_set_self hl] at h
      cases h
      cases ho
    · rw [List.getElem?_set_ne e] at h
      exact wipeE_own ho h
/-- the second source's own loop, the list of what is made being at D -/
theorem lc_in {vs ts : List Nat} {mg : Dt → En → Mo En} {mt : En → Mo Bool} {me : En → Mo Dt} (hts : ∀ i ∈ ts, i ∈ vs) {σ : Sg} {ρ : En} {r : Addr} {Z : Addr → Prop} {H : Hp} {D : Addr} {J : It} {acc0 : List V} {accd0 ds : List Dt}
    {β : Type} {k : List Dt → Mo β} {P : β → Prop} {R : Nat → Dt → Prop} (w : Wf G r Z H) (st0 : StOk G r Z (less H D) σ ρ) (ok : ItOk G r Z H J ds) (nD : ¬ Z D) (hD : H D = some (.lst acc0)) (hDr : D ≠ r) (ra : Reps G r Z H acc0 accd0) (hl : acc0.length + ds.length ≤ sizeLine)
    (h : ((lcGo vs mg mt me ρ ds).bind fun ys => k (accd0 ++ ys)).wp P R) (Nx : Hp → Prop)
    (hNx : ∀ Z2 H2 acc accd, Ext G r Z (less H D) Z2 H2 → ¬ Z2 D → H2 D = some (.lst acc) → Reps G r Z2 H2 acc accd → acc.length ≤ acc0.length + ds.length → (k accd).wp P R → Nx H2) :
    ∃ W1 : Nat → Nat → Hp → Prop, (∃ m, W1 0 m H) ∧ ∀ j q H', W1 j q H' → (J.stop j H' ∧ Nx H') ∨ (J.go j H' ∧ ∃ Nx1 : Hp → Prop, (∀ H2, Nx1 H2 → ∃ q', q' < q ∧ W1 (j + 1) q' H2) ∧ ∀ x H2, J.yld j H' x H2 → gM G ts mg x (wipe σ vs) H2 fun σ3 H5 => wipe σ3 vs = wipe σ vs ∧ tMb G XR EX0 mt σ3 H5 fun b H6 =>
      if b = true then tM G XR EX0 me σ3 H6 fun y H7 => ∃ acc, H7 D = some (.lst acc) ∧ acc.length < sizeLine ∧ Nx1 (upd H7 D (.lst (acc ++ [y]))) else Nx1 H6) := by
  have wl := less_wf w nD hDr (low_at hD trivial)
  have key : ∀ {Z2 H2}, Ext G r Z (less H D) Z2 H2 → ¬ Z2 D → Frz Z H Z2 H2 := fun e nD2 a z => ⟨e.sub a z, by
    have := (e.frz wl a z).2
    rw [this, less_ne (fun q => nD (by rw [← q]; exact z))]⟩
  refine ⟨fun j m H2 => m = ds.length - j ∧ j ≤ ds.length ∧ ∃ Z2 acc accd, Ext G r Z (less H D) Z2 H2 ∧ ¬ Z2 D ∧ H2 D = some (.lst acc) ∧ Reps G r Z2 H2 acc accd ∧ acc.length ≤ acc0.length + j ∧
    ((lcGo vs mg mt me ρ (ds.drop j)).bind fun ys => k (accd ++ ys)).wp P R, ⟨ds.length, by simp, Nat.zero_le _, Z, acc0, accd0, less_ext w nD, nD, hD, ra, Nat.le_refl _, h⟩, ?_⟩
  rintro j m H2 ⟨rfl, hj, Z2, acc, accd, e2, nD2, hD2, ra2, la, h2⟩
  have w2 := e2.wf
  have st2 : StOk G r Z2 H2 σ ρ := st0.ext wl e2
  by_cases hlt : j < ds.length
  · refine .inr ⟨ok.go Z2 H2 w2 (key e2 nD2) j hlt, fun H' => j + 1 ≤ ds.length ∧ ∃ Z2 acc accd, Ext G r Z (less H D) Z2 H' ∧ ¬ Z2 D ∧ H' D = some (.lst acc) ∧ Reps G r Z2 H' acc accd ∧ acc.length ≤ acc0.length + (j + 1) ∧
      ((lcGo vs mg mt me ρ (ds.drop (j + 1))).bind fun ys => k (accd ++ ys)).wp P R, fun H' hN => ⟨ds.length - (j + 1), by omega, rfl, hN⟩, fun x H' hy => ?_⟩
    obtain ⟨Z3, e3, rp3⟩ := ok.yld Z2 H2 w2 (key e2 nD2) j ds[j] x H' (List.getElem?_eq_getElem hlt) hy
    rw [List.drop_eq_getElem_cons hlt] at h2
    have hl2 : acc.length < sizeLine := by omega
    have hk : ∀ {Zk Hk}, Ext G r Z2 H2 Zk Hk → Reps G r Zk Hk acc accd := fun ek => ra2.frz (ek.frz w2)
    refine lc_turn (k := k) hts w2 st2 nD2 hD2 hDr ra2 hl2 e3 rp3 h2 _ (fun Zk Hk y ek yd ry hDk nDk hw => ⟨by omega, Zk, acc ++ [y], accd ++ [yd], ?_, nDk, upd_same, ?_, ?_, hw⟩) fun Zk Hk ek hDk nDk hw => ⟨by omega, Zk, acc, accd, e2.trans ek, nDk, hDk, hk ek, by omega, hw⟩
    · have e4 := e2.trans ek
      exact e4.wr hDr nDk less_self hDk trivial
    · exact ((hk ek).append (Reps.cons ry Reps.nil)).frz (frz_upd nDk)
    · rw [List.length_append]; show acc.length + 1 ≤ acc0.length + (j + 1); omega
  · have ej : j = ds.length := by omega
    subst ej
    rw [List.drop_length] at h2
    have h3 : (k (accd ++ [])).wp P R := h2
    rw [List.append_nil] at h3
    exact .inl ⟨ok.stop Z2 H2 w2 (key e2 nD2), hNx Z2 H2 acc accd e2 nD2 hD2 ra2 la h3⟩
end
section
variable {X : Cx} {Tz : Tbs} {XR : XRel} {E : Sg → XK} {elt tg iter tg1 iter1 : Expr} {ifs ifs1 : List Expr} {scope : Scope} {own : List (Str × Nat)} {pos : Pos} {mi mi1 : En → Mo (List Dt)} {mg mg1 : Dt → En → Mo En} {mt mt1 : En → Mo Bool} {me : En → Mo Dt} {ts ts1 vs1 : List Nat}
theorem lc2_of (hts : ∀ i ∈ ts, i ∈ own.map (·.2)) (hts1 : ∀ i ∈ ts1, i ∈ vs1) {σ : Sg} {H : Hp} {Q : VK} (h : tM (X.gd Tz) XR E (mLc2 (own.map (·.2)) vs1 mi mg mt mi1 mg1 mt1 me) σ H Q) :
    tLc2 (iM (X.gd Tz) XR E mi) (gM (X.gd Tz) ts mg) (tMb (X.gd Tz) XR EX0 mt) (iM (X.gd Tz) XR EX0 mi1) (gM (X.gd Tz) ts1 mg1) (tMb (X.gd Tz) XR EX0 mt1) (tM (X.gd Tz) XR EX0 me) (own.map (·.2)) vs1 σ H Q := by
  obtain ⟨r, Z, ρ, w, st0, h⟩ := h
  refine ⟨r, Z, ρ, w, st0, (Mo.wp_bind.mp h).mono (fun ds hds J H1 Z1 e1 ok D hD => ?_) fun _ _ x => x⟩
  have hdl : ds.length ≤ 1000 := Decidable.byContradiction fun q => by
    rw [if_neg q] at hds
    exact hds.elim
  rw [if_pos hdl] at hds
  have w1 := e1.wf
  have nD := w1.nz hD
  have stB : StOk (X.gd Tz) r Z1 H1 σ ρ := st0.ext w e1
  have ownB : ∀ (c : Nat) t p, ρ[c]? = some t → isOwn t = true → σ[c]? = some (some (V.ref p)) → p ≠ D := fun c t p q1 q2 q3 => stB.notNone hD c t q1 q2 |> fun z e => z (by rw [q3, e])
  have hlim : 1000000 ≤ sizeLine := by rw [sizeLine_eq]; decide
  refine ⟨fun i m H2 => m = ds.length - i ∧ i ≤ ds.length ∧ ∃ Z2 acc accd, Ext (X.gd Tz) r Z1 H1 Z2 H2 ∧ ¬ Z2 D ∧ H2 D = some (.lst acc) ∧ Reps (X.gd Tz) r Z2 H2 acc accd ∧ acc.length ≤ i * 1000 ∧
    ((lc2Go (own.map (·.2)) mg mt (mIn vs1 mi1 mg1 mt1 me) ρ (ds.drop i)).bind fun ys => .ret (.lst (accd ++ ys))).wp (PV (X.gd Tz) r Z H Q) (PX (X.gd Tz) XR r Z H (E σ)), ⟨ds.length, by simp, Nat.zero_le _, Z1, [], [], Ext.own w1 hD, nD.1, upd_same, Reps.nil, Nat.zero_le _, hds⟩, ?_⟩
  rintro i m H2 ⟨rfl, hi, Z2, acc, accd, e2, nD2, hD2, ra, la, h2⟩
  have w2 := e2.wf
  have st2 : StOk (X.gd Tz) r Z2 H2 σ ρ := stB.ext w1 e2
  by_cases hlt : i < ds.length
  · refine .inr ⟨ok.go Z2 H2 w2 (e2.frz w1) i hlt, fun H' => i + 1 ≤ ds.length ∧ ∃ Z2 acc accd, Ext (X.gd Tz) r Z1 H1 Z2 H' ∧ ¬ Z2 D ∧ H' D = some (.lst acc) ∧ Reps (X.gd Tz) r Z2 H' acc accd ∧ acc.length ≤ (i + 1) * 1000 ∧
      ((lc2Go (own.map (·.2)) mg mt (mIn vs1 mi1 mg1 mt1 me) ρ (ds.drop (i + 1))).bind fun ys => .ret (.lst (accd ++ ys))).wp (PV (X.gd Tz) r Z H Q) (PX (X.gd Tz) XR r Z H (E σ)), fun H' hN => ⟨ds.length - (i + 1), by omega, rfl, hN⟩, fun x H' hy => ?_⟩
    obtain ⟨Z3, e3, rp3⟩ := ok.yld Z2 H2 w2 (e2.frz w1) i ds[i] x H' (List.getElem?_eq_getElem hlt) hy
    rw [List.drop_eq_getElem_cons hlt] at h2
    have st1 : StOk (X.gd Tz) r Z3 H' (wipe σ (own.map (·.2))) (wipeE ρ (own.map (·.2))) := (st2.ext w2 e3).wipe _
    rw [show lc2Go (own.map (·.2)) mg mt (mIn vs1 mi1 mg1 mt1 me) ρ (ds[i] :: ds.drop (i + 1)) = (mg ds[i] (wipeE ρ (own.map (·.2)))).nox.bind fun ρ1 => (mt ρ1).nox.bind fun b => match b with
      | true => (mIn vs1 mi1 mg1 mt1 me ρ1).bind fun ys => (lc2Go (own.map (·.2)) mg mt (mIn vs1 mi1 mg1 mt1 me) ρ (ds.drop (i + 1))).bind fun zs => .ret (ys ++ zs)
      | false => lc2Go (own.map (·.2)) mg mt (mIn vs1 mi1 mg1 mt1 me) ρ (ds.drop (i + 1)) from rfl, Mo.bind_assoc] at h2
    refine ⟨r, Z3, wipeE ρ (own.map (·.2)), ds[i], e3.wf, st1, rp3, Mo.nox_wp (Mo.wp_bind.mp h2 |>.mono (fun ρ1 hρ => ?_) fun _ _ _ => trivial) (R := fun _ _ => True)⟩
    intro σ2 s2 l2 o2 w2'
    refine ⟨?_, ?_⟩
    · rw [wipe_eq l2 fun j hj => o2 j fun z => hj (hts j z), wipe_wipe]
    have own2 : ∀ (c : Nat) t p, ρ1[c]? = some t → isOwn t = true → σ2[c]? = some (some (V.ref p)) → p ≠ D := fun c t p q1 q2 q3 => by
      obtain ⟨q4, q5⟩ := w2' c t p q1 q2 q3
      exact ownB c t p (wipeE_own q2 q4) q2 (wipe_some q5).1
    rw [Mo.bind_assoc] at hρ
    refine ⟨r, Z3, ρ1, e3.wf, s2, Mo.nox_wp (Mo.wp_bind.mp hρ |>.mono (fun b hb => ?_) fun _ _ _ => trivial) (R := fun _ _ => True)⟩
    intro H3 Z4 e4
    have e24 := e3.trans e4
    have dOf : ∀ {Zk Hk}, Ext (X.gd Tz) r Z2 H2 Zk Hk → ¬ Zk D ∧ Hk D = some (.lst acc) := fun ek => ⟨fun z => (ek.new D z).elim nD2 fun q => new_no q hD2 trivial, ek.grow D _ nD.2 hD2 trivial⟩
    cases b with
    | false =>
      refine ⟨by omega, Z4, acc, accd, e2.trans e24, (dOf e24).1, (dOf e24).2, ra.frz (e24.frz w2), ?_, hb⟩
      rw [Nat.add_mul]
      omega
    | true =>
      rw [if_pos rfl]
      dsimp only at hb
      rw [Mo.bind_assoc, show mIn vs1 mi1 mg1 mt1 me ρ1 = (mi1 ρ1).nox.bind fun ds => if ds.length ≤ 1000 then lcGo vs1 mg1 mt1 me ρ1 ds else .err from rfl, Mo.bind_assoc] at hb
      refine ⟨r, Z4, ρ1, e4.wf, s2.ext e3.wf e4, Mo.nox_wp (Mo.wp_bind.mp hb |>.mono (fun ds1 hd1 => ?_) fun _ _ _ => trivial) (R := fun _ _ => True)⟩
      intro J1 H4 Z5 e5 ok1
      have hl1 : ds1.length ≤ 1000 := Decidable.byContradiction fun q => by
        rw [if_neg q] at hd1
        exact hd1.elim
      rw [if_pos hl1] at hd1
      have e25 := e24.trans e5
      obtain ⟨nD5, hD5⟩ := dOf e25
      have st5 : StOk (X.gd Tz) r Z5 H4 σ2 ρ1 := (s2.ext e3.wf e4).ext e4.wf e5
      have hla : acc.length + ds1.length ≤ sizeLine := by
        have : i * 1000 ≤ 999 * 1000 := Nat.mul_le_mul_right 1000 (by omega)
        omega
      have hcat : ∀ ys : List Dt, ((Mo.bind (lc2Go (own.map (·.2)) mg mt (mIn vs1 mi1 mg1 mt1 me) ρ (ds.drop (i + 1))) fun zs => Mo.ret (ys ++ zs)).bind fun ys => (Mo.ret (Dt.lst (accd ++ ys)) : Mo Dt)) = (fun l => (lc2Go (own.map (·.2)) mg mt (mIn vs1 mi1 mg1 mt1 me) ρ (ds.drop (i + 1))).bind fun zs => (Mo.ret (Dt.lst (l ++ zs)) : Mo Dt)) (accd ++ ys) := fun ys => by
        rw [Mo.bind_assoc]
        show _ = (lc2Go (own.map (·.2)) mg mt (mIn vs1 mi1 mg1 mt1 me) ρ (ds.drop (i + 1))).bind _
        congr 1
        funext zs
        show Mo.ret (Dt.lst (accd ++ (ys ++ zs))) = Mo.ret (Dt.lst ((accd ++ ys) ++ zs))
        rw [List.append_assoc]
      simp only [hcat] at hd1
      refine lc_in (k := fun l => (lc2Go (own.map (·.2)) mg mt (mIn vs1 mi1 mg1 mt1 me) ρ (ds.drop (i + 1))).bind fun zs => (Mo.ret (Dt.lst (l ++ zs)) : Mo Dt)) hts1 e5.wf (less_st nD5 st5 own2) ok1 nD5 hD5 nD.2 (ra.frz (e25.frz w2)) hla hd1 _ fun Z6 H6 acc6 accd6 e6 nD6 hD6 ra6 la6 h6 => ⟨by omega, Z6, acc6, accd6, ?_, nD6, hD6, ra6, ?_, h6⟩
      · have eb : Ext (X.gd Tz) r Z1 H1 Z5 (less H4 D) := by
          have e15 := e2.trans e25
          exact ⟨less_wf e5.wf nD5 nD.2 (low_at hD5 trivial), fun a o n q u => by
            by_cases ad : a = D
            · subst ad; rw [hD] at q; cases q
            · rw [less_ne ad]; exact e15.grow a o n q u, fun a ps q => by
            by_cases ad : a = D
            · subst ad; rw [hD] at q; cases q
            · rw [less_ne ad]; exact e15.tgrow a ps q, e15.sub, e15.new⟩
        exact eb.trans e6
      · rw [Nat.add_mul]
        omega
  · have ei : i = ds.length := by omega
    subst ei
    refine .inl ⟨ok.stop Z2 H2 w2 (e2.frz w1), ?_⟩
    rw [List.drop_length] at h2
    have h3 : PV (X.gd Tz) r Z H Q (.lst (accd ++ [])) := h2
    rw [List.append_nil] at h3
    have w3 : Wf (X.gd Tz) r (Zp Z2 D) H2 := w2.zp nD.2 ⟨_, hD2, trivial⟩
    have e5 : Ext (X.gd Tz) r Z H (Zp Z2 D) H2 := by
      have e4 := e1.trans e2
      refine ⟨w3, e4.grow, e4.tgrow, fun a z => .inl (e4.sub a z), fun a z => ?_⟩
      rcases z with z | z
      · exact e4.new a z
      · rw [z]; exact .inr (.inl (e1.noneOf hD))
    have hl3 : acc.length ≤ sizeLine := by
      have : ds.length * 1000 ≤ 1000 * 1000 := Nat.mul_le_mul_right 1000 hdl
      omega
    refine h3 _ H2 _ e5 (Rep.mk_lst (.inr rfl) hD2 hl3 (ra.frz fun a z => ⟨.inl z, rfl⟩))
theorem e_lc2 (hts : ∀ i ∈ ts, i ∈ own.map (·.2)) (hts1 : ∀ i ∈ ts1, i ∈ vs1) (hc : X.calm = true) (hN : X.N.Nodup) (hi : PI X tg iter (iM (X.gd Tz) XR E mi)) (ok : BlkOk X.N X.env.scope scope own) (hv : ∀ i ∈ vs1, i ∈ own.map (·.2))
    (hg : ∀ (s : Shared) (H : Hp) (C : Addr) (cl : List (Str × Addr)) (fp : List Addr), PG (X.blk s H scope (compEnvC scope cl C X.env) fp) tg (gM (X.gd Tz) ts mg)) (ht : ∀ (s : Shared) (H : Hp) (C : Addr) (cl : List (Str × Addr)) (fp : List Addr), PTs (X.blk s H scope (compEnvC scope cl C X.env) fp) ifs (tMb (X.gd Tz) XR EX0 mt))
    (hi1 : ∀ (s : Shared) (H : Hp) (C : Addr) (cl : List (Str × Addr)) (fp : List Addr), PI (X.blk s H scope (compEnvC scope cl C X.env) fp) tg1 iter1 (iM (X.gd Tz) XR EX0 mi1))
    (hg1 : ∀ (s : Shared) (H : Hp) (C : Addr) (cl : List (Str × Addr)) (fp : List Addr), PG (X.blk s H scope (compEnvC scope cl C X.env) fp) tg1 (gM (X.gd Tz) ts1 mg1)) (ht1 : ∀ (s : Shared) (H : Hp) (C : Addr) (cl : List (Str × Addr)) (fp : List Addr), PTs (X.blk s H scope (compEnvC scope cl C X.env) fp) ifs1 (tMb (X.gd Tz) XR EX0 mt1))
    (he : ∀ (s : Shared) (H : Hp) (C : Addr) (cl : List (Str × Addr)) (fp : List Addr), PE (X.blk s H scope (compEnvC scope cl C X.env) fp) elt (tM (X.gd Tz) XR EX0 me)) (hs : ∀ x, foldedSetIterable iter X.env x = pure x := by intro _; rfl) (hs1 : ∀ env x, foldedSetIterable iter1 env x = pure x := by intro _ _; rfl) :
    PE X (.ListComp elt [⟨tg, iter, ifs, 0⟩, ⟨tg1, iter1, ifs1, 0⟩] scope pos) (tM (X.gd Tz) XR E (mLc2 (own.map (·.2)) vs1 mi mg mt mi1 mg1 mt1 me)) :=
  PE.imp (pe_lc2 hc hN hi ok hv hg ht hi1 hg1 ht1 he hs hs1) fun σ H Q h => lc2_of hts hts1 h
theorem s_setLc2 {y : Str} {py spos : Pos} (i : Nat) (hts : ∀ i ∈ ts, i ∈ own.map (·.2)) (hts1 : ∀ i ∈ ts1, i ∈ vs1) (hc : X.calm = true) (hN : X.N.Nodup) (hy : X.N[i]? = some y) (hyl : X.env.scope.names.lookup y = some .local)
    (hsw : swapsWith (.ListComp elt [⟨tg, iter, ifs, 0⟩, ⟨tg1, iter1, ifs1, 0⟩] scope pos) (some (.Name y py)) spos.line X.env = pure true) (hi : PI X tg iter (iM (X.gd Tz) XR E mi)) (ok : BlkOk X.N X.env.scope scope own) (hv : ∀ i ∈ vs1, i ∈ own.map (·.2))
    (hg : ∀ (s : Shared) (H : Hp) (C : Addr) (cl : List (Str × Addr)) (fp : List Addr), PG (X.blk s H scope (compEnvC scope cl C X.env) fp) tg (gM (X.gd Tz) ts mg)) (ht : ∀ (s : Shared) (H : Hp) (C : Addr) (cl : List (Str × Addr)) (fp : List Addr), PTs (X.blk s H scope (compEnvC scope cl C X.env) fp) ifs (tMb (X.gd Tz) XR EX0 mt))
    (hi1 : ∀ (s : Shared) (H : Hp) (C : Addr) (cl : List (Str × Addr)) (fp : List Addr), PI (X.blk s H scope (compEnvC scope cl C X.env) fp) tg1 iter1 (iM (X.gd Tz) XR EX0 mi1))
    (hg1 : ∀ (s : Shared) (H : Hp) (C : Addr) (cl : List (Str × Addr)) (fp : List Addr), PG (X.blk s H scope (compEnvC scope cl C X.env) fp) tg1 (gM (X.gd Tz) ts1 mg1)) (ht1 : ∀ (s : Shared) (H : Hp) (C : Addr) (cl : List (Str × Addr)) (fp : List Addr), PTs (X.blk s H scope (compEnvC scope cl C X.env) fp) ifs1 (tMb (X.gd Tz) XR EX0 mt1))
    (he : ∀ (s : Shared) (H : Hp) (C : Addr) (cl : List (Str × Addr)) (fp : List Addr), PE (X.blk s H scope (compEnvC scope cl C X.env) fp) elt (tM (X.gd Tz) XR EX0 me)) (hs : ∀ x, foldedSetIterable iter X.env x = pure x := by intro _; rfl) (hs1 : ∀ env x, foldedSetIterable iter1 env x = pure x := by intro _ _; rfl) :
    PS X (.Assign [.Name y py] (.ListComp elt [⟨tg, iter, ifs, 0⟩, ⟨tg1, iter1, ifs1, 0⟩] scope pos) spos) (tS (X.gd Tz) XR E (mSet i (mLc2 (own.map (·.2)) vs1 mi mg mt mi1 mg1 mt1 me))) :=
  PS.imp (ps_setLc2 hc hN hy hyl hsw hi ok hv hg ht hi1 hg1 ht1 he hs hs1) fun D σ H ⟨r, Z, ρ, Z0, H0, a, h⟩ => lc2_of hts hts1 (tS.split a h fun v H1 Z1 d e1 a1 rp h1 => PF.nx h1 (a1.set rp) (e1.frz a.wf))
end
end Fw
set_option Elab.async false
set_option linter.all false
set_option maxRecDepth 100000
set_option maxHeartbeats 4000000
namespace Fw
open PySem PySem.Spec PyProof.Rows L2

/-! ## sets of texts, as they are walked -/
def TxS (P : Program) (w : World) (h : Heap) (a : Addr) (l : List Str) : Prop :=
  ∃ D : Froz.SD, h.get? a = some (Froz.sObj "set" D) ∧ Froz.TxOk P w D l ∧ L2.Ris D.2.2.place.toList ∧ (w.params.followText "set-order" = true ∨ D.2.2.led = true)
theorem addTx_walk (hh : Int) (v : Value) (D : Froz.SD) (r : L2.Ris D.2.2.place.toList) : L2.Ris (Froz.addTx hh v D).2.2.place.toList ∧ (Froz.addTx hh v D).2.2.led = D.2.2.led := by
  obtain ⟨es, ep, t⟩ := D
  have r1 := L2.layNew_ris t es hh v r
  have l1 := L2.layNew_led t es hh v
  have q : ∀ t2 : SetTable, L2.Ris t2.place.toList → t2.led = t.led → ∀ es1 b, L2.Ris (Froz.tailTx ep es1 t2 b).2.2.place.toList ∧ (Froz.tailTx ep es1 t2 b).2.2.led = t.led := fun t2 a1 a2 es1 b => by
    unfold Froz.tailTx
    split
    · exact ⟨L2.relayAll_ris t2 es1 _, (L2.relayAll_led t2 es1 _).trans a2⟩
    · exact ⟨a1, a2⟩
  unfold Froz.addTx
  dsimp only
  split
  · exact q { (layNew t es hh v).2.1 with plain := false } r1 l1 _ _
  · exact q _ r1 l1 _ _
section
variable {P : Program} {w : World} {A : Around} {E : Value → Shared → Prop} {s : Shared}
/-- a text that the set holds already -/
theorem add_old {a : Addr} {D : Froz.SD} {l : List Str} {k : Str} {u : Tok} {Q : Bool → Shared → Prop} (ho : s.heap.get? a = some (Froz.sObj "set" D)) (F : Froz.TxOk P w D l) (hk : k ∈ l) (hb : l.length < scanBound)
    (h : Q false s) : wpAny (model P w) A (setAddHashed a (.str k u) (hashStr w k)) Q E s := by
  obtain ⟨es, ep, t⟩ := D
  have hel : ElemsOf (strKind P w) es.toList := F.el
  have kk : (strKind P w).is k (.str k u) = true := Froz.is_str k u
  unfold setAddHashed setAddHashedIn
  refine wpAny_holding (wpAny_bind (wpAny_setState_of ho rfl F.fit ?_))
  dsimp only
  rw [byScan_of rfl (by have := F.sz; show es.size < scanBound; have e : es.size = l.length := this; omega) hel]
  simp only [↓reduceIte]
  unfold setAddByScan
  refine wpAny_bind (wpAny_bind (wpAny_rule (wpAny_bind (wpAny_setScan_of (knd := strKind P w) (k := k) kk ho rfl F.fit hel ?_))))
  cases hr : List.findIdx? (fun e => (strKind P w).is k e.2) es.toList with
  | some j => exact wpAny_pure (wpAny_pure h)
  | none =>
    obtain ⟨e, he, hp⟩ := (F.mem k).mp hk
    have := List.findIdx?_eq_none_iff.mp hr e he
    rw [hp] at this
    cases this
/-- one more text -/
theorem txs_add {a : Addr} {l : List Str} {k : Str} {u : Tok} {Q : Bool → Shared → Prop} (T : TxS P w s.heap a l) (hb : l.length + 1 < scanBound)
    (h : ∀ h', Heap.SameBut a s.heap h' → TxS P w h' a (if k ∈ l then l else k :: l) → Q (!decide (k ∈ l)) { s with heap := h' }) : wpAny (model P w) A (setAddHashed a (.str k u) (hashStr w k)) Q E s := by
  obtain ⟨D, ho, F, r, ld⟩ := T
  by_cases hk : k ∈ l
  · refine add_old ho F hk (by omega) ?_
    have := h s.heap (Heap.SameBut.refl a s.heap) (by rw [if_pos hk]; exact ⟨D, ho, F, r, ld⟩)
    rw [decide_eq_true hk] at this
    exact this
  · refine Froz.add_x ho F hk hb ?_
    obtain ⟨r2, l2⟩ := addTx_walk (hashStr w k) (.str k u) D r
    have := h (s.heap.update a fun _ => Froz.sObj "set" (Froz.addTx (hashStr w k) (.str k u) D)) ⟨Heap.size_update _ _ _, fun b hb => Heap.get?_update_other _ _ (Ne.symm hb)⟩ (by
      rw [if_neg hk]
      exact ⟨_, Froz.get_upd _ ho rfl, Froz.add_ok u F, r2, by rw [l2]; exact ld⟩)
    rw [decide_eq_false hk] at this
    exact this
theorem TxS.keep {a : Addr} {l : List Str} {h h' : Heap} (T : TxS P w h a l) (k : ∀ o, h.get? a = some o → h'.get? a = some o) : TxS P w h' a l := by
  obtain ⟨D, ho, r⟩ := T
  exact ⟨D, k _ ho, r⟩
/-- what has been seen, each once -/
def seen : List Str → List Str
  | [] => []
  | x :: r => if x ∈ seen r then seen r else x :: seen r
theorem seen_mem {k : Str} : ∀ {l : List Str}, k ∈ seen l ↔ k ∈ l
  | [] => Iff.rfl
  | x :: r => by
    unfold seen
    have ih := seen_mem (k := k) (l := r)
    by_cases h : x ∈ seen r
    · rw [if_pos h, ih, List.mem_cons]
      exact ⟨.inr, fun q => q.elim (fun e => by rw [e]; exact seen_mem.mp h) id⟩
    · rw [if_neg h, List.mem_cons, List.mem_cons, ih]
theorem seen_len : ∀ l : List Str, (seen l).length ≤ l.length
  | [] => Nat.le_refl _
  | x :: r => by
    unfold seen
    have := seen_len r
    split
    · rw [List.length_cons]; omega
    · rw [List.length_cons, List.length_cons]; omega
theorem seen_nodup : ∀ l : List Str, (seen l).Nodup
  | [] => List.nodup_nil
  | x :: r => by
    unfold seen
    split
    · exact seen_nodup r
    · rename_i h
      exact List.nodup_cons.mpr ⟨h, seen_nodup r⟩
/-- the set's own loop over a walk of texts -/
theorem loop_txs {R : Result → Shared → Prop} {I : Addr} {fp wr : List Addr} {G : Array GenState → Array GenState → Prop} {n : Nat} {Pv : Nat → Value → Prop} {St : Nat → Shared → Prop} (W : WalksS P w A.in1 I fp wr G n Pv St) (S : Addr) (hS : S ∉ fp) (xs : List Str) (hn : xs.length = n) (hb : n + 1 < scanBound)
    (hv : ∀ i v, Pv i v → ∃ t x, xs[i]? = some x ∧ v = .str x t) :
    ∀ (k i : Nat) (s : Shared), n - i = k → i ≤ n → St i s → TxS P w s.heap S (seen (xs.take i).reverse) → (∀ s', Moved (S :: wr) G s s' → TxS P w s'.heap S (seen xs.reverse) → R (.ok (.ret .none)) s') →
      codeAny (model P w) A (.builtin "set.update.loop" ⟨[.ref S, .ref I], []⟩) R s := by
  have hw : S ∉ wr := fun h => hS (W.sub _ h)
  have sub : ∀ b ∈ wr, b ∈ S :: wr := fun b hb => List.mem_cons_of_mem _ hb
  intro k
  induction k with
  | zero =>
    intro i s hk hi st T q
    have e : i = n := by omega
    subst e
    refine codeAny_builtin PyProof.Rows.F.entry_set_update_loop ?_
    rw [Around.under_plainId PyProof.Rows.F.plain_set_update_loop _]
    show wpAny _ A.in1 (pyNext (.ref I) >>= _) _ _ s
    refine wpAny_bind (W.done s _ _ st fun s' hm => ?_)
    refine wpAny_pure (q s' (hm.mono sub) ?_)
    have := T.keep fun o => hm.heap S o hw
    rwa [List.take_of_length_le (by omega)] at this
  | succ k ih =>
    intro i s hk hi st T q
    refine codeAny_builtin PyProof.Rows.F.entry_set_update_loop ?_
    rw [Around.under_plainId PyProof.Rows.F.plain_set_update_loop _]
    show wpAny _ A.in1 (pyNext (.ref I) >>= _) _ _ s
    refine wpAny_bind (W.item i s _ _ (by omega) st fun v s' hP st' hm => ?_)
    obtain ⟨t, x, ex, rfl⟩ := hv i v hP
    have T' := T.keep fun o => hm.heap S o hw
    show wpAny _ A.in1 (holding [Value.str x t] (setAdd S (.str x t)) >>= _) _ _ s'
    refine wpAny_bind (wpAny_holding ?_)
    unfold setAdd
    refine wpAny_holding ?_
    refine wpAny_bind ((strKind P w).pyHash (k := x) (Froz.is_str x t) ?_)
    have hlen := seen_len (xs.take i).reverse
    rw [List.length_reverse, List.length_take] at hlen
    refine txs_add (s := { s' with toks := s'.toks + 1 }) T' (by omega) fun h' sb T2 => ?_
    have e2 : seen (xs.take (i + 1)).reverse = if x ∈ seen (xs.take i).reverse then seen (xs.take i).reverse else x :: seen (xs.take i).reverse := by
      rw [List.take_add_one, ex]
      show seen ((xs.take i ++ [x]).reverse) = _
      rw [List.reverse_append]
      rfl
    rw [← e2] at T2
    refine wpAny_pure ⟨plainId_quiet PyProof.Rows.F.plain_set_update_loop _, ih (i + 1) _ (by omega) (by omega) (W.frame _ s' _ _ st' (Nat.le_succ _) fun b hb o e => ?_) T2 fun s2 hm2 hT => ?_⟩
    · rw [sb.2 b (fun z : b = S => hS (by rw [← z]; exact hb))]; exact e
    · refine q s2 (Moved.trans W.gtrans ((hm.mono sub).then_heap (Nat.le_succ _) fun b o hb e => ?_) hm2) hT
      rw [sb.2 b (fun z : b = S => hb (by rw [z]; exact List.mem_cons_self))]; exact e
end
end Fw
set_option Elab.async false
set_option linter.all false
set_option maxRecDepth 100000
set_option maxHeartbeats 4000000
namespace Fw
open PySem PySem.Spec PyProof.Rows L2
open PySem.F (called_set)

section
variable {P : Program} {w : World} {A : Around} {E : Value → Shared → Prop} {s : Shared}
abbrev newSetO (w : World) : Obj := { cls := .type "set", dict := none, data := .set #[] 0 (.fresh 0 0 (!w.params.followText "set-order")) }
/-- a new set, one argument handed on -/
theorem code_new1 (a : Value) {Q₁ : Value → Shared → Prop} (h : Q₁ (.ref s.heap.objs.size) { s with heap := s.heap.push (newSetO w) }) :
    codeAny (model P w) A (.call (.builtin "set.__new__") ⟨[.type "set", a], []⟩) (wants Q₁ E) s := by
  refine codeAny_of_tree ?_
  show wpAny _ A.in1 (checkBuiltinCall "set.__new__" ⟨[.type "set", a], []⟩ >>= fun _ => again (.builtin "set.__new__" ⟨[.type "set", a], []⟩)) _ _ s
  rw [PySem.F.newCall_set_1 a]
  refine wpAny_bind (wpAny_pure (wpAny_pure ⟨plainId_quiet PySem.F.plain_set_new _, codeAny_builtin PySem.F.entry_set_new ?_⟩))
  rw [Around.under_plainId PySem.F.plain_set_new _]
  unfold Builtin.«set.__new__» Builtin.Frozenset.newClass
  have self := sub_set_self
  obtain ⟨hp, g, d, tk, os⟩ := s
  dsimp only
  wp_walk
  refine wpAny_askSetting (wpAny_pure ?_)
  dsimp only
  simp only [newObj]
  exact wpAny_bind (wpAny_alloc (wpAny_pure (wpAny_pure h)))
theorem txs_new (h : Heap) : TxS P w (h.push (newSetO w)) h.objs.size [] :=
  ⟨(#[], 0, .fresh 0 0 (!w.params.followText "set-order")), Heap.get?_push_size _ rfl, Froz.TxOk.nil rfl, List.Pairwise.nil, by
    show _ ∨ (!w.params.followText "set-order") = true
    cases w.params.followText "set-order" <;> simp⟩
set_option maxHeartbeats 3200000 in
/-- set(l) of a list of texts -/
theorem call_set_txs {l : Addr} {items : Array Value} {xs : List Str} {Q : Value → Shared → Prop} (hh : A.handled = none) (hl : s.heap.IsList l items) (hi : StrsAre items.toList xs) (hn : xs.length + 1 < scanBound)
    (q : ∀ (h' : Heap) (tk : Nat), TxS P w h' s.heap.objs.size (seen xs.reverse) → (∀ b o, b < s.heap.objs.size → s.heap.get? b = some o → h'.get? b = some o) → s.heap.objs.size < h'.objs.size → Q (.ref s.heap.objs.size) { s with heap := h', toks := tk }) :
    wpAny (model P w) A (call (.type "set") [.ref l]) Q E s := by
  obtain ⟨c, tl, hmro⟩ := called_set.mro
  have m1 := called_set.made
  have m2 := called_set.sub
  refine wpAny_call (codeAny_of_tree ?_)
  show wpAny _ _ (callAny (.type "set") _) _ _ _
  refine wpAny_pure ⟨Code.quiet_builtin _ (by decide +kernel), codeAny_builtin PySem.F.entry_type_call ?_⟩
  rw [Around.under_plain (weight_type_call_type "set" [.ref l] []) rfl]
  have m3 := called_set.notType
  have m4 := called_set.canCreate
  have m5 := PySem.F.typeCall_set_1 (.ref l)
  repeat (any_goals (first | assumption | wp_step))
  refine codeAny_mono (code_new1 (w := w) (.ref l) (E := E) (Q₁ := fun obj s₁ => obj = .ref s.heap.objs.size ∧ s₁ = { s with heap := s.heap.push (newSetO w) }) ⟨rfl, rfl⟩) fun r s₁ hr => ?_
  cases r with
  | error e => exact hr
  | ok fl =>
    cases fl with
    | ret obj =>
      obtain ⟨rfl, rfl⟩ := hr
      have gS : (s.heap.push (newSetO w)).get? s.heap.objs.size = some (newSetO w) := Heap.get?_push_size _ rfl
      have tS : Shared.TypeIs { s with heap := s.heap.push (newSetO w) } (.ref s.heap.objs.size) "set" := ⟨_, gS, rfl⟩
      have m6 := called_set.init.lookup
      have m7 := called_set.init.bind (.ref s.heap.objs.size)
      repeat (any_goals (first | assumption | wp_step))
      refine codeAny_mono (codeAny_call_builtin (R := wants (fun r s₂ => r = .none ∧ ∃ h' tk, s₂ = { s with heap := h', toks := tk } ∧ TxS P w h' s.heap.objs.size (seen xs.reverse) ∧
          (∀ b o, b < s.heap.objs.size → s.heap.get? b = some o → h'.get? b = some o)) E) called_set.init.plain PySem.F.entry_set_init (check_set_init_1 tS ?_)) fun r₂ s₂ hr₂ => ?_
      · obtain ⟨⟨oc, od, odt, osl⟩, ho, hc, nl, hd⟩ := hl
        simp only at hc hd
        subst hc
        subst hd
        have ho' : (s.heap.push (newSetO w)).get? l = some { cls := .type "list", dict := od, data := .seq items nl, slots := osl } := Heap.get?_push_of_some _ ho
        have n1 := PySem.F.sub_list_set
        have n2 := PySem.F.sub_list_frozenset
        have n3 : (Value.type "list" == Value.type "dict") = false := by decide
        have hl1 : (s.heap.push (newSetO w)).IsList l items := ⟨_, ho', rfl, nl, rfl⟩
        unfold Builtin.«set.__init__» noKeywords Builtin.Frozenset.updateFrom
        generalize hPI : pyIter = PI
        wp_walk
        subst hPI
        refine wpAny_pyIter_list hl1 (wpAny_bind (wpAny_runValue ?_))
        have ltl : l < s.heap.objs.size := Heap.lt_size ho
        have szP : (s.heap.push (newSetO w)).objs.size = s.heap.objs.size + 1 := Heap.size_push _ _
        have hv : ∀ (i : Nat) (v : Value), items[i]? = some v → ∃ t x, xs[i]? = some x ∧ v = .str x t := fun i v e => by
          obtain ⟨t, et⟩ := SS.strs_at hi i v (by rw [Array.getElem?_toList]; exact e)
          have lx : i < xs.length := by
            have q1 := (Array.getElem?_eq_some_iff.mp e).1
            have q2 := StrsAre.len_eq hi
            rw [Array.length_toList] at q2
            omega
          exact ⟨t, xs[i], List.getElem?_eq_getElem lx, by rw [et, List.getD_eq_getElem?_getD, List.getElem?_eq_getElem lx]; rfl⟩
        refine loop_txs ((Walks.list (A := A.in1.in1.in1) (by simp [hh]) _ l (by rw [szP]; exact Nat.ne_of_lt (Nat.lt_succ_of_lt ltl)) items).toS) s.heap.objs.size (by rw [szP]; simp only [List.mem_cons, List.not_mem_nil, or_false, not_or]; exact ⟨Nat.ne_of_lt (Nat.lt_succ_self _), Nat.ne_of_gt ltl⟩) xs (by rw [← StrsAre.len_eq hi, Array.length_toList])
          (by rw [← Array.length_toList, StrsAre.len_eq hi]; exact hn) hv (items.size - 0) 0 _ (by omega) (Nat.zero_le _) ⟨⟨_, Heap.get?_push_size _ rfl, rfl, rfl⟩, hl1.push _⟩ ?_ ?_
        · exact (txs_new s.heap).keep fun o e => Heap.get?_push_of_some _ e
        · intro s' hm hT
          obtain ⟨h', g', d', tk', os'⟩ := s'
          obtain rfl : g' = s.gens := hm.gens
          obtain rfl : d' = s.drawn := hm.drawn
          obtain rfl : os' = s.os := hm.os
          show wpAny _ _ _ _ _ _
          refine wpAny_pure ?_
          show wpAny _ _ (ret Value.none) _ _ _
          refine wpAny_pure ⟨rfl, h', tk', rfl, hT, fun b o hb e => hm.heap b o ?_ (Heap.get?_push_of_some _ (Heap.get?_push_of_some _ e))⟩
          simp only [List.mem_cons, List.not_mem_nil, or_false, not_or]
          rw [szP]
          exact ⟨Nat.ne_of_lt hb, Nat.ne_of_lt (Nat.lt_succ_of_lt hb)⟩
      · cases r₂ with
        | error e => exact hr₂
        | ok fl₂ =>
          cases fl₂ with
          | ret r =>
            obtain ⟨rfl, h', tk, rfl, hT, keep⟩ := hr₂
            repeat (any_goals (first | assumption | wp_step))
            obtain ⟨D, hD, _⟩ := id hT
            exact q _ _ hT keep (Heap.lt_size hD)
          | _ => exact hr₂.elim
    | _ => exact hr.elim
end
end Fw
set_option Elab.async false
set_option linter.all false
set_option maxRecDepth 100000
set_option maxHeartbeats 4000000
namespace Fw
open PySem PySem.Spec PyProof.Rows L2

theorem perm_of_mem {α : Type} [DecidableEq α] : ∀ {l k : List α}, l.Nodup → (∀ x ∈ l, x ∈ k) → k.length ≤ l.length → k.Perm l
  | [], k, _, _, h => by
    cases k with
    | nil => exact .refl _
    | cons x k => simp at h
  | x :: l, k, nd, hm, hl => by
    obtain ⟨h1, h2⟩ := List.nodup_cons.mp nd
    have hx := hm x List.mem_cons_self
    have p := List.perm_cons_erase hx
    refine p.trans (.cons x (perm_of_mem h2 (fun y hy => ?_) ?_))
    · have : y ≠ x := fun e => h1 (e ▸ hy)
      exact (List.mem_erase_of_ne this).mpr (hm y (List.mem_cons_of_mem _ hy))
    · rw [List.length_erase_of_mem hx]
      rw [List.length_cons] at hl
      omega
section
variable {P : Program} {w : World} {A : Around} {E : Value → Shared → Prop} {s : Shared}
theorem strs_of : ∀ (us : List Value), (∀ v ∈ us, ∃ k tk, v = Value.str k tk) → ∃ zs, StrsAre us zs
  | [], _ => ⟨[], .nil⟩
  | v :: us, h => by
    obtain ⟨k, tk, rfl⟩ := h v List.mem_cons_self
    obtain ⟨zs, hz⟩ := strs_of us fun u hu => h u (List.mem_cons_of_mem _ hu)
    exact ⟨k :: zs, .cons k tk hz⟩
theorem strs_mem {k : Str} : ∀ {us : List Value} {zs : List Str}, StrsAre us zs → (k ∈ zs ↔ ∃ tk, Value.str k tk ∈ us)
  | _, _, .nil => ⟨fun h => (nomatch h), fun ⟨_, h⟩ => (nomatch h)⟩
  | _, _, .cons x t r => by
    rw [List.mem_cons, strs_mem r]
    constructor
    · rintro (rfl | ⟨tk, h⟩)
      · exact ⟨t, List.mem_cons_self⟩
      · exact ⟨tk, List.mem_cons_of_mem _ h⟩
    · rintro ⟨tk, h⟩
      rcases List.mem_cons.mp h with h | h
      · cases h; exact .inl rfl
      · exact .inr ⟨tk, h⟩
/-- what a walk over the set finds -/
theorem TxS.out {a : Addr} {l : List Str} (T : TxS P w s.heap a l) (nd : l.Nodup) (h64 : l.length < 64) (hh : A.handled = none) {Q : List Value → Shared → Prop}
    (hQ : ∀ s' us zs, (∀ b o, s.heap.get? b = some o → s'.heap.get? b = some o) → s.heap.objs.size ≤ s'.heap.objs.size → s'.gens = s.gens → s'.os = s.os → StrsAre us zs → zs.Perm l → Q us s') : wpAny (model P w) A (collect (.ref a)) Q E s := by
  obtain ⟨⟨es, ep, t⟩, ho, F, r, ld⟩ := T
  have sz : es.size = l.length := F.sz
  refine L2.collect_set hh ⟨_, ho, rfl, rfl⟩ F.fit (by rw [sz]; exact Nat.lt_trans h64 (by decide)) r ld fun s' out k hs g o pm => ?_
  have txt : ∀ v ∈ out, ∃ k tk, v = Value.str k tk := fun v hv => by
    obtain ⟨e, he, q⟩ := List.mem_map.mp (pm.mem_iff.mp hv)
    obtain ⟨⟨k, hk, _⟩, _⟩ := F.el e he
    obtain ⟨tk, ek⟩ := Value.isStrOf_shape (x := k) (v := e.2) hk
    exact ⟨k, tk, q.symm.trans ek⟩
  obtain ⟨zs, hz⟩ := strs_of out txt
  refine hQ s' out zs k hs g o hz (perm_of_mem nd (fun x hx => ?_) ?_)
  · obtain ⟨e, he, hk⟩ := (F.mem x).mp hx
    obtain ⟨tk, ek⟩ := Value.isStrOf_shape (x := x) (v := e.2) hk
    exact (strs_mem hz).mpr ⟨tk, pm.mem_iff.mpr (List.mem_map.mpr ⟨e, he, ek⟩)⟩
  · rw [← StrsAre.len_eq hz, pm.length_eq, List.length_map, Array.length_toList, sz]
    exact Nat.le_refl _
/-- sorted(found) -/
theorem sorted_txs {a : Addr} {l : List Str} {Q : Value → Shared → Prop} (T : TxS P w s.heap a l) (nd : l.Nodup) (h64 : l.length < 64) (hh : A.handled = none)
    (hQ : ∀ s' p (out : Array Value) (c : Nat) (ys : List Str), (∀ b o, s.heap.get? b = some o → s'.heap.get? b = some o) → s'.gens = s.gens → s'.os = s.os → s.heap.objs.size ≤ p →
      s'.heap.get? p = some (seqObj "list" out c) → StrsAre out.toList ys → ys.Perm l → sortedS ys = true → Q (.ref p) s') : wpAny (model P w) A (call (.builtin "sorted") [.ref a]) Q E s := by
  refine Calls.call_function_entry kind_sorted plain_sorted entry_sorted (args_sorted1 _) ?_
  unfold Builtin.«sorted»
  refine wpAny_bind (wpAny_pure (wpAny_bind (T.out (A := A.in1) nd h64 hh fun s1 us zs k1 z1 g1 o1 hu pz => ?_)))
  have lu : us.length < 64 := by rw [StrsAre.len_eq hu, pz.length_eq]; exact h64
  refine wpAny_bind (wpAny_newList ?_ (by rw [sizeLine_eq]; omega))
  have gL : (s1.heap.push (seqObj "list" us.toArray 0)).get? s1.heap.objs.size = some (seqObj "list" us.toArray 0) := Heap.get?_push_size _ rfl
  refine wpAny_bind (wpAny_holding (wpAny_call_entry slot_list_sort ⟨_, gL, rfl⟩ entry_list_sort (list_sort_treeK strKind_oneLt gL hu.keysOf (fun v₁ v₂ rest e => keyKind_strs (by rw [← e]; exact hu)) lu fun st' hp hs => ⟨_, rfl, ?_⟩) (args_list_sort _)))
  obtain ⟨ys, y1, y2, y3⟩ := sorted_out_str hu hp hs
  obtain ⟨c, gc⟩ := sortedHeap_at (vs := us) (out := (arrOf st').map (·.2)) gL
  refine wpAny_pure ⟨_, rfl, hQ _ s1.heap.objs.size _ c ys (fun b u e => ?_) g1 o1 z1 gc y1 (y2.trans pz) y3⟩
  have q := k1 b u e
  have lt := Heap.lt_size q
  show (sortedHeap (s1.heap.push (seqObj "list" us.toArray 0)) s1.heap.objs.size us _).get? b = some u
  rw [sortedHeap_old (Nat.ne_of_lt lt) (by rw [size_push']; exact Nat.lt_succ_of_lt lt)]
  exact Heap.get?_push_of_some _ q
end
end Fw
set_option Elab.async false
set_option linter.all false
set_option maxRecDepth 100000
set_option maxHeartbeats 4000000
namespace Fw
open PySem PySem.Spec PyProof.Rows L2

/-- the set of texts at a -/
def TxO (P : Program) (w : World) (a : Addr) (l : List Str) : HO := .ext fun h => TxS P w h a l
section
variable {X : Cx} {Tz : Tbs}
theorem txO_new {P : Program} {w : World} {H : Hp} {h : Heap} {a : Addr} {l : List Str} (T : TxS P w h a l) : ObjOk P w H h a (TxO P w a l) := by
  have ⟨D, hD, _⟩ := T
  exact ⟨T, ⟨_, hD⟩, fun h1 h2 p k => TxS.keep p k⟩
theorem txO_get {pins : List (Addr × Obj)} {σ : Sg} {H : Hp} {s : Shared} {a : Addr} {l : List Str} (I : Inv X pins σ H s) (ha : H a = some (TxO X.prog X.w a l)) : TxS X.prog X.w s.heap a l := (I.hok a _ ha).1
theorem strs_vals : ∀ {xs : List Str} {us : List Value}, Vals (xs.map V.str) us → StrsAre us xs
  | [], us, h => by cases h; exact .nil
  | x :: xs, us, h => by
    rw [List.map_cons] at h
    cases h with
    | cons p t =>
      obtain ⟨tk, rfl⟩ := p
      exact .cons x tk (strs_vals t)
/-- set(l), a list of texts -/
def rSetTx (X : Cx) : List V → Hp → VK → Prop := fun xs H Q => ∃ (p : Addr) (zs : List Str), xs = [.ref p] ∧ SqL X.K H p (zs.map V.str) ∧ zs.length < 1000 ∧ ∀ a, H a = none → Q (.ref a) (upd H a (TxO X.prog X.w a (seen zs.reverse)))
theorem cr_setTx (hc : X.calm = true) : CallR X (.type "set") (rSetTx X) := by
  intro pins s σ H xs us Q I rx h
  obtain ⟨p, zs, rfl, hs, hl, q⟩ := h
  rw [Vals.ref1 rx]
  obtain ⟨its, r, ⟨⟨cls, dd, data, sl⟩, n, ho, hc1, hdn, hd1⟩, hlen⟩ := I.list hs
  refine call_set_txs (I.ok.hd hc) (items := its.toArray) ⟨_, ho, hc1, n, hd1⟩ (by simpa using strs_vals r) (Nat.lt_of_lt_of_le (Nat.succ_lt_succ hl) (by decide)) fun h' tk T keep lt => ?_
  refine ⟨.ref s.heap.objs.size, _, I.laid (t' := tk) (fun b u e => keep b u (Heap.lt_size e) e) (Nat.le_refl _) (txO_new T), rfl, q _ (I.hok.fresh (Nat.le_refl _))⟩
/-- sorted(found) -/
def rSortTx (X : Cx) : List V → Hp → VK → Prop := fun xs H Q => ∃ (a : Addr) (l : List Str), xs = [V.ref a] ∧ H a = some (TxO X.prog X.w a l) ∧ l.Nodup ∧ l.length < 64 ∧
  ∀ (ys : List Str) (p : Addr), ys.Perm l → sortedS ys = true → H p = none → Q (.ref p) (upd H p (.lst (ys.map V.str)))
theorem cr_sortTx (hc : X.calm = true) : CallR X (.builtin "sorted") (rSortTx X) := by
  intro pins s σ H vs us Q I r h
  obtain ⟨a, l, rfl, ha, nd, h64, q⟩ := h
  rw [Vals.ref1 r]
  refine sorted_txs (txO_get I ha) nd h64 (I.ok.hd hc) fun s' p out c ys k g o hp hg hi hs hm => ?_
  have hlen : (ys.map V.str).length ≤ sizeLine := by rw [List.length_map, hs.length_eq, sizeLine_eq]; omega
  have hn : H p = none := I.hok.fresh hp
  have J : Inv X pins σ (upd H p (.lst (ys.map V.str))) { s with heap := s'.heap, gens := s'.gens, drawn := s'.drawn, toks := s'.toks } :=
    I.call (ch := []) (Un.laid k hp hn) (I.hok.laid k hp ⟨hlen, out.toList, c, vals_of_strs hi, hg⟩) (by rw [g]; exact I.bare) (fun _ z => nomatch z)
  have e : s' = { s with heap := s'.heap, gens := s'.gens, drawn := s'.drawn, toks := s'.toks } := by
    obtain ⟨_, _, _, _, _⟩ := s'
    obtain rfl := o
    rfl
  rw [e]
  exact ⟨.ref p, _, J, rfl, q ys p hs hm hn⟩
end
/-! ## by data: sorted(set(l)) -/
def seenN : List (List Nat) → List (List Nat)
  | [] => []
  | x :: r => if x ∈ seenN r then seenN r else x :: seenN r
theorem seen_map : ∀ l : List (List Nat), seen (l.map st) = (seenN l).map st
  | [] => rfl
  | x :: r => by
    rw [List.map_cons]
    unfold seen seenN
    rw [seen_map r]
    have : st x ∈ (seenN r).map st ↔ x ∈ seenN r := ⟨fun h => by
      obtain ⟨y, hy, e⟩ := List.mem_map.mp h
      rw [← st_inj e]; exact hy, fun h => List.mem_map.mpr ⟨x, h, rfl⟩⟩
    by_cases h : x ∈ seenN r
    · rw [if_pos h, if_pos (this.mpr h)]
    · rw [if_neg h, if_neg fun q => h (this.mp q), List.map_cons]
def sortSetD : Dt → Option Dt
  | .lst xs => (strsOf xs).bind fun l => if l.length < 64 then some (.lst ((srtN (seenN l.reverse)).map .str)) else none
  | _ => none
def mSortSet (m : En → Mo Dt) : En → Mo Dt := fun ρ => (m ρ).bind fun d => ofO (sortSetD d)
section
variable {X : Cx} {Tz : Tbs} {XR : XRel} {E : Sg → XK} {e : Expr} {m : En → Mo Dt} {p p1 pos pos1 : Pos}
theorem e_sortSet (hg : Gl X "sorted") (hm : X.mg "sorted" = none) (hg1 : Gl X "set") (hm1 : X.mg "set" = none) (he : PE X e (tM (X.gd Tz) XR E m)) (hc : X.calm = true := by rfl)
    (hs : starEach [e] X.env = (false, eval e X.env) :: starEach [] X.env := by rfl) (hpl : (backTo pos1 (starEach [] X.env)).any (·.1) = false := by rfl)
    (hs1 : starEach [Expr.Call (.Name "set" p1) [e] [] pos1] X.env = (false, eval (Expr.Call (.Name "set" p1) [e] [] pos1) X.env) :: starEach [] X.env := by rfl) (hpl1 : (backTo pos (starEach [] X.env)).any (·.1) = false := by rfl) :
    PE X (.Call (.Name "sorted" p) [.Call (.Name "set" p1) [e] [] pos1] [] pos) (tM (X.gd Tz) XR E (mSortSet m)) :=
  PE.imp (pe_callB (cr_sortTx hc) hg hm (by decide +kernel) (pa_cons (pe_callTy (cr_setTx hc) hg1 hm1 (by decide +kernel) (pa_cons he pa_nil hs) (by decide) (by decide) hs hpl) pa_nil hs1) (by decide) (by decide) hs1 hpl1) fun σ H Q ⟨r, Z, ρ, w, s, h⟩ => tM.split w s h fun v H1 Z1 d e1 w1 s1 rp h1 => by
    obtain ⟨d2, e2, h2⟩ := wp_ofO h1
    unfold sortSetD at e2
    split at e2
    · rename_i xs
      obtain ⟨l, e3, e4⟩ := Option.bind_eq_some_iff.mp e2
      split at e4
      · rename_i hl
        cases e4
        obtain ⟨a, vs, rfl, z, t, l2, qs⟩ := rp.lst
        have ev := reps_strs qs e3
        refine ⟨a, l.map st, rfl, .inl (.inl (by rw [t, ev, List.map_map]; rfl)), by rw [List.length_map]; omega, fun b hb => ?_⟩
        have eo := Ext.own (o := TxO X.prog X.w b (seen (l.map st).reverse)) w1 hb
        have sl := seen_len (l.map st).reverse
        rw [List.length_reverse, List.length_map] at sl
        refine ⟨b, _, rfl, upd_same, seen_nodup _, by omega, fun ys D p1 p2 hD => ?_⟩
        rw [← List.map_reverse, seen_map] at p1
        rw [sortedS_out p1 p2]
        refine laid_lst eo.wf ((h2.ext e1).ext eo) hD ?_ (reps_strN _)
        rw [List.length_map, List.length_map, (srtN_perm _).length_eq]
        have sl2 := sl
        rw [← List.map_reverse, seen_map, List.length_map] at sl2
        exact sl16 (by omega)
      · cases e4
    · cases e2
end
end Fw
set_option Elab.async false
set_option linter.all false
set_option maxRecDepth 100000
set_option maxHeartbeats 4000000
namespace Fw
open PySem PySem.Spec PyProof.Rows L2

/-! ## sep.join(texts) -/
def joinN (a : List Nat) : List (List Nat) → List Nat
  | [] => []
  | [x] => x
  | x :: r => x ++ a ++ joinN a r
theorem join_st (a : List Nat) : ∀ l : List (List Nat), Txt.join (st a) (l.map st) = st (joinN a l) := fun l => by
  rw [TL.join_eq]
  induction l with
  | nil => rfl
  | cons x r ih =>
    cases r with
    | nil => rfl
    | cons y r =>
      show st x ++ st a ++ Str.join (st a) ((y :: r).map st) = st (x ++ a ++ joinN a (y :: r))
      rw [ih, st_append, st_append]
def joinD (a : List Nat) : Dt → Option Dt
  | .tup ds => (strsOf ds).bind fun l => if (l.map List.length).sum + l.length * a.length ≤ 16777216 then some (.str (joinN a l)) else none
  | .lst ds => (strsOf ds).bind fun l => if (l.map List.length).sum + l.length * a.length ≤ 16777216 then some (.str (joinN a l)) else none
  | _ => none
def mJoin (mo m : En → Mo Dt) : En → Mo Dt := fun ρ => (mo ρ).bind fun a => match a with
  | .str x => (m ρ).bind fun d => ofO (joinD x d)
  | _ => .err
section
variable {X : Cx} {Tz : Tbs} {XR : XRel} {E : Sg → XK} {o e c : Expr} {mo m : En → Mo Dt} {apos pos : Pos}
theorem len_st (l : List (List Nat)) : ((l.map st).map fun x : Str => x.length) = l.map List.length := by
  rw [List.map_map]
  exact List.map_congr_left fun x _ => st_length x
theorem e_join (ho : PE X o (tM (X.gd Tz) XR E mo)) (he : PE X e (tM (X.gd Tz) XR E m)) (hs : starEach [e] X.env = [(false, eval e X.env)] := by rfl) (hbase : attributeBase o "join" X.env (eval o X.env) = eval o X.env := by rfl) (hline : (apos.endLine == pos.line) = true := by rfl) :
    PE X (.Call (.Attribute o "join" apos) [e] [] pos) (tM (X.gd Tz) XR E (mJoin mo m)) :=
  PE.imp (pe_join ho he hs hbase hline) fun σ H Q ⟨r, Z, ρ, w, s, h⟩ => tM.split w s h fun v H1 Z1 d e1 w1 s1 rp h1 => by
    cases d with
    | str x =>
      refine ⟨⟨st x, rp.str⟩, tM.split w1 s1 (h1.mono (fun _ p => p) fun _ _ p => p.ext e1) fun u H2 Z2 d2 e2 w2 s2 rp2 h2 => ?_⟩
      obtain ⟨d3, e3, h3⟩ := wp_ofO h2
      have hx : v = .str (st x) := rp.str
      have fin : ∀ l : List (List Nat), d3 = .str (joinN x l) → Q (.str (Txt.join (st x) (l.map st))) H2 := fun l e => by
        subst e
        rw [join_st]
        exact h3 _ H2 Z2 (e1.trans e2) Rep.mk_str
      have hz : ∀ l : List (List Nat), (l.map List.length).sum + l.length * x.length ≤ 16777216 → ((l.map st).map fun y : Str => y.length).sum + (l.map st).length * (st x).length ≤ 16777216 := fun l h => by
        rw [len_st, List.length_map, st_length]
        exact h
      cases d2 with
      | tup ds =>
        obtain ⟨l, e4, e5⟩ := Option.bind_eq_some_iff.mp e3
        split at e5
        · rename_i hl
          obtain ⟨a, vs, rfl, t, l2, qs⟩ := rp2.tup
          have ev := reps_strs qs e4
          refine ⟨st x, a, l.map st, hx, rfl, .inr ?_, hz l hl, fin l (Option.some.inj e5).symm⟩
          have := t.sq
          rw [ev] at this
          rw [List.map_map]
          exact this
        · cases e5
      | lst ds =>
        obtain ⟨l, e4, e5⟩ := Option.bind_eq_some_iff.mp e3
        split at e5
        · rename_i hl
          obtain ⟨a, vs, rfl, z, t, l2, qs⟩ := rp2.lst
          have ev := reps_strs qs e4
          refine ⟨st x, a, l.map st, hx, rfl, .inl (.inl (.inl ?_)), hz l hl, fin l (Option.some.inj e5).symm⟩
          rw [t, ev, List.map_map]
          rfl
        · cases e5
      | _ => cases e3
    | _ => exact h1.elim
/-! ## (f if c else g)(..) -/
def mCalIf (n : Nat) (F G : List Dt → Mo Dt) (mc : En → Mo Bool) (ms : En → Mo (List Dt)) : En → Mo Dt := fun ρ => (mc ρ).bind fun b => (ms ρ).bind fun ds => if ds.length = n then (match b with | true => F ds | false => G ds) else .err
theorem e_callIf {x y : Str} {k k' j n : Nat} {F G : List Dt → Mo Dt} {mc : En → Mo Bool} {ms : En → Mo (List Dt)} {es : List Expr} {p1 p2 p3 : Pos} (cF : Cal X.prog X.w X.K X.mg X.base k x n F) (cG : Cal X.prog X.w X.K X.mg X.base k' y n G) (hr : Room j X.A) (hg : Gl X x) (hg' : Gl X y)
    (hc : PT X c (tMb (X.gd Tz) XR0 EE mc)) (ha : PA X (e :: es) (tMs (X.gd Tz) XR0 EE ms)) (hk : k ≤ j := by omega) (hk' : k' ≤ j := by omega)
    (hdb : (x == ("__debug__" : Str)) = false := by decide) (hdb' : (y == ("__debug__" : Str)) = false := by decide) (he : starEach (e :: es) X.env = (false, eval e X.env) :: starEach es X.env := by rfl) (hpl : (backTo pos (starEach es X.env)).any (·.1) = false := by rfl) :
    PE X (.Call (.IfExp c (.Name x p1) (.Name y p2) p3) (e :: es) [] pos) (tM (X.gd Tz) XR0 EE (mCalIf n F G mc ms)) := by
  obtain ⟨f, fd, ps, O, hm, kp, b⟩ := cF.ex
  obtain ⟨f', fd', ps', O', hm', kp', b'⟩ := cG.ex
  refine ⟨fun pins s σ H Q I ⟨r, Z, ρ, w, st0, h⟩ => ?_⟩
  show wpAny _ _ (eval (.IfExp c (.Name x p1) (.Name y p2) p3) X.env >>= fun g => callWith pos g [] (backTo pos (starEach (e :: es) X.env)) (backToKw pos (keywordEach [] X.env))) _ _ s
  refine wpAny_bind (wpAny_IfExp (thn (hc.run pins s σ H (fun b H1 => tMs (X.gd Tz) XR0 EE ms σ H1 fun vs H2 => if b = true then spM (X.gd Tz) n F (vs ++ []) H2 Q E0 else spM (X.gd Tz) n G (vs ++ []) H2 Q E0) I (tMb.split w st0 h fun H1 Z1 b e1 w1 s1 h1 => ?_)) fun d s1 ⟨H1, I1, q1⟩ => ?_))
  · refine tMs.split w1 s1 (h1.mono (fun _ p => p) fun _ _ p => p.ext e1) fun vs H2 Z2 ds e2 w2 s2 rp h2 => ?_
    split at h2
    · rename_i hl
      cases b with
      | true =>
        rw [if_pos rfl]
        exact ⟨by rw [List.append_nil, rp.length]; exact hl, r, Z2, ds, w2, by rw [List.append_nil]; exact rp, h2.mono (fun d hd => hd.ext (e1.trans e2)) fun c d q => px_false w1 q⟩
      | false =>
        rw [if_neg Bool.false_ne_true]
        exact ⟨by rw [List.append_nil, rp.length]; exact hl, r, Z2, ds, w2, by rw [List.append_nil]; exact rp, h2.mono (fun d hd => hd.ext (e1.trans e2)) fun c d q => px_false w1 q⟩
    · exact h2.elim
  · cases d with
    | true =>
      refine ite_tt (ld_glob I1 hg hm ?_ hdb)
      refine PySem.W.callWith_K (h₀ := X.base) I.ok.mod.kin kp (thn (ha.run pos pins s1 σ H1 _ I1 q1) fun us s2 ⟨vs, H2, I2, rv, q⟩ => ⟨I2.kIn, ?_⟩) he hpl
      dsimp only at q
      rw [if_pos rfl] at q
      exact run_fn (O Tz) (hr.mono hk) b .nil pass0 I2 rv q
    | false =>
      refine ite_ff (ld_glob I1 hg' hm' ?_ hdb')
      refine PySem.W.callWith_K (h₀ := X.base) I.ok.mod.kin kp' (thn (ha.run pos pins s1 σ H1 _ I1 q1) fun us s2 ⟨vs, H2, I2, rv, q⟩ => ⟨I2.kIn, ?_⟩) he hpl
      dsimp only at q
      rw [if_neg Bool.false_ne_true] at q
      exact run_fn (O' Tz) (hr.mono hk') b' .nil pass0 I2 rv q
end
end Fw
set_option Elab.async false
set_option linter.all false
set_option maxRecDepth 100000
set_option maxHeartbeats 4000000
namespace Fw
open PySem PySem.Spec PyProof.Rows L2

/-! ## more steps of reckoning -/
section
variable {α β : Type} {Q : α → Prop} {R : Nat → Dt → Prop} {ρ : En} {m a b c : En → Mo Dt} {n k : En → Mo Fl} {QF : Fl → Prop} {QD : Dt → Prop} {QL : List Dt → Prop} {QB : Bool → Prop} {ms : En → Mo (List Dt)} {mt nt : En → Mo Bool} {mg : Dt → En → Mo En} {i : Nat}
theorem wq_cons (h : Wp (m ρ) (fun x => Wp (ms ρ) (fun xs => QL (x :: xs)) R) R) : Wp (mCons m ms ρ) QL R := wq_bind (wq_go h fun _ q => wq_bind (wq_go q fun _ q => wq_val q))
theorem wq_nil (h : QL []) : Wp (mNil ρ) QL R := wq_val h
theorem wq_andV (h : Wp (a ρ) (fun d => match d with | .bl true => Wp (b ρ) QD R | .bl false => QD (.bl false) | _ => False) R) : Wp (mAndV a b ρ) QD R := wq_bind (wq_go h fun d q => by
  cases d with
  | bl v => cases v <;> first | exact q | exact wq_val q
  | _ => exact q.elim)
theorem wq_orV (h : Wp (a ρ) (fun d => match d with | .bl false => Wp (b ρ) QD R | .bl true => QD (.bl true) | _ => False) R) : Wp (mOrV a b ρ) QD R := wq_bind (wq_go h fun d q => by
  cases d with
  | bl v => cases v <;> first | exact q | exact wq_val q
  | _ => exact q.elim)
theorem wq_notV (h : Wp (a ρ) (fun d => match d with | .bl v => QD (.bl (!v)) | _ => False) R) : Wp (mNotV a ρ) QD R := wq_bind (wq_go h fun d q => by
  cases d with
  | bl v => exact wq_val q
  | _ => exact q.elim)
theorem wq_ifV (h : Wp (mt ρ) (fun b' => match b' with | true => Wp (a ρ) QD R | false => Wp (b ρ) QD R) R) : Wp (mIf mt a b ρ) QD R := wq_bind (wq_go h fun v q => by cases v <;> exact q)
theorem wq_callB {g : List Dt → Option Dt} (h : Wp (ms ρ) (fun ds => Wp (ofO (g ds)) QD R) R) : Wp (mCall g ms ρ) QD R := wq_bind h
theorem wq_tup (h : Wp (ms ρ) (fun xs => xs.length ≤ 16777216 ∧ QD (.tup xs)) R) : Wp (mTup ms ρ) QD R := wq_bind (wq_go h fun _ q => by rw [if_pos q.1]; exact wq_val q.2)
theorem wq_lst (h : Wp (ms ρ) (fun xs => xs.length ≤ 16777216 ∧ QD (.lst xs)) R) : Wp (mLst ms ρ) QD R := wq_bind (wq_go h fun _ q => by rw [if_pos q.1]; exact wq_val q.2)
theorem wq_var {d : Dt} (e : ρ[i]? = some (.fz d)) (h : QD d) : Wp (mVar i ρ) QD R := by
  unfold mVar
  rw [e]
  exact wq_val h
theorem wq_seq (h : Wp (m ρ) (fun d => Wp (ofO (seqD d)) QL R) R) : Wp (mSeq m ρ) QL R := wq_bind h
/-- a list reckoned is that list -/
theorem wq_lcA {vs : List Nat} {me : En → Mo Dt} (h : Wp (lcGo vs mg mt me ρ []) QL R) : QL [] := h.out
end
end Fw
set_option Elab.async false
set_option linter.all false
set_option maxRecDepth 100000
set_option maxHeartbeats 4000000
namespace Fw
open PySem PySem.Spec PyProof.Rows L2

/-! ## methods of texts, by data -/
def mSM (g : List Nat → List Dt → Option Dt) (mo : En → Mo Dt) (ms : En → Mo (List Dt)) : En → Mo Dt := fun ρ => (mo ρ).bind fun d => match d with
  | .str x => (ms ρ).bind fun ds => ofO (g x ds)
  | _ => .err
section
variable {X : Cx} {Tz : Tbs} {XR : XRel} {E : Sg → XK} {o e : Expr} {es : List Expr} {mo m : En → Mo Dt} {ms : En → Mo (List Dt)} {apos cpos pos : Pos} {name : Str} {id : String} {rr : V → List V → Hp → VK → Prop}
def SmOk (G : Gd) (rr : V → List V → Hp → VK → Prop) (g : List Nat → List Dt → Option Dt) : Prop :=
  ∀ {r : Addr} {Z : Addr → Prop} {H : Hp} {Q : VK} {x : List Nat} {xs : List V} {ds : List Dt} {d : Dt}, Wf G r Z H → Reps G r Z H xs ds → g x ds = some d → PV G r Z H Q d → rr (.str (st x)) xs H Q
theorem e_sm {g : List Nat → List Dt → Option Dt} (slot : Slot "str" name id) (hty : typeOf (.builtin id) = pure (.type "method_descriptor")) (hm : MtR X id rr) (hg : SmOk (X.gd Tz) rr g) (ho : PE X o (tM (X.gd Tz) XR E mo)) (ha : PA X (e :: es) (tMs (X.gd Tz) XR E ms))
    (hbase : attributeBase o name X.env (eval o X.env) = eval o X.env := by rfl)
    (hfew : ((backTo cpos (starEach (e :: es) X.env)).all (fun x => !x.1) && (backToKw cpos (keywordEach [] X.env)).all (fun x => x.1.isSome)
      && decide ((e :: es).length + ([] : List Keyword).length + (if ([] : List Keyword).isEmpty then 0 else 1) < 30)) = true := by rfl)
    (hline : (apos.endLine == cpos.line) = true := by rfl) (hs : starEach (e :: es) X.env = (false, eval e X.env) :: starEach es X.env := by rfl) (hplain : (backTo cpos (starEach es X.env)).any (·.1) = false := by rfl) :
    PE X (.Call (.Attribute o name apos) (e :: es) [] cpos) (tM (X.gd Tz) XR E (mSM g mo ms)) :=
  PE.imp (pe_bm PySem.F.plainAttrs_str slot hty hm ho ha hbase hfew hline hs hplain) fun σ H Q ⟨r, Z, ρ, w, s, h⟩ => tM.split w s h fun v H1 Z1 d e1 w1 s1 rp h1 => by
    cases d with
    | str x =>
      rw [rp.str]
      refine ⟨rfl, tMs.split w1 s1 (h1.mono (fun _ q => q) fun _ _ p => p.ext e1) fun us H2 Z2 ds e2 w2 s2 rp2 h2 => ?_⟩
      obtain ⟨d3, e3, h3⟩ := wp_ofO h2
      exact hg w2 rp2 e3 (h3.ext (e1.trans e2))
    | _ => exact h1.elim
/-- s.startswith(t, i) -/
def swD (x : List Nat) : List Dt → Option Dt
  | [.str y, .int i] => if 0 ≤ i then some (.bl (decide (i.toNat + y.length ≤ x.length) && ((x.drop i.toNat).take y.length == y))) else none
  | _ => none
theorem sub_st (x y : List Nat) (i : Nat) : PySem.Builtin.Str.subAt (st x) (st y) i = ((x.drop i).take y.length == y) := by
  show ((x.toArray).extract i (i + (st y).length) == y.toArray) = _
  rw [st_length]
  have e : (x.toArray).extract i (i + y.length) = ((x.drop i).take y.length).toArray := by
    apply Array.ext'
    rw [Array.toList_extract, List.extract_eq_drop_take]
    simp
  rw [e]
  generalize (x.drop i).take y.length = z
  by_cases h : z = y
  · subst h
    rw [beq_self_eq_true, beq_self_eq_true]
  · rw [beq_eq_false_iff_ne.mpr h, beq_eq_false_iff_ne.mpr fun e => h (by simpa using congrArg Array.toList e)]
theorem e_sw (ho : PE X o (tM (X.gd Tz) XR E mo)) (ha : PA X (e :: es) (tMs (X.gd Tz) XR E ms))
    (hbase : attributeBase o "startswith" X.env (eval o X.env) = eval o X.env := by rfl)
    (hfew : ((backTo cpos (starEach (e :: es) X.env)).all (fun x => !x.1) && (backToKw cpos (keywordEach [] X.env)).all (fun x => x.1.isSome)
      && decide ((e :: es).length + ([] : List Keyword).length + (if ([] : List Keyword).isEmpty then 0 else 1) < 30)) = true := by rfl)
    (hline : (apos.endLine == cpos.line) = true := by rfl) (hs : starEach (e :: es) X.env = (false, eval e X.env) :: starEach es X.env := by rfl) (hplain : (backTo cpos (starEach es X.env)).any (·.1) = false := by rfl) :
    PE X (.Call (.Attribute o "startswith" apos) (e :: es) [] cpos) (tM (X.gd Tz) XR E (mSM swD mo ms)) :=
  e_sm PySem.F.slot_str_startswith PySem.F.type_str_startswith mt_startswith3 (fun {r Z H Q x xs ds d} w rp eg q => by
    unfold swD at eg
    split at eg
    · rename_i y i
      split at eg
      · rename_i hi
        cases eg
        obtain ⟨v, u, rfl, r1, r2⟩ := rp.two
        refine ⟨st x, st y, i, rfl, by rw [r1.str, r2.int], ?_⟩
        have e1 : Txt.startswith3 (st x) (st y) i = (decide (i.toNat + y.length ≤ x.length) && ((x.drop i.toNat).take y.length == y)) := by
          unfold Txt.startswith3
          have e2 : PySem.fromIndex (st x).length i = i.toNat := by
            unfold PySem.fromIndex
            rw [if_neg (by omega)]
            omega
          rw [e2, sub_st, st_length, st_length]
        rw [e1]
        exact PV.at w q Rep.mk_bl
      · cases eg
    · cases eg) ho ha hbase hfew hline hs hplain

/-! ## x or y, by truth -/
def mOrT (m n : En → Mo Dt) : En → Mo Dt := fun ρ => (m ρ).bind fun x => (ofO (truD x)).bind fun k => match k with | true => .ret x | false => n ρ
variable {a b : Expr} {ma mb : En → Mo Dt} {rest : List Expr}
theorem tru_rep {K : Gd} {r : Addr} {Z : Addr → Prop} {H : Hp} {d : Dt} {v : V} {k : Bool} (rp : Rep K r Z H v d) (ek : truD d = some k) : TruV K.K v H k := by
  unfold truD at ek
  split at ek
  · cases ek; rw [rp.non]; rfl
  · cases ek; rw [rp.bl]; rfl
  · cases ek; rw [rp.int]; rfl
  · split at ek
    · rename_i x hl
      cases ek
      rw [rp.str]
      refine ⟨by rw [st_length]; exact sl16 hl, ?_⟩
      rw [st_length]
      cases x with
      | nil => rfl
      | cons c x =>
        show true = (((x.length + 1 : Nat) : Int) != 0)
        rw [eq_comm, bne_iff_ne]
        omega
    · cases ek
  · cases ek
    obtain ⟨a, vs, rfl, t, l, q⟩ := rp.tup
    exact .inr (.inl ⟨vs, t.sq, by rw [reps_empty q]⟩)
  · cases ek
    obtain ⟨a, vs, rfl, z, t, l, q⟩ := rp.lst
    exact .inl ⟨vs, .of t, by rw [reps_empty q]⟩
  · cases ek
theorem e_orT (ha : PE X a (tM (X.gd Tz) XR E ma)) (hb : PE X (.BoolOp .Or (b :: rest) pos) (tM (X.gd Tz) XR E mb)) : PE X (.BoolOp .Or (a :: b :: rest) pos) (tM (X.gd Tz) XR E (mOrT ma mb)) :=
  PE.imp (pe_orT ha hb) fun σ H Q ⟨r, Z, ρ, w, s, h⟩ => tM.split w s h fun v H1 Z1 d e1 w1 s1 rp h1 => by
    obtain ⟨k, ek, hk⟩ := wp_ofO (Mo.wp_bind.mp h1)
    refine ⟨k, tru_rep rp ek, ?_⟩
    cases k with
    | true =>
      rw [if_pos rfl]
      exact hk v H1 Z1 e1 rp
    | false =>
      rw [if_neg Bool.false_ne_true]
      exact ⟨r, Z1, ρ, w1, s1, hk.mono (fun _ p => p.ext e1) fun _ _ p => p.ext e1⟩
/-- not x, by truth -/
def mNotT (m : En → Mo Dt) : En → Mo Dt := fun ρ => (m ρ).bind fun x => (ofO (truD x)).bind fun k => .ret (.bl (!k))
theorem e_notT (ha : PE X a (tM (X.gd Tz) XR E ma)) : PE X (.UnaryOp .Not a pos) (tM (X.gd Tz) XR E (mNotT ma)) :=
  PE.imp (pe_notT ha) fun σ H Q ⟨r, Z, ρ, w, s, h⟩ => tM.split w s h fun v H1 Z1 d e1 w1 s1 rp h1 => by
    obtain ⟨k, ek, hk⟩ := wp_ofO (Mo.wp_bind.mp h1)
    exact ⟨k, tru_rep rp ek, hk _ H1 Z1 e1 Rep.mk_bl⟩
/-! ## a try whose body raises nothing -/
theorem s_try0 {body : List Stmt} {h₀ : ExceptHandler} {hs : List ExceptHandler} {n : En → Mo Fl} (hb : PSs X.nox body (tS (X.gd Tz) XR E n)) : PS X (.Try body (h₀ :: hs) [] [] pos) (tS (X.gd Tz) XR E n) := ps_try_thru0 hb
end
end Fw
set_option Elab.async false
set_option linter.all false
set_option maxRecDepth 100000
set_option maxHeartbeats 4000000
namespace Fw
open PySem PySem.Spec PyProof.Rows L2

/-! ## zip over two iterators of any kind, while what was given out is held -/
section
variable {P : Program} {w : World} {A : Around} {E : Value → Shared → Prop} {s : Shared} {d z tI tO it it' T : Addr} {f : Bool} {oT : Obj} {c c' : List Addr} {n n' i : Nat} {B B' : Nat → Value → Prop} {S S' : Nat → Heap → Prop}
theorem zh_item {Q : Value → Shared → Prop} (sep : ZipSep2 z tI tO it it' c c') (D : Draws P w A it c n B S) (D' : Draws P w A it' c' n' B' S')
    (hz : IsZipHeld s.heap z tI tO T f) (hT : s.heap.get? T = some oT) (hI : IsTupOf2 s.heap tI (.ref it) (.ref it')) (h1 : S i s.heap) (h2 : S' i s.heap) (l1 : i < n) (l2 : i < n')
    (hQ : ∀ x y h' tk, B i x → B' i y → IsZipHeld h' z tI tO T true → S (i + 1) h' → S' (i + 1) h' → IsTupOf2 h' s.heap.objs.size x y → h'.objs.size = s.heap.objs.size + 1 →
      (∀ b o, b ≠ z → b ≠ it → b ≠ it' → s.heap.get? b = some o → h'.get? b = some o) → Q (.ref s.heap.objs.size) { s with heap := h', toks := tk }) :
    wpAny (model P w) A (Builtin.«zip.__next__» ⟨[.ref z], []⟩) (fun fin s' => ∃ v, fin = .done (.ret v) ∧ Q v s') E s := by
  obtain ⟨hp, gn, dy, tk0, os⟩ := s
  show wpAny _ _ (field (.ref z) 2 >>= _) _ _ _
  refine wpAny_bind (wpAny_field hz rfl (x := .bool false) rfl ?_)
  show wpAny _ _ (field (.ref z) 3 >>= _) _ _ _
  refine wpAny_bind (wpAny_field hz rfl (x := .ref tI) rfl ?_)
  refine wpAny_bind (wpAny_seqItems hI rfl ?_)
  show wpAny _ _ (Builtin.SmallTypes.ownedTupleIsFree (.ref z) >>= _) _ _ _
  refine wpAny_bind (wpAny_tupleHeld_zip hz hT fun p0 z0 k0 => ?_)
  replace k0 : Heap.SameBut z hp p0 := k0
  simp only [Bool.false_eq_true, if_false]
  refine wpAny_bind ?_
  rw [← Array.forIn_toList]
  simp only [List.forIn_cons, List.forIn_nil]
  refine wpAny_bind (wpAny_bind (wpAny_holding ?_))
  show wpAny _ _ (Builtin.SmallTypes.nextOf (.ref it) >>= _) _ _ ⟨p0, gn, dy, tk0, os⟩
  refine wpAny_bind (D.item i _ _ _ l1 (D.over h1 k0 sep.zf1) fun x p1 tk1 bx s1 k1 => wpAny_pure ?_)
  replace k1 : Heap.SameBut it p0 p1 := k1
  refine wpAny_pure ?_
  refine wpAny_bind (wpAny_bind (wpAny_holding ?_))
  show wpAny _ _ (Builtin.SmallTypes.nextOf (.ref it') >>= _) _ _ ⟨p1, gn, dy, tk1, os⟩
  refine wpAny_bind (D'.item i _ _ _ l2 (D'.over (D'.over h2 k0 sep.zf2) k1 sep.sep1_2) fun y p2 tk2 by' s2 k2 => wpAny_pure ?_)
  replace k2 : Heap.SameBut it' p1 p2 := k2
  refine wpAny_pure (wpAny_pure ?_)
  show wpAny _ _ (newTuple [x, y] >>= _) _ _ _
  refine wpAny_bind (wpAny_newTuple ?_)
  have sz : p2.objs.size = hp.objs.size := by rw [k2.1, k1.1, k0.1]
  have zz : IsZipHeld p2 z tI tO T true := k2.extBut _ _ sep.zi2 (k1.extBut _ _ sep.zi1 z0)
  have kk : ∀ b o, b ≠ z → b ≠ it → b ≠ it' → hp.get? b = some o → p2.get? b = some o := fun b o n1 n2 n3 e => k2.extBut _ _ n3 (k1.extBut _ _ n2 (k0.extBut _ _ n1 e))
  have s1' : S (i + 1) p2 := D.over s1 k2 sep.sep2_1
  refine wpAny_pure ⟨_, rfl, ?_⟩
  show Q (.ref p2.objs.size) _
  have up : ∀ b o, p2.get? b = some o → (p2.push { cls := .type "tuple", data := .seq #[x, y] }).get? b = some o := fun b o e => Heap.get?_push_of_some _ e
  have tp : IsTupOf2 (p2.push { cls := .type "tuple", data := .seq #[x, y] }) p2.objs.size x y := Heap.get?_push_size _ rfl
  have ts : (p2.push { cls := .type "tuple", data := .seq #[x, y] }).objs.size = p2.objs.size + 1 := Heap.size_push ..
  rw [sz] at tp ts ⊢
  exact hQ x y _ tk2 bx by' (up _ _ zz) (D.frame _ _ _ s1' fun b _ o e => up b o e) (D'.frame _ _ _ s2 fun b _ o e => up b o e) tp ts fun b o n1 n2 n3 e => up b o (kk b o n1 n2 n3 e)
theorem zh_end {Q : Fin → Shared → Prop} (sep : ZipSep2 z tI tO it it' c c') (D : Draws P w A it c n B S) (D' : Draws P w A it' c' n' B' S')
    (hz : IsZipHeld s.heap z tI tO T f) (hT : s.heap.get? T = some oT) (hI : IsTupOf2 s.heap tI (.ref it) (.ref it')) (h1 : S i s.heap) (h2 : S' i s.heap) (l1 : i ≤ n) (l2 : i ≤ n') (hend : i = n ∨ i = n')
    (hE : ∀ h' tk e, (∀ b o, b ≠ z → b ≠ it → b ≠ it' → s.heap.get? b = some o → h'.get? b = some o) → (∃ o, h'.get? e = some o ∧ o.cls = .type "StopIteration") → E (.ref e) { s with heap := h', toks := tk }) :
    wpAny (model P w) A (Builtin.«zip.__next__» ⟨[.ref z], []⟩) Q E s := by
  obtain ⟨hp, gn, dy, tk0, os⟩ := s
  show wpAny _ _ (field (.ref z) 2 >>= _) _ _ _
  refine wpAny_bind (wpAny_field hz rfl (x := .bool false) rfl ?_)
  show wpAny _ _ (field (.ref z) 3 >>= _) _ _ _
  refine wpAny_bind (wpAny_field hz rfl (x := .ref tI) rfl ?_)
  refine wpAny_bind (wpAny_seqItems hI rfl ?_)
  show wpAny _ _ (Builtin.SmallTypes.ownedTupleIsFree (.ref z) >>= _) _ _ _
  refine wpAny_bind (wpAny_tupleHeld_zip hz hT fun p0 z0 k0 => ?_)
  replace k0 : Heap.SameBut z hp p0 := k0
  simp only [Bool.false_eq_true, if_false]
  refine wpAny_bind ?_
  rw [← Array.forIn_toList]
  simp only [List.forIn_cons, List.forIn_nil]
  refine wpAny_bind (wpAny_bind (wpAny_holding ?_))
  show wpAny _ _ (Builtin.SmallTypes.nextOf (.ref it) >>= _) _ _ ⟨p0, gn, dy, tk0, os⟩
  by_cases lt : i < n
  · refine wpAny_bind (D.item i _ _ _ lt (D.over h1 k0 sep.zf1) fun x p1 tk1 bx s1 k1 => wpAny_pure ?_)
    replace k1 : Heap.SameBut it p0 p1 := k1
    refine wpAny_pure ?_
    have en : i = n' := by omega
    refine wpAny_bind (wpAny_bind (wpAny_holding ?_))
    show wpAny _ _ (Builtin.SmallTypes.nextOf (.ref it') >>= _) _ _ ⟨p1, gn, dy, tk1, os⟩
    refine wpAny_bind (D'.done ⟨p1, gn, dy, tk1, os⟩ _ _ (by rw [← en]; exact D'.over (D'.over h2 k0 sep.zf2) k1 sep.sep1_2) fun q e hq he => ?_)
    exact hE q tk1 e (fun b o n1 n2 n3 x => hq _ _ n3 (k1.extBut _ _ n2 (k0.extBut _ _ n1 x))) he
  · have en : i = n := by omega
    refine wpAny_bind (D.done ⟨p0, gn, dy, tk0, os⟩ _ _ (by rw [← en]; exact D.over h1 k0 sep.zf1) fun q e hq he => ?_)
    exact hE q tk0 e (fun b o n1 n2 _ x => hq _ _ n2 (k0.extBut _ _ n1 x)) he
theorem zn_item {Q : Option Value → Shared → Prop} (sep : ZipSep2 z tI tO it it' c c') (D : Draws P w A.in1 it c n B S) (D' : Draws P w A.in1 it' c' n' B' S')
    (hz : IsZipHeld s.heap z tI tO T f) (hT : s.heap.get? T = some oT) (hI : IsTupOf2 s.heap tI (.ref it) (.ref it')) (h1 : S i s.heap) (h2 : S' i s.heap) (l1 : i < n) (l2 : i < n')
    (hQ : ∀ x y h' tk, B i x → B' i y → IsZipHeld h' z tI tO T true → S (i + 1) h' → S' (i + 1) h' → IsTupOf2 h' s.heap.objs.size x y → h'.objs.size = s.heap.objs.size + 1 →
      (∀ b o, b ≠ z → b ≠ it → b ≠ it' → s.heap.get? b = some o → h'.get? b = some o) → Q (some (.ref s.heap.objs.size)) { s with heap := h', toks := tk }) :
    wpAny (model P w) A (pyNext (.ref z)) Q E s := by
  have ty : s.TypeIs (.ref z) "zip" := ⟨_, hz, rfl⟩
  unfold pyNext
  refine wpAny_bind (wpAny_attempt (wpAny_callSpecial?_slot (name := Str.ofString "__next__") ty PySem.F.slot_zip_next (wpAny_call_entry PySem.F.slot_zip_next ty PySem.F.entry_zip_next ?_ (PySem.F.args_zip_next_1 _))))
  exact zh_item sep D D' hz hT hI h1 h2 l1 l2 fun x y h' tk a1 a2 a3 a4 a5 a6 a7 a8 => wpAny_pure (hQ x y h' tk a1 a2 a3 a4 a5 a6 a7 a8)
theorem zn_end {Q : Option Value → Shared → Prop} (sep : ZipSep2 z tI tO it it' c c') (D : Draws P w A.in1 it c n B S) (D' : Draws P w A.in1 it' c' n' B' S')
    (hz : IsZipHeld s.heap z tI tO T f) (hT : s.heap.get? T = some oT) (hI : IsTupOf2 s.heap tI (.ref it) (.ref it')) (h1 : S i s.heap) (h2 : S' i s.heap) (l1 : i ≤ n) (l2 : i ≤ n') (hend : i = n ∨ i = n')
    (hQ : ∀ h' tk, (∀ b o, b ≠ z → b ≠ it → b ≠ it' → s.heap.get? b = some o → h'.get? b = some o) → Q none { s with heap := h', toks := tk }) : wpAny (model P w) A (pyNext (.ref z)) Q E s := by
  have ty : s.TypeIs (.ref z) "zip" := ⟨_, hz, rfl⟩
  unfold pyNext
  refine wpAny_bind (wpAny_attempt (wpAny_callSpecial?_slot (name := Str.ofString "__next__") ty PySem.F.slot_zip_next (wpAny_call_entry PySem.F.slot_zip_next ty PySem.F.entry_zip_next (zh_end sep D D' hz hT hI h1 h2 l1 l2 hend fun h' tk e hk he => ?_) (PySem.F.args_zip_next_1 _))))
  obtain ⟨o, ho, hc⟩ := he
  refine wpAny_bind (wpAny_isInstance (T := "StopIteration") (b := true) ⟨o, ho, hc⟩ isSubtype_stop ?_)
  exact wpAny_pure (hQ _ _ hk)
/-- a zip's state between two turns -/
def ZSt (d z tI tO it it' : Addr) (S S' : Nat → Heap → Prop) (i : Nat) (h : Heap) : Prop :=
  IsTupOf2 h tI (.ref it) (.ref it') ∧ S i h ∧ S' i h ∧ ((IsZip h z tI tO .none ∧ ∃ a b, IsTupOf2 h tO a b) ∨ ∃ T f oT, IsZipHeld h z tI tO T f ∧ h.get? T = some oT ∧ T ≠ z ∧ T ≠ it ∧ T ≠ it' ∧ T ≠ d)
theorem ZSt.frame (D : Draws P w A it c n B S) (D' : Draws P w A it' c' n' B' S') (dz : d ≠ z) (dI : d ≠ tI) (dO : d ≠ tO) (dc : d ∉ c) (dc' : d ∉ c') {h h' : Heap} (k : ∀ b o, b ≠ d → h.get? b = some o → h'.get? b = some o) (st : ZSt d z tI tO it it' S S' i h) : ZSt d z tI tO it it' S S' i h' := by
  obtain ⟨hI, h1, h2, hz⟩ := st
  refine ⟨k _ _ (Ne.symm dI) hI, D.frame _ _ _ h1 fun b m o e => k b o (fun q => dc (q ▸ m)) e, D'.frame _ _ _ h2 fun b m o e => k b o (fun q => dc' (q ▸ m)) e, ?_⟩
  rcases hz with ⟨hz, a, b, hO⟩ | ⟨T, f, oT, hz, hT, r1, r2, r3, r4⟩
  · exact .inl ⟨k _ _ (Ne.symm dz) hz, a, b, k _ _ (Ne.symm dO) hO⟩
  · exact .inr ⟨T, f, oT, k _ _ (Ne.symm dz) hz, k _ _ r4 hT, r1, r2, r3, r4⟩
/-- a turn -/
theorem zs_item {Q : Option Value → Shared → Prop} (sep : ZipSep2 z tI tO it it' c c') (D : Draws P w A.in1 it c n B S) (D' : Draws P w A.in1 it' c' n' B' S') (st : ZSt d z tI tO it it' S S' i s.heap) (l1 : i < n) (l2 : i < n') (hd : d < s.heap.objs.size)
    (hQ : ∀ x y h' tk, B i x → B' i y → ZSt d z tI tO it it' S S' (i + 1) h' → IsTupOf2 h' s.heap.objs.size x y → h'.objs.size = s.heap.objs.size + 1 →
      (∀ b o, b ≠ z → b ≠ tO → b ≠ it → b ≠ it' → s.heap.get? b = some o → h'.get? b = some o) → Q (some (.ref s.heap.objs.size)) { s with heap := h', toks := tk }) :
    wpAny (model P w) A (pyNext (.ref z)) Q E s := by
  obtain ⟨hI, h1, h2, hz⟩ := st
  have lt : ∀ {b o}, s.heap.get? b = some o → s.heap.objs.size ≠ b := fun e => Nat.ne_of_gt (Heap.lt_size e)
  have n1 : s.heap.objs.size ≠ it := let ⟨_, e⟩ := D.live _ _ h1; lt e
  have n2 : s.heap.objs.size ≠ it' := let ⟨_, e⟩ := D'.live _ _ h2; lt e
  rcases hz with ⟨hz, a, b, hO⟩ | ⟨T, f, oT, hz, hT, r1, r2, r3, r4⟩
  · refine wpAny_pyNext_zipD2_item sep D D' hz hI hO h1 h2 l1 l2 fun x y h' tk a1 a2 a3 a4 a5 a6 a7 a8 a9 => ?_
    exact hQ x y h' tk a1 a2 ⟨a9 _ _ sep.TIz sep.TITO sep.TIi1 sep.TIi2 hI, a5, a6, .inr ⟨s.heap.objs.size, false, _, a3, a7, lt hz, n1, n2, Nat.ne_of_gt hd⟩⟩ a7 a8 a9
  · refine zn_item sep D D' hz hT hI h1 h2 l1 l2 fun x y h' tk a1 a2 a3 a4 a5 a6 a7 a8 => ?_
    exact hQ x y h' tk a1 a2 ⟨a8 _ _ sep.TIz sep.TIi1 sep.TIi2 hI, a4, a5, .inr ⟨T, true, oT, a3, a8 _ _ r1 r2 r3 hT, r1, r2, r3, r4⟩⟩ a6 a7 fun b o b1 _ b3 b4 e => a8 b o b1 b3 b4 e
theorem zs_end {Q : Option Value → Shared → Prop} (sep : ZipSep2 z tI tO it it' c c') (D : Draws P w A.in1 it c n B S) (D' : Draws P w A.in1 it' c' n' B' S') (st : ZSt d z tI tO it it' S S' (min n n') s.heap)
    (hQ : ∀ h' tk, (∀ b o, b ≠ z → b ≠ tO → b ≠ it → b ≠ it' → s.heap.get? b = some o → h'.get? b = some o) → Q none { s with heap := h', toks := tk }) : wpAny (model P w) A (pyNext (.ref z)) Q E s := by
  obtain ⟨hI, h1, h2, hz⟩ := st
  rcases hz with ⟨hz, a, b, hO⟩ | ⟨T, f, oT, hz, hT, r1, r2, r3, r4⟩
  · exact wpAny_pyNext_zipD2_end sep D D' hz hI hO h1 h2 (by omega) (by omega) (by omega) hQ
  · exact zn_end sep D D' hz hT hI h1 h2 (by omega) (by omega) (by omega) fun h' tk k => hQ h' tk fun b o b1 _ b3 b4 e => k b o b1 b3 b4 e
/-- what a zip gives dict() -/
theorem pairArgD (z tI tO it it' : Addr) (sep : ZipSep2 z tI tO it it' c c') (D : ∀ A, A.handled = none → Draws P w A it c n B S) (D' : ∀ A, A.handled = none → Draws P w A it' c' n' B' S') (h0 : ∀ h, S 0 h → ∀ b ∈ c, ∃ o, h.get? b = some o) (h0' : ∀ h, S' 0 h → ∀ b ∈ c', ∃ o, h.get? b = some o) :
    PairArg P w "zip" z (z :: tI :: tO :: (c ++ c')) [z, tO, it, it'] (min n n') (fun i k v => B i k ∧ B' i v)
      (fun h => IsZip h z tI tO .none ∧ IsTupOf2 h tI (.ref it) (.ref it') ∧ (∃ a b, IsTupOf2 h tO a b) ∧ S 0 h ∧ S' 0 h) where
  type := fun s ok => ⟨_, ok.1, rfl⟩
  notDict := by decide
  keep := fun h h' ok k => by
    obtain ⟨hz, hI, ⟨a, b, hO⟩, h1, h2⟩ := ok
    exact ⟨k _ _ hz, k _ _ hI, ⟨a, b, k _ _ hO⟩, (D {} rfl).frame _ _ _ h1 fun b _ o e => k b o e, (D' {} rfl).frame _ _ _ h2 fun b _ o e => k b o e⟩
  there := fun h ok b hb => by
    obtain ⟨hz, hI, ⟨a, b', hO⟩, h1, h2⟩ := ok
    rcases List.mem_cons.mp hb with rfl | hb
    · exact ⟨_, hz⟩
    rcases List.mem_cons.mp hb with rfl | hb
    · exact ⟨_, hI⟩
    rcases List.mem_cons.mp hb with rfl | hb
    · exact ⟨_, hO⟩
    rcases List.mem_append.mp hb with hb | hb
    · exact h0 h h1 b hb
    · exact h0' h h2 b hb
  sub := fun b hb => by
    have hb' : b = z ∨ b = tO ∨ b = it ∨ b = it' := by simpa using hb
    rcases hb' with rfl | rfl | rfl | rfl
    · simp
    · simp
    · simp [sep.mem1]
    · simp [sep.mem2]
  noKeys := fun A s Q E hA ok h => getAttrOr_miss_zip ok.1 rfl rfl rfl zip_no_keys (by decide +kernel) hA h
  iter := fun A s d Q E hA ok hd hdf h => by
    obtain ⟨hz, hI, ⟨a, b, hO⟩, h1, h2⟩ := ok
    simp only [List.mem_cons, List.mem_append, not_or] at hdf
    obtain ⟨dz, dI, dO, dc, dc'⟩ := hdf
    have D1 := D A.in1 hA
    have D2 := D' A.in1 hA
    refine wpAny_pyIter_zip hz (h z [z, tO, it, it'] (ZSt d z tI tO it it' S S') s.heap s.toks ?_ ⟨hI, h1, h2, .inl ⟨hz, a, b, hO⟩⟩ (fun _ _ e => e) fun b hb => .inl hb)
    exact {
      off := fun hm => by
        have hm' : d = z ∨ d = tO ∨ d = it ∨ d = it' := by simpa using hm
        rcases hm' with e | e | e | e
        · exact dz e
        · exact dO e
        · exact dc (e ▸ sep.mem1)
        · exact dc' (e ▸ sep.mem2)
      frame := fun i h₁ h₂ st k => ZSt.frame D1 D2 dz dI dO dc dc' k st
      item := fun i s₁ Q₁ E₁ hi st hds hQ => zs_item sep D1 D2 st (by omega) (by omega) hds fun x y h' tk a1 a2 a3 a4 a5 a6 =>
        hQ s₁.heap.objs.size x y h' tk ⟨a1, a2⟩ (.inl ⟨_, a4, rfl, _, rfl⟩) a3 fun b o hb e => a6 b o (fun q => hb (by simp [q])) (fun q => hb (by simp [q])) (fun q => hb (by simp [q])) (fun q => hb (by simp [q])) e
      done := fun s₁ Q₁ E₁ st hQ => zs_end sep D1 D2 st fun h' tk k => hQ h' tk fun b o hb e => k b o (fun q => hb (by simp [q])) (fun q => hb (by simp [q])) (fun q => hb (by simp [q])) (fun q => hb (by simp [q])) e }
end
end Fw
set_option Elab.async false
set_option linter.all false
set_option maxRecDepth 100000
set_option maxHeartbeats 4000000
namespace Fw
open PySem PySem.Spec PyProof.Rows L2

/-! ## dict(zip(..)) of two tuples, keys texts, all different -/
def dzD (ks ds : List Dt) : Option Dt := (strsOf ks).bind fun k => if k.Nodup ∧ ks.length = ds.length ∧ ks.length < 1000 then some (.dk k ds) else none
def mDZT (m n : En → Mo Dt) : En → Mo Dt := fun ρ => (m ρ).bind fun d => (n ρ).bind fun d' => match d, d' with
  | .tup xs, .tup ys => ofO (dzD xs ys)
  | _, _ => .err
section
variable {X : Cx} {Tz : Tbs} {XR : XRel} {E : Sg → XK}
theorem strs_len : ∀ {ds : List Dt} {l : List (List Nat)}, strsOf ds = some l → l.length = ds.length
  | [], l, h => by cases h; rfl
  | d :: ds, l, h => by
    cases d with
    | str x =>
      have h' : (strsOf ds).map (fun r => x :: r) = some l := h
      obtain ⟨r, e1, rfl⟩ := Option.map_eq_some_iff.mp h'
      rw [List.length_cons, List.length_cons, strs_len e1]
    | _ => cases h
theorem PV.dk {r : Addr} {Z : Addr → Prop} {H : Hp} {Q : VK} {ks : List (List Nat)} {ds : List Dt} {vs : List V} (h : PV (X.gd Tz) r Z H Q (.dk ks ds)) (w : Wf (X.gd Tz) r Z H) (q : Reps (X.gd Tz) r Z H vs ds) (l : ks.length = vs.length) (l2 : ks.length < 1000) : ∀ p, H p = none → Q (.ref p) (upd H p (.dK ((kS ks).zip vs))) := fun p hn => by
  have e := Ext.laid (o := .dK ((kS ks).zip vs)) w hn
  refine h _ _ _ e ?_
  unfold Rep
  exact ⟨p, vs, rfl, .inl ⟨.inr rfl, upd_same⟩, l, l2, q.frz (e.frz w)⟩
/-- a dict that has come to be: its place in the tracked heap -/
theorem dict_new {pins : List (Addr × Obj)} {σ : Sg} {H : Hp} {s : Shared} {h' : Heap} {tk : Nat} {p : Addr} {r : Addr} {Z : Addr → Prop} {Q : VK} {ks : List (List Nat)} {ds : List Dt} {vs : List V} {us : List Value} (I : Inv X pins σ H s) (k : ∀ b u, s.heap.get? b = some u → h'.get? b = some u) (hp : s.heap.objs.size ≤ p)
    (w : Wf (X.gd Tz) r Z H) (q : Reps (X.gd Tz) r Z H vs ds) (rv : Vals vs us) (nd : ks.Nodup) (l : ks.length = vs.length) (l2 : ks.length < 1000) (hd : h'.DictOf (mixKind X.prog X.w) p (merged [] ((kS ks).zip us))) (h : PV (X.gd Tz) r Z H Q (.dk ks ds)) : EP X pins σ Q (.ref p) { s with heap := h', toks := tk } := by
  have kvl : ∀ {ks : List Key} {vs : List V} {us : List Value}, Vals vs us → KV (ks.zip vs) (ks.zip us) := by
    intro ks
    induction ks with
    | nil => intro vs us _; exact .nil
    | cons k ks ih =>
      intro vs us r
      cases r with
      | nil => exact .nil
      | cons r t => exact .cons ⟨rfl, r⟩ (ih t)
  have mm : mergeK [] ((kS ks).zip vs) = (kS ks).zip vs := by
    rw [merge_new _ [] (by rw [List.nil_append, zip_fst (by unfold kS; rw [List.length_map]; exact l)]; exact kS_nodup nd), List.nil_append]
  have hlen : ((kS ks).zip vs).length ≤ sizeLine := by
    rw [List.length_zip]
    exact sl16 (Nat.le_trans (Nat.min_le_right _ _) (by omega))
  have hm : (p == sysModules) = false := beq_eq_false_iff_ne.mpr (Nat.ne_of_gt (Nat.lt_of_lt_of_le I.big hp))
  have J := I.laid (o := .dK ((kS ks).zip vs)) (t' := tk) k hp (show ObjOk X.prog X.w _ _ _ (.dK ((kS ks).zip vs)) from ⟨hlen, hm, merged [] ((kS ks).zip us), by have := KV.merge (kvl (ks := kS ks) rv) .nil; rw [mm] at this; exact this, hd⟩)
  exact ⟨.ref p, _, J, rfl, PV.dk h w q l l2 p (I.hok.fresh hp)⟩
theorem pairs_have {ks : List (List Nat)} {kv us : List Value} (hk : Vals (ks.map fun x => V.str (st x)) kv) (l : kv.length = us.length) : PairsHave (mixKind X.prog X.w) (min kv.toArray.size us.toArray.size) (fun i k v => kv.toArray[i]? = some k ∧ us.toArray[i]? = some v) ((kS ks).zip us) := by
  have lk : ks.length = kv.length := by have := hk.length; rwa [List.length_map] at this
  refine ⟨by rw [List.length_zip]; unfold kS; rw [List.length_map, List.size_toArray, List.size_toArray]; omega, fun i key v ⟨e1, e2⟩ => ?_⟩
  rw [List.getElem?_toArray] at e1 e2
  have il : i < kv.length := (List.getElem?_eq_some_iff.mp e1).1
  have ik : i < ks.length := by omega
  refine ⟨Sum.inr (st ks[i]), ?_, ?_⟩
  · rw [List.getElem?_zip_eq_some]
    refine ⟨?_, e2⟩
    unfold kS
    rw [List.getElem?_map, List.getElem?_eq_getElem ik]
    rfl
  · have at_ : ∀ {vs : List V} {us : List Value}, Vals vs us → ∀ (i : Nat) (u : Value), us[i]? = some u → ∃ x, vs[i]? = some x ∧ RelV x u := by
      intro vs us r
      induction r with
      | nil => intro i u e; simp at e
      | cons r t ih =>
        intro i u e
        cases i with
        | zero =>
          have e' : _ = u := Option.some.inj e
          subst e'
          exact ⟨_, rfl, r⟩
        | succ i => exact ih i u (by simpa using e)
    obtain ⟨x, ex, rx⟩ := at_ hk i key e1
    rw [List.getElem?_map, List.getElem?_eq_getElem ik] at ex
    have ex' : V.str (st ks[i]) = x := Option.some.inj ex
    subst ex'
    obtain ⟨t, rfl⟩ := rx
    exact mixKind_str X.prog X.w _ t
theorem e_dzT {a b : Expr} {m n : En → Mo Dt} {p p2 q pos : Pos} (hg : Gl X "dict") (hm : X.mg "dict" = none) (hg2 : Gl X "zip") (hm2 : X.mg "zip" = none) (ha : PE X a (tM (X.gd Tz) XR E m)) (hb : PE X b (tM (X.gd Tz) XR E n)) (hc : X.calm = true := by rfl)
    (na : starEach [a, b] X.env = (false, eval a X.env) :: starEach [b] X.env := by rfl) (nb : starEach [b] X.env = (false, eval b X.env) :: starEach [] X.env := by rfl) (hpl : (backTo q (starEach [b] X.env)).any (·.1) = false := by rfl) :
    PE X (.Call (.Name "dict" p) [.Call (.Name "zip" p2) [a, b] [] q] [] pos) (tM (X.gd Tz) XR E (mDZT m n)) := by
  refine ⟨fun pins s σ H Q I ⟨r, Z, ρ, w, st0, h⟩ => ?_⟩
  refine Call_ (ld_blt I hg hm (show bootBuiltins "dict" = some (.type "dict") by decide +kernel) ?_)
  refine PyProof.Rows.callWith_type1 (PyProof.Rows.args_cons ?_ rfl) rfl rfl
  refine Call_ (ld_blt I hg2 hm2 (show bootBuiltins "zip" = some (.type "zip") by decide +kernel) ?_)
  refine PyProof.Rows.callWith_type1 (PyProof.Rows.args_cons (thn (ha.run pins s σ H (fun x H1 => ∃ Z1 d, Ext (X.gd Tz) r Z H Z1 H1 ∧ Rep (X.gd Tz) r Z1 H1 x d ∧ Mo.wp ((n ρ).bind fun d' => match d, d' with | .tup xs, .tup ys => ofO (dzD xs ys) | _, _ => .err) (PV (X.gd Tz) r Z H Q) (PX (X.gd Tz) XR r Z H (E σ))) I
    (tM.split w st0 h fun u H1 Z1 d e1 w1 s1 rp h1 => ⟨Z1, d, e1, rp, h1⟩)) fun u s1 ⟨x, H1, I1, rx, Z1, d, e1, rp, h1⟩ =>
    PyProof.Rows.args_cons (thn (hb.run pins s1 σ H1 (fun y H2 => ∃ Z2 d', Ext (X.gd Tz) r Z1 H1 Z2 H2 ∧ Rep (X.gd Tz) r Z2 H2 y d' ∧ Mo.wp (match d, d' with | .tup xs, .tup ys => ofO (dzD xs ys) | _, _ => .err) (PV (X.gd Tz) r Z H Q) (fun _ _ => True)) I1
    (tM.split e1.wf (st0.ext w e1) (h1.mono (fun _ q => q) fun _ _ q => q.ext e1) fun u H2 Z2 d' e2 w2 s2 rp2 h2 => ⟨Z2, d', e2, rp2, h2.mono (fun _ q => q) fun _ _ _ => trivial⟩)) fun v s2 ⟨y, H2, I2, ry, Z2, d', e2, rp2, h2⟩ => PyProof.Rows.args_nil ?_) nb) na) na hpl
  cases d with
  | tup xs =>
    cases d' with
    | tup ys =>
      obtain ⟨d3, e3, h3⟩ := wp_ofO h2
      obtain ⟨ks, ek, e4⟩ := Option.bind_eq_some_iff.mp e3
      split at e4
      · rename_i hc2
        obtain ⟨nd, hl, hz⟩ := hc2
        cases e4
        have lk := strs_len ek
        obtain ⟨pa, vs, rfl, ta, la, qa⟩ := (rp.frz (e2.frz e1.wf)).tup
        obtain ⟨pb, us, rfl, tb, lb, qb⟩ := rp2.tup
        have eu : u = Value.ref pa := rx
        have ev : v = Value.ref pb := ry
        subst eu ev
        have evs := reps_strs qa ek
        subst evs
        obtain ⟨kv, rk, hta, _⟩ := I2.tuple ta.sq
        obtain ⟨uv, ru, htb, _⟩ := I2.tuple tb.sq
        have lks : kv.length = uv.length := by
          have a1 := rk.length
          have a2 := ru.length
          have a3 := qb.length
          rw [List.length_map] at a1
          omega
        have lta : pa < s2.heap.objs.size := let ⟨_, e, _⟩ := hta; Heap.lt_size e
        have ltb : pb < s2.heap.objs.size := let ⟨_, e, _⟩ := htb; Heap.lt_size e
        have hA := I2.ok.hd hc
        refine zip_begins2 (begins_tuple pa kv.toArray) (begins_tuple pb uv.toArray) hta htb fun h' z1 z2 z3 z4 z5 z6 z7 => ?_
        refine PyProof.Rows.args_nil ?_
        have sep : ZipSep2 (s2.heap.objs.size + 4) (s2.heap.objs.size + 2) (s2.heap.objs.size + 3) s2.heap.objs.size (s2.heap.objs.size + 1) [s2.heap.objs.size, pa] [s2.heap.objs.size + 1, pb] :=
          zip_sep2 (fun b hb => by rw [List.mem_singleton.mp hb]; exact lta) (fun b hb => by rw [List.mem_singleton.mp hb]; exact ltb)
        have arg := pairArgD (P := X.prog) (w := X.w) _ _ _ _ _ sep (fun A hA => Draws.tuple hA s2.heap.objs.size pa (Nat.ne_of_lt lta) kv.toArray) (fun A hA => Draws.tuple hA (s2.heap.objs.size + 1) pb (Nat.ne_of_lt (Nat.lt_succ_of_lt ltb)) uv.toArray)
          (fun h ⟨⟨o, q1, _⟩, ⟨o2, q2, _⟩⟩ b hb => by
            rcases List.mem_cons.mp hb with rfl | hb
            · exact ⟨o, q1⟩
            · rw [List.mem_singleton.mp hb]; exact ⟨o2, q2⟩)
          (fun h ⟨⟨o, q1, _⟩, ⟨o2, q2, _⟩⟩ b hb => by
            rcases List.mem_cons.mp hb with rfl | hb
            · exact ⟨o, q1⟩
            · rw [List.mem_singleton.mp hb]; exact ⟨o2, q2⟩)
        refine call_dict_pairs arg hA ⟨z1, z2, ⟨_, _, z3⟩, ⟨⟨_, z4, rfl, rfl⟩, IsTup.keeps hta z7⟩, ⟨_, z5, rfl, rfl⟩, IsTup.keeps htb z7⟩ (pairs_have (X := X) rk lks) (Nat.le_trans (Nat.min_le_left _ _) (sl16 (by rw [List.size_toArray]; have a1 := rk.length; rw [List.length_map] at a1; omega))) fun h3' tk hd k => ?_
        have sz5 : h'.objs.size = s2.heap.objs.size + 5 := z6
        refine dict_new (s := s2) I2 (fun b o e => ?_) (show s2.heap.objs.size ≤ h'.objs.size by omega) e2.wf qb ru nd (by have a3 := qb.length; omega) (by omega) hd (h3.ext (e1.trans e2))
        have lb2 : b < s2.heap.objs.size := Heap.lt_size e
        refine k b o (fun hb => ?_) (z7 b o e)
        have hb' : b = s2.heap.objs.size + 4 ∨ b = s2.heap.objs.size + 3 ∨ b = s2.heap.objs.size ∨ b = s2.heap.objs.size + 1 := by simpa using hb
        have : b < s2.heap.objs.size := lb2
        rcases hb' with e | e | e | e
        · exact absurd lb2 (by rw [e]; exact Nat.not_lt.mpr (Nat.le_add_right _ _))
        · exact absurd lb2 (by rw [e]; exact Nat.not_lt.mpr (Nat.le_add_right _ _))
        · exact absurd lb2 (by rw [e]; exact Nat.lt_irrefl _)
        · exact absurd lb2 (by rw [e]; exact Nat.not_lt.mpr (Nat.le_add_right _ _))
      · cases e4
    | _ => exact h2.elim
  | _ => exact h2.elim
end
end Fw
set_option Elab.async false
set_option linter.all false
set_option maxRecDepth 100000
set_option maxHeartbeats 4000000
namespace Fw
open PySem PySem.Spec PyProof.Rows L2

/-! ## list(zip(..)): the tuples stay -/
theorem zip_no_len : typeLookup (.type "zip") "__len__" = pure none := by rw [typeLookup_type, builtinLookup_eq_fast]; kernel_rfl
theorem zip_no_hint : typeLookup (.type "zip") "__length_hint__" = pure none := by rw [typeLookup_type, builtinLookup_eq_fast]; kernel_rfl
abbrev lstO (acc : Array Value) (k : Nat) : Obj := { cls := .type "list", dict := none, data := .seq acc k, slots := #[] }
/-- what a list of a zip's tuples holds -/
structure ZIts (h : Heap) (bad : List Addr) (B B' : Nat → Value → Prop) (acc : Array Value) (l : List (Addr × Value × Value)) : Prop where
  it : acc.toList = l.map fun t => Value.ref t.1
  tp : ∀ t ∈ l, IsTupOf2 h t.1 t.2.1 t.2.2
  ok : ∀ t ∈ l, t.1 ∉ bad
  b : ∀ j t, l[j]? = some t → B j t.2.1 ∧ B' j t.2.2
section
variable {P : Program} {w : World} {A : Around} {s : Shared} {L z tI tO it it' : Addr} {c c' : List Addr} {n n' : Nat} {B B' : Nat → Value → Prop} {S S' : Nat → Heap → Prop}
theorem zl_loop {R : Result → Shared → Prop} (sep : ZipSep2 z tI tO it it' c c') (D : Draws P w A.in1.in1 it c n B S) (D' : Draws P w A.in1.in1 it' c' n' B' S') (dz : L ≠ z) (dI : L ≠ tI) (dO : L ≠ tO) (dc : L ∉ c) (dc' : L ∉ c') (hn : min n n' ≤ sizeLine) (res : Value) :
    ∀ (k i : Nat) (s : Shared) (acc : Array Value) (a0 : Nat) (l : List (Addr × Value × Value)), min n n' - i = k → i ≤ min n n' → ZSt L z tI tO it it' S S' i s.heap → s.heap.get? L = some (lstO acc a0) → ZIts s.heap [L, z, tO, it, it'] B B' acc l → l.length = i → (∀ b ∈ [L, z, tO, it, it'], b < s.heap.objs.size) →
    (∀ h' tk acc' a1 l', (∀ b o, b ∉ [L, z, tO, it, it'] → s.heap.get? b = some o → h'.get? b = some o) → h'.get? L = some (lstO acc' a1) → ZIts h' [L, z, tO, it, it'] B B' acc' l' → l'.length = min n n' → R (.ok (.ret res)) { s with heap := h', toks := tk }) →
    codeAny (model P w) A (.builtin "list.extend.loop" ⟨[.ref L, .ref z, res], []⟩) R s := by
  intro k
  induction k with
  | zero =>
    intro i s acc a0 l hk hi st hL hI hl hb hR
    have hin : i = min n n' := by omega
    subst hin
    refine codeAny_builtin PySem.F.entry_extend_loop ?_
    rw [Around.under_plainId PySem.F.plain_extend_loop _]
    show wpAny _ A.in1 (pyNext (.ref z) >>= _) _ _ s
    refine wpAny_bind (zs_end sep D D' st fun h' tk kp => ?_)
    have kp' : ∀ b o, b ∉ [L, z, tO, it, it'] → s.heap.get? b = some o → h'.get? b = some o := fun b o nb e => kp b o (fun q => nb (by simp [q])) (fun q => nb (by simp [q])) (fun q => nb (by simp [q])) (fun q => nb (by simp [q])) e
    have hL' : h'.get? L = some (lstO acc a0) := kp L _ dz dO (fun q => dc (q ▸ sep.mem1)) (fun q => dc' (q ▸ sep.mem2)) hL
    exact wpAny_pure (hR h' tk acc a0 l kp' hL' ⟨hI.it, fun t ht => kp' _ _ (hI.ok t ht) (hI.tp t ht), hI.ok, hI.b⟩ hl)
  | succ k ih =>
    intro i s acc a0 l hk hi st hL hI hl hb hR
    refine codeAny_builtin PySem.F.entry_extend_loop ?_
    rw [Around.under_plainId PySem.F.plain_extend_loop _]
    show wpAny _ A.in1 (pyNext (.ref z) >>= _) _ _ s
    refine wpAny_bind (zs_item sep D D' st (by omega) (by omega) (hb L (by simp)) fun x y h' tk bx by' st' tp sz kp => ?_)
    have kp' : ∀ b o, b ∉ [L, z, tO, it, it'] → s.heap.get? b = some o → h'.get? b = some o := fun b o nb e => kp b o (fun q => nb (by simp [q])) (fun q => nb (by simp [q])) (fun q => nb (by simp [q])) (fun q => nb (by simp [q])) e
    have hL' : h'.get? L = some (lstO acc a0) := kp L _ dz dO (fun q => dc (q ▸ sep.mem1)) (fun q => dc' (q ▸ sep.mem2)) hL
    have sa : acc.size = i := by
      have := congrArg List.length hI.it
      rw [List.length_map, hl] at this
      simpa using this
    show wpAny _ A.in1 (updateSeq L (·.push (.ref s.heap.objs.size)) >>= _) _ _ _
    refine wpAny_bind ?_
    refine wpAny_updateSeq (s := { s with heap := h', toks := tk }) hL' rfl (wpAny_pure ⟨plainId_quiet PySem.F.plain_extend_loop _, ih (i + 1) _ (acc.push (.ref s.heap.objs.size)) _ (l ++ [(s.heap.objs.size, x, y)]) (by omega) (by omega) ?_ (Heap.get?_update_self _ hL' rfl) ?_ (by rw [List.length_append, hl]; rfl) ?_ ?_⟩)
      (by show acc.size ≤ _; rw [sa]; omega) (by show (acc.push _).size ≤ sizeLine + 1; rw [Array.size_push, sa]; omega)
    · exact ZSt.frame D D' dz dI dO dc dc' (fun b o q e => (Heap.get?_update_other _ _ (Ne.symm q)).trans e) st'
    · refine ⟨by rw [Array.toList_push, hI.it, List.map_append]; rfl, fun t ht => ?_, fun t ht => ?_, fun j t e => ?_⟩
      · rcases List.mem_append.mp ht with ht | ht
        · have nb := hI.ok t ht
          exact (Heap.get?_update_other _ _ (fun q => nb (by rw [← q]; simp))).trans (kp' _ _ nb (hI.tp t ht))
        · rw [List.mem_singleton.mp ht]
          exact (Heap.get?_update_other _ _ (Nat.ne_of_lt (hb L (by simp)))).trans tp
      · rcases List.mem_append.mp ht with ht | ht
        · exact hI.ok t ht
        · rw [List.mem_singleton.mp ht]
          exact fun q => Nat.lt_irrefl _ (hb _ q)
      · rcases Nat.lt_or_ge j l.length with lt | ge
        · rw [List.getElem?_append_left lt] at e
          exact hI.b j t e
        · rw [List.getElem?_append_right ge] at e
          have hj : j - l.length = 0 := by
            rcases hj : j - l.length with _ | m
            · rfl
            · rw [hj] at e; simp at e
          rw [hj] at e
          have e' : (s.heap.objs.size, x, y) = t := Option.some.inj e
          subst e'
          have : j = i := by omega
          subst this
          exact ⟨bx, by'⟩
    · intro b m
      show b < (Heap.update h' L _).objs.size
      rw [Heap.size_update, sz]
      exact Nat.lt_succ_of_lt (hb b m)
    · intro h2 tk2 acc' a1 l' kq hL2 hI2 hl2
      refine hR h2 tk2 acc' a1 l' (fun b o nb e => kq b o nb ?_) hL2 hI2 hl2
      exact (Heap.get?_update_other _ _ (fun q => nb (by rw [← q]; simp))).trans (kp' b o nb e)
/-- list(z) -/
theorem list_zip {E : Value → Shared → Prop} {Q : Value → Shared → Prop} (sep : ZipSep2 z tI tO it it' c c') (D : ∀ A, A.handled = none → Draws P w A it c n B S) (D' : ∀ A, A.handled = none → Draws P w A it' c' n' B' S') (hh : A.handled = none) (hn : min n n' ≤ sizeLine)
    (hz : IsZip s.heap z tI tO .none) (hI : IsTupOf2 s.heap tI (.ref it) (.ref it')) {a b : Value} (hO : IsTupOf2 s.heap tO a b) (h1 : S 0 s.heap) (h2 : S' 0 s.heap) (hc : ∀ b ∈ c, b < s.heap.objs.size) (hc' : ∀ b ∈ c', b < s.heap.objs.size)
    (hQ : ∀ h' tk acc a1 l, (∀ b o, b ∉ [z, tO, it, it'] → s.heap.get? b = some o → h'.get? b = some o) → h'.get? s.heap.objs.size = some (lstO acc a1) → ZIts h' [s.heap.objs.size, z, tO, it, it'] B B' acc l → l.length = min n n' → Q (.ref s.heap.objs.size) { s with heap := h', toks := tk }) :
    wpAny (model P w) A (call (.type "list") [.ref z]) Q E s := by
  refine callType_codes (Q₁ := fun obj s₁ => obj = .ref s.heap.objs.size ∧ s₁ = { s with heap := s.heap.push { cls := .type "list", data := .seq #[] } }) PySem.F.called_list (PySem.F.typeCall_list_1 _) PySem.F.entry_list_init (code_list_new _ ⟨rfl, rfl⟩) fun obj s₁ q₁ => ?_
  obtain ⟨rfl, rfl⟩ := q₁
  have hL : (s.heap.push { cls := .type "list", data := .seq #[] }).get? s.heap.objs.size = some { cls := .type "list", data := .seq #[] } := Heap.get?_push_size _ rfl
  have lt : ∀ {b o}, s.heap.get? b = some o → b < s.heap.objs.size := fun e => Heap.lt_size e
  have ltz := lt hz
  have ltI := lt hI
  have ltO := lt hO
  have lt1 := hc _ sep.mem1
  have lt2 := hc' _ sep.mem2
  refine ⟨⟨_, hL, rfl⟩, PySem.F.args_list_init_2 _ _, ?_⟩
  show wpAny _ _ (do let old ← Builtin.List.listItems (.ref s.heap.objs.size); Builtin.List.listUpdate (.ref s.heap.objs.size) (fun _ => #[]); letGo old.toList.reverse; Builtin.List.listExtendWith (.ref s.heap.objs.size) (.ref z) .none) _ _ _
  refine wpAny_bind ?_
  unfold Builtin.List.listItems
  refine wpAny_bind (wpAny_seqItems hL rfl (wpAny_pure ?_))
  show wpAny _ _ (updateSeq s.heap.objs.size (fun _ => #[]) >>= fun _ => letGo (#[] : Array Value).toList.reverse >>= fun _ => Builtin.List.listExtendWith (.ref s.heap.objs.size) (.ref z) .none) _ _ _
  refine wpAny_bind (wpAny_updateSeq hL rfl ?_)
  have hL₂ := Heap.get?_update_self (Obj.mapSeq (fun _ => (#[] : Array Value))) hL rfl
  refine wpAny_bind (wpAny_letGo ?_)
  generalize hg : (s.heap.push { cls := .type "list", data := .seq #[] }).update s.heap.objs.size (Obj.mapSeq (fun _ => (#[] : Array Value))) = g at hL₂ ⊢
  have sg : g.objs.size = s.heap.objs.size + 1 := by rw [← hg, Heap.size_update, Heap.size_push]
  have kg : ∀ b o, s.heap.get? b = some o → g.get? b = some o := fun b o e => by
    rw [← hg]
    exact (Heap.get?_update_other _ _ (Nat.ne_of_gt (Heap.lt_size e))).trans (Heap.get?_push_of_some _ e)
  unfold Builtin.List.listExtendWith
  refine wpAny_bind (wpAny_typeOf (T := "zip") (v := .ref z) ⟨_, kg _ _ hz, rfl⟩ ?_)
  have q1 : Builtin.List.listSameRef (.ref s.heap.objs.size) (.ref z) = false := by simp [Builtin.List.listSameRef, Nat.ne_of_gt ltz]
  have q2 : (Value.type "zip" == Value.type "list") = false := by decide
  have q3 : (Value.type "zip" == Value.type "tuple") = false := by decide
  simp only [q1, q2, q3, Bool.or_false, Bool.false_eq_true, if_false]
  refine wpAny_bind (wpAny_pyIter_zip (kg _ _ hz) ?_)
  refine wpAny_bind (wpAny_holding ?_)
  unfold Builtin.List.listLengthHint
  refine wpAny_bind (wpAny_specialOf (T := "zip") (v := .ref z) ⟨_, kg _ _ hz, rfl⟩ zip_no_len ?_)
  show wpAny _ _ (specialOf (Value.ref z) (Str.ofString "__length_hint__") >>= _) _ _ _
  refine wpAny_bind (wpAny_specialOf (T := "zip") (v := .ref z) ⟨_, kg _ _ hz, rfl⟩ zip_no_hint ?_)
  refine wpAny_pure ?_
  show wpAny _ _ (rule "list.extend.makes-room" >>= fun _ => Builtin.List.listTouch (.ref s.heap.objs.size) >>= fun _ => again (.builtin "list.extend.loop" ⟨[.ref s.heap.objs.size, .ref z, .none], []⟩)) _ _ _
  refine wpAny_bind (wpAny_rule ?_)
  refine wpAny_bind ?_
  show wpAny _ _ (updateSeq s.heap.objs.size (·.push .none) >>= fun _ => updateSeq s.heap.objs.size (·.pop)) _ _ _
  refine wpAny_bind (wpAny_updateSeq hL₂ rfl ?_)
  have hL₃ := Heap.get?_update_self (Obj.mapSeq (·.push Value.none)) hL₂ rfl
  refine wpAny_updateSeq hL₃ rfl ?_
  have hL₄ := Heap.get?_update_self (Obj.mapSeq (·.pop)) hL₃ rfl
  show wpAny _ _ _ _ _ { s with heap := (g.update s.heap.objs.size (Obj.mapSeq (·.push Value.none))).update s.heap.objs.size (Obj.mapSeq (·.pop)) }
  generalize hu : (g.update s.heap.objs.size (Obj.mapSeq (·.push Value.none))).update s.heap.objs.size (Obj.mapSeq (·.pop)) = u at hL₄ ⊢
  have su : u.objs.size = s.heap.objs.size + 1 := by rw [← hu, Heap.size_update, Heap.size_update, sg]
  have ku : ∀ b o, s.heap.get? b = some o → u.get? b = some o := fun b o e => by
    have nb := Nat.ne_of_gt (Heap.lt_size e)
    rw [← hu]
    exact (Heap.get?_update_other _ _ nb).trans ((Heap.get?_update_other _ _ nb).trans (kg b o e))
  have D1 := D A.in1.in1.in1 hh
  have D2 := D' A.in1.in1.in1 hh
  refine wpAny_pure ⟨plainId_quiet PySem.F.plain_extend_loop _, zl_loop (A := A.in1) sep D1 D2 (Nat.ne_of_gt ltz) (Nat.ne_of_gt ltI) (Nat.ne_of_gt ltO) (fun m => Nat.lt_irrefl _ (hc _ m)) (fun m => Nat.lt_irrefl _ (hc' _ m)) hn _ _ 0 { s with heap := u } #[] _ [] rfl (Nat.zero_le _)
    ⟨ku _ _ hI, D1.frame _ _ _ h1 fun b _ o e => ku b o e, D2.frame _ _ _ h2 fun b _ o e => ku b o e, .inl ⟨ku _ _ hz, a, b, ku _ _ hO⟩⟩ hL₄ ⟨rfl, fun t ht => (nomatch ht), fun t ht => (nomatch ht), fun j t e => (by simp at e)⟩ rfl (fun b m => ?_) fun h' tk acc a1 l kp e1 e2 e3 => ?_⟩
  · have m' : b = s.heap.objs.size ∨ b = z ∨ b = tO ∨ b = it ∨ b = it' := by simpa using m
    show b < u.objs.size
    rw [su]
    rcases m' with rfl | rfl | rfl | rfl | rfl
    · exact Nat.lt_succ_self _
    · exact Nat.lt_succ_of_lt ltz
    · exact Nat.lt_succ_of_lt ltO
    · exact Nat.lt_succ_of_lt lt1
    · exact Nat.lt_succ_of_lt lt2
  · refine ⟨rfl, hQ h' tk acc a1 l (fun b o nb e => kp b o (fun m => ?_) (ku b o e)) e1 e2 e3⟩
    have m' : b = s.heap.objs.size ∨ b ∈ [z, tO, it, it'] := by simpa using m
    rcases m' with rfl | m'
    · exact Nat.lt_irrefl _ (Heap.lt_size e)
    · exact nb m'
end
end Fw
set_option Elab.async false
set_option linter.all false
set_option maxRecDepth 100000
set_option maxHeartbeats 4000000
namespace Fw
open PySem PySem.Spec PyProof.Rows L2

/-! ## dict(list(zip(list, text))) -/
def mDZL (m n : En → Mo Dt) : En → Mo Dt := fun ρ => (m ρ).bind fun d => (n ρ).bind fun d' => match d, d' with
  | .lst xs, .str y => ofO (dzD xs (y.map fun c => .str [c]))
  | _, _ => .err
theorem vals_at {vs : List V} {us : List Value} (l : vs.length = us.length) (h : ∀ (j : Nat) (x : V) (u : Value), vs[j]? = some x → us[j]? = some u → RelV x u) : Vals vs us := by
  induction vs generalizing us with
  | nil =>
    cases us with
    | nil => exact .nil
    | cons _ _ => cases l
  | cons x vs ih =>
    cases us with
    | nil => cases l
    | cons u us =>
      exact .cons (h 0 x u rfl rfl) (ih (by simpa using l) fun j x u e1 e2 => h (j + 1) x u (by simpa using e1) (by simpa using e2))
theorem list_ext_at {α : Type} {a b : List α} (l : a.length = b.length) (h : ∀ (j : Nat) (x y : α), a[j]? = some x → b[j]? = some y → x = y) : a = b := by
  induction a generalizing b with
  | nil =>
    cases b with
    | nil => rfl
    | cons _ _ => cases l
  | cons x a ih =>
    cases b with
    | nil => cases l
    | cons y b =>
      rw [h 0 x y rfl rfl, ih (by simpa using l) fun j x y e1 e2 => h (j + 1) x y (by simpa using e1) (by simpa using e2)]
section
variable {X : Cx} {Tz : Tbs} {XR : XRel} {E : Sg → XK}
theorem e_dzL {a b : Expr} {m n : En → Mo Dt} {p p2 p3 q q3 pos : Pos} (hg : Gl X "dict") (hm : X.mg "dict" = none) (hg3 : Gl X "list") (hm3 : X.mg "list" = none) (hg2 : Gl X "zip") (hm2 : X.mg "zip" = none) (ha : PE X a (tM (X.gd Tz) XR E m)) (hb : PE X b (tM (X.gd Tz) XR E n)) (hc : X.calm = true := by rfl)
    (na : starEach [a, b] X.env = (false, eval a X.env) :: starEach [b] X.env := by rfl) (nb : starEach [b] X.env = (false, eval b X.env) :: starEach [] X.env := by rfl) (hpl : (backTo q (starEach [b] X.env)).any (·.1) = false := by rfl) :
    PE X (.Call (.Name "dict" p) [.Call (.Name "list" p3) [.Call (.Name "zip" p2) [a, b] [] q] [] q3] [] pos) (tM (X.gd Tz) XR E (mDZL m n)) := by
  refine ⟨fun pins s σ H Q I ⟨r, Z, ρ, w, st0, h⟩ => ?_⟩
  refine Call_ (ld_blt I hg hm (show bootBuiltins "dict" = some (.type "dict") by decide +kernel) ?_)
  refine PyProof.Rows.callWith_type1 (PyProof.Rows.args_cons ?_ rfl) rfl rfl
  refine Call_ (ld_blt I hg3 hm3 (show bootBuiltins "list" = some (.type "list") by decide +kernel) ?_)
  refine PyProof.Rows.callWith_type1 (PyProof.Rows.args_cons ?_ rfl) rfl rfl
  refine Call_ (ld_blt I hg2 hm2 (show bootBuiltins "zip" = some (.type "zip") by decide +kernel) ?_)
  refine PyProof.Rows.callWith_type1 (PyProof.Rows.args_cons (thn (ha.run pins s σ H (fun x H1 => ∃ Z1 d, Ext (X.gd Tz) r Z H Z1 H1 ∧ Rep (X.gd Tz) r Z1 H1 x d ∧ Mo.wp ((n ρ).bind fun d' => match d, d' with | .lst xs, .str y => ofO (dzD xs (y.map fun c => .str [c])) | _, _ => .err) (PV (X.gd Tz) r Z H Q) (PX (X.gd Tz) XR r Z H (E σ))) I
    (tM.split w st0 h fun u H1 Z1 d e1 w1 s1 rp h1 => ⟨Z1, d, e1, rp, h1⟩)) fun u s1 ⟨x, H1, I1, rx, Z1, d, e1, rp, h1⟩ =>
    PyProof.Rows.args_cons (thn (hb.run pins s1 σ H1 (fun y H2 => ∃ Z2 d', Ext (X.gd Tz) r Z1 H1 Z2 H2 ∧ Rep (X.gd Tz) r Z2 H2 y d' ∧ Mo.wp (match d, d' with | .lst xs, .str y => ofO (dzD xs (y.map fun c => .str [c])) | _, _ => .err) (PV (X.gd Tz) r Z H Q) (fun _ _ => True)) I1
    (tM.split e1.wf (st0.ext w e1) (h1.mono (fun _ q => q) fun _ _ q => q.ext e1) fun u H2 Z2 d' e2 w2 s2 rp2 h2 => ⟨Z2, d', e2, rp2, h2.mono (fun _ q => q) fun _ _ _ => trivial⟩)) fun v s2 ⟨y, H2, I2, ry, Z2, d', e2, rp2, h2⟩ => PyProof.Rows.args_nil ?_) nb) na) na hpl
  cases d with
  | lst xs =>
    cases d' with
    | str y' =>
      obtain ⟨d3, e3, h3⟩ := wp_ofO h2
      obtain ⟨ks, ek, e4⟩ := Option.bind_eq_some_iff.mp e3
      split at e4
      · rename_i hc2
        obtain ⟨nd, hl, hz⟩ := hc2
        cases e4
        have lk := strs_len ek
        rw [List.length_map] at hl
        obtain ⟨pa, vs, rfl, za, ta, la, qa⟩ := (rp.frz (e2.frz e1.wf)).lst
        have eu : u = Value.ref pa := rx
        subst eu
        rw [rp2.str] at ry
        obtain ⟨tv, rfl⟩ := ry
        have evs := reps_strs qa ek
        subst evs
        obtain ⟨kv, rk, pl, _⟩ := I2.list (.of ta)
        have lkv : ks.length = kv.length := by have a1 := rk.length; rwa [List.length_map] at a1
        have hla := pl.isList
        obtain ⟨ol, nl, hol, _⟩ := id pl
        have lta : pa < s2.heap.objs.size := Heap.lt_size hol
        have hA := I2.ok.hd hc
        have csz : (st y').cps.size = y'.length := st_length y'
        refine zip_begins2 (begins_list pa kv.toArray) (begins_text (st y') tv) hla trivial fun h' z1 z2 z3 z4 z5 z6 z7 => ?_
        refine PyProof.Rows.args_nil ?_
        have sep : ZipSep2 (s2.heap.objs.size + 4) (s2.heap.objs.size + 2) (s2.heap.objs.size + 3) s2.heap.objs.size (s2.heap.objs.size + 1) [s2.heap.objs.size, pa] [s2.heap.objs.size + 1] :=
          zip_sep2 (fun b hb => by rw [List.mem_singleton.mp hb]; exact lta) (fun b hb => nomatch hb)
        have hn : min kv.toArray.size (st y').cps.size = ks.length := by rw [List.size_toArray, csz]; omega
        refine list_zip (s := { s2 with heap := h' }) sep (fun A hA => Draws.list hA s2.heap.objs.size pa (Nat.ne_of_lt lta) kv.toArray) (fun A hA => Draws.text hA (s2.heap.objs.size + 1) (st y') tv) hA (by rw [hn]; exact sl16 (by omega))
          z1 z2 z3 ⟨⟨_, z4, rfl, rfl⟩, hla.at fun o e => z7 _ o e⟩ ⟨_, z5, rfl, rfl⟩ (fun b m => ?_) (fun b m => ?_) fun h4 tk acc a1 l k4 e5 I4 l4 => ?_
        · rcases List.mem_cons.mp m with rfl | m
          · exact Heap.lt_size z4
          · rw [List.mem_singleton.mp m]; exact Heap.lt_size (z7 _ _ hol)
        · rw [List.mem_singleton.mp m]; exact Heap.lt_size z5
        · refine PyProof.Rows.args_nil ?_
          rw [hn] at l4
          have kvl : kv = l.map (·.2.1) := by
            refine list_ext_at (by rw [List.length_map, l4, lkv]) fun j x y e1 e2 => ?_
            rw [List.getElem?_map] at e2
            obtain ⟨t, et, rfl⟩ := Option.map_eq_some_iff.mp e2
            have q1 := (I4.b j t et).1
            rw [List.getElem?_toArray, e1] at q1
            exact Option.some.inj q1
          have ru : Vals (y'.map fun c => V.str (st [c])) (l.map (·.2.2)) := by
            refine vals_at (by rw [List.length_map, List.length_map]; omega) fun j x u e1 e2 => ?_
            rw [List.getElem?_map] at e1 e2
            obtain ⟨t, et, rfl⟩ := Option.map_eq_some_iff.mp e2
            obtain ⟨cc, ec, rfl⟩ := Option.map_eq_some_iff.mp e1
            obtain ⟨c2, u2, q1, q2⟩ := (I4.b j t et).2
            rw [q2]
            have q3 : y'[j]? = some c2 := by
              have : (st y').cps[j]? = y'[j]? := by show y'.toArray[j]? = _; simp
              rw [← this]; exact q1
            rw [ec] at q3
            cases q3
            exact ⟨u2, rfl⟩
          have hp : PairItems h4 acc (fun j => ((l[j]?).map (·.1)).getD 0) (l.map (·.2)) := by
            have sa : acc.size = l.length := by
              have := congrArg List.length I4.it
              rw [List.length_map] at this
              simpa using this
            refine ⟨by rw [List.length_map, sa], fun j k v e => ?_⟩
            rw [List.getElem?_map] at e
            obtain ⟨t, et, e6⟩ := Option.map_eq_some_iff.mp e
            have e7 : acc[j]? = some (.ref t.1) := by
              have : acc[j]? = acc.toList[j]? := by simp
              rw [this, I4.it, List.getElem?_map, et]
              rfl
            show acc[j]? = some (.ref (((l[j]?).map (·.1)).getD 0)) ∧ PairAt h4 (((l[j]?).map (·.1)).getD 0) k v
            rw [et]
            refine ⟨e7, .inl ?_⟩
            have := I4.tp t (List.mem_of_getElem? et)
            have e8 : t.2.1 = k ∧ t.2.2 = v := by rw [e6]; exact ⟨rfl, rfl⟩
            rw [e8.1, e8.2] at this
            exact ⟨_, this, rfl, _, rfl⟩
          have hv : PairsHave (mixKind X.prog X.w) (l.map (·.2)).length (PairRel (l.map (·.2))) ((kS ks).zip (l.map (·.2.2))) := by
            obtain ⟨q1, q2⟩ := pairs_have (X := X) (us := l.map (·.2.2)) rk (by rw [List.length_map, l4, lkv])
            refine ⟨by rw [q1, List.size_toArray, List.size_toArray, List.length_map, List.length_map]; omega, fun i key v e => ?_⟩
            have e : (l.map (·.2))[i]? = some (key, v) := e
            rw [List.getElem?_map] at e
            obtain ⟨t, et, e6⟩ := Option.map_eq_some_iff.mp e
            have e8 : t.2.1 = key ∧ t.2.2 = v := by rw [e6]; exact ⟨rfl, rfl⟩
            refine q2 i key v ⟨?_, ?_⟩
            · rw [List.getElem?_toArray, kvl, List.getElem?_map, et, ← e8.1]; rfl
            · rw [List.getElem?_toArray, List.getElem?_map, et, ← e8.2]; rfl
          refine call_dict_pairs (PairArg.list h'.objs.size acc _ (l.map (·.2))) hA ⟨⟨_, _, e5, rfl, rfl, rfl⟩, hp⟩ hv (by rw [List.length_map, l4]; exact sl16 (by omega)) fun h5 tk5 hd k5 => ?_
          have sz5 : h'.objs.size = s2.heap.objs.size + 5 := z6
          have k6 : ∀ b o, s2.heap.get? b = some o → h4.get? b = some o := fun b o e => by
            have lb2 : b < s2.heap.objs.size := Heap.lt_size e
            refine k4 b o (fun hb => ?_) (z7 b o e)
            have hb' : b = s2.heap.objs.size + 4 ∨ b = s2.heap.objs.size + 3 ∨ b = s2.heap.objs.size ∨ b = s2.heap.objs.size + 1 := by simpa using hb
            rcases hb' with e | e | e | e
            · exact absurd lb2 (by rw [e]; exact Nat.not_lt.mpr (Nat.le_add_right _ _))
            · exact absurd lb2 (by rw [e]; exact Nat.not_lt.mpr (Nat.le_add_right _ _))
            · exact absurd lb2 (by rw [e]; exact Nat.lt_irrefl _)
            · exact absurd lb2 (by rw [e]; exact Nat.not_lt.mpr (Nat.le_add_right _ _))
          have big : s2.heap.objs.size ≤ h4.objs.size := by
            have : h'.objs.size < h4.objs.size := Heap.lt_size e5
            omega
          exact dict_new (s := s2) I2 (fun b o e => k5 b o (fun q => nomatch q) (k6 b o e)) big e2.wf (reps_signs y') ru nd (by rw [List.length_map]; omega) (by omega) hd (h3.ext (e1.trans e2))
      · cases e4
    | _ => exact h2.elim
  | _ => exact h2.elim
end
end Fw
set_option Elab.async false
set_option linter.all false
set_option maxRecDepth 100000
set_option maxHeartbeats 4000000
namespace Fw
open PySem PySem.Spec PyProof.Rows L2

/-! ## a, b = e, [] with b an own list; a += e of a number -/
def mPar2O (i j : Nat) (m : En → Mo Dt) : En → Mo Fl := fun ρ => (m ρ).bind fun x => .ret (.nx ((ρ.set i (.fz x)).set j (.ol [])))
def mAug (i : Nat) (m : En → Mo Dt) : En → Mo Fl := fun ρ => match ρ[i]? with
  | some (.fz (.int a)) => (m ρ).bind fun y => match y with
    | .int b => .ret (.nx (ρ.set i (.fz (.int (a + b)))))
    | _ => .err
  | _ => .err
section
variable {X : Cx} {Tz : Tbs} {XR : XRel} {E : Sg → XK} {a b e : Expr} {m : En → Mo Dt} {x y : Str} {px py pt pos : Pos} {kt k2 : Nat} {pt2 pl : Pos}
theorem s_par2o (i j : Nat) (hN : X.N.Nodup) (hi : X.N[i]? = some x) (hj : X.N[j]? = some y) (hx : Loc X.env.scope x) (hy : Loc X.env.scope y) (ha : PE X a (tM (X.gd Tz) XR E m)) (hxl : X.env.scope.names.lookup x = some .local := by rfl) (hyl : X.env.scope.names.lookup y = some .local := by rfl) (hc : X.calm = true := by rfl) (hij : i ≠ j := by decide)
    (hw : swappedStores [.Tuple [.Name x px, .Name y py] kt pt] (.Tuple [a, .List [] pl] k2 pt2) X.env = pure (some [x, y]) := by rfl)
    (hs : swapsWithSole [.Tuple [.Name x px, .Name y py] kt pt] (.Tuple [a, .List [] pl] k2 pt2) pos.line X.env = pure false := by rfl)
    (h1 : starEach [a, .List [] pl] X.env = (false, eval a X.env) :: starEach [.List [] pl] X.env := by rfl) (h2 : starEach [Expr.List [] pl] X.env = (false, eval (.List [] pl) X.env) :: starEach [] X.env := by rfl) :
    PS X (.Assign [.Tuple [.Name x px, .Name y py] kt pt] (.Tuple [a, .List [] pl] k2 pt2) pos) (tS (X.gd Tz) XR E (mPar2O i j m)) :=
  PS.imp (ps_par hc hN hi hj hij hxl hyl (pa_cons ha (pa_cons (pe_lst pa_nil) pa_nil h2) h1) hw hs) fun D σ H ⟨r, Z, ρ, Z0, H0, a, h⟩ => tS.split a h fun v H1 Z1 d e1 a1 rp h1 => by
    refine ⟨Nat.zero_le _, fun p hp => ⟨v, .ref p, rfl, ?_⟩⟩
    have a2 := a1.set (i := i) rp
    have nz := a1.wf.nz hp
    exact PF.nx h1 (a2.setOwn hp ⟨p, [], rfl, nz.2, nz.1, upd_same, Nat.zero_le _, Reps.nil⟩ (a2.st.notNone hp)) ((e1.frz a.wf).trans (frz_upd nz.1))
theorem s_aug (i : Nat) (hN : X.N.Nodup) (hi : X.N[i]? = some x) (hx : Loc X.env.scope x) (he : PE X e (tM (X.gd Tz) XR E m)) (hf : X.fn x = true ∨ X.env.scope.names.lookup x = some .local := by first | exact .inl rfl | exact .inr rfl | assumption) :
    PS X (.AugAssign (.Name x px) .Add e pos) (tS (X.gd Tz) XR E (mAug i m)) :=
  PS.imp (ps_aug hN hi hx he ip_add hf) fun D σ H ⟨r, Z, ρ, Z0, H0, a, h⟩ => by
    unfold mAug at h
    split at h
    · rename_i k hk
      obtain ⟨v, ev, u, eu, ru⟩ := a.st.get hk
      subst eu
      rw [ru.int] at ev
      refine ⟨_, ev, tS.split a h fun v H1 Z1 d e1 a1 rp h1 => ?_⟩
      cases d with
      | int b =>
        exact ⟨k, b, rfl, rp.int, PF.nx h1 (a1.set Rep.mk_int) (e1.frz a.wf)⟩
      | _ => exact h1.elim
    · exact h.elim
end
end Fw
set_option Elab.async false
set_option linter.all false
set_option maxRecDepth 100000
set_option maxHeartbeats 4000000
namespace Fw
open PySem PySem.Spec PyProof.Rows L2

/-! ## equations of readings, step by step -/
section
variable {n k : En → Mo Fl} {ρ ρ1 : En} {m a b : En → Mo Dt} {ms : En → Mo (List Dt)} {mt : En → Mo Bool} {d x y z : Dt} {ds : List Dt}
theorem sq_eq (h : n ρ = .ret (.nx ρ1)) : mSq n k ρ = k ρ1 := by
  show (n ρ).bind _ = _
  rw [h]
  rfl
theorem sq_eqR (h : n ρ = .ret (.rt d)) : mSq n k ρ = .ret (.rt d) := by
  show (n ρ).bind _ = _
  rw [h]
  rfl
theorem cal_eq {j : Nat} {F : List Dt → Mo Dt} (e : ms ρ = .ret ds) (hl : ds.length = j) : mCal j F ms ρ = F ds := by
  show (ms ρ).bind _ = _
  rw [e]
  show (if ds.length = j then F ds else .err) = _
  rw [if_pos hl]
theorem if_eqT (h : mt ρ = .ret true) : mIfS mt n k ρ = n ρ := by
  show (mt ρ).bind _ = _
  rw [h]
  rfl
theorem if_eqF (h : mt ρ = .ret false) : mIfS mt n k ρ = k ρ := by
  show (mt ρ).bind _ = _
  rw [h]
  rfl
theorem or_eqF {nt : En → Mo Bool} (h : mt ρ = .ret false) : mOr mt nt ρ = nt ρ := by
  show (mt ρ).bind _ = _
  rw [h]
  rfl
theorem or_eqT {nt : En → Mo Bool} (h : mt ρ = .ret true) : mOr mt nt ρ = .ret true := by
  show (mt ρ).bind _ = _
  rw [h]
  rfl
theorem and_eqT {nt : En → Mo Bool} (h : mt ρ = .ret true) : mAnd mt nt ρ = nt ρ := by
  show (mt ρ).bind _ = _
  rw [h]
  rfl
theorem and_eqF {nt : En → Mo Bool} (h : mt ρ = .ret false) : mAnd mt nt ρ = .ret false := by
  show (mt ρ).bind _ = _
  rw [h]
  rfl
theorem andV_eqT (h : a ρ = .ret (.bl true)) : mAndV a b ρ = b ρ := by
  show (a ρ).bind _ = _
  rw [h]
  rfl
theorem ret_eq (h : m ρ = .ret d) : mRet m ρ = .ret (.rt d) := by
  show (m ρ).bind _ = _
  rw [h]
  rfl
theorem set_eq {i : Nat} (h : m ρ = .ret d) : mSet i m ρ = .ret (.nx (ρ.set i (.fz d))) := by
  show (m ρ).bind _ = _
  rw [h]
  rfl
theorem drop_eq (h : m ρ = .ret d) : mDrop m ρ = .ret (.nx ρ) := by
  show (m ρ).bind _ = _
  rw [h]
  rfl
theorem ifv_eqT (h : mt ρ = .ret true) : mIf mt a b ρ = a ρ := by
  show (mt ρ).bind _ = _
  rw [h]
  rfl
theorem ifv_eqF (h : mt ρ = .ret false) : mIf mt a b ρ = b ρ := by
  show (mt ρ).bind _ = _
  rw [h]
  rfl
theorem two_eq {g : Dt → Dt → Option Dt} (ha : a ρ = .ret x) (hb : b ρ = .ret y) (hg : g x y = some z) : m2 g a b ρ = .ret z := by
  show (a ρ).bind _ = _
  rw [ha]
  show (b ρ).bind _ = _
  rw [hb]
  show ofO (g x y) = _
  rw [hg]
  rfl
theorem cons_eq {xs : List Dt} (ha : a ρ = .ret x) (hb : ms ρ = .ret xs) : mCons a ms ρ = .ret (x :: xs) := by
  show (a ρ).bind _ = _
  rw [ha]
  show (ms ρ).bind _ = _
  rw [hb]
  rfl
theorem callB_eq {g : List Dt → Option Dt} (h : ms ρ = .ret ds) (hg : g ds = some z) : mCall g ms ρ = .ret z := by
  show (ms ρ).bind _ = _
  rw [h]
  show ofO (g ds) = _
  rw [hg]
  rfl
theorem tst_eq {v : Bool} (h : m ρ = .ret (.bl v)) : mTst m ρ = .ret v := by
  show (m ρ).bind _ = _
  rw [h]
  rfl
theorem tru_eq {v : Bool} (h : m ρ = .ret d) (ht : truD d = some v) : mTru m ρ = .ret v := by
  show (m ρ).bind _ = _
  rw [h]
  show ofO (truD d) = _
  rw [ht]
  rfl
theorem not_eq {v : Bool} (h : mt ρ = .ret v) : mNot mt ρ = .ret (!v) := by
  show (mt ρ).bind _ = _
  rw [h]
  rfl
theorem run_eq {N : Nat} {ds : List Dt} (h : n (ds.map .fz ++ List.replicate (N - ds.length) .un) = .ret (.rt d)) : run N n ds = .ret d := by
  show (n _).bind flo = _
  rw [h]
  rfl
theorem for_eq {mg : Dt → En → Mo En} (h : ms ρ = .ret ds) : mFor ms mg n ρ = forGo mg n ds ρ := by
  show (ms ρ).bind _ = _
  rw [h]
  rfl
theorem seq_eq (h : m ρ = .ret d) (hs : seqD d = some ds) : mSeq m ρ = .ret ds := by
  show (m ρ).bind _ = _
  rw [h]
  show ofO (seqD d) = _
  rw [hs]
  rfl
/-- a comprehension as a filter and a map -/
theorem lc_eq {vs : List Nat} {mg : Dt → En → Mo En} {me : En → Mo Dt} {p : Dt → Bool} {f : Dt → Dt} : ∀ (xs : List Dt), (∀ x ∈ xs, ∃ ρ1, (mg x (wipeE ρ vs)).nox = .ret ρ1 ∧ mt ρ1 = .ret (p x) ∧ (p x = true → me ρ1 = .ret (f x))) → lcGo vs mg mt me ρ xs = .ret ((xs.filter p).map f)
  | [], _ => rfl
  | x :: xs, h => by
    obtain ⟨ρ1, h1, h2, h3⟩ := h x (List.mem_cons_self ..)
    have ih := lc_eq (vs := vs) (mg := mg) (me := me) (p := p) (f := f) xs fun y hy => h y (List.mem_cons_of_mem _ hy)
    show (mg x (wipeE ρ vs)).nox.bind _ = _
    rw [h1]
    show (mt ρ1).nox.bind _ = _
    rw [h2]
    cases hp : p x with
    | true =>
      show (me ρ1).nox.bind _ = _
      rw [h3 hp]
      show (lcGo vs mg mt me ρ xs).bind _ = _
      rw [ih, List.filter_cons_of_pos hp]
      rfl
    | false =>
      show lcGo vs mg mt me ρ xs = _
      rw [ih, List.filter_cons_of_neg (by rw [hp]; exact Bool.false_ne_true)]
theorem lc_nil {vs : List Nat} {mg : Dt → En → Mo En} {me : En → Mo Dt} : lcGo vs mg mt me ρ [] = .ret [] := rfl
theorem lc_consT {vs : List Nat} {mg : Dt → En → Mo En} {me : En → Mo Dt} {xs ys : List Dt} (h1 : (mg x (wipeE ρ vs)).nox = .ret ρ1) (h2 : mt ρ1 = .ret true) (h3 : me ρ1 = .ret y) (h4 : lcGo vs mg mt me ρ xs = .ret ys) : lcGo vs mg mt me ρ (x :: xs) = .ret (y :: ys) := by
  show (mg x (wipeE ρ vs)).nox.bind _ = _
  rw [h1]
  show (mt ρ1).nox.bind _ = _
  rw [h2]
  show (me ρ1).nox.bind _ = _
  rw [h3]
  show (lcGo vs mg mt me ρ xs).bind _ = _
  rw [h4]
  rfl
theorem lc_consF {vs : List Nat} {mg : Dt → En → Mo En} {me : En → Mo Dt} {xs ys : List Dt} (h1 : (mg x (wipeE ρ vs)).nox = .ret ρ1) (h2 : mt ρ1 = .ret false) (h4 : lcGo vs mg mt me ρ xs = .ret ys) : lcGo vs mg mt me ρ (x :: xs) = .ret ys := by
  show (mg x (wipeE ρ vs)).nox.bind _ = _
  rw [h1]
  show (mt ρ1).nox.bind _ = _
  rw [h2]
  exact h4
theorem tup_eq (h : ms ρ = .ret ds) (hl : ds.length ≤ 16777216) : mTup ms ρ = .ret (.tup ds) := by
  show (ms ρ).bind _ = _
  rw [h]
  show (if ds.length ≤ 16777216 then Mo.ret (Dt.tup ds) else .err) = _
  rw [if_pos hl]
theorem lst_eq (h : ms ρ = .ret ds) (hl : ds.length ≤ 16777216) : mLst ms ρ = .ret (.lst ds) := by
  show (ms ρ).bind _ = _
  rw [h]
  show (if ds.length ≤ 16777216 then Mo.ret (Dt.lst ds) else .err) = _
  rw [if_pos hl]
theorem calIf_eqT {j : Nat} {F G : List Dt → Mo Dt} (hc : mt ρ = .ret true) (e : ms ρ = .ret ds) (hl : ds.length = j) : mCalIf j F G mt ms ρ = F ds := by
  show (mt ρ).bind _ = _
  rw [hc]
  show (ms ρ).bind _ = _
  rw [e]
  show (if ds.length = j then F ds else .err) = _
  rw [if_pos hl]
theorem calIf_eqF {j : Nat} {F G : List Dt → Mo Dt} (hc : mt ρ = .ret false) (e : ms ρ = .ret ds) (hl : ds.length = j) : mCalIf j F G mt ms ρ = G ds := by
  show (mt ρ).bind _ = _
  rw [hc]
  show (ms ρ).bind _ = _
  rw [e]
  show (if ds.length = j then G ds else .err) = _
  rw [if_pos hl]
theorem for_turn {mg : Dt → En → Mo En} {ρ2 : En} {l : List Dt} (h1 : (mg x ρ).nox = .ret ρ1) (h2 : n ρ1 = .ret (.nx ρ2)) : forGo mg n (x :: l) ρ = forGo mg n l ρ2 := forGo_cons h1 h2
theorem mLc_eq {vs : List Nat} {mi : En → Mo (List Dt)} {mg : Dt → En → Mo En} {me : En → Mo Dt} {ys : List Dt} (h : mi ρ = .ret ds) (h2 : lcGo vs mg mt me ρ ds = .ret ys) : mLc vs mi mg mt me ρ = .ret (.lst ys) := by
  show (mi ρ).bind _ = _
  rw [h]
  show (lcGo vs mg mt me ρ ds).bind _ = _
  rw [h2]
  rfl
end
end Fw
set_option Elab.async false
set_option linter.all false
set_option maxRecDepth 100000
set_option maxHeartbeats 4000000
namespace Fw
open PySem PySem.Spec PyProof.Rows L2

/-! ## l.index(x) of a list -/
def lindexD (xs : List Dt) (x : Dt) : Option Dt := if plainDs 63 xs && plainD 64 x then (idxD x xs 0).map fun n => .int (n : Nat) else none
def mLIndex (mo m : En → Mo Dt) : En → Mo Dt := fun ρ => (mo ρ).bind fun d => match d with
  | .lst xs => (m ρ).bind fun x => ofO (lindexD xs x)
  | _ => .err
section
variable {X : Cx} {Tz : Tbs} {XR : XRel} {E : Sg → XK} {o e : Expr} {mo m : En → Mo Dt} {apos cpos p1 pos pos1 p : Pos}
theorem e_lindex (hu : X.A.units + 64 + 1 < cLine) (ho : PE X o (tM (X.gd Tz) XR E mo)) (he : PE X e (tM (X.gd Tz) XR E m))
    (hbase : attributeBase o "index" X.env (eval o X.env) = eval o X.env := by rfl)
    (hfew : ((backTo cpos (starEach (e :: []) X.env)).all (fun x => !x.1) && (backToKw cpos (keywordEach [] X.env)).all (fun x => x.1.isSome)
      && decide ((e :: ([] : List Expr)).length + ([] : List Keyword).length + (if ([] : List Keyword).isEmpty then 0 else 1) < 30)) = true := by rfl)
    (hline : (apos.endLine == cpos.line) = true := by rfl) (hs : starEach (e :: []) X.env = (false, eval e X.env) :: starEach [] X.env := by rfl) (hplain : (backTo cpos (starEach [] X.env)).any (·.1) = false := by rfl) :
    PE X (.Call (.Attribute o "index" apos) [e] [] cpos) (tM (X.gd Tz) XR E (mLIndex mo m)) :=
  PE.imp (pe_bm PySem.F.plainAttrs_list PySem.F.slot_list_index PySem.F.type_list_index (mt_indexD hu) ho (pa_cons he pa_nil hs) hbase hfew hline hs hplain) fun σ H Q ⟨r, Z, ρ, w, s, h⟩ => tM.split w s h fun v H1 Z1 d e1 w1 s1 rp h1 => by
    cases d with
    | lst xs =>
      obtain ⟨a, vs, rfl, z, t, l, q⟩ := rp.lst
      refine ⟨.inl ⟨rfl, vs, .of t⟩, tM.split w1 s1 (h1.mono (fun _ q => q) fun _ _ p => p.ext e1) fun u H2 Z2 d2 e2 w2 s2 rp2 h2 => ?_⟩
      obtain ⟨d3, e3, h3⟩ := wp_ofO h2
      unfold lindexD at e3
      split at e3
      · rename_i hp
        rw [Bool.and_eq_true] at hp
        obtain ⟨j, e4, rfl⟩ := Option.map_eq_some_iff.mp e3
        obtain ⟨i, y, ej, h4, h5, h6⟩ := idxD_out e4
        have ej' : j = i := by omega
        subst ej'
        have hp' : plainD 64 (.lst xs) = true := by unfold plainD; exact hp.1
        obtain ⟨l1, d1⟩ := plain_py 64 _ hp'
        obtain ⟨l2, d2'⟩ := plain_py 64 _ hp.2
        have hz := plainDs_get hp.1 h4
        refine ⟨a, u, toPy d2, toPys xs, j, toPy y, rfl, rfl, ?_, rp2.dp hp.2, ?_, ?_, by rw [toPys_get, h4]; rfl, ?_, fun k z' hm hz' => ?_, h3 _ H2 Z2 (e1.trans e2) Rep.mk_int⟩
        · have := (rp.frz (e2.frz w1)).dp hp'
          unfold toPy at this
          exact this
        · unfold SeqAt.shaped
          unfold toPy at l1 d1
          rw [l1, decide_eq_true d1]; rfl
        · unfold SeqAt.shaped; rw [l2, decide_eq_true d2']; rfl
        · rw [eqv_toPy 63 64 y _ hz hp.2]; exact h5
        · rw [toPys_get] at hz'
          obtain ⟨z2, q1, q2⟩ := Option.map_eq_some_iff.mp hz'
          rw [← q2, eqv_toPy 63 64 z2 _ (plainDs_get hp.1 q1) hp.2]
          exact h6 k z2 hm q1
      · cases e3
    | _ => exact h1.elim
/-! ## len(set(l)) of texts -/
def rLenTx (X : Cx) : List V → Hp → VK → Prop := fun xs H Q => ∃ (a : Addr) (l : List Str), xs = [V.ref a] ∧ H a = some (TxO X.prog X.w a l) ∧ l.length ≤ 1000 ∧ Q (.int (l.length : Nat)) H
theorem cr_lenTx : CallR X (.builtin "len") (rLenTx X) := by
  intro pins s σ H vs us Q I r h
  obtain ⟨a, l, rfl, ha, hl, q⟩ := h
  rw [Vals.ref1 r]
  obtain ⟨⟨es, ep, t⟩, ho, F, _⟩ := txO_get I ha
  have sz : es.size = l.length := F.sz
  refine call_len_set ho ⟨rfl, rfl, rfl⟩ rfl F.fit (by rw [sz]; omega) ⟨.int l.length, H, I.tok _, ⟨_, by rw [sz]⟩, q⟩
def lenSetD : Dt → Option Dt
  | .lst xs => (strsOf xs).bind fun l => if l.length < 64 then some (.int ((seenN l.reverse).length : Nat)) else none
  | _ => none
def mLenSet (m : En → Mo Dt) : En → Mo Dt := fun ρ => (m ρ).bind fun d => ofO (lenSetD d)
theorem e_lenSet (hg : Gl X "len") (hm : X.mg "len" = none) (hg1 : Gl X "set") (hm1 : X.mg "set" = none) (he : PE X e (tM (X.gd Tz) XR E m)) (hc : X.calm = true := by rfl)
    (hs : starEach [e] X.env = (false, eval e X.env) :: starEach [] X.env := by rfl) (hpl : (backTo pos1 (starEach [] X.env)).any (·.1) = false := by rfl)
    (hs1 : starEach [Expr.Call (.Name "set" p1) [e] [] pos1] X.env = (false, eval (Expr.Call (.Name "set" p1) [e] [] pos1) X.env) :: starEach [] X.env := by rfl) (hpl1 : (backTo pos (starEach [] X.env)).any (·.1) = false := by rfl) :
    PE X (.Call (.Name "len" p) [.Call (.Name "set" p1) [e] [] pos1] [] pos) (tM (X.gd Tz) XR E (mLenSet m)) :=
  PE.imp (pe_callB cr_lenTx hg hm boot_len (pa_cons (pe_callTy (cr_setTx hc) hg1 hm1 (by decide +kernel) (pa_cons he pa_nil hs) (by decide) (by decide) hs hpl) pa_nil hs1) (by decide) (by decide) hs1 hpl1) fun σ H Q ⟨r, Z, ρ, w, s, h⟩ => tM.split w s h fun v H1 Z1 d e1 w1 s1 rp h1 => by
    obtain ⟨d2, e2, h2⟩ := wp_ofO h1
    unfold lenSetD at e2
    split at e2
    · rename_i xs
      obtain ⟨l, e3, e4⟩ := Option.bind_eq_some_iff.mp e2
      split at e4
      · rename_i hl
        cases e4
        obtain ⟨a, vs, rfl, z, t, l2, qs⟩ := rp.lst
        have ev := reps_strs qs e3
        refine ⟨a, l.map st, rfl, .inl (.inl (by rw [t, ev, List.map_map]; rfl)), by rw [List.length_map]; omega, fun b hb => ?_⟩
        have eo := Ext.own (o := TxO X.prog X.w b (seen (l.map st).reverse)) w1 hb
        have sl := seen_len (l.map st).reverse
        rw [List.length_reverse, List.length_map] at sl
        refine ⟨b, _, rfl, upd_same, by omega, ?_⟩
        have e5 : (seen (l.map st).reverse).length = (seenN l.reverse).length := by rw [← List.map_reverse, seen_map, List.length_map]
        rw [e5]
        exact h2 _ _ _ (e1.trans eo) Rep.mk_int
      · cases e4
    · cases e2
end
end Fw
set_option Elab.async false
set_option linter.all false
set_option maxRecDepth 100000
set_option maxHeartbeats 4000000
namespace Fw
open PySem PySem.Spec PyProof.Rows L2
open PySem.F (called_set)

section
variable {P : Program} {w : World} {A : Around} {E : Value → Shared → Prop} {s : Shared}
set_option maxHeartbeats 3200000 in
/-- set(l) of a tuple of texts -/
theorem call_set_txsT {l : Addr} {items : Array Value} {xs : List Str} {Q : Value → Shared → Prop} (hh : A.handled = none) (hl : s.heap.IsTuple l items) (hi : StrsAre items.toList xs) (hn : xs.length + 1 < scanBound)
    (q : ∀ (h' : Heap) (tk : Nat), TxS P w h' s.heap.objs.size (seen xs.reverse) → (∀ b o, b < s.heap.objs.size → s.heap.get? b = some o → h'.get? b = some o) → s.heap.objs.size < h'.objs.size → Q (.ref s.heap.objs.size) { s with heap := h', toks := tk }) :
    wpAny (model P w) A (call (.type "set") [.ref l]) Q E s := by
  obtain ⟨c, tl, hmro⟩ := called_set.mro
  have m1 := called_set.made
  have m2 := called_set.sub
  refine wpAny_call (codeAny_of_tree ?_)
  show wpAny _ _ (callAny (.type "set") _) _ _ _
  refine wpAny_pure ⟨Code.quiet_builtin _ (by decide +kernel), codeAny_builtin PySem.F.entry_type_call ?_⟩
  rw [Around.under_plain (weight_type_call_type "set" [.ref l] []) rfl]
  have m3 := called_set.notType
  have m4 := called_set.canCreate
  have m5 := PySem.F.typeCall_set_1 (.ref l)
  repeat (any_goals (first | assumption | wp_step))
  refine codeAny_mono (code_new1 (w := w) (.ref l) (E := E) (Q₁ := fun obj s₁ => obj = .ref s.heap.objs.size ∧ s₁ = { s with heap := s.heap.push (newSetO w) }) ⟨rfl, rfl⟩) fun r s₁ hr => ?_
  cases r with
  | error e => exact hr
  | ok fl =>
    cases fl with
    | ret obj =>
      obtain ⟨rfl, rfl⟩ := hr
      have gS : (s.heap.push (newSetO w)).get? s.heap.objs.size = some (newSetO w) := Heap.get?_push_size _ rfl
      have tS : Shared.TypeIs { s with heap := s.heap.push (newSetO w) } (.ref s.heap.objs.size) "set" := ⟨_, gS, rfl⟩
      have m6 := called_set.init.lookup
      have m7 := called_set.init.bind (.ref s.heap.objs.size)
      repeat (any_goals (first | assumption | wp_step))
      refine codeAny_mono (codeAny_call_builtin (R := wants (fun r s₂ => r = .none ∧ ∃ h' tk, s₂ = { s with heap := h', toks := tk } ∧ TxS P w h' s.heap.objs.size (seen xs.reverse) ∧
          (∀ b o, b < s.heap.objs.size → s.heap.get? b = some o → h'.get? b = some o)) E) called_set.init.plain PySem.F.entry_set_init (check_set_init_1 tS ?_)) fun r₂ s₂ hr₂ => ?_
      · obtain ⟨⟨oc, od, odt, osl⟩, ho, hc, nl, hd⟩ := hl
        simp only at hc hd
        subst hc
        subst hd
        have ho' : (s.heap.push (newSetO w)).get? l = some { cls := .type "tuple", dict := od, data := .seq items nl, slots := osl } := Heap.get?_push_of_some _ ho
        have n1 := PySem.F.sub_tuple_set
        have n2 := PySem.F.sub_tuple_frozenset
        have n3 : (Value.type "tuple" == Value.type "dict") = false := by decide
        have hl1 : (s.heap.push (newSetO w)).IsTuple l items := ⟨_, ho', rfl, nl, rfl⟩
        unfold Builtin.«set.__init__» noKeywords Builtin.Frozenset.updateFrom
        generalize hPI : pyIter = PI
        wp_walk
        subst hPI
        refine wpAny_pyIter_tuple hl1 (wpAny_bind (wpAny_runValue ?_))
        have ltl : l < s.heap.objs.size := Heap.lt_size ho
        have szP : (s.heap.push (newSetO w)).objs.size = s.heap.objs.size + 1 := Heap.size_push _ _
        have hv : ∀ (i : Nat) (v : Value), items[i]? = some v → ∃ t x, xs[i]? = some x ∧ v = .str x t := fun i v e => by
          obtain ⟨t, et⟩ := SS.strs_at hi i v (by rw [Array.getElem?_toList]; exact e)
          have lx : i < xs.length := by
            have q1 := (Array.getElem?_eq_some_iff.mp e).1
            have q2 := StrsAre.len_eq hi
            rw [Array.length_toList] at q2
            omega
          exact ⟨t, xs[i], List.getElem?_eq_getElem lx, by rw [et, List.getD_eq_getElem?_getD, List.getElem?_eq_getElem lx]; rfl⟩
        refine loop_txs ((Walks.tuple (A := A.in1.in1.in1) (by simp [hh]) _ l (by rw [szP]; exact Nat.ne_of_lt (Nat.lt_succ_of_lt ltl)) items).toS) s.heap.objs.size (by rw [szP]; simp only [List.mem_cons, List.not_mem_nil, or_false, not_or]; exact ⟨Nat.ne_of_lt (Nat.lt_succ_self _), Nat.ne_of_gt ltl⟩) xs (by rw [← StrsAre.len_eq hi, Array.length_toList])
          (by rw [← Array.length_toList, StrsAre.len_eq hi]; exact hn) hv (items.size - 0) 0 _ (by omega) (Nat.zero_le _) ⟨⟨_, Heap.get?_push_size _ rfl, rfl, rfl⟩, hl1.at fun o e => Heap.get?_push_of_some _ e⟩ ?_ ?_
        · exact (txs_new s.heap).keep fun o e => Heap.get?_push_of_some _ e
        · intro s' hm hT
          obtain ⟨h', g', d', tk', os'⟩ := s'
          obtain rfl : g' = s.gens := hm.gens
          obtain rfl : d' = s.drawn := hm.drawn
          obtain rfl : os' = s.os := hm.os
          show wpAny _ _ _ _ _ _
          refine wpAny_pure ?_
          show wpAny _ _ (ret Value.none) _ _ _
          refine wpAny_pure ⟨rfl, h', tk', rfl, hT, fun b o hb e => hm.heap b o ?_ (Heap.get?_push_of_some _ (Heap.get?_push_of_some _ e))⟩
          simp only [List.mem_cons, List.not_mem_nil, or_false, not_or]
          rw [szP]
          exact ⟨Nat.ne_of_lt hb, Nat.ne_of_lt (Nat.lt_succ_of_lt hb)⟩
      · cases r₂ with
        | error e => exact hr₂
        | ok fl₂ =>
          cases fl₂ with
          | ret r =>
            obtain ⟨rfl, h', tk, rfl, hT, keep⟩ := hr₂
            repeat (any_goals (first | assumption | wp_step))
            obtain ⟨D, hD, _⟩ := id hT
            exact q _ _ hT keep (Heap.lt_size hD)
          | _ => exact hr₂.elim
    | _ => exact hr.elim
end
section
variable {X : Cx} {Tz : Tbs}
/-- set(t), a tuple of texts -/
def rSetTxT (X : Cx) : List V → Hp → VK → Prop := fun xs H Q => ∃ (p : Addr) (zs : List Str), xs = [.ref p] ∧ SqT X.K H p (zs.map V.str) ∧ zs.length < 1000 ∧ ∀ a, H a = none → Q (.ref a) (upd H a (TxO X.prog X.w a (seen zs.reverse)))
theorem cr_setTxT (hc : X.calm = true) : CallR X (.type "set") (rSetTxT X) := by
  intro pins s σ H xs us Q I rx h
  obtain ⟨p, zs, rfl, hs, hl, q⟩ := h
  rw [Vals.ref1 rx]
  obtain ⟨its, r, ht, hlen⟩ := I.tuple hs
  refine call_set_txsT (I.ok.hd hc) (items := its.toArray) ht (by simpa using strs_vals r) (Nat.lt_of_lt_of_le (Nat.succ_lt_succ hl) (by decide)) fun h' tk T keep lt => ?_
  refine ⟨.ref s.heap.objs.size, _, I.laid (t' := tk) (fun b u e => keep b u (Heap.lt_size e) e) (Nat.le_refl _) (txO_new T), rfl, q _ (I.hok.fresh (Nat.le_refl _))⟩
end
/-! ## sorted(set(t)) of a tuple -/
def sortSetT : Dt → Option Dt
  | .tup xs => sortSetD (.lst xs)
  | _ => none
def mSortSetT (m : En → Mo Dt) : En → Mo Dt := fun ρ => (m ρ).bind fun d => ofO (sortSetT d)
section
variable {X : Cx} {Tz : Tbs} {XR : XRel} {E : Sg → XK} {e : Expr} {m : En → Mo Dt} {p p1 pos pos1 : Pos}
theorem e_sortSetT (hg : Gl X "sorted") (hm : X.mg "sorted" = none) (hg1 : Gl X "set") (hm1 : X.mg "set" = none) (he : PE X e (tM (X.gd Tz) XR E m)) (hc : X.calm = true := by rfl)
    (hs : starEach [e] X.env = (false, eval e X.env) :: starEach [] X.env := by rfl) (hpl : (backTo pos1 (starEach [] X.env)).any (·.1) = false := by rfl)
    (hs1 : starEach [Expr.Call (.Name "set" p1) [e] [] pos1] X.env = (false, eval (Expr.Call (.Name "set" p1) [e] [] pos1) X.env) :: starEach [] X.env := by rfl) (hpl1 : (backTo pos (starEach [] X.env)).any (·.1) = false := by rfl) :
    PE X (.Call (.Name "sorted" p) [.Call (.Name "set" p1) [e] [] pos1] [] pos) (tM (X.gd Tz) XR E (mSortSetT m)) :=
  PE.imp (pe_callB (cr_sortTx hc) hg hm (by decide +kernel) (pa_cons (pe_callTy (cr_setTxT hc) hg1 hm1 (by decide +kernel) (pa_cons he pa_nil hs) (by decide) (by decide) hs hpl) pa_nil hs1) (by decide) (by decide) hs1 hpl1) fun σ H Q ⟨r, Z, ρ, w, s, h⟩ => tM.split w s h fun v H1 Z1 d e1 w1 s1 rp h1 => by
    obtain ⟨d2, e2, h2⟩ := wp_ofO h1
    unfold sortSetT at e2
    split at e2
    · rename_i xs
      unfold sortSetD at e2
      dsimp only at e2
      obtain ⟨l, e3, e4⟩ := Option.bind_eq_some_iff.mp e2
      split at e4
      · rename_i hl
        cases e4
        obtain ⟨a, vs, rfl, t, l2, qs⟩ := rp.tup
        have ev := reps_strs qs e3
        have ts := t.sq
        rw [ev] at ts
        refine ⟨a, l.map st, rfl, by rw [List.map_map]; exact ts, by rw [List.length_map]; omega, fun b hb => ?_⟩
        have eo := Ext.own (o := TxO X.prog X.w b (seen (l.map st).reverse)) w1 hb
        have sl := seen_len (l.map st).reverse
        rw [List.length_reverse, List.length_map] at sl
        refine ⟨b, _, rfl, upd_same, seen_nodup _, by omega, fun ys D p1 p2 hD => ?_⟩
        rw [← List.map_reverse, seen_map] at p1
        rw [sortedS_out p1 p2]
        refine laid_lst eo.wf ((h2.ext e1).ext eo) hD ?_ (reps_strN _)
        rw [List.length_map, List.length_map, (srtN_perm _).length_eq]
        have sl2 := sl
        rw [← List.map_reverse, seen_map, List.length_map] at sl2
        exact sl16 (by omega)
      · cases e4
    · cases e2
/-! ## {} -/
theorem e_dempty : PE X (.Dict [] [] pos) (tM (X.gd Tz) XR E (mC (.dt [] []))) :=
  PE.imp pe_dnewT fun σ H Q ⟨r, Z, ρ, w, s, h⟩ p hn => by
    have e := Ext.laid (o := .dT []) w hn
    refine (show PV (X.gd Tz) r Z H Q (.dt [] []) from h) _ _ _ e ?_
    unfold Rep
    exact ⟨p, [], rfl, .inr rfl, upd_same, rfl, by decide, Reps.nil⟩
end
end Fw
set_option Elab.async false
set_option linter.all false
set_option maxRecDepth 100000
set_option maxHeartbeats 4000000
namespace Fw
open PySem PySem.Spec PyProof.Rows L2

/-! ## s.split(t) -/
def spT (x y : List Nat) : List (List Nat) := (Txt.split (st x) (st y)).map fun s => s.cps.toList
def splitD (x : List Nat) : List Dt → Option Dt
  | [.str y] => if y.isEmpty = false ∧ x.length ≤ 1000 ∧ (spT x y).length ≤ 16777216 then some (.lst ((spT x y).map .str)) else none
  | _ => none
section
variable {X : Cx} {Tz : Tbs} {XR : XRel} {E : Sg → XK} {o e : Expr} {es : List Expr} {mo m : En → Mo Dt} {ms : En → Mo (List Dt)} {apos cpos pos : Pos}
theorem e_split (ho : PE X o (tM (X.gd Tz) XR E mo)) (ha : PA X (e :: es) (tMs (X.gd Tz) XR E ms))
    (hbase : attributeBase o "split" X.env (eval o X.env) = eval o X.env := by rfl)
    (hfew : ((backTo cpos (starEach (e :: es) X.env)).all (fun x => !x.1) && (backToKw cpos (keywordEach [] X.env)).all (fun x => x.1.isSome)
      && decide ((e :: es).length + ([] : List Keyword).length + (if ([] : List Keyword).isEmpty then 0 else 1) < 30)) = true := by rfl)
    (hline : (apos.endLine == cpos.line) = true := by rfl) (hs : starEach (e :: es) X.env = (false, eval e X.env) :: starEach es X.env := by rfl) (hplain : (backTo cpos (starEach es X.env)).any (·.1) = false := by rfl) :
    PE X (.Call (.Attribute o "split" apos) (e :: es) [] cpos) (tM (X.gd Tz) XR E (mSM splitD mo ms)) :=
  e_sm PySem.F.slot_str_split PySem.F.type_str_split mt_split (fun {r Z H Q x xs ds d} w rp eg q => by
    unfold splitD at eg
    split at eg
    · rename_i y
      split at eg
      · rename_i hc
        cases eg
        obtain ⟨v, rfl, r1⟩ := rp.one
        refine ⟨st x, st y, rfl, by rw [r1.str], ?_, ?_, fun p hp => ?_⟩
        · rw [st_length]
          have := hc.1
          cases y with
          | nil => cases this
          | cons c y => rfl
        · rw [st_length, sizeLine_eq]
          omega
        · have ev : (Txt.split (st x) (st y)).map V.str = (spT x y).map fun x => V.str (st x) := by
            unfold spT
            rw [List.map_map]
            refine List.map_congr_left fun s _ => ?_
            show V.str s = V.str (st s.cps.toList)
            rw [st_cps]
          rw [ev]
          refine PV.lst q w (mk_strs _) ?_ p hp
          rw [List.length_map]
          exact sl16 hc.2.2
      · cases eg
    · cases eg) ho ha hbase hfew hline hs hplain
end
end Fw
set_option Elab.async false
set_option linter.all false
set_option maxRecDepth 100000
set_option maxHeartbeats 4000000
namespace Fw
open PySem PySem.Spec PyProof.Rows L2

/-! ## a, b, c = e, e1, [] with c an own list -/
def mPar3O (i j l : Nat) (ma mb : En → Mo Dt) : En → Mo Fl := fun ρ => (ma ρ).bind fun x => (mb ρ).bind fun y => .ret (.nx (((ρ.set i (.fz x)).set j (.fz y)).set l (.ol [])))
section
variable {X : Cx} {Tz : Tbs} {XR : XRel} {E : Sg → XK} {a b e : Expr} {ma mb : En → Mo Dt} {x y z : Str} {px py pz pt pos : Pos} {kt k2 : Nat} {pt2 pl : Pos}
theorem s_par3o (i j l : Nat) (hN : X.N.Nodup) (hi : X.N[i]? = some x) (hj : X.N[j]? = some y) (hl : X.N[l]? = some z) (hx : X.env.scope.names.lookup x = some .local) (hy : X.env.scope.names.lookup y = some .local) (hz : X.env.scope.names.lookup z = some .local) (ha : PE X a (tM (X.gd Tz) XR E ma)) (hb : PE X b (tM (X.gd Tz) XR E mb)) (hc : X.calm = true := by rfl) (hij : i ≠ j := by decide) (hil : i ≠ l := by decide) (hjl : j ≠ l := by decide)
    (hw : swappedStores [.Tuple [.Name x px, .Name y py, .Name z pz] kt pt] (.Tuple [a, b, .List [] pl] k2 pt2) X.env = pure (some [x, y, z]) := by rfl)
    (hs : swapsWithSole [.Tuple [.Name x px, .Name y py, .Name z pz] kt pt] (.Tuple [a, b, .List [] pl] k2 pt2) pos.line X.env = pure false := by rfl)
    (h1 : starEach [a, b, .List [] pl] X.env = (false, eval a X.env) :: starEach [b, .List [] pl] X.env := by rfl) (h2 : starEach [b, .List [] pl] X.env = (false, eval b X.env) :: starEach [.List [] pl] X.env := by rfl) (h3 : starEach [Expr.List [] pl] X.env = (false, eval (.List [] pl) X.env) :: starEach [] X.env := by rfl) :
    PS X (.Assign [.Tuple [.Name x px, .Name y py, .Name z pz] kt pt] (.Tuple [a, b, .List [] pl] k2 pt2) pos) (tS (X.gd Tz) XR E (mPar3O i j l ma mb)) :=
  PS.imp (ps_par3 hc hN hi hj hl hij hil hjl hx hy hz (pa_cons ha (pa_cons hb (pa_cons (pe_lst pa_nil) pa_nil h3) h2) h1) hw hs) fun D σ H ⟨r, Z, ρ, Z0, H0, a, h⟩ => tS.split a h fun v H1 Z1 d e1 a1 rp h1 => tS.split a1 h1 fun v2 H2 Z2 d2 e2 a2 rp2 h2 => by
    refine ⟨Nat.zero_le _, fun p hp => ⟨v, v2, .ref p, rfl, ?_⟩⟩
    have a3 := (a2.set (i := i) (rp.frz (e2.frz a1.wf))).set (i := j) rp2
    have nz := a2.wf.nz hp
    exact PF.nx h2 (a3.setOwn hp ⟨p, [], rfl, nz.2, nz.1, upd_same, Nat.zero_le _, Reps.nil⟩ (a3.st.notNone hp)) (((e1.trans e2).frz a.wf).trans (frz_upd nz.1))
end
end Fw
set_option Elab.async false
set_option linter.all false
set_option maxRecDepth 100000
set_option maxHeartbeats 4000000
namespace Fw
open PySem PySem.Spec PyProof.Rows L2 PySem.W PySem.Calls

/-! ## sorted(t), a tuple of data that rises already -/
theorem each_zip {h : Heap} : ∀ {us : List Value} {ds : List PyData} {as : List Addr}, ReadsAll h us ds as → EachIs (fun v (b : Value × PyData) => v = b.1 ∧ ∃ as, Reads h v b.2 as) us (us.zip ds)
  | _, [], _, r => by cases r; exact .nil
  | _, d :: ds, _, r => by
    cases r with
    | cons h1 h2 => exact .cons ⟨rfl, _, h1⟩ (each_zip h2)
theorem zip_snd {h : Heap} : ∀ {us : List Value} {ds : List PyData} {as : List Addr}, ReadsAll h us ds as → (us.zip ds).map (fun x : Value × PyData => x.2) = ds
  | _, [], _, r => by cases r; rfl
  | _, d :: ds, _, r => by
    cases r with
    | cons h1 h2 => rw [List.zip_cons_cons, List.map_cons, zip_snd h2]
theorem each_fst : ∀ {us : List Value} {bs : List (Value × PyData)}, EachIs (fun v (b : Value × PyData) => v = b.1) us bs → us = bs.map (·.1)
  | _, _, .nil => rfl
  | _, _, .cons h t => by rw [List.map_cons, ← each_fst t, ← h]
theorem collect_tup {prog : Program} {w : World} {A : Around} {E : Value → Shared → Prop} {s : Shared} {l : Addr} {o : Obj} {vs : List Value} {n : Nat} {Q : List Value → Shared → Prop} (ho : s.heap.get? l = some o) (hc : o.cls = .type "tuple") (hd : o.data = .seq vs.toArray n)
    (h : Q vs { s with heap := (s.heap.push (seqObj "list" #[] 0)).update s.heap.objs.size (Obj.mapSeq (· ++ vs.toArray)) }) (hsz : vs.length ≤ sizeLine) :
    wpAny (model prog w) A (collect (.ref l)) Q E s := by
  unfold collect
  refine wpAny_bind (wpAny_runValue (codeAny_builtin entry_proto_collect' ?_))
  show wpAny _ _ (do again (.builtin "list.__iadd__" ⟨[← newList [], .ref l], []⟩)) _ _ s
  refine wpAny_bind (wpAny_newList (wpAny_pure ⟨Code.quiet_builtin _ (by decide +kernel), codeAny_builtin entry_list_iadd' ?_⟩))
  show wpAny _ _ (Builtin.List.listExtendWith (.ref s.heap.objs.size) (.ref l) (.ref s.heap.objs.size)) _ _ { s with heap := s.heap.push (seqObj "list" #[] 0) }
  unfold Builtin.List.listExtendWith
  have ho' : (s.heap.push (seqObj "list" #[] 0)).get? l = some o := Heap.get?_push_of_some _ ho
  refine wpAny_bind (wpAny_typeOf (T := "tuple") ⟨o, ho', hc⟩ ?_)
  have ht : (Value.type "tuple" == Value.type "tuple") = true := by rfl
  rw [if_pos (by rw [ht]; simp)]
  refine wpAny_bind (listItems_at ho' hd ?_)
  refine wpAny_bind (listItems_at (xs := #[]) (n := 0) (Heap.get?_push_size _ rfl) rfl ?_)
  rw [if_neg (by simp)]
  refine wpAny_bind (listUpdate_at (xs := #[]) (n := 0) (Heap.get?_push_size _ rfl) rfl ?_ (Nat.zero_le _) (by show (#[] ++ vs.toArray).size ≤ sizeLine + 1; simp only [Array.size_append, List.size_toArray, List.length_nil]; omega))
  refine wpAny_pure ?_
  show wpAny (model prog w) A (do
      let o ← load s.heap.objs.size
      match o.data with
      | .seq xs _ => pure xs.toList
      | _ => unsupported "internal:collect") Q E { s with heap := (s.heap.push (seqObj "list" #[] 0)).update s.heap.objs.size (Obj.mapSeq (· ++ vs.toArray)) }
  refine wpAny_bind (wpAny_load (get?_update_seq (Heap.get?_push_size _ rfl) _) ?_)
  show wpAny _ _ (pure ((#[] : Array Value) ++ vs.toArray).toList) Q E _
  rw [show ((#[] : Array Value) ++ vs.toArray).toList = vs by simp]
  exact wpAny_pure h
section
variable {X : Cx} {Tz : Tbs}
def leP (a b : PyData) : Bool := dataLe false (fun x : PyData => x) a b
def rSortUp (K : PySem.W.Frag) : List V → Hp → VK → Prop := fun vs H Q => ∃ (a : Addr) (us : List V) (ds : List PyData), vs = [.ref a] ∧ SqT K H a us ∧ DpAll K H us ds ∧ AllAlike ds ∧ Sortable ds ∧ ds.Pairwise (fun a b => leP a b = true) ∧ us.length < 64 ∧ (∀ d ∈ ds, d.depth ≤ 3) ∧
  ∀ p, H p = none → Q (.ref p) (upd H p (.lst us))
theorem cr_sortUp (hu : X.A.units + 64 < cLine) : CallR X (.builtin "sorted") (rSortUp X.K) := by
  intro pins s σ H vs us0 Q I r h
  obtain ⟨a, us, ds, rfl, hs, hd, hal, hk, hp, hl, hdep, q⟩ := h
  obtain ⟨its, rv, ht, hz⟩ := I.tuple hs
  rw [Vals.ref1 r]
  obtain ⟨o, ho, hc, n, hd'⟩ := ht
  obtain ⟨as, rd⟩ := Dp.readsAll I ds us its hd rv
  have hlen : its.length = us.length := rv.length.symm
  have hL : its.length ≤ sizeLine := by rw [hlen, sizeLine_eq]; omega
  refine call_function_entry kind_sorted plain_sorted entry_sorted (args_sorted1 _) ?_
  unfold Builtin.«sorted»
  refine wpAny_bind (m := checkCount "sorted" 1 1 _) (wpAny_pure ?_)
  refine wpAny_bind (collect_tup ho hc hd' ?_ hL)
  have hsz : s.heap.objs.size ≤ ((s.heap.push (seqObj "list" #[] 0)).update s.heap.objs.size (Obj.mapSeq (· ++ its.toArray))).objs.size := by
    rw [Heap.size_update, size_push']; omega
  have k : ∀ b u, s.heap.get? b = some u → ((s.heap.push (seqObj "list" #[] 0)).update s.heap.objs.size (Obj.mapSeq (· ++ its.toArray))).get? b = some u := fun b u e => by
    rw [Heap.get?_update_ne _ _ _ _ (Nat.ne_of_lt (Heap.lt_size e)), Heap.get?_push_ne _ _ _ (Nat.ne_of_lt (Heap.lt_size e))]; exact e
  generalize ((s.heap.push (seqObj "list" #[] 0)).update s.heap.objs.size (Obj.mapSeq (· ++ its.toArray))) = h' at hsz k ⊢
  refine wpAny_bind (wpAny_newList ?_ hL)
  have k2 : ∀ b u, s.heap.get? b = some u → (h'.push (seqObj "list" its.toArray 0)).get? b = some u := fun b u e => Heap.get?_push_of_some _ (k b u e)
  have hoL : (h'.push (seqObj "list" its.toArray 0)).get? h'.objs.size = some (seqObj "list" its.toArray 0) := Heap.get?_push_size _ rfl
  have bz := each_zip rd
  have e2 := zip_snd rd
  have hlt : ∀ b u, s.heap.get? b = some u → b < h'.objs.size := fun b u e => Heap.lt_size (k b u e)
  have k3 : ∀ b u, s.heap.get? b = some u → (sortingHeap (h'.push (seqObj "list" its.toArray 0)) h'.objs.size its).get? b = some u := fun b u e => sortingHeap_old (Nat.ne_of_lt (hlt b u e)) (k2 b u e)
  have er : EachIs (fun v b => ∃ as, Reads (sortingHeap (h'.push (seqObj "list" its.toArray 0)) h'.objs.size its) v (b : Value × PyData).2 as) its (its.zip ds) := bz.mono fun v b ⟨_, as, r⟩ => ⟨as, PyProof.Rows.Reads.keeps k3 r⟩
  have hal' : AllAlike ((its.zip ds).map (fun x : Value × PyData => x.2)) := by rw [e2]; exact hal
  have hk' : Sortable ((its.zip ds).map (fun x : Value × PyData => x.2)) := by rw [e2]; exact hk
  have out := sortVals_data (R := fun v (b : Value × PyData) => v = b.1) false (bz.mono fun v b q => q.1) er hal'
  have srt : (its.zip ds).mergeSort (dataLe false (fun x : Value × PyData => x.2)) = its.zip ds := by
    refine List.mergeSort_of_pairwise ?_
    have h1 : ((its.zip ds).map (fun x : Value × PyData => x.2)).Pairwise (fun a b => leP a b = true) := by rw [e2]; exact hp
    rw [List.pairwise_map] at h1
    exact h1
  rw [srt] at out
  have out2 := each_fst out
  have fst : its = (its.zip ds).map (·.1) := each_fst (bz.mono fun v b q => q.1)
  refine wpAny_bind (wpAny_holding (wpAny_call_entry slot_list_sort ⟨_, hoL, rfl⟩ entry_list_sort ?body (args_list_sort _)))
  case body =>
    refine list_sort_vals (κ := dataKind (sortingHeap (h'.push (seqObj "list" its.toArray 0)) h'.objs.size its) ((its.zip ds).map (fun x : Value × PyData => x.2))) hoL
      (SortsAt.data (s := { s with heap := sortingHeap (h'.push (seqObj "list" its.toArray 0)) h'.objs.size its }) (each_map (R := fun v d => ∃ as, Reads (sortingHeap (h'.push (seqObj "list" its.toArray 0)) h'.objs.size its) v d as) (fun x : Value × PyData => x.2) er) hal' hk' (fun d hd => ?_)) hL ?_
    · rw [e2] at hd
      have := hdep d hd
      show X.A.units + 2 + d.depth < cLine
      omega
    · refine ⟨_, rfl, wpAny_pure ⟨_, rfl, ?_⟩⟩
      rw [out2, ← fst]
      obtain ⟨ep, he'⟩ := PyProof.Rows.sortedHeap_at (vs := its) (out := its.toArray) hoL
      have hll : us.length ≤ sizeLine := by rw [sizeLine_eq]; omega
      exact ⟨.ref _, upd H h'.objs.size (.lst us), I.laid (t' := s.toks) (fun b u e => by rw [PyProof.Rows.sortedHeap_old (Nat.ne_of_lt (hlt b u e)) (Heap.lt_size (k2 b u e))]; exact k2 b u e) hsz ⟨hll, its, ep, rv, he'⟩, rfl, q _ (I.hok.fresh hsz)⟩
/-- by data -/
def allTupB (ds : List PyData) : Bool := ds.all fun d => match d with
  | .tuple (_ :: _) => true
  | _ => false
def upB : List PyData → Bool
  | [] => true
  | d :: r => r.all (fun e => leP d e) && upB r
def sortUpOk (xs : List Dt) : Bool := decide (xs.length < 64) && plainDs 3 xs && (toPys xs).all (fun d => (toPys xs).all fun e => alike d e) && allTupB (toPys xs) && upB (toPys xs)
def sortUpD : List Dt → Option Dt
  | [.tup xs] => if sortUpOk xs = true then some (.lst xs) else none
  | _ => none
theorem upB_pw : ∀ {ds : List PyData}, upB ds = true → ds.Pairwise (fun a b => leP a b = true)
  | [], _ => .nil
  | d :: r, h => by
    unfold upB at h
    rw [Bool.and_eq_true, List.all_eq_true] at h
    exact .cons h.1 (upB_pw h.2)
theorem reps_len {K : Gd} {r : Addr} {Z : Addr → Prop} {H : Hp} : ∀ {us : List V} {ds : List Dt}, Reps K r Z H us ds → us.length = ds.length
  | us, [], h => by rw [h.inv_nil]; rfl
  | us, d :: ds, h => by
    obtain ⟨u, us', rfl, h1, h2⟩ := h.inv_cons
    rw [List.length_cons, List.length_cons, reps_len h2]
theorem depth_mem : ∀ {ds : List PyData} {n : Nat}, PyData.depthAll ds ≤ n → ∀ d ∈ ds, d.depth ≤ n
  | e :: r, n, h, d, hd => by
    unfold PyData.depthAll at h
    rcases List.mem_cons.mp hd with rfl | q
    · omega
    · exact depth_mem (by omega) d q
theorem c_sortUp (hu : X.A.units + 64 < cLine) : CallR X (.builtin "sorted") (rC (X.gd Tz) sortUpD) := by
  rintro pins s σ H xs us Q I rx ⟨r, Z, ds, d, w, px, e, q⟩
  unfold sortUpD at e
  split at e
  · rename_i ys
    split at e
    · rename_i hk
      cases e
      unfold sortUpOk at hk
      simp only [Bool.and_eq_true, decide_eq_true_eq] at hk
      obtain ⟨⟨⟨⟨k1, k2⟩, k3⟩, k4⟩, k5⟩ := hk
      obtain ⟨v, rfl, h⟩ := px.one
      obtain ⟨a, vs, rfl, t, l2, qs⟩ := h.tup
      have hlen : vs.length = ys.length := reps_len qs
      refine cr_sortUp hu pins s σ H _ us Q I rx ⟨a, vs, toPys ys, rfl, t.sq, qs.dp k2, ?_, .inl ?_, upB_pw k5, by omega, depth_mem (plain_pys 3 ys k2).2, fun p hp => laid_lst w q hp (by rw [sizeLine_eq]; omega) qs⟩
      · intro d hd d' hd'
        exact List.all_eq_true.mp (List.all_eq_true.mp k3 d hd) d' hd'
      · intro d hd
        have := List.all_eq_true.mp k4 d hd
        match d, this with
        | .tuple (x :: r), _ => exact ⟨x, r, rfl⟩
    · cases e
  · cases e
end
end Fw
set_option Elab.async false
set_option linter.all false
set_option maxRecDepth 100000
set_option maxHeartbeats 4000000
namespace Fw
open PySem PySem.Spec PyProof.Rows L2

/-! ## a new tuple whose object is known: tuple(list); its count -/
def tupleN : List Dt → Option Dt
  | [.lst xs] => some (.ntp xs)
  | _ => none
section
variable {X : Cx} {Tz : Tbs}
theorem c_tupleN : CallR X (.type "tuple") (rC (X.gd Tz) tupleN) := by
  rintro pins s σ H xs us Q I rx ⟨r, Z, ds, d, w, px, e, q⟩
  unfold tupleN at e
  split at e
  · obtain ⟨v, rfl, h⟩ := px.one
    obtain ⟨a, vs, rfl, z, t, l, qs⟩ := h.lst
    cases e
    obtain ⟨u, rfl, ru⟩ := Vals.one rx
    cases ru
    obtain ⟨its, r', pl, hz⟩ := I.list (SqL.of t)
    have hlen := r'.length
    refine call_tuple_list pl.isList (fun h' kp => ?_) (by simp only [List.size_toArray] <;> omega)
    have I1 : Inv X pins σ H { s with heap := h' } := I.kept (t' := s.toks) kp
    have hn : H h'.objs.size = none := I1.hok.fresh (Nat.le_refl _)
    have I2 : Inv X pins σ (upd H h'.objs.size (.frz { cls := .type "tuple", data := .seq its.toArray } (.tup vs))) { s with heap := h'.push { cls := .type "tuple", data := .seq its.toArray } } :=
      I1.laid (t' := s.toks) (fun b o e => Heap.get?_push_of_some _ e) (Nat.le_refl _) (show ObjOk X.prog X.w _ _ _ (.frz _ (.tup vs)) from ⟨Heap.get?_push_size _ rfl, hz, its, r', IsTup.new _ _⟩)
    have ee := Ext.laid (o := .frz { cls := .type "tuple", data := .seq its.toArray } (.tup vs)) w hn
    exact ⟨.ref h'.objs.size, _, I2, rfl, q _ _ _ ee (Rep.mk_ntp (.inr rfl) upd_same rfl l (qs.frz (ee.frz w)))⟩
  · cases e
end
def cntD (xs : List Dt) (k : Dt) : Option Dt := match k with
  | .str x => (strsOf xs).map fun l => .int (l.countP fun y => y == x)
  | _ => none
def chkN (d : Dt) : Mo (List Dt) := match d with | .ntp xs => .ret xs | _ => .err
def mCnt (mo mi : En → Mo Dt) : En → Mo Dt := fun ρ => (mo ρ).bind fun d => (chkN d).bind fun xs => (mi ρ).bind fun k => ofO (cntD xs k)
theorem wp_chkN {β : Type} {d : Dt} {k : List Dt → Mo β} {P : β → Prop} {R : Nat → Dt → Prop} (h : ((chkN d).bind k).wp P R) : ∃ xs, d = .ntp xs ∧ (k xs).wp P R := by
  cases d with
  | ntp xs => exact ⟨xs, rfl, h⟩
  | _ => exact h.elim
theorem cnt_py (k : List Nat) : ∀ l : List (List Nat), ((l.map fun x => PyData.str (st x)).countP fun y => PyData.eqv y (.str (st k))) = l.countP fun y => y == k
  | [] => rfl
  | x :: l => by
    have ih := cnt_py k l
    rw [List.map_cons, List.countP_cons, List.countP_cons, ih]
    have : PyData.eqv (.str (st x)) (.str (st k)) = (x == k) := by simp only [PyData.eqv, st_beq]
    rw [this]
section
theorem reads_strs {h : Heap} : ∀ {l : List (List Nat)} {us : List Value}, Vals (l.map fun x => V.str (st x)) us → ∃ bs, ReadsAll h us (l.map fun x => PyData.str (st x)) bs
  | [], us, h => by
    cases h
    exact ⟨_, .nil⟩
  | x :: l, us, q => by
    rw [List.map_cons] at q
    cases q with
    | cons h1 h2 =>
      obtain ⟨bs, h3⟩ := reads_strs h2
      obtain ⟨t, rfl⟩ := h1
      exact ⟨_, .cons (.str _ t) h3⟩
theorem plain_strs : ∀ l : List (List Nat), PyData.plainAll (l.map fun x => PyData.str (st x)) = true
  | [] => rfl
  | x :: l => by
    have ih := plain_strs l
    rw [List.map_cons]
    simp only [PyData.plainAll, PyData.plain, ih, Bool.and_true]
theorem depth_strs : ∀ l : List (List Nat), PyData.depthAll (l.map fun x => PyData.str (st x)) = 0
  | [] => rfl
  | x :: l => by
    have ih := depth_strs l
    rw [List.map_cons]
    simp only [PyData.depthAll, PyData.depth, ih, Nat.max_self]
end
section
variable {X : Cx} {Tz : Tbs} {XR : XRel} {E : Sg → XK} {o e : Expr} {mo mi : En → Mo Dt}
theorem e_cnt {apos cpos : Pos} (hu : X.A.units + 1 < cLine) (ho : PE X o (tM (X.gd Tz) XR E mo)) (hi : PE X e (tM (X.gd Tz) XR E mi)) (m : M1 X o "count" apos e cpos := by exact ⟨rfl, rfl, rfl, rfl⟩) : PE X (.Call (.Attribute o "count" apos) [e] [] cpos) (tM (X.gd Tz) XR E (mCnt mo mi)) := by
  refine ⟨fun pins s σ H Q I ⟨r, Z, ρ, w, st0, h⟩ => ?_⟩
  refine wpAny_Call_method m.base m.few m.line PySem.F.plainAttrs_tuple PySem.F.slot_tuple_count PySem.F.type_tuple_count (thn (ho.run pins s σ H (fun x H1 => ∃ Z1 xs, Ext (X.gd Tz) r Z H Z1 H1 ∧ Rep (X.gd Tz) r Z1 H1 x (.ntp xs) ∧
    Mo.wp ((mi ρ).bind fun k => ofO (cntD xs k)) (PV (X.gd Tz) r Z H Q) (PX (X.gd Tz) XR r Z H (E σ))) I (tM.split w st0 h fun u H1 Z1 d1 e1 w1 s1 rp1 h1 => by
      obtain ⟨xs, rfl, h2⟩ := wp_chkN h1
      exact ⟨Z1, xs, e1, rp1, h2⟩)) fun u s1 ⟨x, H1, I1, rx, Z1, xs, e1, rp, h1⟩ => ?_)
  obtain ⟨a, vs, ob, rfl, za, ha, hd, hl, qs⟩ := rp.ntp
  obtain rfl : u = Value.ref a := rx
  obtain ⟨ho1, hz, its, r', pl⟩ := (show ObjOk X.prog X.w H1 s1.heap a (.frz ob (.tup vs)) from I1.hok a _ ha)
  refine ⟨?_, fun b q => ?_, ?_⟩
  · obtain ⟨o2, h2, h3, _⟩ := pl
    exact ⟨o2, h2, h3⟩
  · cases q
    exact ⟨ob, ho1, hd⟩
  rw [m.trees]
  have w1 := e1.wf
  have s1' := st0.ext w e1
  refine Calls.callWith_builtin rfl (Calls.evalArgs_plain (Calls.spliced_cons (thn (hi.run pins s1 σ H1 (fun y H2 => ∃ Z2 dk d2, Ext (X.gd Tz) r Z1 H1 Z2 H2 ∧ Rep (X.gd Tz) r Z2 H2 y dk ∧ cntD xs dk = some d2 ∧ PV (X.gd Tz) r Z H Q d2) I1
    (tM.split w1 s1' (h1.mono (fun _ p => p) fun _ _ p => p.ext e1) fun u2 H2 Z2 d2 e2 w2 s2 rp2 h2 => ?_)) fun iv s2 ⟨y, H2, I2, ry, Z2, dk, d2, e2, rp2, e4, q⟩ => Calls.spliced_nil ?_)))
  · obtain ⟨d3, e3, h3⟩ := wp_ofO h2
    exact ⟨Z2, d2, d3, e2, rp2, e3, h3⟩
  · unfold cntD at e4
    split at e4
    · rename_i k
      obtain ⟨l, el, rfl⟩ := Option.map_eq_some_iff.mp e4
      have qs2 := qs.frz (e2.frz w1)
      have ha2 : H2 a = some (.frz ob (.tup vs)) := by rw [(e2.frz w1 a za).2]; exact ha
      obtain ⟨ho2, hz2, its2, r2, pl2⟩ := (show ObjOk X.prog X.w H2 s2.heap a (.frz ob (.tup vs)) from I2.hok a _ ha2)
      rw [reps_strs qs2 el] at r2
      obtain ⟨bs, h3⟩ := reads_strs (h := s2.heap) r2
      rw [rp2.str] at ry
      obtain ⟨tk, rfl⟩ := ry
      refine SeqAt.count_tuple_data (vs := its2.toArray) (xs := l.map fun x => PyData.str (st x)) (d := .str (st k)) pl2 (by simpa using h3) (.str _ tk) (plain_strs l) rfl (by rw [depth_strs]; simpa using hu) ?_
      rw [cnt_py]
      exact ⟨.int _, H2, I2.tok _, ⟨_, rfl⟩, PV.at e2.wf (q.ext (e1.trans e2)) Rep.mk_int⟩
    · cases e4
end
end Fw
set_option Elab.async false
set_option linter.all false
set_option maxRecDepth 100000
set_option maxHeartbeats 4000000
namespace Fw
open PySem PySem.Spec PyProof.Rows L2

/-! ## a, b, c, d = e, e1, [], [] with c, d own lists -/
def mPar4OO (i j l m : Nat) (ma mb : En → Mo Dt) : En → Mo Fl := fun ρ => (ma ρ).bind fun x => (mb ρ).bind fun y => .ret (.nx ((((ρ.set i (.fz x)).set j (.fz y)).set l (.ol [])).set m (.ol [])))
section
variable {X : Cx} {Tz : Tbs} {XR : XRel} {E : Sg → XK} {a b e : Expr} {ma mb : En → Mo Dt} {pt pos : Pos} {kt k2 : Nat} {pt2 pl pl2 : Pos} {es : List Expr}
theorem s_par4oo (i j l m : Nat) (hg : PGs X es (gNames [i, j, l, m])) (ha : PE X a (tM (X.gd Tz) XR E ma)) (hb : PE X b (tM (X.gd Tz) XR E mb)) (hlm : l ≠ m := by decide) (hc : X.calm = true := by rfl)
    (hn : (assignEach es X.env).length = 4 := by rfl) (hst : (assignEach es X.env).findIdx? (·.1) = none := by rfl)
    (hs : swapsWithSole [.Tuple es kt pt] (.Tuple [a, b, .List [] pl, .List [] pl2] k2 pt2) pos.line X.env = pure false := by rfl) (hw : swappedStores [.Tuple es kt pt] (.Tuple [a, b, .List [] pl, .List [] pl2] k2 pt2) X.env = pure none := by rfl)
    (h0 : (assignEach [.Tuple es kt pt] X.env).map (·.2) = [assign (.Tuple es kt pt) X.env] := by rfl)
    (h1 : starEach [a, b, .List [] pl, .List [] pl2] X.env = (false, eval a X.env) :: starEach [b, .List [] pl, .List [] pl2] X.env := by rfl) (h2 : starEach [b, .List [] pl, .List [] pl2] X.env = (false, eval b X.env) :: starEach [.List [] pl, .List [] pl2] X.env := by rfl)
    (h3 : starEach [Expr.List [] pl, .List [] pl2] X.env = (false, eval (.List [] pl) X.env) :: starEach [.List [] pl2] X.env := by rfl) (h4 : starEach [Expr.List [] pl2] X.env = (false, eval (.List [] pl2) X.env) :: starEach [] X.env := by rfl) :
    PS X (.Assign [.Tuple es kt pt] (.Tuple [a, b, .List [] pl, .List [] pl2] k2 pt2) pos) (tS (X.gd Tz) XR E (mPar4OO i j l m ma mb)) :=
  PS.imp (ps_asg (pe_tup (pa_cons ha (pa_cons hb (pa_cons (pe_lst pa_nil) (pa_cons (pe_lst pa_nil) pa_nil h4) h3) h2) h1)) (pg_tup hc hg hn hst) hs hw h0) fun D σ H ⟨r, Z, ρ, Z0, H0, a, h⟩ => tS.split a h fun v H1 Z1 d e1 a1 rp h1 => tS.split a1 h1 fun v2 H2 Z2 d2 e2 a2 rp2 h2 => by
    refine ⟨Nat.zero_le _, fun p hp => ⟨Nat.zero_le _, fun q hq => ⟨by show 4 ≤ sizeLine; decide, fun t ht => ?_⟩⟩⟩
    have a3 := (a2.set (i := i) (rp.frz (e2.frz a1.wf))).set (i := j) rp2
    have nz := a2.wf.nz hp
    have a4 := a3.setOwn (i := l) (o := .lst []) (t := .ol []) hp ⟨p, [], rfl, nz.2, nz.1, upd_same, Nat.zero_le _, Reps.nil⟩ (a3.st.notNone hp)
    have nz2 := a4.wf.nz hq
    have a5 := a4.setOwn (i := m) (o := .lst []) (t := .ol []) hq ⟨q, [], rfl, nz2.2, nz2.1, upd_same, Nat.zero_le _, Reps.nil⟩ (a4.st.notNone hq)
    have ee := Ext.own (o := .tup [v, v2, .ref p, .ref q]) a5.wf ht
    have a6 := a5.go ee
    refine ⟨t, [v, v2, .ref p, .ref q], rfl, .inl (.inl upd_same), rfl, v, _, rfl, v2, _, rfl, .ref p, _, rfl, .ref q, _, rfl, rfl, ?_⟩
    exact PF.nx h2 a6 ((((e1.trans e2).frz a.wf).trans (frz_upd nz.1)).trans ((frz_upd nz2.1).trans (ee.frz a5.wf)))
end
end Fw
set_option Elab.async false
set_option linter.all false
set_option maxRecDepth 100000
set_option maxHeartbeats 4000000
namespace Fw
open PySem PySem.Spec PyProof.Rows L2

/-! ## exceptions: their classes by number -/
def clsN : List Str := ["LogicError", "BadLogic", "BadAnswer", "BadName", "BadPromise", "BadPromises", "BadFormula", "BadRow", "NotText", "InvalidText", "NotNow", "NothingToUndo"]
def flatV : Dt → V → Prop
  | .non, v => v = .non
  | .int i, v => v = .int i
  | _, _ => False
/-- what an exception's dict holds: BadLogic's index, nothing else -/
def XD (H : Hp) (c : Nat) (d : Dt) (od : Option Addr) : Prop := (c = 1 ∧ ∃ (dd : Addr) (v : V), od = some dd ∧ H dd = some (.xd [("index", v)]) ∧ flatV d v) ∨ (c ≠ 1 ∧ od = none ∧ d = .non)
def XRm (mg : Str → Option Value) : XRel := fun H c d cv od => ∃ (nm : Str) (C : Addr), clsN[c]? = some nm ∧ mg nm = some (.ref C) ∧ cv = .ref C ∧ XD H c d od
def spX (G : Gd) (XR : XRel) (n : Nat) (F : List Dt → Mo Dt) : Sp := fun vs H Q E => vs.length = n ∧ ∃ r Z ds, Wf G r Z H ∧ Reps G r Z H vs ds ∧ (F ds).wp (PV G r Z H Q) (PX G XR r Z H E)
section
variable {P : Program} {w : World} {K : PySem.W.Frag} {mg : Str → Option Value} {base : Heap}
/-- a def that may raise, by its body's reading -/
theorem fnX {CX : CXT} {Tz : Tbs} {x qual : Str} {st : Stmt} {f : Addr} {fd : FuncData} {N ps : List Str} {k : Nat} {m : En → Mo Fl} (F : Fun K x qual st f fd) (S : FnScope N ps (defScope st))
    (hb : ∀ (cdv : Value) (A : Around) (outer : List Env) (s : Shared) (H : Hp) (E : XK), Room k (A.deeper (envOfC qual (defScope st) s.heap.objs.size f cdv)) →
      PSs (cxOf CX P w K mg base N qual (defScope st) f cdv A outer s H E) (defBody st) (tS ⟨K, w.params, Tz⟩ (XRm mg) (WE fun cls d _ H => E cls d H) m)) : FnOk P w K mg base CX (k + 1) f fd ps (spX ⟨K, w.params, Tz⟩ (XRm mg) ps.length (run N.length m)) := by
  obtain ⟨oc, od, kV, doc, pm, an, cdv, ct, osl, rfl, lk, hcd⟩ := F.ex
  refine fn_of lk hcd S (fun vs H Q E h => h.1) fun A outer s H vs Q E hr h => ?_
  obtain ⟨_, r, Z, ds, wf, rp, h⟩ := h
  refine ⟨_, hb cdv A outer s H E hr, r, Z, _, Z, H, ⟨stok_start rp, Ext.refl wf, fun i s p h1 h2 h3 => ?_⟩, (Mo.wp_bind.mp h).mono (fun fl hf => ?_) fun c d x => fun σ' cv od H' Z' e q => x cv od H' Z' e q⟩
  · have := List.mem_of_getElem? h1
    rw [List.mem_append] at this
    rcases this with q | q
    · obtain ⟨d, _, rfl⟩ := List.mem_map.mp q
      cases h2
    · rw [(List.mem_replicate.mp q).2] at h2
      cases h2
  · cases fl with
    | nx ρ => exact fun σ' H' Z' e _ _ _ => hf .non H' Z' e Rep.mk_non
    | rt d => exact hf
    | bk ρ => exact hf.elim
    | ct ρ => exact hf.elim
/-- a def that may be called by its name, and may raise -/
structure CalX (CX : CXT) (P : Program) (w : World) (K : PySem.W.Frag) (mg : Str → Option Value) (base : Heap) (k : Nat) (x : Str) (n : Nat) (F : List Dt → Mo Dt) : Prop where
  ex : ∃ (f : Addr) (fd : FuncData) (ps : List Str), (∀ Tz : Tbs, FnOk P w K mg base CX k f fd ps (spX ⟨K, w.params, Tz⟩ (XRm mg) n F)) ∧ mg x = some (.ref f) ∧ PySem.W.keepIn K (.ref f) = true ∧ Binds K fd ps []
theorem calX {CX : CXT} {x : Str} {st : Stmt} {N ps : List Str} {k : Nat} {m : En → Mo Fl} (D : Df K mg x st ps) (S : FnScope N ps (defScope st))
    (hb : ∀ (Tz : Tbs) (f : Addr) (cdv : Value) (A : Around) (outer : List Env) (s : Shared) (H : Hp) (E : XK), Room k (A.deeper (envOfC x (defScope st) s.heap.objs.size f cdv)) →
      PSs (cxOf CX P w K mg base N x (defScope st) f cdv A outer s H E) (defBody st) (tS ⟨K, w.params, Tz⟩ (XRm mg) (WE fun cls d _ H => E cls d H) m)) : CalX CX P w K mg base (k + 1) x ps.length (run N.length m) := by
  obtain ⟨f, fd, F, hm, b⟩ := D.ex
  exact ⟨f, fd, ps, fun Tz => fnX F S (hb Tz f), hm, F.kp, b⟩
theorem CalX.mono {CX : CXT} {k j n : Nat} {x : Str} {F : List Dt → Mo Dt} (c : CalX CX P w K mg base k x n F) (hk : k ≤ j) : CalX CX P w K mg base j x n F := by
  obtain ⟨f, fd, ps, G, a⟩ := c.ex
  exact ⟨f, fd, ps, fun Tz => (G Tz).mono hk, a⟩
theorem cxN_2 {outer : List Env} {H : Hp} {s : Shared} {E : XK} {u : Value} {s' : Shared} (h : L2N.CX P w outer H s E u s') : L2.CX P w outer H s E u s' := by
  obtain ⟨a, B, H', cls, d, e, fl, r⟩ := h
  exact ⟨a, B, H', cls, d, e, L2H.flyingZ_imp (fun o z => z.zc) fl, r⟩
theorem fn_cx {CX CX' : CXT} (hi : ∀ outer H s E u s', CX outer H s E u s' → CX' outer H s E u s') {k : Nat} {f : Addr} {fd : FuncData} {ps : List Str} {sp : Sp} (F : FnOk P w K mg base CX k f fd ps sp) : FnOk P w K mg base CX' k f fd ps sp :=
  ⟨F.len, fun A outer s H args us vs Q E hr e0 hb r h => codeAny_mono (F.run A outer s H args us vs Q E hr e0 hb r h) fun r s' hq => by
    cases r with
    | error e => exact hi _ _ _ _ _ _ hq
    | ok fl => cases fl <;> exact hq⟩
theorem CalX.cx {CX CX' : CXT} (hi : ∀ outer H s E u s', CX outer H s E u s' → CX' outer H s E u s') {k n : Nat} {x : Str} {F : List Dt → Mo Dt} (c : CalX CX P w K mg base k x n F) : CalX CX' P w K mg base k x n F := by
  obtain ⟨f, fd, ps, G, a⟩ := c.ex
  exact ⟨f, fd, ps, fun Tz => fn_cx hi (G Tz), a⟩
theorem CalX.n2 {k n : Nat} {x : Str} {F : List Dt → Mo Dt} (c : CalX (L2N.CX P w) P w K mg base k x n F) : CalX (L2.CX P w) P w K mg base k x n F := c.cx fun _ _ _ _ _ _ h => cxN_2 h
/-- a def that raises nothing, where another may raise -/
theorem Cal.x {CX : CXT} {k n : Nat} {x : Str} {F : List Dt → Mo Dt} (c : Cal P w K mg base k x n F) : CalX CX P w K mg base k x n (fun ds => (F ds).nox) := by
  obtain ⟨f, fd, ps, G, a⟩ := c.ex
  exact ⟨f, fd, ps, fun Tz => fn_cx (fun _ _ _ _ _ _ h => h.elim) ((G Tz).imp fun vs H Q E ⟨h1, r, Z, ds, h2, h3, h4⟩ => ⟨h1, r, Z, ds, h2, h3, Mo.nox_wp h4⟩), a⟩
end
section
variable {X : Cx} {Tz : Tbs} {k j n : Nat} {x : Str} {p pos : Pos} {e : Expr} {es : List Expr} {F : List Dt → Mo Dt} {ms : En → Mo (List Dt)} {E : Sg → XK} {CX : CXT}
theorem e_callX (c : CalX CX X.prog X.w X.K X.mg X.base k x n F) (hr : Room j X.A) (hx : ∀ σ, PassesAt CX X σ (E σ)) (hg : Gl X x) (ha : PA X (e :: es) (tMs (X.gd Tz) (XRm X.mg) E ms)) (hk : k ≤ j := by omega)
    (hdb : (x == ("__debug__" : Str)) = false := by decide) (he : starEach (e :: es) X.env = (false, eval e X.env) :: starEach es X.env := by rfl) (hpl : (backTo pos (starEach es X.env)).any (·.1) = false := by rfl) :
    PE X (.Call (.Name x p) (e :: es) [] pos) (tM (X.gd Tz) (XRm X.mg) E (mCal n F ms)) := by
  obtain ⟨f, fd, ps, G, hm, kp, b⟩ := c.ex
  refine PE.imp (pe_callS (G Tz) (hr.mono hk) hg hm kp b hx ha hdb he hpl) fun σ H Q ⟨r, Z, ρ, w, s, h⟩ => tMs.split w s h fun vs H1 Z1 ds e1 w1 s1 rp h1 => ?_
  split at h1
  · rename_i hl
    exact ⟨by rw [rp.length]; exact hl, r, Z1, ds, w1, rp, h1.mono (fun d hd => hd.ext e1) fun c d q => q.ext e1⟩
  · exact h1.elim
/-- the same for a def that raises nothing, in any context -/
def mCalN (n : Nat) (F : List Dt → Mo Dt) (ms : En → Mo (List Dt)) : En → Mo Dt := mCal n (fun ds => (F ds).nox) ms
theorem e_callN {XR : XRel} (c : Cal X.prog X.w X.K X.mg X.base k x n F) (hr : Room j X.A) (hg : Gl X x) (ha : PA X (e :: es) (tMs (X.gd Tz) XR E ms)) (hk : k ≤ j := by omega)
    (hdb : (x == ("__debug__" : Str)) = false := by decide) (he : starEach (e :: es) X.env = (false, eval e X.env) :: starEach es X.env := by rfl) (hpl : (backTo pos (starEach es X.env)).any (·.1) = false := by rfl) :
    PE X (.Call (.Name x p) (e :: es) [] pos) (tM (X.gd Tz) XR E (mCalN n F ms)) := by
  obtain ⟨f, fd, ps, G, hm, kp, b⟩ := c.ex
  refine PE.imp (pe_call (G Tz) (hr.mono hk) hg hm kp b .nil pass0 ha hdb he hpl) fun σ H Q ⟨r, Z, ρ, w, s, h⟩ => tMs.split w s h fun vs H1 Z1 ds e1 w1 s1 rp h1 => ?_
  split at h1
  · rename_i hl
    exact ⟨by rw [List.append_nil, rp.length]; exact hl, r, Z1, ds, w1, by rw [List.append_nil]; exact rp, (Mo.nox_wp (R' := fun _ _ => False) h1).mono (fun d hd => hd.ext e1) fun c d q => q.elim⟩
  · exact h1.elim
end
end Fw
set_option Elab.async false
set_option linter.all false
set_option maxRecDepth 100000
set_option maxHeartbeats 4000000
namespace Fw
open PySem PySem.Spec PyProof.Rows L2

theorem bl_eval {p0 p1 p2 p3 p4 : Pos} {env : Env} (h : (p2.endLine == p4.line) = true) : eval (.Call (.Attribute (.Call (.Name "super" p0) [] [] p1) "__init__" p2) [.Name "index" p3] [] p4) env = (do
      let ov ← attributeBase (.Call (.Name "super" p0) [] [] p1) "__init__" env (eval (.Call (.Name "super" p0) [] [] p1) env)
      standAt p2.atName
      let (f, first) ← holding [ov] (getMethod ov "__init__" (do return (← importBound (.Call (.Name "super" p0) [] [] p1) env).getD true))
      callWith p4 f first (backTo p4 (starEach [.Name "index" p3] env)) []) := by
  show (do
      let ov ← attributeBase (.Call (.Name "super" p0) [] [] p1) "__init__" env (eval (.Call (.Name "super" p0) [] [] p1) env)
      standAt p2.atName
      methodCall (.Call (.Name "super" p0) [] [] p1) "__init__" p2 p4 env ov ([Expr.Name "index" p3].length + 0) (backTo p4 (starEach [.Name "index" p3] env)) (backToKw p4 (keywordEach [] env))) = _
  have e : ∀ ov, methodCall (.Call (.Name "super" p0) [] [] p1) "__init__" p2 p4 env ov ([Expr.Name "index" p3].length + 0) (backTo p4 (starEach [.Name "index" p3] env)) (backToKw p4 (keywordEach [] env)) = (do
      let (f, first) ← holding [ov] (getMethod ov "__init__" (do return (← importBound (.Call (.Name "super" p0) [] [] p1) env).getD true))
      callWith p4 f first (backTo p4 (starEach [.Name "index" p3] env)) []) := fun ov => by
    unfold methodCall
    have f : methodCallForm ([Expr.Name "index" p3].length + 0) (backTo p4 (starEach [.Name "index" p3] env)) (backToKw p4 (keywordEach [] env)) = true := rfl
    have g : methodCallPos true (.Call (.Name "super" p0) [] [] p1) env p2 p4 = pure p4 := by
      unfold methodCallPos
      rw [h]
      rfl
    rw [f, g]
    rfl
  simp only [e]

/-! ## def __init__(self, index): super().__init__(index); self.index = index, in an own exception class over ValueError -/
abbrev blBody (p0 p1 p2 p3 p4 p5 p6 p7 p8 p9 : Pos) : List Stmt := [.Expr (.Call (.Attribute (.Call (.Name "super" p0) [] [] p1) "__init__" p2) [.Name "index" p3] [] p4) p5, .Assign [.Attribute (.Name "self" p6) "index" p7] (.Name "index" p8) p9]
/-- what the written part says of the class and its __init__ -/
structure BlF (P : Program) (K : PySem.W.Frag) (mg : Str → Option Value) (C f : Addr) (fd : FuncData) : Prop where
  ex : ∃ (name qual : Str) (params : Arguments) (scope : Scope) (dV kV doc pm ct oc : Value) (an od : Option Addr) (osl : Array (Option Value)) (cda cc : Addr) (p0 p1 p2 p3 p4 p5 p6 p7 p8 p9 : Pos) (ar : Arg)
    (ccl cl : Value) (cdd cld : Option Addr) (ccs csl : Array (Option Value)) (vs : Array Value) (file : Str) (tf : Tok) (cdD : ClassData),
    fd = PySem.W.ksFn name qual params (blBody p0 p1 p2 p3 p4 p5 p6 p7 p8 p9) scope dV kV doc pm an (.ref cda) ct cc ∧ K.lookup f = some ⟨oc, od, .func fd, osl⟩ ∧ PySem.W.codeIn K (.ref cda) qual = true ∧
    (p2.endLine == p4.line) = true ∧ (params.posonlyargs ++ params.args).head? = some ar ∧ ar.arg = ("self" : Str) ∧
    K.lookup cda = some ⟨ccl, cdd, .fields vs, ccs⟩ ∧ vs[2]? = some (.str file tf) ∧ ((P.main.file : Str) == file) = true ∧ K.lookup cc = some ⟨cl, cld, .cell (some (.ref C)), csl⟩ ∧ PySem.W.clsIn K C = some cdD ∧
    PySem.W.mroIn K C (.ref C) = some true ∧ mg "super" = none ∧ PySem.W.nsIn K cStatics "thirdparty.any" = some none ∧ PySem.W.ks_superIn K C C "__init__" = some (some (.builtin "ValueError.__init__")) ∧ PySem.W.subIn K (.ref C) (.type "ValueError") = some true ∧
    (P.main.scope.names.lookup ("super" : Str)).isSome = false ∧
    scope.names.lookup ("super" : Str) = some .globalImplicit ∧ scope.names.lookup ("__class__" : Str) = some .free ∧ scope.names.lookup ("self" : Str) = some .local ∧ scope.names.lookup ("index" : Str) = some .local ∧
    (∀ x ∈ scope.names, x.2 ≠ .cell) ∧ scope.isCoroutine = false ∧ scope.isGenerator = false ∧ scope.kind = .function
  T : OexC K C
  hno : PySem.W.findIn K (.ref C) "index" = some none
def spInit (C : Addr) : Sp := fun vs H Q _ => ∃ (a : Addr) (y : V), vs = [.ref a, y] ∧ H a = some (exo a C none) ∧ ∀ dx, H dx = none → dx ≠ a → Q .non (upd (upd H dx (exd dx [("index", y)])) a (exo a C (some dx)))

section
open PySem.W PySem.Calls
variable {prog : Program} {w : World} {A : Around} {E : Value → Shared → Prop} {s : Shared}
/-- the bound ValueError.__init__, called -/
theorem mw_call {K : PySem.W.Frag} {C a u t0 : Addr} {rest : List Value} {Q : Value → Shared → Prop} (T : OexC K C) (X : K.In s.heap) (hu : s.heap.get? u = some (kxs_mw "ValueError.__init__" a))
    (he : s.heap.get? a = some (excRec (.ref C) t0 none .none .none (.bool false))) (hz : rest.length ≤ sizeLine)
    (h : ∀ t' h', (∀ b o, b ≠ a → s.heap.get? b = some o → h'.get? b = some o) → h'.get? a = some (excRec (.ref C) t' none .none .none (.bool false)) → Q .none { s with heap := h' }) :
    wpAny (model prog w) A (call (.ref u) rest) Q E s := by
  obtain ⟨nm, q, N, bs, bm, sn, sub, ab, col, dd, k0, k1, k2, k3, k5, hC, hbm⟩ := T.cls
  obtain ⟨hh, g, d, tk, os⟩ := s
  refine wpAny_call (codeAny_of_tree ?_)
  show wpAny _ A.in1 (callAny (.ref u) ⟨rest, []⟩) _ _ _
  simp only [callAny]
  refine wpAny_bind (wpAny_load hu ?_)
  simp only [kxs_mw, show (Value.type "method-wrapper" == Value.type "method" || Value.type "method-wrapper" == Value.type "builtin_function_or_method" || Value.type "method-wrapper" == Value.type "method-wrapper") = true by decide, if_true]
  refine KFB.if_so (by decide) ?_
  refine wpAny_bind (check_bound_init PySem.F.excBase_ValueError.toExcCallFacts (X _ _ hC) he rfl ?_)
  refine wpAny_bind (wpAny_pure (wpAny_pure ?_))
  refine ⟨plainId_quiet PySem.F.excBase_ValueError.init.plain _, codeAny_builtin PySem.F.excBase_ValueError.initEntry ?_⟩
  exact exc_init_tree he hz fun h' k e' _ => h _ h' k e'
end
theorem init_ok {P : Program} {w : World} {K : PySem.W.Frag} {mg : Str → Option Value} {base : Heap} {C f : Addr} {fd : FuncData} (B : BlF P K mg C f fd) : FnOk P w K mg base CX0 1 f fd ["self", "index"] (spInit C) := by
  refine ⟨fun vs H Q E ⟨a, y, e, _⟩ => by rw [e]; rfl, fun A outer s H args us vs Q E hr e0 hb rv hsp => ?_⟩
  obtain ⟨a, y, rfl, ea, hq⟩ := hsp
  obtain ⟨name, qual, params, scope, dV, kV, doc, pm, ct, oc, an, od, osl, cda, cc, p0, p1, p2, p3, p4, p5, p6, p7, p8, p9, ar, ccl, cl, cdd, cld, ccs, csl, vs, file, tf, cdD, rfl, lk, hcd, hpos, hp, har, hcode, hvs, hfile, hcell, hD, hsub, hsup, hst, hsi, hsv, htop, ks, kc, kself, kix, ncell, hco, hgen, hkind⟩ := B.ex
  cases rv with
  | @cons _ ua _ ur ra rr =>
  cases rr with
  | @cons _ u _ ur ry rn =>
  cases rn
  obtain rfl : ua = Value.ref a := ra
  have X : K.In s.heap := e0.mod.kin.keeps fun b o e => (e0.bs b o e).1
  have lim : s.heap.NoLimit := e0.mod.nolimit.keeps fun b o e => (e0.bs b o e).1
  obtain ⟨nm, q, N, bs, bm, sn, sub, ab, col, dd, k0, k1, k2, k3, k5, hC, hbm⟩ := B.T.cls
  have hcl : PySem.W.clsIn K C = some { name := nm, bases := bs, mro := .ref C :: bm, ns := N, qualname := q, hasDict := true, slotNames := sn, subclasses := sub, abstract := ab, collection := col, hasDel := false } := by unfold PySem.W.clsIn; rw [hC] <;> rfl
  obtain ⟨t0, ho⟩ := exo_at e0.hok ea
  obtain ⟨mb, hb1, hb2⟩ := e0.mod.blt
  refine PySem.ks_codeAny_call_defAt (fd := PySem.W.ksFn name qual params (blBody p0 p1 p2 p3 p4 p5 p6 p7 p8 p9) scope dV kV doc pm an (.ref cda) ct cc) (body := blBody p0 p1 p2 p3 p4 p5 p6 p7 p8 p9) (binds := [("self", Value.ref a), ("index", u)]) hr.depth (X _ _ lk) rfl lim (PySem.W.codeRec_of X hcd) rfl hb ncell
    (fun x hx => ?_) (fun h₁ hns kp => ?_) hco hgen hkind
  · rcases List.mem_cons.mp hx with rfl | hx
    · exact kself
    · rcases List.mem_cons.mp hx with rfl | hx
      · exact kix
      · cases hx
  show _root_.PySem.wpAt _ _ (.func _ (PySem.W.ksEnv qual scope s.heap.objs.size f (.ref cda) cc)) (execs (blBody p0 p1 p2 p3 p4 p5 p6 p7 p8 p9) (PySem.W.ksEnv qual scope s.heap.objs.size f (.ref cda) cc)) _ _ _
  have X1 : K.In h₁ := X.keeps kp
  obtain ⟨oD, hD1, hD2⟩ : ∃ oD, h₁.get? C = some oD ∧ oD.data = .cls { name := nm, bases := bs, mro := .ref C :: bm, ns := N, qualname := q, hasDict := true, slotNames := sn, subclasses := sub, abstract := ab, collection := col, hasDel := false } := ⟨_, X1 _ _ hC, rfl⟩
  have ho1 := kp _ _ ho
  have glob1 : h₁.Ns mainGlobals mg := e0.mod.glob.keeps fun b o e => kp _ _ (e0.bs b o e).1
  have blt1 : h₁.Ns builtinsNs mb := hb1.keeps fun b o e => kp _ _ (e0.bs b o e).1
  -- super().__init__(index)
  refine PySem.ks_wpAt_execs_cons (PySem.ks_wpAt_Expr_any (hi := by first | rfl | (unfold interactive; show (scope.kind == _ && _) = false; rw [hkind]; rfl) | (unfold interactive; show (scope.kind == _) = false; rw [hkind]; rfl) | simp [interactive, hkind]) (PySem.ks_wpAt_MethodCall (PySem.ks_wpAt_super_base (env := PySem.W.ksEnv qual scope s.heap.objs.size f (.ref cda) cc) ks kc (by decide) rfl (X1 _ _ lk) rfl hp rfl (X1 _ _ hcode) rfl hvs hfile htop ?_) (bl_eval hpos)))
  refine PySem.W.ks_loadName_global hkind ks (Calls.loadGlobal_builtin (env := PySem.W.ksEnv qual scope s.heap.objs.size f (.ref cda) cc) glob1 hsup blt1 ((hb2 _ (by decide)).trans (by first | boot_by_name | rfl | kernel_rfl)) ⟨rfl, ?_⟩)
  refine wpAny_loadName_free hkind kc rfl ⟨_, X1 _ _ hcell, rfl⟩ ?_
  rw [har]
  refine wpAny_loadName_local hkind kself hns rfl ?_
  refine PySem.ks_wpAny_isType_cls hD1 hD2 ⟨rfl, ?_⟩
  refine PySem.ks_wpAny_call_super hD1 hD2 ho1 rfl (fun c e => by cases e) (PySem.W.looks_mroIn X1 hsub) fun h2 e2 k2 => ?_
  have X2 : K.In h2 := X1.keeps k2
  have ho2 := k2 _ _ ho1
  have I2 : PySem.W.InstAt h2 a { cls := .ref C, dict := none, data := .fields #[.ref t0, .none, .none, .none, .bool false, .none] } C none := ⟨ho2, rfl, rfl, trivial⟩
  refine PySem.W.kxs_getMethod PySem.W.kxs_ValueError (l₀ := .ref C :: bm) e2 (PySem.W.looks_opaque X2 hst) (fun A Q E s k q => wpAny_bind ((PySem.W.looks_clsIn X2 hcl) A _ E s k (wpAny_pure q))) rfl X2 ?_ (I2.type.andThen (PySem.W.looks_subIn X2 hsv)) (PySem.W.ks_ne X2 I2 hcl) (by decide) ?_
  · unfold PySem.W.ks_superIn at hsi
    rw [hcl] at hsi
    exact hsi
  have hns2 : (h2.push (PySem.W.kxs_mw "ValueError.__init__" a)).Ns s.heap.objs.size (fun y => ([("self", Value.ref a), ("index", u)] : List (Str × Value)).reverse.lookup y) := (hns.keeps k2).keeps fun b o e => Heap.get?_push_of_some _ e
  have k3 : ∀ b o, s.heap.get? b = some o → (h2.push (PySem.W.kxs_mw "ValueError.__init__" a)).get? b = some o := fun b o e => Heap.get?_push_of_some _ (k2 _ _ (kp _ _ e))
  refine PySem.W.kxs_callWith (i := "ValueError.__init__") (x := a) rfl (Calls.evalArgs_plain (Calls.spliced_cons (wpAny_Name (wpAny_loadName_local hkind kix hns2 rfl (Calls.spliced_nil ⟨Heap.get?_push_size _ rfl, ?_⟩)))))
  refine mw_call B.T (X.keeps k3) (Heap.get?_push_size _ rfl) (t0 := t0) (k3 _ _ ho) (by show (1 : Nat) ≤ sizeLine; rw [sizeLine_eq]; omega) fun t1 h4 k4 e4 => ?_
  -- self.index = index
  have nL : s.heap.objs.size ≠ a := fun z => by
    have q := Heap.lt_size ho
    rw [← z] at q
    exact Nat.lt_irrefl _ q
  have hns4 : h4.Ns s.heap.objs.size (fun y => ([("self", Value.ref a), ("index", u)] : List (Str × Value)).reverse.lookup y) := by
    obtain ⟨oL, es, ep, hL, r⟩ := hns2
    exact ⟨oL, es, ep, k4 _ _ nL hL, r⟩
  have kk : ∀ b o, b ≠ a → s.heap.get? b = some o → h4.get? b = some o := fun b o n e => k4 b o n (k3 b o e)
  show _root_.PySem.wpAt _ _ _ (execs [Stmt.Assign [.Attribute (.Name "self" p6) "index" p7] (.Name "index" p8) p9] (PySem.W.ksEnv qual scope s.heap.objs.size f (.ref cda) cc)) _ _ _
  refine PySem.ks_wpAt_execs_cons (wpAt_of_wpAny (plainObj_wpAny_Assign_Attribute (wpAny_Name (wpAny_loadName_local hkind kix hns4 rfl (wpAny_Name (wpAny_loadName_local hkind kself hns4 rfl ?_))))))
  have na : ∀ {b : Addr}, H b = none → b ≠ a := fun {b} n z => by
    rw [z, ea] at n
    cases n
  have X4 : K.In h4 := fun b o e => kk b o (na (e0.bs b o (e0.mod.kin b o e)).2) (X b o e)
  refine PySem.W.set_plain X4 (ox := { cls := .ref C, dict := none, data := .fields #[.ref t1, .none, .none, .none, .bool false, .none] }) (od := none) ⟨e4, rfl, rfl, trivial⟩ B.T.sa ?_
  refine PySem.HandSPX.exc_osa X4 e4 hcl (show PySem.HandSPX.refsVE (.ref C :: bm) = true from hbm) rfl B.hno (fun h' tk' dx k dn dne hx hn => ?_)
  show _root_.PySem.wpAt _ _ _ (execs [] _) _ _ _
  refine wpAt_of_wpAny (wpAny_execs_nil ?_)
  show CE outer P w H s Q .none _
  have hsz : s.heap.objs.size ≤ dx := by
    obtain ⟨oL, es, ep, hL, r⟩ := hns4
    exact Nat.le_of_lt (Nat.lt_of_lt_of_le (Heap.lt_size hL) dn)
  have hnd : H dx = none := e0.hok.fresh hsz
  have nd : ∀ {b : Addr} {o : Obj}, s.heap.get? b = some o → b ≠ dx := fun {b o} q => Nat.ne_of_lt (Nat.lt_of_lt_of_le (Heap.lt_size q) hsz)
  have kf : ∀ b o, b ≠ a → s.heap.get? b = some o → h'.get? b = some o := fun b o n e => k b o n (kk b o n e)
  refine ⟨.non, upd (upd H dx (exd dx [("index", y)])) a (exo a C (some dx)), rfl, e0.bare, ⟨fun b o q n _ _ => kf b o (na n) q, fun b o q n _ _ => ⟨o.slots, kf b o (na n) q⟩, fun b o q n _ => by rw [upd_ne (na n), upd_ne (nd q)]; exact n, fun b o q _ => ?_,
    fun b xs q => by rw [upd_ne (at_ne ea q exo_tup), upd_ne (ne_of_none q hnd)]; exact q, fun b o v q => by rw [upd_ne (at_ne ea q exo_frz), upd_ne (ne_of_none q hnd)]; exact q, fun b ps q => ⟨#[], by rw [upd_ne (at_ne ea q exo_tbl), upd_ne (ne_of_none q hnd), q]; simp⟩⟩, fun b o q => ?_, rfl, hq dx hnd dne⟩
  · by_cases hb' : b = a
    · exact ⟨_, by rw [hb']; exact hx⟩
    · exact ⟨o, kf b o hb' q⟩
  · by_cases hb' : b = a
    · subst hb'
      rw [upd_same] at q
      cases q
      exact exo_ok hx
    · rw [upd_ne hb'] at q
      by_cases hd : b = dx
      · subst hd
        rw [upd_same] at q
        cases q
        exact exd_ok hn (relO_put (fs := []) ry fun g => True.intro)
      · rw [upd_ne hd] at q
        exact (e0.hok b o q).stay (fun c v hc z => kf c v (by
            rcases hc with hc | hc
            · rw [hc]
              exact hb'
            · exact at_ne ea hc exo_own) z)
          (fun c hc => by rw [upd_ne (at_ne ea hc exo_own), upd_ne (ne_of_none hc hnd)]; exact hc) (fun c xs hc => by rw [upd_ne (at_ne ea hc exo_tup), upd_ne (ne_of_none hc hnd)]; exact hc)
end Fw
set_option Elab.async false
set_option linter.all false
set_option maxRecDepth 100000
set_option maxHeartbeats 4000000
namespace Fw
open PySem PySem.Spec PyProof.Rows L2

/-! ## raise X(), raise BadLogic(e) -/
/-- what the written part says of an exception class without its own __init__ -/
structure Xc (K : PySem.W.Frag) (mg : Str → Option Value) (x : Str) : Prop where
  ex : ∃ C, mg x = some (.ref C) ∧ PySem.W.excIn K C [.type "ValueError", .type "Exception", .type "BaseException", .type "object"] "ValueError.__new__" = true ∧ PySem.W.keepIn K (.ref C) = true ∧
    PySem.W.subIn K (.ref C) (.type "BaseException") = some true ∧ PySem.W.typeIn K (.ref C) = some (.type "type")
section
variable {X : Cx} {C : Addr} {x : Str} {p pos p2 : Pos}
theorem pmk_own0 (q : PySem.W.excIn X.K C [.type "ValueError", .type "Exception", .type "BaseException", .type "object"] "ValueError.__new__" = true) (gC : X.mg x = some (.ref C)) (kC : PySem.W.keepIn X.K (.ref C) = true) (r : Raises X (.ref C)) (hg : Gl X x)
    (hdb : (x == ("__debug__" : Str)) = false := by decide) : L2H.PMk5 X (.Call (.Name x p) [] [] pos) (fun _ H Q => Q (.ref C) none H) := by
  intro pins s σ H Q I h
  refine wpAny_Call_Name_kw (ld_glob I hg gC ?_ hdb)
  refine PySem.W.callWith_K0 I.kIn kC ?_
  obtain ⟨bm, N, nm, qn, bs, hdct, sn, sub, ab, col, dd, k0, k1, k2, k3, k5, mN, hC, hN, hni, T⟩ := exc_obj I.kIn q
  refine wpAny_call_exc_subT PySem.F.excBase_ValueError T hC hN hni (fun h' e hm => ?_) (by show 0 ≤ sizeLine; exact Nat.zero_le _)
  exact L2H.mk_of5 I hm r h (I.hok.gone hm.new)
theorem s_raise0 {Tz : Tbs} {W : WX} (i : Nat) (xc : Xc X.K X.mg x) (hg : Gl X x) (tk : L2N.Takes X W) (hi : clsN[i]? = some x := by rfl) (n1 : i ≠ 1 := by decide) (hc : X.calm = true := by rfl) (hdb : (x == ("__debug__" : Str)) = false := by decide) :
    PS X (.Raise (some (.Call (.Name x p) [] [] p2)) none pos) (tS (X.gd Tz) (XRm X.mg) (WE W) (fun _ => .exc i .non)) := by
  obtain ⟨C, gC, q, kC, h1, h2⟩ := xc.ex
  exact PS.imp (L2N.ps_raise hc tk (pmk_own0 q gC kC (raises_own h1 h2) hg hdb).pmk) fun D σ H ⟨r, Z, ρ, Z0, H0, a, h⟩ => h σ (.ref C) none H Z a.ext ⟨x, C, hi, gC, rfl, .inr ⟨n1, rfl, rfl⟩⟩
/-- BadLogic(e), where nothing is handled: its context is None -/
theorem pmk_oexN {CX : CXT} {fI : Addr} {k : Nat} {fd : FuncData} {ps : List Str} {sp : Sp} {e : Expr} {es : List Expr} {ta : TA} {ds : List Value} {dvs : List V} (T : OexC X.K C) (iC : PySem.W.findIn X.K (.ref C) "__init__" = some (some (.ref fI))) (tI : PySem.W.typeIn X.K (.ref fI) = some (.type "function"))
    (F1 : FnOk X.prog X.w X.K X.mg X.base CX k fI fd ps sp) (hr : Room (k + 1) X.A) (hb : Binds X.K fd ps ds) (hd : Vals dvs ds) (hx : Passes CX X (fun _ _ _ => False)) (hg : Gl X x) (hm : X.mg x = some (.ref C)) (ha : PA X (e :: es) ta)
    (hdb : (x == ("__debug__" : Str)) = false := by decide) (he : starEach (e :: es) X.env = (false, eval e X.env) :: starEach es X.env := by rfl) (hpl : (backTo pos (starEach es X.env)).any (·.1) = false := by rfl) :
    L2N.PMk X (.Call (.Name x p) (e :: es) [] pos) (tMkO C sp dvs ta) := by
  intro pins s σ H Q I h
  obtain ⟨nm, q, N, bs, bm, sn, sub, ab, col, dd, k0, k1, k2, k3, k5, hC, hbm⟩ := T.cls
  refine wpAny_Call_Name_kw (ld_glob I hg hm ?_ hdb)
  refine PySem.W.callWith_K (h₀ := X.base) I.ok.mod.kin T.kC (thn (ha.run pos pins s σ H _ I h) fun us s1 ⟨vs, H1, I1, r1, hz, q1⟩ => ⟨I1.kIn, ?_⟩) he hpl
  show wpAny _ _ (call (.ref C) us) _ _ _
  obtain ⟨hp, g, dr, tk, os⟩ := s1
  have hsz : hp.objs.size ≤ hp.objs.size + 1 := Nat.le_succ _
  have hn : H1 (hp.objs.size + 1) = none := I1.hok.fresh hsz
  have hq := q1 (hp.objs.size + 1) hn
  have kk : ∀ b o, hp.get? b = some o → ((hp.push (PySem.W.kdv_tup us)).push (PySem.HandSPX.excO C hp.objs.size)).get? b = some o := fun b o e => Heap.get?_push_of_some _ (Heap.get?_push_of_some _ e)
  have hget : ((hp.push (PySem.W.kdv_tup us)).push (PySem.HandSPX.excO C hp.objs.size)).get? (hp.objs.size + 1) = some (PySem.HandSPX.excO C hp.objs.size) := by heap_get
  have I2 : Inv X pins σ (upd H1 (hp.objs.size + 1) (exo (hp.objs.size + 1) C none)) ⟨(hp.push (PySem.W.kdv_tup us)).push (PySem.HandSPX.excO C hp.objs.size), g, dr, tk, os⟩ :=
    I1.laid (t' := tk) (a := hp.objs.size + 1) (o := exo (hp.objs.size + 1) C none) (h' := (hp.push (PySem.W.kdv_tup us)).push (PySem.HandSPX.excO C hp.objs.size)) kk hsz (exo_ok hget)
  have r2 : Vals (V.ref (hp.objs.size + 1) :: (vs ++ dvs)) (Value.ref (hp.objs.size + 1) :: (us ++ ds)) := .cons rfl (r1.append hd)
  have hl : (Value.ref (hp.objs.size + 1) :: us ++ ds).length = ps.length := by
    have e := r2.length
    rw [F1.len _ _ _ _ hq] at e
    exact e.symm
  have hus : us.length ≤ sizeLine := by
    rw [← Paired.length r1, sizeLine_eq]
    omega
  refine wpAny_call (PySem.HandSPX.call_own F.excBase_ValueError (fun Y => PySem.HandSPX.refsVE_contains Y bm hbm) (I1.kIn _ _ hC) (PySem.W.looks_findIn I1.kIn iC) (fun self => PySem.W.bind_fn I1.kIn self tI) hus
    (codeAny_mono (F1.run _ X.stack _ _ ⟨Value.ref (hp.objs.size + 1) :: us, []⟩ (Value.ref (hp.objs.size + 1) :: (us ++ ds)) _ _ (fun _ _ _ => False) (hr.make C us []) (I2.env0.make C us []) (hb _ (Value.ref (hp.objs.size + 1) :: us) I2.kIn hl) r2 hq) fun r s' hq' => ?_))
  cases r with
  | error er => exact hx pins σ _ _ er s' I2 hq'
  | ok fl =>
    cases fl with
    | ret u =>
      obtain ⟨v, H2, os2, bare2, un2, hok2, rv, ev, d, fs, ea, ed, hd1, q2⟩ := hq'
      subst ev
      obtain ⟨h2, g2, d2, t2, os'⟩ := s'
      obtain ⟨t0, G, J, kG, ge, hoe, na⟩ := mk_end0 (d2 := d2) (t2 := t2) I1 hsz kk un2 hok2 os2 bare2 ea ed hd1
      refine ⟨rv, hp.objs.size + 1, _, _, ⟨G, g2, d2, t2, os'⟩, _, .ref C, some d, rfl, J, kG, ge, hoe, ⟨rfl, rfl, fun vs hv => ?_⟩, rfl, rfl, na, rfl, bare2, raises_own T.exC T.tyC, q2⟩
      cases hv
      rfl
    | next => exact False.elim hq'
    | brk => exact False.elim hq'
    | cont => exact False.elim hq'
/-- what the written part says of BadLogic, under its name -/
structure Xb (P : Program) (K : PySem.W.Frag) (mg : Str → Option Value) : Prop where
  ex : ∃ (C f : Addr) (fd : FuncData), mg "BadLogic" = some (.ref C) ∧ BlF P K mg C f fd ∧ PySem.W.findIn K (.ref C) "__init__" = some (some (.ref f)) ∧ PySem.W.typeIn K (.ref f) = some (.type "function") ∧ Binds K fd ["self", "index"] []
def mRaiseB (m : En → Mo Dt) : En → Mo Fl := fun ρ => (m ρ).bind fun d => match d with
  | .non => .exc 1 .non
  | .int i => .exc 1 (.int i)
  | _ => .err
theorem s_raiseB {Tz : Tbs} {W : WX} {e : Expr} {m : En → Mo Dt} {j : Nat} (xb : Xb X.prog X.K X.mg) (hg : Gl X "BadLogic") (tk : L2N.Takes X W) (hr : Room j X.A) (he : PE X e (tM (X.gd Tz) (XRm X.mg) (WE W) m)) (hj : 2 ≤ j := by omega) (hc : X.calm = true := by rfl)
    (hse : starEach [e] X.env = (false, eval e X.env) :: starEach [] X.env := by rfl) :
    PS X (.Raise (some (.Call (.Name "BadLogic" p) [e] [] p2)) none pos) (tS (X.gd Tz) (XRm X.mg) (WE W) (mRaiseB m)) := by
  obtain ⟨C, f, fd, gC, B, iC, tI, hb⟩ := xb.ex
  refine PS.imp (L2N.ps_raise hc tk (pmk_oexN B.T iC tI (init_ok B) (hr.mono hj) hb .nil pass0 hg gC (pa_cons he pa_nil hse) (by decide) hse)) fun D σ H ⟨r, Z, ρ, Z0, H0, a, h⟩ => ?_
  refine tS.split a h fun v H1 Z1 d e1 a1 rp h1 => ⟨by show (1 : Nat) ≤ 1000; omega, fun q hq => ⟨q, v, rfl, upd_same, fun dx hdx dne => ⟨rfl, dx, [("index", v)], upd_same, by rw [upd_ne dne, upd_same], ?_, ?_⟩⟩⟩
  · rw [upd_ne dne] at hdx
    exact hdx
  · rw [upd_ne dne] at hdx
    have eH : upd (L2.del (upd (upd (upd H1 q (exo q C none)) dx (exd dx [("index", v)])) q (exo q C (some dx))) q) dx (.xd [("index", v)]) = upd H1 dx (.xd [("index", v)]) := by
      funext b
      by_cases hb1 : b = dx
      · rw [hb1, upd_same, upd_same]
      · rw [upd_ne hb1, upd_ne hb1]
        by_cases hb2 : b = q
        · rw [hb2, L2.del_same, hq]
        · rw [L2.del_ne hb2, upd_ne hb2, upd_ne hb1, upd_ne hb2]
    show WE W σ (.ref C) (some dx) _
    rw [eH]
    have ee := Ext.own (o := .xd [("index", v)]) a1.wf hdx
    have fin : ∀ d', flatV d' v → (PXS (X.gd Tz) (XRm X.mg) r Z0 H0 (WE W) 1 d') → WE W σ (.ref C) (some dx) (upd H1 dx (.xd [("index", v)])) := fun d' fv hp => hp σ (.ref C) (some dx) _ Z1 (a1.ext.trans ee) ⟨"BadLogic", C, rfl, gC, rfl, .inl ⟨rfl, dx, v, rfl, upd_same, fv⟩⟩
    cases d with
    | non => exact fin .non rp.non h1
    | int i => exact fin (.int i) rp.int h1
    | _ => exact h1.elim
end
end Fw
set_option Elab.async false
set_option linter.all false
set_option maxRecDepth 100000
set_option maxHeartbeats 4000000
namespace HotX
open PySem PySem.Spec PyProof.Rows
/-- the heap behind «from e»: field 3 is e, field 4 is True -/
def fromAt (h : Heap) (a : Addr) (cv : Value) : Heap := (h.update a (Obj.mapFields (·.setIfInBounds 3 cv))).update a (Obj.mapFields (·.setIfInBounds 4 (.bool true)))
theorem fromAt_at {h : Heap} {a : Addr} {cv : Value} {oe : Obj} {vs : Array Value} (ha : h.get? a = some oe) (hd : oe.data = .fields vs) :
    (fromAt h a cv).get? a = some ((oe.mapFields (·.setIfInBounds 3 cv)).mapFields (·.setIfInBounds 4 (.bool true))) ∧ ((oe.mapFields (·.setIfInBounds 3 cv)).mapFields (·.setIfInBounds 4 (.bool true))).data = .fields ((vs.setIfInBounds 3 cv).setIfInBounds 4 (.bool true)) := by
  have hd3 := Obj.data_mapFields hd (·.setIfInBounds 3 cv)
  have ha3 := Heap.get?_update_self (Obj.mapFields (·.setIfInBounds 3 cv)) ha (Obj.isFreed_of_fields hd3)
  have hd4 := Obj.data_mapFields hd3 (·.setIfInBounds 4 (.bool true))
  exact ⟨Heap.get?_update_self (Obj.mapFields (·.setIfInBounds 4 (.bool true))) ha3 (Obj.isFreed_of_fields hd4), hd4⟩
theorem fromAt_other {h : Heap} {a b : Addr} {cv : Value} (hne : a ≠ b) : (fromAt h a cv).get? b = h.get? b := by
  unfold fromAt
  rw [Heap.get?_update_other _ _ hne, Heap.get?_update_other _ _ hne]
theorem raise_made_hotC {prog : Program} {w : World} {A : Around} {E : Value → Shared → Prop} {env : Env} {s : Shared} {x c : Sem Value} {Q : Flow → Shared → Prop} {x1 : Addr} {clsC : Value}
    (h : wpAny (model prog w) A x (fun v s₁ => ∃ a oe vs cls, v = .ref a ∧ s₁.heap.get? a = some oe ∧ oe.cls = cls ∧ oe.data = .fields vs ∧ vs[1]? = some .none ∧ 4 < vs.size ∧ x1 ≠ a ∧ HotAt A x1 s₁.heap ∧
      (∀ (Q' : Value → Shared → Prop), Q' (.ref x1) s₁ → wpAny (model prog w) A c Q' E s₁) ∧ (∃ o1, s₁.heap.get? x1 = some o1 ∧ o1.cls = clsC) ∧ PySem.W.Looks (model prog w) s₁.heap (isSubtype clsC (.type "BaseException")) true ∧
      PySem.W.Looks (model prog w) s₁.heap (isSubtype cls (.type "BaseException")) true ∧ PySem.W.Looks (model prog w) (fromAt s₁.heap a (.ref x1)) (typeOf cls) (.type "type") ∧
      E (.ref a) { s₁ with heap := (fromAt s₁.heap a (.ref x1)).update a (Obj.mapFields (·.setIfInBounds 2 (.ref x1))) }) E s) :
    wpAny (model prog w) A (raiseStmt env (some x) (some c)) Q E s := by
  unfold raiseStmt
  dsimp only
  refine wpAny_bind (wpAny_mono h (fun v s₁ h₁ => ?_) fun _ _ x => x)
  obtain ⟨a, oe, vs, cls, rfl, ha, hcls, hd, h1, hi, hne, hot, hcs, ⟨o1, ho1, hc1⟩, LC, L1, L3, hE⟩ := h₁
  have LT : PySem.W.Looks (model prog w) s₁.heap (typeOf (.ref a)) cls := fun A Q E s k q => wpAny_typeOf_ref (k _ _ ha) (by rw [hcls]; exact q)
  have LI : PySem.W.Looks (model prog w) s₁.heap (isInstance (.ref a) (.type "BaseException")) true := LT.andThen L1
  have LT1 : PySem.W.Looks (model prog w) s₁.heap (typeOf (.ref x1)) clsC := fun A Q E s k q => wpAny_typeOf_ref (k _ _ ho1) (by rw [hc1]; exact q)
  have LI1 : PySem.W.Looks (model prog w) s₁.heap (isInstance (.ref x1) (.type "BaseException")) true := LT1.andThen LC
  have hnt : ∀ {Q' : Bool → Shared → Prop}, Q' false s₁ → wpAny (model prog w) A (isType (.ref a)) Q' E s₁ := by
    intro Q' hq
    simp only [isType, loadHead]
    refine wpAny_bind (wpAny_loadPart ha ?_)
    rw [hd]; exact wpAny_pure hq
  obtain ⟨hotA, oh, vh, hoh, hdh, hzh⟩ := id hot
  have hnt1 : ∀ {Q' : Bool → Shared → Prop}, Q' false s₁ → wpAny (model prog w) A (isType (.ref x1)) Q' E s₁ := by
    intro Q' hq
    simp only [isType, loadHead]
    refine wpAny_bind (wpAny_loadPart hoh ?_)
    rw [hdh]; exact wpAny_pure hq
  have hd3 := Obj.data_mapFields hd (·.setIfInBounds 3 (.ref x1))
  have ha3 := Heap.get?_update_self (Obj.mapFields (·.setIfInBounds 3 (.ref x1))) ha (Obj.isFreed_of_fields hd3)
  obtain ⟨ha4, hd4⟩ := fromAt_at (cv := .ref x1) ha hd
  have s3 : 3 < vs.size := by omega
  have s4 : 4 < (vs.setIfInBounds 3 (Value.ref x1)).size := by rw [set_size]; exact hi
  have s2 : 2 < ((vs.setIfInBounds 3 (Value.ref x1)).setIfInBounds 4 (Value.bool true)).size := by rw [set_size, set_size]; omega
  have h14 : ((vs.setIfInBounds 3 (Value.ref x1)).setIfInBounds 4 (Value.bool true))[1]? = some Value.none := set_other (by decide) (set_other (by decide) h1)
  have hcls4 : ((oe.mapFields (·.setIfInBounds 3 (.ref x1))).mapFields (·.setIfInBounds 4 (.bool true))).cls = cls := by rw [Obj.cls_mapFields, Obj.cls_mapFields]; exact hcls
  have LT4 : PySem.W.Looks (model prog w) (fromAt s₁.heap a (.ref x1)) (typeOf (.ref a)) cls := fun A Q E s k q => wpAny_typeOf_ref (k _ _ ha4) (by rw [hcls4]; exact q)
  have hnt4 : ∀ {Q' : Bool → Shared → Prop}, Q' false { s₁ with heap := fromAt s₁.heap a (.ref x1) } → wpAny (model prog w) A (isType (.ref a)) Q' E { s₁ with heap := fromAt s₁.heap a (.ref x1) } := by
    intro Q' hq
    simp only [isType, loadHead]
    refine wpAny_bind (wpAny_loadPart ha4 ?_)
    rw [hd4]; exact wpAny_pure hq
  have hot4 : HotAt A x1 (fromAt s₁.heap a (.ref x1)) := ⟨hotA, oh, vh, by rw [fromAt_other (Ne.symm hne)]; exact hoh, hdh, hzh⟩
  -- what stands behind the two stores
  have rest : wpAny (model prog w) A (do
      let b ← isType (.ref a)
      if b = true then do
        let e ← holding [.ref a] (raisedFor (.ref a) (.ref a))
        setFlight e none
        raiseNew e
      else do
        let e ← raisedInstance (.ref a)
        setFlight e none
        raiseNew e : Sem Flow) Q E { s₁ with heap := fromAt s₁.heap a (.ref x1) } := by
    refine wpAny_bind (hnt4 ?_)
    simp only [Bool.false_eq_true, if_false]
    unfold raisedInstance
    refine wpAny_bind (wpAny_bind (LT4.here (wpAny_bind (L3.here ?_))))
    rw [if_pos (beq_self_eq_true _)]
    refine wpAny_pure ?_
    unfold setFlight
    refine wpAny_bind (wpAny_bind (wpAny_field ha4 hd4 h14 ?_))
    rw [if_neg (by decide)]
    refine wpAny_pure ?_
    exact raiseNew_hot hot4 hne ha4 hd4 s2 hE
  refine wpAny_bind (wpAny_holding (hcs _ (wpAny_bind (wpAny_pure ?_))))
  dsimp only
  refine wpAny_bind (wpAny_holding ?_)
  unfold excFromValue isExcClass
  refine wpAny_bind (wpAny_bind (hnt ?_))
  simp only [Bool.false_eq_true, if_false]
  refine wpAny_pure ?_
  simp only [Bool.false_eq_true, if_false]
  refine wpAny_bind (LI.here ?_)
  simp only [if_true]
  refine wpAny_pure ?_
  rw [if_neg (show ¬ ((Value.ref x1 == Value.none) = true) from by simp)]
  refine wpAny_bind (wpAny_holding ?_)
  refine wpAny_bind (wpAny_bind (hnt1 ?_))
  simp only [Bool.false_eq_true, if_false]
  refine wpAny_pure ?_
  simp only [Bool.false_eq_true, if_false]
  refine wpAny_bind (LI1.here ?_)
  simp only [if_true]
  refine wpAny_pure ?_
  refine wpAny_bind (wpAny_setField ha hd s3 (wpAny_bind (wpAny_setField ha3 hd3 s4 ?_)))
  exact rest
end HotX

namespace Fw
open PySem PySem.Spec PyProof.Rows L2
/-- the context of an except suite that may raise, its wish free -/
abbrev suiteA (X : Cx) (a : Addr) (pn : List (Addr × Obj)) (xe : Value → Shared → Prop) : Cx := { X with A := X.A.mark (some (.ref a)), calm := false, pn := pn, xe := xe }
section
variable {X : Cx} {pins : List (Addr × Obj)} {σ : L2.St} {H : Hp} {s : Shared}
theorem suiteA_of {a : Addr} {pn pn' : List (Addr × Obj)} (I : Inv (X.suite a pn) pn' σ H s) (xe : Value → Shared → Prop) : Inv (suiteA X a pn xe) pn' σ H s := I.wish xe
theorem unsuiteA {a : Addr} {q : Addr × Obj} {pn' : List (Addr × Obj)} {xe : Value → Shared → Prop} (I : Inv (suiteA X a (q :: (X.pn ++ pins)) xe) pn' σ H s) (ok : X.Ok) : Inv X pins σ H s :=
  Inv.unsuite (X := X) (a := a) (q := q) (pn' := pn') (show Inv (X.suite a (q :: (X.pn ++ pins))) pn' σ H s from I.wish fun _ _ => False) ok
/-- the name of an except clause goes: any heap that differs in the frame's names alone -/
theorem inv_gone {i : Nat} {n : Str} (I : Inv X pins σ H s) (hN : X.N.Nodup) (hi : X.N[i]? = some n) :
    ∃ m, s.heap.Ns X.env.locals m ∧ ∀ (s' : Shared) (v : Option Value), s'.os = s.os → AllBare s'.gens → s'.heap.Ns X.env.locals (fun x => if x = n then v else m x) → Heap.SameBut X.env.locals s.heap s'.heap → Inv X pins (σ.set i none) H s' := by
  obtain ⟨m, hn, hlk⟩ := id I.loc
  refine ⟨m, hn, fun s' v os bare hn' hs => ?_⟩
  obtain ⟨oL, _, _, hoL, _⟩ := id hn
  have neL : ∀ b o, X.s_0.heap.get? b = some o → b ≠ X.env.locals := fun b o e => Nat.ne_of_lt (Nat.lt_of_lt_of_le (Heap.lt_size e) I.ok.above)
  refine ⟨I.ok, os.trans I.os, bare, ⟨fun b o e n hb hx => ?_, fun b o e n hb hx => ?_, I.base.free, fun b o e hx => ?_, I.base.tups, I.base.frzs, I.base.tbls⟩, ⟨_, hn', fun j y v' e1 e2 e3 => ?_⟩, fun y c e => ?_, I.free, I.freeC, fun p hp => ?_, fun b ob e => ?_, by simpa using I.len⟩
  · exact (hs.2 b (neL b o e)).trans (I.base.keep b o e n hb hx)
  · obtain ⟨sl, e1⟩ := I.base.slot b o e n hb hx
    exact ⟨sl, (hs.2 b (neL b o e)).trans e1⟩
  · obtain ⟨o', e1⟩ := I.base.there b o e hx
    exact ⟨o', (hs.2 b (neL b o e)).trans e1⟩
  · by_cases hj : j = i
    · subst hj
      by_cases hlt : j < σ.length
      · rw [List.getElem?_set_self hlt] at e2; cases e2
      · rw [List.getElem?_eq_none (by simpa using hlt)] at e2; cases e2
    · rw [List.getElem?_set_ne (Ne.symm hj)] at e2
      obtain ⟨u', r', q⟩ := hlk j y v' e1 e2 e3
      refine ⟨u', r', ?_⟩
      rcases q with ⟨k, e⟩ | ⟨k, c, e, z⟩
      · have ny : y ≠ n := fun e => hj (nodup_ix hN e1 (e ▸ hi))
        exact .inl ⟨k, (if_neg ny).trans e⟩
      · exact .inr ⟨k, c, e, z.sameBut hs (I.cne y c e)⟩
  · obtain ⟨w', z⟩ := I.cell y c e
    exact ⟨w', z.sameBut hs (I.cne y c e)⟩
  · obtain ⟨e, n, ne, nf, d⟩ := I.pin p hp
    exact ⟨(hs.2 p.1 ne).trans e, n, ne, nf, d⟩
  · refine (I.hok b ob e).stay (fun c w' hc q => (hs.2 c ?_).trans q) (fun _ q => q) fun _ _ q => q
    intro z
    subst z
    rcases hc with hc | hc
    · rw [← hc, I.free] at e; cases e
    · rw [I.free] at hc; cases hc
theorem ff_sameBut {h h' base : Heap} {L : Addr} (hs : Heap.SameBut L h h') (hL : ∃ o, h'.get? L = some o ∧ ∀ vs, o.data ≠ .fields vs) : ∀ {l : List Env}, h.FunFrames base l → h'.FunFrames base l
  | [], _ => trivial
  | env :: rest, ⟨hk, ⟨L', o, hf, hn, ho, hd⟩, hr⟩ => by
    refine ⟨hk, ?_, ff_sameBut hs hL hr⟩
    by_cases e : L' = L
    · obtain ⟨o', e1, e2⟩ := hL
      exact ⟨L', o', hf, hn, by rw [e]; exact e1, e2⟩
    · exact ⟨L', o, hf, hn, (hs.2 L' e).trans ho, hd⟩
/-- an exception leaves an except suite that bears a name -/
theorem noted_gone {W : WX} {i : Nat} {n : Str} {pos : Pos} {A' : Around} {u : Value} {s' : Shared} {xe : Value → Shared → Prop} {pn : List (Addr × Obj)}
    (hs : X.stack = X.env :: X.outer) (hf : X.env.frame = some X.env.locals) (hN : X.N.Nodup) (hi : X.N[i]? = some n) (hln : X.env.kindOf n = some .local) (hA : A'.frames = some (X.env :: X.outer)) (hkind : X.env.scope.kind = .function)
    (x : L2.XE { X with xe := xe, pn := pn, A := A', calm := false } W u s') (E : Value → Shared → Prop) (tk : ∀ s5, L2.XE { X with xe := xe, pn := pn, A := A', calm := false } (fun cls d σ H => ∃ σ0, σ = σ0.set i none ∧ W cls d σ0 H) u s5 → E u s5) :
    wpAny (model X.prog X.w) A' (noteFrame u X.env) (fun _ s₃' => wpAny (model X.prog X.w) A' (do bindName X.env n .none; unbindBehindTheSuite X.env n pos)
      (fun _ s₄ => wpAny (model X.prog X.w) A' (passOn "try.except-as" u X.env : Sem Flow) (fun _ _ => False) E s₄)
      (fun y s₄ => wpAny (model X.prog X.w) A' (setFlight u none) (fun _ s₅ => E y s₅) E s₄) s₃') E s' := by
  obtain ⟨a, B, sI, pins, σ, H, cls, d, rfl, I, nb, up, sky, na, os, ag, w⟩ := x
  have sky' : Sky B (X.env :: X.outer) a (Zc cls d) X.env.locals s'.heap := by rw [← hs]; exact sky
  -- noted
  have fin : ∀ h3, HandSPX.HeldZ B (X.env :: X.outer) a (Zc cls d) X.env.locals h3 → s'.heap.UpToSlots h3 → wpAny (model X.prog X.w) A' (do bindName X.env n .none; unbindBehindTheSuite X.env n pos)
      (fun _ s₄ => wpAny (model X.prog X.w) A' (passOn "try.except-as" (.ref a) X.env : Sem Flow) (fun _ _ => False) E s₄)
      (fun y s₄ => wpAny (model X.prog X.w) A' (setFlight (.ref a) none) (fun _ s₅ => E y s₅) E s₄) { s' with heap := h3 } := fun h3 hh up3 => by
    obtain ⟨m, hn, hg⟩ := inv_gone (X := { X with xe := xe, pn := pn, A := A', calm := false }) I hN hi
    have upA := up.trans up3
    have hn3 : h3.Ns X.env.locals m := upA.ns hn
    have hcls : (X.env.scope.kind == .class || (X.env.scope.kind == .module && X.env.locals != X.env.globals)) = false := by rw [hkind]; rfl
    refine wpAny_nameGoes_keeps (s := { s' with heap := h3 }) hln hn3 hcls fun h4 v hn4 hs4 => ?_
    obtain ⟨b1, b2, b3, oe, vs, T, oT, ts, he, hz, hdt, h1, hnT, hTe, hT, hdT, h3'⟩ := hh
    have Lm : X.env.locals ∈ (X.env :: X.outer).filterMap (·.frame) := List.mem_filterMap.mpr ⟨X.env, List.mem_cons_self, hf⟩
    obtain ⟨bL, _⟩ := b3.mem Lm
    obtain ⟨oL3, es3, ep3, hL3, hdL3, _⟩ := id hn3
    obtain ⟨oL4, es4, ep4, hL4, hdL4, r4⟩ := id hn4
    have aL : a ≠ X.env.locals := fun z => by
      rw [z, hL3] at he
      cases he
      rw [hdL3] at hdt
      cases hdt
    have TL : T ≠ X.env.locals := fun z => by
      rw [z, hL3] at hT
      cases hT
      rw [hdL3] at hdT
      cases hdT
    have hh4 : HandSPX.HeldZ B (X.env :: X.outer) a (Zc cls d) X.env.locals h4 := ⟨fun b o e => (hs4.2 b fun z => by rw [z, bL] at e; cases e).trans (b1 b o e), b2,
      ff_sameBut hs4 ⟨oL4, hL4, fun vs e => by rw [hdL4] at e; cases e⟩ b3, oe, vs, T, oT, ts, (hs4.2 a aL).trans he, hz, hdt, h1, hnT, hTe, (hs4.2 T TL).trans hT, hdT, h3'⟩
    -- passed on
    unfold PySem.passOn
    refine wpAny_bind (wpAny_field (s := { s' with heap := h4, toks := _ }) ((hs4.2 a aL).trans he) hdt h1 ?_)
    rw [if_neg (show ¬ ((Value.ref T == Value.none) = true) from by simp)]
    have fin2 : wpAny (model X.prog X.w) A' (setFlight (.ref a) X.env.frame) (fun _ s5 => wpAny (model X.prog X.w) A' (throw (.ref a) : Sem Flow) (fun _ _ => False) E s5) E { s' with heap := h4, toks := s'.toks + 1 } := by
      rw [hf]
      obtain ⟨c1, c2, c3, c4⟩ := id hh4
      refine HandSPX.setFlight_anyZ (s := { s' with heap := h4, toks := s'.toks + 1 }) c1 c3 c4 fun h5 k1 k2 k3 k4 => wpAny_throw (tk _ ?_)
      obtain ⟨oL0, es0, ep0, hL0, hdL0, _⟩ := id hn
      have fr4 : oL4.isFreed = false := by
        clear hL4 hh4
        cases oL4
        dsimp only at hdL4
        subst hdL4
        rfl
      have g4 : (sI.heap.update X.env.locals (fun _ => oL4)).get? X.env.locals = some oL4 := Heap.get?_update_self (fun _ => oL4) hL0 fr4
      have gO : ∀ b, b ≠ X.env.locals → (sI.heap.update X.env.locals (fun _ => oL4)).get? b = sI.heap.get? b := fun b hb => Heap.get?_update_other _ _ (Ne.symm hb)
      have J := hg { sI with heap := sI.heap.update X.env.locals (fun _ => oL4) } v rfl I.bare ⟨oL4, es4, ep4, g4, hdL4, r4⟩ (Heap.SameBut.update _ _ _)
      refine ⟨a, B, { sI with heap := sI.heap.update X.env.locals (fun _ => oL4) }, pins, σ.set i none, H, cls, d, rfl, J, fun b o e hb => ?_, fun b o e hnf => ?_, .inr (.inr ?_), na, os, ag, σ, rfl, w⟩
      · have nbL : b ≠ X.env.locals := fun z => hb (by
          show b ∈ frs X.stack
          rw [hs, z]
          exact Lm)
        rw [gO b nbL] at e
        exact nb b o e hb
      · by_cases hb : b = X.env.locals
        · subst hb
          rw [g4] at e
          cases e
          exact k4 _ _ hL4 hnf
        · rw [gO b hb] at e
          obtain ⟨sl, e2⟩ := upA b o e hnf
          have e3 : h4.get? b = some { o with slots := sl } := (hs4.2 b hb).trans e2
          obtain ⟨sl2, e4⟩ := k4 b _ e3 hnf
          exact ⟨sl2, e4⟩
      · show HandSPX.HeldZ B X.stack a (Zc cls d) X.env.locals h5
        rw [hs]
        exact ⟨k1, b2, k2, k3⟩
    first
      | exact wpAny_bind (wpAny_pure (wpAny_bind fin2))
      | exact wpAny_bind fin2
  rcases sky' with ⟨hB, hn, hl, oe, vs, he, hz, hd, h1⟩ | fl | hh
  · exact HandSPX.look_newZ Zc.steady hA hl hf he hB hn hd h1 hz fin
  · exact HandSPX.looks_onZ Zc.steady hA hf fl fin
  · exact HandSPX.againZ hf hh.2.2.2 (fin s'.heap hh (Heap.UpToSlots.refl _))
end
end Fw
set_option Elab.async false
set_option linter.all false
set_option maxRecDepth 100000
set_option maxHeartbeats 4000000
namespace Fw
open PySem PySem.Spec PyProof.Rows L2 HotX L2H
section
variable {X : Cx} {x n : Str} {c : Value} {i : Nat} {body suite : List Stmt} {b₀ : Stmt} {np pos pos' : Pos} {tb : WX → TS} {ts : Addr → Value → Option Addr → TS} {Wout : WX}
/-- try: body / except x as n: a suite that may raise out of the try -/
theorem ps_try_asX (hs : X.stack = X.env :: X.outer) (hf : X.env.frame = some X.env.locals) (hN : X.N.Nodup) (hi : X.N[i]? = some n) (hln : X.env.kindOf n = some .local) (hc : Names X x c)
    (hpa : ∀ hd : Option Value, PassesOwnAt (model X.prog X.w) (X.A.mark hd) X.A X.env X.xe) (tk : L2.Takes X Wout)
    (hb : ∀ (W : WX) (pn : List (Addr × Obj)) (xe : Value → Shared → Prop), L2N.Takes (X.tr pn xe) W → PassesOwn (model X.prog X.w) X.A X.env xe → PSs (X.tr pn xe) body (tb W))
    (hsu : ∀ (a : Addr) (oe : Obj) (cls : Value) (d : Option Addr) (pn : List (Addr × Obj)) (xe : Value → Shared → Prop), L2N.Zn cls d oe → (∃ vs, oe.data = .fields vs) → L2.Takes (suiteA X a ((a, oe) :: pn) xe) (fun cls d σ H => Wout cls d (σ.set i none) H) →
      HotC (suiteA X a ((a, oe) :: pn) xe) → PSs (suiteA X a ((a, oe) :: pn) xe) (b₀ :: suite) (ts a cls d)) :
    PS X (.Try body [.ExceptHandler (some (.Name x np)) (some n) (b₀ :: suite) pos'] [] [] pos) (fun D σ H => tb (wAs X.K c i ts Wout D) D σ H) := by
  refine ⟨fun pins s σ H D I h => ?_⟩
  have ok := I.ok
  have hfr : X.A.frames = some (X.env :: X.outer) := by rw [ok.frames, hs]
  have hloc : Loc X.env.scope n := .inl hln
  refine wpAny_Try_except ?_
  refine wpAny_mono ((hb (wAs X.K c i ts Wout D) (X.pn ++ pins) (fun e s₁ => wpAny (model X.prog X.w) X.A (noteFrame e X.env) (fun _ s₂ => wpAny (model X.prog X.w) X.A (setFlight e none) (fun _ s₃ =>
    wpAny (model X.prog X.w) X.A (handleBy e X.env [.ExceptHandler (some (.Name x np)) (some n) (b₀ :: suite) pos']) (SP X pins D) X.xe s₃) X.xe s₂) X.xe s₁) (fun u s' xx => ?_) PassesOwn.looking).run [] s σ H D (I.toTry _) h) (fun f s1 hsp => ?_) (fun e s1 he => he)
  · obtain ⟨a, B, sI, pins', σ', H', cls, d, rfl, J', nb, up, sky, na, os, ag, b, hb1, hyes, hno⟩ := xx
    have J : Inv X pins σ' H' sI := J'.ofTry ok
    have sky' : Sky B (X.env :: X.outer) a (L2N.Zn cls d) X.env.locals s'.heap := by rw [← hs]; exact sky
    show wpAny (model X.prog X.w) X.A (noteFrame (.ref a) X.env) _ _ _
    refine L2N.Sky.land L2N.Zn.steady hfr hf sky' fun h3 fl3 up3 => ?_
    have J3 : Inv X pins σ' H' { s' with heap := h3 } := J.landed nb fl3.1 (up.trans up3) os ag
    obtain ⟨oe3, vs3, he3, hz3, hd3⟩ := fl3.there
    have notFr : ∀ {h : Heap} {o : Obj} {vs : Array Value}, h.FunFrames B (X.env :: X.outer) → h.get? a = some o → o.data = .fields vs → a ∉ frs (X.env :: X.outer) := fun {h o vs} ff e dd hm => by
      obtain ⟨_, o', e', hnf⟩ := ff.mem hm
      rw [e] at e'; cases e'
      exact hnf _ dd
    have nfr := notFr fl3.2.2.1 he3 hd3
    have nL : a ≠ X.env.locals := fun z => nfr (List.mem_filterMap.mpr ⟨X.env, List.mem_cons_self, by rw [hf, z]⟩)
    have nF : a ∉ X.fs := fun hm => by
      obtain ⟨e, he, q⟩ := List.mem_filterMap.mp hm
      exact nfr (List.mem_filterMap.mpr ⟨e, List.mem_cons_of_mem _ he, q⟩)
    have S3 := J3.suite he3 hd3 na nL nF
    refine wpAny_handleBy_cons (codeAny_handlers_test ?_) (by intro q; cases q)
    have LT : PySem.W.Looks (model X.prog X.w) h3 (typeOf (.ref a)) cls := fun A Q E s k q => wpAny_typeOf_ref (k _ _ he3) (by rw [hz3.1]; exact q)
    have LM := PySem.W.exm_one (M := model X.prog X.w) (J3.kIn) LT hb1
    have test : ∀ {Q : Value → Shared → Prop} {E : Value → Shared → Prop}, Q c { s' with heap := h3 } → wpAny (model X.prog X.w) (X.A.mark (some (.ref a))) (eval (.Name x np) X.env) Q E { s' with heap := h3 } := fun {Q E} q => by
      obtain ⟨hg, hdbg, hm | ⟨hm, hv, hnn⟩⟩ := hc
      · exact ld_glob (X := X.suite a ((a, oe3) :: (X.pn ++ pins))) S3 hg hm q hdbg
      · exact ld_blt (X := X.suite a ((a, oe3) :: (X.pn ++ pins))) S3 hg hm hv q hnn hdbg
    refine test (LM.here ?_)
    cases b with
    | true =>
      refine codeAny_handlers_suite_as ?_
      refine HandSPX.lands_againZ fl3 fun h4 fl4 up4 => ?_
      have J4 : Inv X pins σ' H' { s' with heap := h4 } := J.landed nb fl4.1 ((up.trans up3).trans up4) os ag
      obtain ⟨oe4, vs4, he4, hz4, hd4⟩ := fl4.there
      have S4 := J4.suite he4 hd4 na nL nF
      refine store_ok (X := X.suite a ((a, oe4) :: (X.pn ++ pins))) (v := .ref a) S4 hN hi hloc rfl (fun s5 S5 => ?_) (.inr hln)
      have hot : ∀ xe, HotC (suiteA X a ((a, oe4) :: (X.pn ++ pins)) xe) := fun xe => ⟨(a, oe4), ⟨rfl, vs4, hd4, hz4.2.2 vs4 hd4⟩, List.mem_cons_self⟩
      have tkS : ∀ xe : Value → Shared → Prop, (∀ u s5, L2.XE (suiteA X a ((a, oe4) :: (X.pn ++ pins)) xe) (fun cls d σ H => Wout cls d (σ.set i none) H) u s5 → xe u s5) → L2.Takes (suiteA X a ((a, oe4) :: (X.pn ++ pins)) xe) (fun cls d σ H => Wout cls d (σ.set i none) H) := fun xe h => h
      refine wpAny_mono ((hsu a oe4 cls d (X.pn ++ pins) _ hz4 ⟨_, hd4⟩ (fun u s6 x6 => noted_gone (X := X) (A' := X.A.mark (some (.ref a))) (pn := (a, oe4) :: (X.pn ++ pins)) hs hf hN hi hln (by show (X.A.mark (some (.ref a))).frames = _; rw [← hfr]; rfl) ok.kind x6 _ fun s7 x7 => ?_) (hot _)).run [] s5 _ H' _ (suiteA_of S5 _) (hyes rfl a na)) (fun f s6 hsp => ?_) (fun e6 s6 z => z)
      · refine hpa (some (.ref a)) u s7 (tk u s7 ?_)
        obtain ⟨a2, B2, sI2, pn2, σ2, H2, cls2, d2, e2, I2, nb2, up2, sky2, na2, os2, ag2, σ0, eσ, w2⟩ := x7
        rw [← eσ] at w2
        exact ⟨a2, B2, sI2, pins, σ2, H2, cls2, d2, e2, unsuiteA I2 ok, nb2, up2, sky2, na2, os2, ag2, w2⟩
      have end_ : ∀ {σ6 : L2.St} {H6 : Hp} {xe : Value → Shared → Prop} {Q : Shared → Prop}, Inv (suiteA X a ((a, oe4) :: (X.pn ++ pins)) xe) [] σ6 H6 s6 → (∀ s7, Inv X pins (σ6.set i none) H6 s7 → Q s7) →
          wpAny (model X.prog X.w) X.A (do bindName X.env n .none; unbindBehindTheSuite X.env n pos') (fun _ s7 => Q s7) X.xe s6 := fun {σ6 H6 xe Q} S6 hq => gone_ok (unsuiteA S6 ok) hN hi hln hq
      cases f with
      | next =>
        obtain ⟨σ6, H6, S6, q6⟩ := hsp
        exact end_ S6 fun s7 J7 => ⟨_, _, J7, q6⟩
      | brk =>
        obtain ⟨σ6, H6, S6, q6⟩ := hsp
        exact end_ S6 fun s7 J7 => ⟨_, _, J7, q6⟩
      | cont =>
        obtain ⟨σ6, H6, S6, q6⟩ := hsp
        exact end_ S6 fun s7 J7 => ⟨_, _, J7, q6⟩
      | ret u =>
        obtain ⟨v6, σ6, H6, S6, r6, q6⟩ := hsp
        exact end_ S6 fun s7 J7 => ⟨_, _, _, J7, r6, q6⟩
    | false =>
      show wpAny _ X.A (handleBy (.ref a) X.env []) _ _ _
      refine wpAny_handleBy_nil ?_
      obtain ⟨k1, k2, k3, oe, vs, T, oT, ts', he, hz, hd, h1, hr⟩ := id fl3
      unfold PySem.passOn
      refine wpAny_bind (wpAny_field he hd h1 ?_)
      rw [if_neg (show ¬ ((Value.ref T == Value.none) = true) from by simp)]
      have fin : wpAny (model X.prog X.w) X.A (setFlight (.ref a) X.env.frame) (fun _ s4 => wpAny (model X.prog X.w) X.A (throw (.ref a) : Sem Flow) (SP X pins D) X.xe s4) X.xe { s' with heap := h3 } := by
        rw [hf]
        refine HandSPX.setFlight_upZ (flyingZ_imp (fun o z => z.zc) fl3) fun h4 hh4 up4 => wpAny_throw (tk _ _ ?_)
        exact ⟨a, B, sI, pins, σ', H', cls, d, rfl, J, nb, (up.trans up3).trans up4, .inr (.inr (by rw [hs]; exact hh4)), na, os, ag, hno rfl⟩
      first
        | exact wpAny_bind (wpAny_pure (wpAny_bind fin))
        | exact wpAny_bind fin
  · cases f with
    | next =>
      obtain ⟨σ', H', J', q⟩ := hsp
      exact wpAny_execs_nil ⟨σ', H', J'.ofTry ok, q⟩
    | brk =>
      obtain ⟨σ', H', J', q⟩ := hsp
      exact ⟨σ', H', J'.ofTry ok, q⟩
    | cont =>
      obtain ⟨σ', H', J', q⟩ := hsp
      exact ⟨σ', H', J'.ofTry ok, q⟩
    | ret u =>
      obtain ⟨v, σ', H', J', r, q⟩ := hsp
      exact ⟨v, σ', H', J'.ofTry ok, r, q⟩
end
end Fw
set_option Elab.async false
set_option linter.all false
set_option maxRecDepth 100000
set_option maxHeartbeats 4000000
namespace Fw
open PySem PySem.Spec PyProof.Rows L2 HotX L2H
section
variable {X : Cx} {W : WX} {e : Expr} {t : L2.St → Hp → XK → Prop} {cpos pos : Pos} {n : Str} {i : Nat} {a : Addr} {oe : Obj} {clsC : Value} {v1 : Array Value}
/-- raise e from n, in the suite of «except .. as n» -/
theorem ps_raiseHC (hA : X.A.handled = some (.ref a)) (hp : (a, oe) ∈ X.pn) (hod : oe.data = .fields v1) (hv : v1[2]? = some .none) (hcl : oe.cls = clsC) (hsub : PySem.W.subIn X.K clsC (.type "BaseException") = some true)
    (hi : X.N[i]? = some n) (hln : X.env.kindOf n = some .local) (tk : L2.Takes X W) (he : PMk5 X e t) (hdb : (n == ("__debug__" : Str)) = false := by decide) :
    PS X (.Raise (some e) (some (.Name n cpos)) pos) (fun _ σ H => σ[i]? = some (some (.ref a)) ∧ t σ H fun cls d H' => W cls d σ H') := by
  refine ⟨fun pins s σ H D I h => ?_⟩
  obtain ⟨hσ, h⟩ := h
  show wpAny _ _ (do standAt pos; raiseStmt X.env (some (do let v ← eval e X.env; standAt pos; pure v)) (some (do let v ← eval (.Name n cpos) X.env; standAt pos; pure v))) _ _ _
  refine wpAny_bind (wpAny_standAt (raise_made_hotC (x1 := a) (clsC := clsC) (wpAny_bind (wpAny_mono (he pins s σ H _ I h) (fun u s1 hu => wpAny_bind (wpAny_standAt (wpAny_pure ?_))) fun _ _ x => x))))
  obtain ⟨⟨a2, oe2, vs, sI, H', cls, d, rfl, J, k, hne, ha, hz, hd, h1, na, os, ag, r, q⟩, h5⟩ := hu
  have hi4 : 4 < vs.size := h5 a2 oe2 vs rfl ha hd
  have k4 : ∀ b u, sI.heap.get? b = some u → (fromAt s1.heap a2 (.ref a)).get? b = some u := fun b u z => by
    have nab : a2 ≠ b := fun y => by
      rw [← y, hne] at z
      cases z
    rw [fromAt_other nab]
    exact k b u z
  obtain ⟨r1, _⟩ := r (model X.prog X.w) s1.heap (J.kIn.keeps k)
  obtain ⟨_, r2⟩ := r (model X.prog X.w) (fromAt s1.heap a2 (.ref a)) (J.kIn.keeps k4)
  have P1 := (J.pin (a, oe) (List.mem_append_left _ hp)).1
  have nap : a ≠ a2 := fun z => by
    rw [z, hne] at P1
    cases P1
  obtain ⟨ha4, hd4⟩ := fromAt_at (cv := .ref a) ha hd
  have h12 : (((vs.setIfInBounds 3 (Value.ref a)).setIfInBounds 4 (Value.bool true)).setIfInBounds 2 (Value.ref a))[1]? = some Value.none := set_other (by decide) (set_other (by decide) (set_other (by decide) h1))
  refine ⟨a2, oe2, vs, cls, rfl, ha, hz.1, hd, h1, hi4, nap, ⟨hA, oe, v1, k _ _ P1, hod, hv⟩, fun Q' hq' => ?_, ⟨oe, k _ _ P1, hcl⟩, PySem.W.looks_subIn (J.kIn.keeps k) hsub, r1, r2, tk _ _ (XE.new J (fun b u z => ?_) hne (Heap.get?_update_self _ ha4 (Obj.isFreed_of_fields (Obj.data_mapFields hd4 _)))
    ⟨by rw [Obj.cls_mapFields, Obj.cls_mapFields, Obj.cls_mapFields]; exact hz.1, by rw [HandSPX.dict_mapFields, HandSPX.dict_mapFields, HandSPX.dict_mapFields]; exact hz.2.1⟩ (Obj.data_mapFields hd4 _) h12 na os ag q)⟩
  · obtain ⟨m, hn, hl⟩ := J.loc
    obtain ⟨w', rw', q'⟩ := hl i n (.ref a) hi hσ (.inl hln)
    obtain rfl : w' = Value.ref a := rw'
    rcases q' with ⟨_, hm⟩ | ⟨kk, _⟩
    · exact wpAny_bind (wpAny_Name (wpAny_loadName_local J.ok.kind hln (hn.keeps k) hm (wpAny_bind (wpAny_standAt (wpAny_pure hq')))) hdb)
    · rcases kk with kk | kk <;> rw [show X.env.kindOf n = _ from kk] at hln <;> cases hln
  · have nab : a2 ≠ b := fun y => by
      rw [← y, hne] at z
      cases z
    show ((fromAt s1.heap a2 (.ref a)).update a2 (Obj.mapFields (·.setIfInBounds 2 (.ref a)))).get? b = some u
    rw [Heap.get?_update_other _ _ nab]
    exact k4 b u z
end
/-! ## try: f(..) / except BadLogic as e: raise InvalidText() from e -/
def Mo.catch {α : Type} : Mo α → (Nat → Dt → Mo α) → Mo α
  | .ret a, _ => .ret a
  | .any P k, h => .any P fun d => (k d).catch h
  | .exc c d, h => h c d
  | .err, _ => .err
theorem Mo.wp_catch {α : Type} {h : Nat → Dt → Mo α} {Q : α → Prop} {R : Nat → Dt → Prop} : ∀ {m : Mo α}, (m.catch h).wp Q R ↔ m.wp Q (fun c d => (h c d).wp Q R)
  | .ret _ => Iff.rfl
  | .any P k => ⟨fun f d p => wp_catch.mp (f d p), fun f d p => wp_catch.mpr (f d p)⟩
  | .exc _ _ => Iff.rfl
  | .err => Iff.rfl
def mTryFrom (m : En → Mo Dt) : En → Mo Fl := fun ρ => ((m ρ).bind fun _ => .ret (.nx ρ)).catch fun c _ => if c = 1 then .exc 9 .non else .err
/-- what the written part says of a class that an except clause names -/
structure Xn (K : PySem.W.Frag) (mg : Str → Option Value) (x y : Str) : Prop where
  ex : ∀ C D, mg x = some (.ref C) → mg y = some (.ref D) → PySem.W.exmOne K (.ref D) (.ref C) = some true
section
variable {X : Cx} {Tz : Tbs} {p pos p2 p3 : Pos} {e : Expr} {m : En → Mo Dt} {n : Str} {i : Nat} {pos' np pe pr : Pos} {E : XK}
theorem s_tryFrom (i : Nat) (xb : Xb X.prog X.K X.mg) (xi : Xc X.K X.mg "InvalidText") (hx1 : Xn X.K X.mg "BadLogic" "BadLogic") (hg1 : Gl X "BadLogic") (hg2 : Gl X "InvalidText") (hs : X.stack = X.env :: X.outer) (hf : X.env.frame = some X.env.locals) (hN : X.N.Nodup) (hi : X.N[i]? = some n) (hln : X.env.kindOf n = some .local)
    (hpa : ∀ hd : Option Value, PassesOwnAt (model X.prog X.w) (X.A.mark hd) X.A X.env X.xe) (tk : L2.Takes X (fun cls d _ H => E cls d H)) (hdb : (n == ("__debug__" : Str)) = false := by decide)
    (he : ∀ (W : WX) (pn : List (Addr × Obj)) (xe : Value → Shared → Prop), L2N.Takes (X.tr pn xe) W → PE (X.tr pn xe) e (tM (X.gd Tz) (XRm X.mg) (WE W) m)) (hsw : ∀ (pn : List (Addr × Obj)) (xe : Value → Shared → Prop), swapsWith e none pe.line (X.tr pn xe).env = pure false := by exact fun _ _ => rfl) :
    PS X (.Try [.Expr e pe] [.ExceptHandler (some (.Name "BadLogic" np)) (some n) [.Raise (some (.Call (.Name "InvalidText" p) [] [] p2)) (some (.Name n p3)) pr] pos'] [] [] pos) (tS (X.gd Tz) (XRm X.mg) (WE fun cls d _ H => E cls d H) (mTryFrom m)) := by
  obtain ⟨C, f, fd, gC, B, iC, tI, hbi⟩ := xb.ex
  obtain ⟨CI, gI, qI, kI, b1, b2⟩ := xi.ex
  have hex := hx1.ex C C gC gC
  refine PS.imp (ps_try_asX (c := .ref C) (tb := fun W => tS (X.gd Tz) (XRm X.mg) (WE W) (mDrop m)) (ts := fun a cls d => fun D σ H => cls = .ref C ∧ (σ.length = X.N.length → σ[i]? = some (some (.ref a))) ∧ E (.ref CI) none H) hs hf hN hi hln ⟨hg1, by decide, .inl gC⟩ hpa tk
    (fun W pn xe tkW _ => b_one (s_expr (he W pn xe tkW) (hsw pn xe))) (fun a oe cls d pn xe hz ⟨vs, hd⟩ tkS hot => pss_one ⟨fun pins s σ H D I hh => ?_⟩)) fun D σ H ⟨r, Z, ρ, Z0, H0, a, h⟩ => ⟨r, Z, ρ, Z0, H0, a, ?_⟩
  · obtain ⟨ec, hσ, hE⟩ := hh
    subst ec
    exact (ps_raiseHC (X := suiteA X a ((a, oe) :: pn) xe) (a := a) (oe := oe) (W := fun cls d σ H => E cls d H) rfl List.mem_cons_self hd (hz.2.2 vs hd) hz.1 B.T.exC hi hln tkS (pmk_own0 qI gI kI (raises_own b1 b2) hg2) hdb).run pins s σ H D I ⟨hσ I.len, hE⟩
  · refine Mo.wp_mono (Mo.wp_catch.mp h) (fun _ q => q) fun c d q => ?_
    split at q
    · rename_i hc
      subst hc
      intro σ' cv od H' Z' e1 hx
      obtain ⟨nm, C', e2, g2, ecv, hxd⟩ := hx
      cases e2
      rw [gC] at g2
      cases g2
      subst ecv
      refine ⟨true, hex, fun _ a2 hna => ⟨rfl, ?_, ?_⟩, fun z => nomatch z⟩
      · intro hlen
        rw [List.getElem?_set_self]
        rw [List.length_set] at hlen
        rw [hlen]
        exact (List.getElem?_eq_some_iff.mp hi).1
      · exact q σ' (.ref CI) none H' Z' e1 ⟨"InvalidText", CI, rfl, gI, rfl, .inr ⟨by decide, rfl, rfl⟩⟩
    · exact q.elim
end
end Fw
set_option Elab.async false
set_option linter.all false
set_option maxRecDepth 100000
set_option maxHeartbeats 4000000
namespace Fw
open PySem PySem.Spec PyProof.Rows L2 LamX

/-! ## a lambda is made: what it is stands in the abstract heap -/
theorem objO_ok {P : Program} {w : World} {H : Hp} {h : Heap} {f : Addr} {o : Obj} (e : h.get? f = some o) : ObjOk P w H h f (ObjO f o) := ⟨e, ⟨o, e⟩, fun h1 h2 z k => k _ z⟩
theorem objO_at {P : Program} {w : World} {H : Hp} {h : Heap} {f : Addr} {o : Obj} (hok : HOk P w H h) (e : H f = some (ObjO f o)) : h.get? f = some o := by
  have x : ObjOk P w H h f (.ext fun h => h.get? f = some o) := hok f _ e
  exact x.1
abbrev lamQ (X : Cx) : Str := X.env.qual ++ "<lambda>"
/-- a lambda's parameters: none, or one with a number as its default -/
inductive LPar (params : Arguments) (body : Expr) (scope : Scope) : List Str → Prop
  | none (h0 : params.defaults = []) (h1 : ∀ env, defaultsOf params env = ([], [])) (h2 : ∀ (q : Str) (cl : List (Str × Addr)) (doc pm cv ctv : Value), bindArgs (PySem.W.kdv_fn "<lambda>" q params (.expr body) scope cl .none doc pm cv ctv) ⟨[], []⟩ = pure []) : LPar params body scope []
  | one {a : Str} {z : Int} {j : Nat} {p : Pos} (h1 : params.defaults = [.Constant (.int z) j p]) (h2 : params.kw_defaults = [])
      (h3 : ∀ (q : Str) (cl : List (Str × Addr)) (dV doc pm cv ctv : Value), ∃ k : Option (Array Value) → Sem (List (Str × Value)), bindArgs (PySem.W.kdv_fn "<lambda>" q params (.expr body) scope cl dV doc pm cv ctv) ⟨[], []⟩ = seqItems? dV >>= k ∧ ∀ v, k (some [v].toArray) = pure [(a, v)]) : LPar params body scope [a]
/-- from H1 on, the lambda without arguments binds bl -/
def BindO (X : Cx) (H1 : Hp) (fd : FuncData) (bl : List (Str × Value)) : Prop := ∀ (H2 : Hp) (s2 : Shared), ExtN H1 H2 → HOk X.prog X.w H2 s2.heap → BindsTo s2 fd ⟨[], []⟩ bl
/-- what stands behind the making -/
structure Made (X : Cx) (T : List (Addr × Str)) (H H1 : Hp) (f c' : Addr) (fd : FuncData) : Prop where
  ext : ExtN H H1
  nn : ∀ b, H1 b = none → H b = none
  tg : ∀ a ps, H a = some (.tbl ps) → ∃ qs, H1 a = some (.tbl qs)
  tb : Tabs T H1
  fo : H1 f = some (ObjO f { cls := .type "function", data := .func fd })
  co : H1 c' = some (CodeO c' (lamQ X))
section
variable {X : Cx} {pins : List (Addr × Obj)} {σ : L2.St} {H : Hp} {s : Shared} {T : List (Addr × Str)} {c P : Addr} {params : Arguments} {body : Expr} {scope : Scope} {pos : Pos} {E : Value → Shared → Prop} {Q : Value → Shared → Prop}
abbrev lamFd (X : Cx) (params : Arguments) (body : Expr) (scope : Scope) (dV doc pm cv ctv : Value) : FuncData := PySem.W.kdv_fn "<lambda>" (lamQ X) params (.expr body) scope (cloFrom X.env.cells scope.names []) dV doc pm cv ctv
theorem lam_tail {dV : Value} (I : Inv X pins σ H s) (TB : TabB X.base X.mg c P) (hcode : X.env.code = .ref c)
    (hm : (P, lamQ X) ∈ T) (hu : ∀ p ∈ T, p.1 = P → p.2 = lamQ X) (hT : Tabs T H) (hfree : ∀ y ∈ scope.names, y.2 = .free → ∃ c, X.env.cells.lookup y.1 = some c)
    (h : ∀ (f c' : Addr) (doc pm ctv : Value) (H1 : Hp) (s' : Shared), Inv X pins σ H1 s' → Made X T H H1 f c' (lamFd X params body scope dV doc pm (.ref c') ctv) → Q (.ref f) s') :
    wpAny (model X.prog X.w) X.A (makeTail "<lambda>" (lamQ X) params (.expr body) scope X.env dV .none none pos pos.line) Q E s := by
  obtain ⟨ps, hP, ht, ha⟩ := hT _ hm
  have bP : s.heap.BuiltinsAt X.mg P := TB.bm.keeps I.bk
  have hP' : s.heap.get? P = some { cls := .none, data := .fields ps } := I.hok P _ hP
  cases hc : codeAmong pos ps.toList with
  | none =>
    refine PySem.W.kdv_makeTail (mg := X.mg) (c := c) (P := P) (ps := ps) (closure_ok hfree) I.ok.glob (I.mod.glob.keeps I.bk) hcode (TB.code.keeps I.bk) hP' ht hc TB.gP bP fun c' ctv doc h' tk hx hge hlt hrec htb => ?_
    obtain ⟨c2, oc, vs, t, e2, hoc, hd, hv⟩ := hrec
    cases e2
    have hsz : s.heap.objs.size ≤ h'.objs.size := Nat.le_trans hge (Nat.le_of_lt hlt)
    have nC : H c' = none := I.hok.fresh hge
    have I1 := inv_table (t' := tk) (more := #[rawInt pos.line, rawInt pos.col, .ref c']) (h' := h') I hP hx htb hge ⟨oc, vs, t, hoc, hd, hv⟩
    have hE : ExtN H (upd (upd H P (.tbl (ps ++ #[rawInt pos.line, rawInt pos.col, .ref c']))) c' (CodeO c' (lamQ X))) := fun b o e n => by
      rw [upd_ne (ne_of_none e nC), upd_ne (fun z => n ps (Option.some.inj (e.symm.trans (by rw [z]; exact hP))))]
      exact e
    have nf := I1.hok.fresh (Nat.le_refl _)
    have I2 := I1.laid (t' := tk) (a := h'.objs.size) (o := ObjO h'.objs.size { cls := .type "function", data := .func (lamFd X params body scope dV doc ((X.mg "__name__").getD .none) (.ref c') ctv) })
      (h' := h'.push { cls := .type "function", data := .func (lamFd X params body scope dV doc ((X.mg "__name__").getD .none) (.ref c') ctv) }) (fun b o e => Heap.get?_push_of_some _ e) (Nat.le_refl _) (objO_ok (Heap.get?_push_size _ rfl))
    have n1 : h'.objs.size ≠ c' := Nat.ne_of_gt hlt
    have up : ∀ b o, b ≠ h'.objs.size → upd (upd H P (.tbl (ps ++ #[rawInt pos.line, rawInt pos.col, .ref c']))) c' (CodeO c' (lamQ X)) b = some o →
      upd (upd (upd H P (.tbl (ps ++ #[rawInt pos.line, rawInt pos.col, .ref c']))) c' (CodeO c' (lamQ X))) h'.objs.size (ObjO h'.objs.size { cls := .type "function", data := .func (lamFd X params body scope dV doc ((X.mg "__name__").getD .none) (.ref c') ctv) }) b = some o := fun b o n e => by rw [upd_ne n]; exact e
    have eL : (ps ++ #[rawInt pos.line, rawInt pos.col, .ref c']).toList = ps.toList ++ [rawInt pos.line, rawInt pos.col, .ref c'] := by simp
    have hE2 : ∀ b o, upd (upd H P (.tbl (ps ++ #[rawInt pos.line, rawInt pos.col, .ref c']))) c' (CodeO c' (lamQ X)) b = some o →
      upd (upd (upd H P (.tbl (ps ++ #[rawInt pos.line, rawInt pos.col, .ref c']))) c' (CodeO c' (lamQ X))) h'.objs.size (ObjO h'.objs.size { cls := .type "function", data := .func (lamFd X params body scope dV doc ((X.mg "__name__").getD .none) (.ref c') ctv) }) b = some o := fun b o e => up b o (ne_of_none e nf) e
    have hT1 : Tabs T (upd (upd H P (.tbl (ps ++ #[rawInt pos.line, rawInt pos.col, .ref c']))) c' (CodeO c' (lamQ X))) := fun p hp => by
      by_cases hb : p.1 = P
      · rw [hu p hp hb, hb]
        refine ⟨_, by rw [upd_ne (ne_of_none hP nC), upd_same], by rw [eL]; exact PySem.TriplesOk_snoc _ _ _ _ ht, fun p' cv hcv => ?_⟩
        rw [eL] at hcv
        rcases among_app _ ht hcv with z | z
        · obtain ⟨c0, e1, e2⟩ := ha p' cv z
          exact ⟨c0, e1, hE _ _ e2 codeO_ne⟩
        · exact ⟨c', z, upd_same⟩
      · obtain ⟨ps', a1, a2, a3⟩ := hT p hp
        refine ⟨ps', by rw [upd_ne (ne_of_none a1 nC), upd_ne hb]; exact a1, a2, fun p' cv hcv => ?_⟩
        obtain ⟨c0, e1, e2⟩ := a3 p' cv hcv
        exact ⟨c0, e1, hE _ _ e2 codeO_ne⟩
    refine h h'.objs.size c' doc ((X.mg "__name__").getD .none) ctv _ _ I2 ⟨fun b o e n => hE2 b o (hE b o e n), fun b z => ?_, fun a qs e => ?_, hT1.ext hE2, upd_same, hE2 _ _ upd_same⟩
    · by_cases b1 : b = h'.objs.size
      · rw [b1, upd_same] at z; cases z
      · rw [upd_ne b1] at z
        by_cases b2 : b = c'
        · rw [b2, upd_same] at z; cases z
        · rw [upd_ne b2] at z
          by_cases b3 : b = P
          · rw [b3, upd_same] at z; cases z
          · rw [upd_ne b3] at z; exact z
    · by_cases b3 : a = P
      · exact ⟨_, hE2 _ _ (by rw [b3, upd_ne (ne_of_none hP nC), upd_same])⟩
      · exact ⟨qs, hE2 _ _ (by rw [upd_ne (ne_of_none e nC), upd_ne b3]; exact e)⟩
  | some cv =>
    obtain ⟨c', e, hco⟩ := ha pos cv hc
    subst e
    refine PySem.W.kdv_makeTailHit (mg := X.mg) (c := c) (P := P) (ps := ps) (closure_ok hfree) I.ok.glob (I.mod.glob.keeps I.bk) hcode (TB.code.keeps I.bk) hP' ht hc bP fun ctv doc h' tk hx hsz => ?_
    have nf : H h'.objs.size = none := I.hok.fresh hsz
    have I2 := I.laid (t' := tk) (a := h'.objs.size) (o := ObjO h'.objs.size { cls := .type "function", data := .func (lamFd X params body scope dV doc ((X.mg "__name__").getD .none) (.ref c') ctv) })
      (h' := h'.push { cls := .type "function", data := .func (lamFd X params body scope dV doc ((X.mg "__name__").getD .none) (.ref c') ctv) }) (fun b o e => Heap.get?_push_of_some _ (hx b o e)) hsz (objO_ok (Heap.get?_push_size _ rfl))
    have up : ∀ b o, H b = some o → upd H h'.objs.size (ObjO h'.objs.size { cls := .type "function", data := .func (lamFd X params body scope dV doc ((X.mg "__name__").getD .none) (.ref c') ctv) }) b = some o := fun b o e => by rw [upd_ne (ne_of_none e nf)]; exact e
    refine h h'.objs.size c' doc ((X.mg "__name__").getD .none) ctv _ _ I2 ⟨fun b o e n => up b o e, fun b z => ?_, fun a qs e => ⟨qs, up _ _ e⟩, hT.ext up, upd_same, up _ _ hco⟩
    by_cases b1 : b = h'.objs.size
    · rw [b1, upd_same] at z; cases z
    · rw [upd_ne b1] at z; exact z
theorem Made.pre {T : List (Addr × Str)} {H0 H H1 : Hp} {f c' : Addr} {fd : FuncData} (e : ∀ b o, H0 b = some o → H b = some o) (nn : ∀ b, H b = none → H0 b = none) (m : Made X T H H1 f c' fd) : Made X T H0 H1 f c' fd :=
  ⟨fun b o q n => m.ext b o (e b o q) n, fun b q => nn b (m.nn b q), fun a ps q => m.tg a ps (e _ _ q), m.tb, m.fo, m.co⟩
/-- what stands behind the default -/
def DflO (H H1 : Hp) (params : Arguments) (dV : Value) : Prop := (params.defaults = [] ∧ dV = .none) ∨ (params.defaults ≠ [] ∧ ∃ (T0 : Addr) (z : Int) (t : Tok), dV = .ref T0 ∧ H T0 = none ∧ H1 T0 = some (ObjO T0 (PySem.W.kdv_tup [Value.int z t])))
theorem lam_make3 {ls : List Str} (lp : LPar params body scope ls) (I : Inv X pins σ H s) (TB : TabB X.base X.mg c P) (hcode : X.env.code = .ref c)
    (hm : (P, lamQ X) ∈ T) (hu : ∀ p ∈ T, p.1 = P → p.2 = lamQ X) (hT : Tabs T H) (hfree : ∀ y ∈ scope.names, y.2 = .free → ∃ c, X.env.cells.lookup y.1 = some c)
    (h : ∀ (f c' : Addr) (dV doc pm ctv : Value) (bl : List (Str × Value)) (H1 : Hp) (s' : Shared), Inv X pins σ H1 s' → Made X T H H1 f c' (lamFd X params body scope dV doc pm (.ref c') ctv) → bl.map (·.1) = ls → BindO X H1 (lamFd X params body scope dV doc pm (.ref c') ctv) bl → DflO H H1 params dV → Q (.ref f) s') :
    wpAny (model X.prog X.w) X.A (eval (.Lambda params body scope pos) X.env) Q E s := by
  cases lp with
  | none h0 h1 h2 =>
    refine PySem.W.kla_eval (h1 _) ?_
    rw [makeFunction_eq]
    simp only [List.zip_nil_right, List.filterMap_nil, List.isEmpty_nil, if_true, pure_bind]
    exact lam_tail I TB hcode hm hu hT hfree fun f c' doc pm ctv H1 s' I' m => h f c' .none doc pm ctv [] H1 s' I' m rfl (fun _ _ _ _ => BindsTo.of_eq (h2 _ _ _ _ _ _)) (.inl ⟨h0, rfl⟩)
  | @one a z j p h1 h2 h3 =>
    refine PySem.W.kdv_lam (by rw [h1]; rfl) h2 ?_
    rw [h1]
    refine PySem.W.kdv_all1 (thn ((pe_int (X := X) (i := z) (j := j) (pos := p)).run pins s σ H (fun v H1 => v = .int z ∧ H1 = H) I ⟨rfl, rfl⟩) fun u s1 ⟨v, H1, I1, r1, ev, eH⟩ => ?_)
    subst ev
    subst eH
    obtain ⟨t, rfl⟩ := (show ∃ t, u = Value.int z t from r1)
    refine PySem.W.kdv_all0 ?_
    rw [makeFunction_eq]
    simp only [List.zip_nil_right, List.filterMap_nil, List.isEmpty_nil, if_true, pure_bind, List.isEmpty_cons, Bool.false_eq_true, if_false]
    refine wpAny_bind (wpAny_newTextTuple ?_)
    have nf := I1.hok.fresh (Nat.le_refl _)
    have I2 := I1.laid (t' := s1.toks) (a := s1.heap.objs.size) (o := ObjO s1.heap.objs.size (PySem.W.kdv_tup [Value.int z t])) (h' := s1.heap.push (PySem.W.kdv_tup [Value.int z t])) (fun b o e => Heap.get?_push_of_some _ e) (Nat.le_refl _) (objO_ok (Heap.get?_push_size _ rfl))
    have up : ∀ b o, H1 b = some o → upd H1 s1.heap.objs.size (ObjO s1.heap.objs.size (PySem.W.kdv_tup [Value.int z t])) b = some o := fun b o e => by rw [upd_ne (ne_of_none e nf)]; exact e
    refine lam_tail (dV := .ref s1.heap.objs.size) I2 TB hcode hm hu (hT.ext up) hfree fun f c' doc pm ctv H2 s' I' m => h f c' (.ref s1.heap.objs.size) doc pm ctv [(a, Value.int z t)] H2 s' I' (m.pre up fun b z => ?_) rfl (fun H3 s3 e3 hok3 => ?_) (.inr ⟨(by rw [h1]; exact List.cons_ne_nil _ _), s1.heap.objs.size, z, t, rfl, nf, m.ext _ _ upd_same (fun ps z => by unfold ObjO at z; cases z)⟩)
    · by_cases b1 : b = s1.heap.objs.size
      · rw [b1, upd_same] at z; cases z
      · rw [upd_ne b1] at z; exact z
    · obtain ⟨k, e1, e2⟩ := h3 (lamQ X) (cloFrom X.env.cells scope.names []) (.ref s1.heap.objs.size) doc pm (.ref c') ctv
      have q1 := m.ext _ _ (upd_same (H := H1) (a := s1.heap.objs.size) (o := ObjO s1.heap.objs.size (PySem.W.kdv_tup [Value.int z t]))) (fun ps z => by unfold ObjO at z; cases z)
      have q2 := e3 _ _ q1 (fun ps z => by unfold ObjO at z; cases z)
      exact BindsTo.of_defaults rfl (objO_at hok3 q2) rfl e1 (e2 _)
end
end Fw
set_option Elab.async false
set_option linter.all false
set_option maxRecDepth 100000
set_option maxHeartbeats 4000000
namespace Fw
open PySem PySem.Spec PyProof.Rows L2 LamX

/-- the lambda's names: captured ones, globals; its parameters are no names of the maker's -/
structure LamS3 (N : List Str) (sc scope : Scope) (ls : List Str) : Prop where
  kind : scope.kind = .function
  co : scope.isCoroutine = false
  gen : scope.isGenerator = false
  own : ∀ y ∈ scope.names, y.2 ≠ .cell ∧ (y.2 = .local → y.1 ∉ N)
  free : ∀ y ∈ scope.names, y.2 = .free → sc.names.lookup y.1 = some .cell ∨ sc.names.lookup y.1 = some .free
  par : ∀ a ∈ ls, scope.names.lookup a = some .local
def lamS3B (N : List Str) (sc scope : Scope) (ls : List Str) : Bool :=
  decide (scope.kind = .function) && !scope.isCoroutine && !scope.isGenerator && scope.names.all (fun y => !decide (y.2 = .cell) && (!decide (y.2 = .local) || !decide (y.1 ∈ N)) && (!decide (y.2 = .free) || decide (sc.names.lookup y.1 = some .cell) || decide (sc.names.lookup y.1 = some .free))) && ls.all fun a => decide (scope.names.lookup a = some .local)
theorem lamS3_by {N : List Str} {sc scope : Scope} {ls : List Str} (h : lamS3B N sc scope ls = true) : LamS3 N sc scope ls := by
  unfold lamS3B at h
  simp only [Bool.and_eq_true, Bool.or_eq_true, Bool.not_eq_true', decide_eq_true_eq, decide_eq_false_iff_not, List.all_eq_true] at h
  obtain ⟨⟨⟨⟨h1, h2⟩, h3⟩, h4⟩, h5⟩ := h
  refine ⟨h1, h2, h3, fun y hy => ⟨(h4 y hy).1.1, fun e => ((h4 y hy).1.2).resolve_left fun q => q e⟩, fun y hy e => ?_, h5⟩
  rcases (h4 y hy).2 with (z | z) | z
  · exact absurd e z
  · exact .inl z
  · exact .inr z
section
variable {X : Cx} {pins : List (Addr × Obj)} {σ : L2.St} {H HZ : Hp} {s s1 : Shared} {ls : List Str}
theorem LamS3.has {scope : Scope} (L : LamS3 X.N X.env.scope scope ls) (ok : X.Ok) : ∀ y ∈ scope.names, y.2 = .free → ∃ c, X.env.cells.lookup y.1 = some c := fun y hy e => by
  rcases L.free y hy e with k | k
  · exact ok.has _ (.inl k)
  · exact ok.has _ (.inr k)
theorem lam_start3 {A : Around} {outer : List Env} {E : XK} {scope : Scope} {f c' : Addr} {h₁ : Heap} {tk : Nat} {bl : List (Str × Value)} (I : Inv X pins σ H s) (L : LamS3 X.N X.env.scope scope ls) (e0 : Env0 X.prog X.w X.K X.mg X.base A outer s1 HZ) (hd : A.handled = none)
    (un : Un (frs X.stack) [] H HZ s.heap s1.heap) (hns : h₁.Ns s1.heap.objs.size fun y => bl.reverse.lookup y) (kp : ∀ b o, s1.heap.get? b = some o → h₁.get? b = some o) :
    Inv (lamCx X A outer s1 HZ E scope f c') [] σ HZ { s1 with heap := h₁, toks := tk } := by
  have hfree := L.has I.ok
  have cm : ∀ {y c}, (cloFrom X.env.cells scope.names []).lookup y = some c → X.env.cells.lookup y = some c := fun {y c} e => by
    rcases cloFrom_mem (PySem.mem_of_lookup e) with hm | ⟨h1, h2⟩
    · cases hm
    · obtain ⟨c1, hc⟩ := hfree _ h1 rfl
      have hc : X.env.cells.lookup y = some c1 := hc
      have e2 : c = c1 := by
        rw [h2, hc] <;> rfl
      rw [e2]
      exact hc
  have look : ∀ {y}, scope.names.lookup y = some .free → ∃ c, (cloFrom X.env.cells scope.names []).lookup y = some c := fun {y} hl => by
    have hy : (y, NameKind.free) ∈ scope.names := PySem.mem_of_lookup hl
    exact mem_lookup (cloFrom_has (cells := X.env.cells) (acc := []) hy)
  have cellK : ∀ {c : Addr} {v : Option Value}, H c = none → s.heap.IsCell c v → h₁.IsCell c v := fun {c v} n ⟨o, ho, hd⟩ => by
    obtain ⟨sl, q⟩ := un.any ho n (by simp)
    exact ⟨_, kp _ _ q, hd⟩
  have noA : ∀ b : Addr, b ∉ (lamCx X A outer s1 HZ E scope f c').ex := fun b z => absurd (show b ∈ ([] : List Addr) from z) (by simp)
  refine ⟨⟨e0.mod, L.kind, rfl, rfl, Nat.le_refl _, fun y z c e1 e2 => I.ok.inj y z c (cm e1) (cm e2), fun y hy => ?_, fun y c z _ => ?_, fun _ => hd, Around.frames_deeper e0.frames, .inr ⟨rfl, rfl⟩, fun b z => absurd z (noA b), e0.bs, e0.bsz, fun b _ _ => noA b,
      fun b z => absurd z (noA b), e0.funs, e0.frf⟩,
    rfl, e0.bare, Un.kept kp, ⟨_, hns, fun i y v e1 e2 e3 => ?_⟩, fun y c e => ?_, e0.hok.fresh (Nat.le_refl _), fun y c e => ?_, fun q hq => absurd (show q ∈ ([] : List (Addr × Obj)) ++ [] from hq) (by simp), e0.hok.kept kp, I.len⟩
  · have hy : scope.names.lookup y = some .cell ∨ scope.names.lookup y = some .free := hy
    rcases hy with hy | hy
    · exact absurd rfl (L.own _ (PySem.mem_of_lookup hy)).1
    · exact look hy
  · have z : false = true := z
    cases z
  · have e3 : Vis scope y := e3
    rcases e3 with k | k | k
    · exact absurd (List.mem_of_getElem? e1) ((L.own _ (PySem.mem_of_lookup k)).2 rfl)
    · exact absurd rfl (L.own _ (PySem.mem_of_lookup k)).1
    · obtain ⟨m, hn, hl⟩ := I.loc
      have hvis : Vis X.env.scope y := (L.free _ (PySem.mem_of_lookup k) rfl).elim (fun k => .inr (.inl k)) (fun k => .inr (.inr k))
      obtain ⟨w', r, q⟩ := hl i y v e1 e2 hvis
      obtain ⟨c2, h2⟩ := look k
      refine ⟨w', r, .inr ⟨.inr k, c2, h2, ?_⟩⟩
      have c1 := cm h2
      rcases q with ⟨k', _⟩ | ⟨_, c3, e', z⟩
      · have k' : X.env.scope.names.lookup y = some .local := k'
        rcases L.free _ (PySem.mem_of_lookup k) rfl with k2 | k2 <;> rw [show X.env.scope.names.lookup y = _ from k2] at k' <;> cases k'
      · rw [c1] at e'
        cases e'
        exact cellK (I.freeC y _ c1) z
  · obtain ⟨w', z⟩ := I.cell y c (cm e)
    exact ⟨w', cellK (I.freeC y c (cm e)) z⟩
  · obtain ⟨v, o, ho, hd⟩ := I.cell y c (cm e)
    exact un.free c o ho (I.freeC y c (cm e)) (by simp)
/-- x(), in the def that got the lambda: Z is that def's context, entered at s -/
theorem pe_act3 {CXg : CXT} {Eg : XK} {Ng : List Str} {qg : Str} {sg : Scope} {g f c' : Addr} {cdg dV doc pm ctv : Value} {params : Arguments} {body : Expr} {scope : Scope} {k i : Nat} {a : Str} {pn : List (Addr × Obj)} {xe : Value → Shared → Prop} {W : WX} {E : XK} {tb : TE} {p1 p2 : Pos} {bl : List (Str × Value)}
    (I : Inv X pins σ H s) (L : LamS3 X.N X.env.scope scope ls) (hf : H f = some (ObjO f { cls := .type "function", data := .func (lamFd X params body scope dV doc pm (.ref c') ctv) })) (hco : H c' = some (CodeO c' (lamQ X)))
    (hbl : bl.map (·.1) = ls) (hbind : BindO X H (lamFd X params body scope dV doc pm (.ref c') ctv) bl)
    (tk : Takes ((cxOf CXg X.prog X.w X.K X.mg X.base Ng qg sg g cdg X.A X.stack s H Eg).tr pn xe) W) (hW : ∀ cls d σ' H', E cls d H' → W cls d σ' H') (hr : Room (k + 1) (X.A.deeper (envOfC qg sg s.heap.objs.size g cdg)))
    (hbody : ∀ (A : Around) (outer : List Env) (s : Shared) (H : Hp), Room k (A.deeper (lamEnv X scope s.heap.objs.size f c')) → PE (lamCx X A outer s H E scope f c') body tb)
    (hN : Ng[i]? = some a) (hv : Vis sg a) (hd : (a == ("__debug__" : Str)) = false := by decide) (hcd : (a == ("__classdict__" : Str)) = false := by decide) :
    PE ((cxOf CXg X.prog X.w X.K X.mg X.base Ng qg sg g cdg X.A X.stack s H Eg).tr pn xe) (.Call (.Name a p1) [] [] p2)
      (fun σZ HZ Q => σZ[i]? = some (some (.ref f)) ∧ ExtN H HZ ∧ tb σ HZ Q) := by
  refine ⟨fun pinsZ sZ σZ HZ Q IZ h => ?_⟩
  obtain ⟨hs, eN, ht⟩ := h
  refine wpAny_Call_Name_kw (thn ((pe_var (pos := p1) (i := i) hN hv hd hcd).run pinsZ sZ σZ HZ (fun v H1 => v = .ref f ∧ H1 = HZ) IZ ⟨.ref f, hs, rfl, rfl⟩) fun u s1 ⟨v, H1, I1, r1, q1⟩ => ?_)
  obtain ⟨ev, eH⟩ := q1
  subst ev
  rw [eH] at I1
  obtain rfl : u = Value.ref f := r1
  have of1 := objO_at I1.hok (eN _ _ hf (fun ps z => by unfold ObjO at z; cases z))
  refine PySem.W.callWith_F0 ⟨_, _, _, _, of1⟩ ?_
  have un : Un (frs X.stack) [] H HZ s.heap s1.heap := I1.base
  obtain ⟨⟨oc, vs, t, hoc, hdc, hvc⟩, _, _⟩ := I1.hok c' _ (eN _ _ hco codeO_ne)
  have hlb : ∀ y ∈ bl, scope.names.lookup y.1 = some .local := fun y hy => L.par _ (by rw [← hbl]; exact List.mem_map_of_mem hy)
  have rc : codeAny (model X.prog X.w) (X.A.deeper (envOfC qg sg s.heap.objs.size g cdg)) (.call (.ref f) ⟨[], []⟩) (CR (L2.CX X.prog X.w) (envOfC qg sg s.heap.objs.size g cdg :: X.stack) X.prog X.w HZ s1 Q E) s1 := by
    refine PySem.W.kla_callFunE hr.depth of1 rfl L.co L.gen rfl ⟨c', oc, vs, t, rfl, hoc, hdc, hvc⟩ ?_
    refine hbind HZ s1 eN I1.hok _ _ _ _ (wpAny_newFunctionEnv (fun y hy => (L.own y hy).1) hlb (fun h₁ hns hsb => ⟨I1.nolimit.fresh _ hsb, ?_⟩) L.kind)
    show codeAny _ _ (.expr body (lamEnv X scope s1.heap.objs.size f c')) _ _
    have kp : ∀ b o, s1.heap.get? b = some o → h₁.get? b = some o := fun b o e => hsb.extBut b o (Nat.ne_of_lt (Heap.lt_size e)) (Heap.get?_push_of_some _ e)
    have J : Inv (lamCx X (X.A.deeper (envOfC qg sg s.heap.objs.size g cdg)) (envOfC qg sg s.heap.objs.size g cdg :: X.stack) s1 HZ E scope f c') [] σ HZ { s1 with heap := h₁, toks := s1.toks + bl.length } :=
      lam_start3 I L I1.env0 hr.hd un hns kp
    refine PySem.W.kla_codeExpr (wpAny_mono ((hbody _ _ s1 HZ (hr.deeper _)).run [] _ _ HZ Q J ht) (fun v s' hq => ?_) fun e s' hq => hq)
    obtain ⟨w', H', J', rv, q⟩ := hq
    exact ⟨w', H', J'.os, J'.bare, J'.base, J'.hok, rv, q⟩
  have hx : Passes (L2.CX X.prog X.w) ((cxOf CXg X.prog X.w X.K X.mg X.base Ng qg sg g cdg X.A X.stack s H Eg).tr pn xe) E := passes_call tk hW
  refine wpAny_call (codeAny_mono rc fun r s' hq => ?_)
  cases r with
  | error e => exact hx pinsZ σZ HZ s1 e s' I1 hq
  | ok fl =>
    cases fl with
    | ret u => exact I1.after hq
    | next => exact False.elim hq
    | brk => exact False.elim hq
    | cont => exact False.elim hq
end
end Fw
set_option Elab.async false
set_option linter.all false
set_option maxRecDepth 100000
set_option maxHeartbeats 4000000
namespace Fw
open PySem PySem.Spec PyProof.Rows L2 LamX

/-! ## word(lambda: body): the word of what the body raises -/
def mWord (wordOf : Nat → Dt → Option Dt) (m : En → Mo Dt) : En → Mo Dt := fun ρ => ((m ρ).bind fun _ => .ret (.str [])).catch fun c d => match wordOf c d with | some w => .ret w | none => .err
theorem Made.exte {X : Cx} {Tz : Tbs} {H H1 : Hp} {f c' r : Addr} {fd : FuncData} {Z : Addr → Prop} (m : Made X Tz.t H H1 f c' fd) (w : Wf (X.gd Tz) r Z H) : Ext (X.gd Tz) r Z H Z H1 := by
  have fz : Frz Z H Z H1 := fun a z => ⟨z, by
    obtain ⟨o, e, n⟩ := w.al a z
    rw [e]
    exact m.ext a o e (of_nTb n)⟩
  refine ⟨⟨?_, w.rz, fun a z => ?_, m.tb⟩, fun a o _ e n => m.ext a o e (of_nTb n), m.tg, fun a z => z, fun a z => .inl z⟩
  · obtain ⟨a, ns, i, s, k, e, hs, q⟩ := w.row
    exact ⟨a, ns, i, s, k, m.ext r _ e (fun ps z => by cases z), hs.frz fz, q⟩
  · obtain ⟨o, e, n⟩ := w.al a z
    exact ⟨o, m.ext a o e (of_nTb n), n⟩
section
variable {X : Cx} {Tz : Tbs} {XR : XRel} {E : Sg → XK} {wordOf : Nat → Dt → Option Dt} {x a en : Str} {st : Stmt} {Ng ls : List Str} {cd P : Addr} {k j : Nat} {params : Arguments} {body : Expr} {scope : Scope} {m : En → Mo Dt} {p lpos pos p1 p2 p3 p4 p5 p6 p7 p8 : Pos} {b₀ : Stmt} {suite : List Stmt} {CL : Addr}
theorem e_lamW (D : Df X.K X.mg x st [a]) (S : FnScope Ng [a] (defScope st)) (hg : Gl X x)
    (hbg : defBody st = [.Try [.Expr (.Call (.Name a p1) [] [] p2) p3] [.ExceptHandler (some (.Name "LogicError" p4)) (some en) (b₀ :: suite) p5] [] [] p6, .Return (some (.Constant (.str "") j p7)) p8])
    (hNg : Ng[0]? = some a) (hNe : Ng[1]? = some en) (hva : Vis (defScope st) a) (hen : (defScope st).names.lookup en = some .local) (hle : (defScope st).names.lookup ("LogicError" : Str) = some NameKind.globalImplicit)
    (gL : X.mg "LogicError" = some (.ref CL)) (hx : ∀ c d wd nm, wordOf c d = some wd → clsN[c]? = some nm → Xn X.K X.mg "LogicError" nm)
    (hsu : ∀ (c : Nat) (d wd : Dt) (nm : Str) (C : Addr), wordOf c d = some wd → clsN[c]? = some nm → X.mg nm = some (.ref C) → ∀ (A : Around) (outer : List Env) (s : Shared) (H : Hp) (g : Addr) (cdv : Value) (a : Addr) (oe : Obj) (od : Option Addr) (pn : List (Addr × Obj)), Zc (.ref C) od oe → (∃ vs, oe.data = .fields vs) →
      PSs ((cxOf C8.CX0 X.prog X.w X.K X.mg X.base Ng x (defScope st) g cdv A outer s H C8.E0).nox.suite a ((a, oe) :: pn)) (b₀ :: suite) (fun D σ H => σ[1]? = some (some (.ref a)) ∧ XD H c d od ∧ ∃ r Z, Wf (X.gd Tz) r Z H ∧ PV (X.gd Tz) r Z H D.rt wd))
    (lp : LPar params body scope ls) (hcode : X.env.code = .ref cd) (TB : TabB X.base X.mg cd P) (hm : (P, lamQ X) ∈ Tz.t) (hu : ∀ p ∈ Tz.t, p.1 = P → p.2 = lamQ X) (hr : Room (k + 2) X.A) (L : LamS3 X.N X.env.scope scope ls)
    (hb : ∀ (A : Around) (outer : List Env) (s : Shared) (H : Hp) (E : XK) (f c' : Addr), Room k (A.deeper (lamEnv X scope s.heap.objs.size f c')) → PE (lamCx X A outer s H E scope f c') body (tM (X.gd Tz) (XRm X.mg) (WE fun cls d _ H => E cls d H) m))
    (hdb : (x == ("__debug__" : Str)) = false := by decide) (hd : (a == ("__debug__" : Str)) = false := by decide) (hcd : (a == ("__classdict__" : Str)) = false := by decide) :
    PE X (.Call (.Name x p) [.Lambda params body scope lpos] [] pos) (tM (X.gd Tz) XR E (mWord wordOf m)) := by
  refine ⟨fun pins s σ H Q I ⟨r, Z, ρ, w, st0, h⟩ => ?_⟩
  obtain ⟨g, fd, F, gm, b⟩ := D.ex
  obtain ⟨oc, od, kV, doc, pm, an, cdv, ct, osl, rfl, lk, hcg⟩ := F.ex
  have h2 := Mo.wp_bind.mp (Mo.wp_catch.mp h)
  refine wpAny_Call_Name_kw (ld_glob I hg gm ?_ hdb)
  refine PySem.W.callWith_K (h₀ := X.base) I.ok.mod.kin F.kp ?_ (by rfl) (by rfl)
  show wpAny _ _ (spliced ((false, eval (.Lambda params body scope lpos) X.env) :: backTo pos (starEach [] X.env))) _ _ s
  refine Calls.spliced_cons (lam_make3 lp I TB hcode hm hu w.tb (L.has I.ok) fun f c' dV doc' pm' ctv bl H1 s' I1 md hbl hbo _ => ?_)
  refine Calls.spliced_nil ⟨I1.kIn, ?_⟩
  have e1 := md.exte w
  have h3 := h2.mono (fun _ q => q) fun _ _ q => q
  have rc : codeAny (model X.prog X.w) X.A (.call (.ref g) ⟨[.ref f], []⟩) (CR C8.CX0 X.stack X.prog X.w H1 s' Q C8.E0) s' := by
    refine run_ofS (N := Ng) (ps := [a]) (us := [.ref f]) (vs := [.ref f]) lk hcg S hr I1.env0 (b s' [.ref f] I1.kIn rfl) (.cons rfl .nil) rfl fun hr' => ?_
    rw [hbg]
    have hgl : Gl (cxOf C8.CX0 X.prog X.w X.K X.mg X.base Ng x (defScope st) g cdv X.A X.stack s' H1 C8.E0).nox "LogicError" := hle
    refine ⟨_, (pss_cons (ps_try_as (X := (cxOf C8.CX0 X.prog X.w X.K X.mg X.base Ng x (defScope st) g cdv X.A X.stack s' H1 C8.E0).nox) (c := .ref CL) (i := 1) (n := en) (Wout := fun _ _ _ _ => False)
        (tb := fun W D σ' H' => ∃ Ech : XK, (∀ cls d σ'' H'', Ech cls d H'' → W cls d σ'' H'') ∧ σ'[0]? = some (some (.ref f)) ∧ H' = H1 ∧ tM (X.gd Tz) (XRm X.mg) (WE fun cls d _ H => Ech cls d H) m σ H1 (fun _ H2 => D.nx σ' H2))
        (ts := fun aE cls od D σ' H' => ∃ c d wd nm C, wordOf c d = some wd ∧ clsN[c]? = some nm ∧ X.mg nm = some (.ref C) ∧ cls = .ref C ∧ (σ'.length = Ng.length → σ'[1]? = some (some (.ref aE))) ∧ XD H' c d od ∧ ∃ r Z, Wf (X.gd Tz) r Z H' ∧ PV (X.gd Tz) r Z H' D.rt wd)
        rfl rfl S.nd hNe hen ⟨hgl, by decide, .inl gL⟩ L2.takes0 (fun W pn xe tk _ => ?_) (fun aE oe cls od pn hz hfl => ?_)) (pss_one (ps_ret pe_str))).nox, ?_⟩
    · refine ⟨fun pins2 s2 σ2 H2 D2 I2 h' => ?_⟩
      obtain ⟨Ech, hW, h1', eH, h3'⟩ := h'
      subst eH
      have hp := pe_act3 (CXg := C8.CX0) (Eg := C8.E0) (Ng := Ng) (p1 := p1) (p2 := p2) (E := Ech) I1 L md.fo md.co hbl hbo tk hW hr' (fun A outer s H hr2 => hb A outer s H Ech f c' hr2) hNg hva hd hcd
      exact (pss_one (ps_expr (pos := p3) hp)).run pins2 s2 σ2 H2 D2 I2 ⟨h1', ExtN.refl _, h3'⟩
    · refine ⟨fun pins2 s2 σ2 H2 D2 I2 h' => ?_⟩
      obtain ⟨c, d, wd, nm, C, hw, hn, hC, ecl, hσ, hxd, r2, Z2, w2, pv2⟩ := h'
      subst ecl
      exact (hsu c d wd nm C hw hn hC X.A X.stack s' H1 g cdv aE oe od pn hz hfl).run pins2 s2 σ2 H2 D2 I2 ⟨hσ I2.len, hxd, r2, Z2, w2, pv2⟩
    · refine ⟨fun cls od H' => ∃ c d wd nm C Z', wordOf c d = some wd ∧ clsN[c]? = some nm ∧ X.mg nm = some (.ref C) ∧ cls = .ref C ∧ XD H' c d od ∧ Ext (X.gd Tz) r Z H1 Z' H' ∧ PV (X.gd Tz) r Z' H' Q wd, fun cls od σ'' H'' hE => ?_, rfl, rfl, r, Z, ρ, e1.wf, st0.ext w e1, h2.mono (fun d hd v H' Z' e rp => ?_) fun c d hcd => ?_⟩
      · obtain ⟨c, d, wd, nm, C, Z', hw, hn, hC, ecl, hxd, e2, pv⟩ := hE
        subst ecl
        refine ⟨true, (hx c d wd nm hw hn).ex CL C gL hC, fun _ aE hna => ⟨c, d, wd, nm, C, hw, hn, hC, rfl, fun hlen => ?_, hxd, r, Z', e2.wf, pv⟩, fun z => nomatch z⟩
        rw [List.getElem?_set_self]
        rw [List.length_set] at hlen
        rw [hlen]
        exact (List.getElem?_eq_some_iff.mp hNe).1
      · exact hd (.str (Fw.st [])) H' Z' (e1.trans e) Rep.mk_str
      · intro cv od H' Z' e xr
        obtain ⟨nm, C, hn, hC, ecv, xd⟩ := xr
        split at hcd
        · rename_i wd hw
          exact ⟨c, d, wd, nm, C, Z', hw, hn, hC, ecv, xd, e, PV.ext hcd (e1.trans e)⟩
        · exact hcd.elim
  refine wpAny_call (codeAny_mono rc fun r s2 hq => ?_)
  cases r with
  | error e => exact (show False from hq).elim
  | ok fl =>
    cases fl with
    | ret u => exact I1.after hq
    | next => exact False.elim hq
    | brk => exact False.elim hq
    | cont => exact False.elim hq
end
end Fw
set_option Elab.async false
set_option linter.all false
set_option maxRecDepth 100000
set_option maxHeartbeats 4000000
namespace Fw
open PySem PySem.Spec PyProof.Rows L2 LamX

/-! ## suites that ask isinstance(e, C) -/
structure Xi (K : PySem.W.Frag) (mg : Str → Option Value) (x y : Str) (b : Bool) : Prop where
  ex : ∃ D C, mg x = some (.ref D) ∧ mg y = some (.ref C) ∧ ExcC K D ∧ PySem.W.kitOne K (.ref D) (.ref C) = some b
section
variable {X : Cx} {a D C : Addr} {oe : Obj} {pn : List (Addr × Obj)} {i : Nat} {en y nm : Str} {q1 q2 q3 q4 : Pos} {b : Bool}
theorem pt_isE (i : Nat) (xi : Xi X.K X.mg nm y b) (hD : X.mg nm = some (.ref D)) (hz : Zc (.ref D) none oe) (hf : ∃ vs, oe.data = .fields vs) (hi : X.N[i]? = some en) (hv : Vis X.env.scope en) (hgI : Gl X "isinstance") (hmI : X.mg "isinstance" = none) (hgy : Gl X y)
    (hd1 : (en == ("__debug__" : Str)) = false := by decide) (hd2 : (en == ("__classdict__" : Str)) = false := by decide) (hd3 : (y == ("__debug__" : Str)) = false := by decide) :
    PT (X.suite a ((a, oe) :: pn)) (.Call (.Name "isinstance" q1) [.Name en q2, .Name y q3] [] q4) (fun σ H Q => σ[i]? = some (some (.ref a)) ∧ Q b H) := by
  obtain ⟨D', C, e1, e2, ec, ek⟩ := xi.ex
  rw [hD] at e1
  cases e1
  have hn : PE (X.suite a ((a, oe) :: pn)) (.Name en q2) (tVar i) := pe_var (X := X.suite a ((a, oe) :: pn)) hi hv hd1 hd2
  have hc : PE (X.suite a ((a, oe) :: pn)) (.Name y q3) (tC (.ref C)) := pe_glob (X := X.suite a ((a, oe) :: pn)) hgy e2 rfl hd3
  have hcall := call_isE (a := a) (pn := pn) ec hz hf
  refine PT.imp (pt_val (pe_callB (X := X.suite a ((a, oe) :: pn)) hcall hgI hmI PyProof.Rows.Boot.«isinstance» (pa_cons hn (pa_cons hc pa_nil)))) fun σ H Q ⟨hσ, hq⟩ => ?_
  exact ⟨.ref a, hσ, .ref C, .ref C, b, rfl, fun u h => h, ek, b, rfl, hq⟩
end
def wordA : Nat → Dt → Option Dt := fun c _ => match c with
  | 8 => some (.str [116, 101, 120, 116])
  | 9 => some (.str [105, 110, 118, 97, 108, 105, 100])
  | _ => none
section
variable {X : Cx} {c : Nat} {d wd : Dt} {nm en : Str} {C a : Addr} {oe : Obj} {od : Option Addr} {pn : List (Addr × Obj)} {Tz : Tbs} {j1 j2 j3 : Nat} {q1 q2 q3 q4 q5 q6 q7 q8 q9 q10 q11 q12 q13 q14 : Pos}
theorem suiteA_word (x1 : Xi X.K X.mg "NotText" "NotText" true) (x2 : Xi X.K X.mg "InvalidText" "NotText" false) (x3 : Xi X.K X.mg "InvalidText" "InvalidText" true) (hw : wordA c d = some wd) (hnm : clsN[c]? = some nm) (hC : X.mg nm = some (.ref C)) (hz : Zc (.ref C) od oe) (hf : ∃ vs, oe.data = .fields vs)
    (hi : X.N[1]? = some en) (hv : Vis X.env.scope en) (hgI : Gl X "isinstance") (hmI : X.mg "isinstance" = none) (hg1 : Gl X "NotText") (hg2 : Gl X "InvalidText") (hd1 : (en == ("__debug__" : Str)) = false := by decide) (hd2 : (en == ("__classdict__" : Str)) = false := by decide) :
    PSs (X.suite a ((a, oe) :: pn)) [.Return (some (.IfExp (.Call (.Name "isinstance" q1) [.Name en q2, .Name "NotText" q3] [] q4) (.Constant (.str "text") j1 q5) (.IfExp (.Call (.Name "isinstance" q6) [.Name en q7, .Name "InvalidText" q8] [] q9) (.Constant (.str "invalid") j2 q10) (.Constant (.str "other") j3 q11) q12) q13)) q14]
      (fun D σ H => σ[1]? = some (some (.ref a)) ∧ XD H c d od ∧ ∃ r Z, Wf (X.gd Tz) r Z H ∧ PV (X.gd Tz) r Z H D.rt wd) := by
  refine ⟨fun pins s σ H D I ⟨hσ, hxd, r, Z, w, pv⟩ => ?_⟩
  have hod : c ≠ 1 → od = none := fun n => by
    rcases hxd with ⟨e, _⟩ | ⟨_, e, _⟩
    · exact absurd e n
    · exact e
  unfold wordA at hw
  split at hw
  · cases hw
    cases hnm
    have e0 := hod (by decide)
    subst e0
    have h2 : PE (X.suite a ((a, oe) :: pn)) (.IfExp (.Call (.Name "isinstance" q6) [.Name en q7, .Name "InvalidText" q8] [] q9) (.Constant (.str "invalid") j2 q10) (.Constant (.str "other") j3 q11) q12) (fun σ H Q => False) := ⟨fun _ _ _ _ _ _ z => z.elim⟩
    refine (pss_one (ps_ret (pe_ifExp (pt_isE (X := X) 1 x1 hC hz hf hi hv hgI hmI hg1 hd1 hd2) pe_str h2))).run pins s σ H D I ⟨hσ, ?_⟩
    exact pv _ H Z (Ext.refl w) Rep.mk_str
  · cases hw
    cases hnm
    have e0 := hod (by decide)
    subst e0
    refine (pss_one (ps_ret (pe_ifExp (pt_isE (X := X) 1 x2 hC hz hf hi hv hgI hmI hg1 hd1 hd2) pe_str (pe_ifExp (pt_isE (X := X) 1 x3 hC hz hf hi hv hgI hmI hg2 hd1 hd2) pe_str pe_str)))).run pins s σ H D I ⟨hσ, hσ, ?_⟩
    exact pv _ H Z (Ext.refl w) Rep.mk_str
  · cases hw
end
end Fw
set_option Elab.async false
set_option linter.all false
set_option maxRecDepth 100000
set_option maxHeartbeats 4000000
namespace Fw
open PySem PySem.Spec PyProof.Rows L2 LamX

/-! ## the law, with a table for its lambdas -/
def spLawT (K : PySem.W.Frag) (Pa : Addr) : Sp := fun vs H Q _ => ∃ (a : Addr) (ns : List Int), vs = [.ref a] ∧ H Pa = some (.tbl #[]) ∧ SqL K H a (ns.map V.int) ∧ ns.length ≤ 63 ∧ ∀ H', Q (.bl true) H'
section
variable {P : Program} {w : World} {K : PySem.W.Frag} {mg : Str → Option Value} {base : Heap}
theorem lawMT {x q : Str} {st : Stmt} {f cd Pa : Addr} {N : List Str} {s0 : Stmt} {rest : List Stmt} {c : Int} {k : Nat} {m : En → Mo Fl} {kV doc pm ct oc : Value} {an od : Option Addr} {osl : Array (Option Value)}
    (lk : K.lookup f = some ⟨oc, od, .func (PySem.W.fnOf x x (defArgs st) (defBody st) (defScope st) .none kV doc pm an (.ref cd) ct), osl⟩) (hcd : PySem.W.codeIn K (.ref cd) x = true)
    (hp : 0 ≤ c ∧ c < 2147483647) (S : FnScope N ["_law_script"] (defScope st)) (hN : 1 < N.length) (hbd : defBody st = s0 :: rest)
    (h0 : ∀ (A : Around) (outer : List Env) (s : Shared) (H : Hp) (E : XK), PS (cxOf CX0 P w K mg base N x (defScope st) f (.ref cd) A outer s H E).nox s0 (tAsg (tLst (tCons (tVar 0) (tCons (tC (.int 0)) (tCons (tC (.int c)) (tCons (tC (.int 0)) tNil))))) (gName 1)))
    (hb : ∀ (A : Around) (outer : List Env) (s : Shared) (H : Hp) (E : XK), Room k (A.deeper (envOfC x (defScope st) s.heap.objs.size f (.ref cd))) →
      PSs (cxOf CX0 P w K mg base N x (defScope st) f (.ref cd) A outer s H E).nox rest (tS ⟨K, w.params, ⟨[(Pa, q)], [], []⟩⟩ XR0 EE m))
    (hm : ((m (.un :: .fz .row :: List.replicate (N.length - 2) .un)).bind flo).wp (fun d => d = .bl true) (fun _ _ => False)) :
    FnOk P w K mg base CX0 (k + 1) f (PySem.W.fnOf x x (defArgs st) (defBody st) (defScope st) .none kV doc pm an (.ref cd) ct) ["_law_script"] (spLawT K Pa) := by
  refine fn_of lk hcd S (fun vs H Q E h => ?_) fun A outer s H vs Q E hr h => ?_
  · obtain ⟨a, ns, rfl, _⟩ := h
    rfl
  · obtain ⟨a, ns, rfl, hT, hS, hl, hq⟩ := h
    rw [hbd]
    refine ⟨_, (pss_cons (h0 A outer s H E) (hb A outer s H E hr)).nox, ?_⟩
    refine ⟨.ref a, rfl, sl16 (show 4 ≤ 16777216 by decide), fun p hp' => ?_⟩
    show tS _ _ _ _ _ _ _
    have hsz : (L2.start N [V.ref a]) = some (.ref a) :: List.replicate (N.length - 1) none := rfl
    have key : ∃ Z : Addr → Prop, Wf ⟨K, w.params, ⟨[(Pa, q)], [], []⟩⟩ p Z (upd H p (.lst [.ref a, .int 0, .int c, .int 0])) := by
      have tb : Tabs [(Pa, q)] (upd H p (.lst [.ref a, .int 0, .int c, .int 0])) := fun t ht => by
        rcases List.mem_cons.mp ht with rfl | ht
        · exact TabS.nil (by rw [upd_ne (ne_of_none hT hp')]; exact hT)
        · cases ht
      rcases hS with h | h
      · refine ⟨fun b => b = a, ⟨⟨a, ns, 0, c, 0, upd_same, .inl ⟨rfl, ?_⟩, hl, by decide, hp.1, hp.2, by decide⟩, fun z => ?_, fun b z => ?_, tb⟩⟩
        · unfold Rd at h ⊢
          have n : a ≠ p := fun z => by
            subst z
            rcases h with h | ⟨_, h⟩ <;> rw [hp'] at h <;> cases h
          rw [upd_ne n]
          exact h
        · subst z
          unfold Rd at h
          rcases h with h | ⟨_, h⟩ <;> rw [hp'] at h <;> cases h
        · subst z
          unfold Rd at h
          rcases h with h | ⟨_, h⟩
          · exact ⟨_, (upd_ne (ne_of_none h hp')).trans h, True.intro⟩
          · exact ⟨_, (upd_ne (ne_of_none h hp')).trans h, True.intro⟩
      · exact ⟨fun _ => False, ⟨⟨a, ns, 0, c, 0, upd_same, .inr h, hl, by decide, hp.1, hp.2, by decide⟩, id, fun b z => z.elim, tb⟩⟩
    obtain ⟨Z, wf⟩ := key
    refine ⟨p, _, _, _, _, ⟨⟨?_, fun i v s h1 h2 => ?_, fun i j s t q h1 h2 o1 o2 s1 s2 => ?_⟩, Ext.refl wf, fun i s q h1 h2 h3 => ?_⟩, (Mo.wp_bind.mp hm).mono (fun fl hf => ?_) fun _ _ x => x.elim⟩
    · rw [hsz]
      simp only [List.length_set, List.length_cons, List.length_replicate]
      omega
    · match i, h2 with
      | 0, h2 => cases h2; trivial
      | 1, h2 =>
        cases h2
        rw [hsz, List.getElem?_set_self (by simp; omega)] at h1
        cases h1
        exact ⟨_, rfl, by unfold Rep; rfl⟩
      | i + 2, h2 =>
        have h3 : (List.replicate (N.length - 2) Slo.un)[i]? = some s := h2
        rw [(List.mem_replicate.mp (List.mem_of_getElem? h3)).2]
        trivial
    · have : s = .un ∨ s = .fz .row := by
        have := List.mem_of_getElem? h1
        rcases List.mem_cons.mp this with q | q
        · exact .inl q
        · rcases List.mem_cons.mp q with q | q
          · exact .inr q
          · exact .inl (List.mem_replicate.mp q).2
      rcases this with rfl | rfl <;> cases o1
    · have : s = .un ∨ s = .fz .row := by
        have := List.mem_of_getElem? h1
        rcases List.mem_cons.mp this with q | q
        · exact .inl q
        · rcases List.mem_cons.mp q with q | q
          · exact .inr q
          · exact .inl (List.mem_replicate.mp q).2
      rcases this with rfl | rfl <;> cases h2
    · cases fl with
      | nx ρ => cases hf
      | rt d =>
        cases (show d = .bl true from hf)
        exact fun v H' Z' e rp => by rw [rp.bl]; exact hq H'
      | bk ρ => exact hf.elim
      | ct ρ => exact hf.elim
end
end Fw
set_option Elab.async false
set_option linter.all false
set_option maxRecDepth 100000
set_option maxHeartbeats 4000000
namespace Fw
open PySem PySem.Spec PyProof.Rows L2

/-! ## a text times a number; s.upper() -/
theorem foldl_flat : ∀ (l : List (Array Nat)) (acc : Array Nat), (l.foldl (· ++ ·) acc).toList = acc.toList ++ (l.map (·.toList)).flatten
  | [], acc => by simp
  | a :: l, acc => by
    show (l.foldl (· ++ ·) (acc ++ a)).toList = _
    rw [foldl_flat l (acc ++ a)]
    simp
theorem mul_st (x : List Nat) (n : Int) : Txt.mul (st x) n = st (List.replicate n.toNat x).flatten := by
  unfold Txt.mul
  have e0 : (st x).cps = x.toArray := rfl
  split
  · rename_i h
    have : n.toNat = 0 := by omega
    rw [this]
    rfl
  · split
    · rename_i h1 h2
      have h2' : n = 1 ∨ (st x).length = 0 := by simpa using h2
      rcases h2' with h | h
      · subst h
        have : (1 : Int).toNat = 1 := rfl
        rw [this]
        simp
      · rw [st_length] at h
        have : x = [] := List.length_eq_zero_iff.mp h
        subst this
        have : (List.replicate n.toNat ([] : List Nat)).flatten = [] := by simp
        rw [this]
    · rw [e0]
      show (⟨(List.replicate n.toNat x.toArray).foldl (· ++ ·) #[]⟩ : Str) = ⟨((List.replicate n.toNat x).flatten).toArray⟩
      congr 1
      apply Array.toList_inj.mp
      rw [foldl_flat]
      simp
def mulSD : Dt → Dt → Option Dt
  | .str x, .int k => if 0 ≤ k ∧ k < 100000 ∧ x.length ≤ 100 then some (.str (List.replicate k.toNat x).flatten) else none
  | _, _ => none
section
variable {X : Cx} {Tz : Tbs}
theorem o_mulS : OpR X (binaryOp .Mult) (r2 (X.gd Tz) mulSD) := by
  rintro pins s σ H x y v u Q I rx ry ⟨r, Z, dx, dy, d, w, px, py, e, q⟩
  unfold mulSD at e
  split at e
  · rename_i xs k
    split at e
    · rename_i hc
      obtain ⟨h0, h1, h2⟩ := hc
      cases e
      rw [px.str] at rx
      rw [py.int] at ry
      obtain ⟨t, rfl⟩ := rx
      obtain ⟨t2, rfl⟩ := ry
      refine PySem.SB.mul ⟨?_, fun hn _ => ?_, fun hn _ => ?_⟩ fun t' kk => ?_
      · have e1 : decide (k < -(2 ^ 63 : Int)) = false := decide_eq_false (by omega)
        have e2 : decide (k ≥ 2 ^ 63) = false := decide_eq_false (by omega)
        rw [e1, e2]; rfl
      · rw [st_length]
        have : (100 : Int) ≤ (2 ^ 63 - 1) / k := by
          rw [Int.le_ediv_iff_mul_le (by omega)]
          omega
        omega
      · have hm : (st xs).length * k.toNat ≤ 100 * 100000 := Nat.mul_le_mul (by rw [st_length]; exact h2) (by omega)
        refine decide_eq_false ?_
        have hs : (16777216 : Nat) ≤ sizeLine := sl16 (Nat.le_refl _)
        omega
      · rw [mul_st]
        exact ⟨.str _, H, I.tok _, ⟨t', rfl⟩, PV.at w q Rep.mk_str⟩
    · cases e
  · cases e
end
def mUp (m : En → Mo Dt) : En → Mo Dt := fun ρ => (m ρ).bind fun d => match d with
  | .str x => if x.length ≤ 1000000 ∧ x.all (fun c => decide (c < 128)) = true then .ret (.str (x.map up1)) else .err
  | _ => .err
section
variable {X : Cx} {Tz : Tbs} {XR : XRel} {E : Sg → XK} {o : Expr} {m : En → Mo Dt} {p1 p2 : Pos}
theorem e_upper (ho : PE X o (tM (X.gd Tz) XR E m)) (hbase : attributeBase o "upper" X.env (eval o X.env) = eval o X.env := by rfl) (hline : (p1.endLine == p2.line) = true := by rfl) :
    PE X (.Call (.Attribute o "upper" p1) [] [] p2) (tM (X.gd Tz) XR E (mUp m)) := by
  refine ⟨fun pins s σ H Q I ⟨r, Z, ρ, w, s0, h⟩ => ?_⟩
  refine J1.ev_upper hbase hline (thn (ho.run pins s σ H (fun v H1 => ∃ x : List Nat, v = .str (st x) ∧ x.length ≤ 1000000 ∧ x.all (fun c => decide (c < 128)) = true ∧ Q (.str (st (x.map up1))) H1) I (tM.split w s0 h fun v H1 Z1 d e1 w1 s1 rp h1 => ?_)) fun u s1 ⟨v, H1, I1, r1, x, ev, hl, ha, q⟩ => ?_)
  · cases d with
    | str x =>
      replace h1 : (if x.length ≤ 1000000 ∧ x.all (fun c => decide (c < 128)) = true then Mo.ret (.str (x.map up1)) else Mo.err).wp (PV (X.gd Tz) r Z H Q) (PX (X.gd Tz) XR r Z H (E σ)) := h1
      split at h1
      · rename_i hc
        exact ⟨x, rp.str, hc.1, hc.2, h1 _ H1 Z1 e1 Rep.mk_str⟩
      · exact h1.elim
    | _ => exact h1.elim
  · subst ev
    obtain ⟨t, rfl⟩ := r1
    refine ⟨st x, t, rfl, by rw [st_length]; omega, fun t' k => ⟨.str (st (x.map up1)), H1, I1.tok _, ⟨t', ?_⟩, q⟩⟩
    rw [PyProof.Rows.upper_ascii (x := st x) (fun c hc => of_decide_eq_true (List.all_eq_true.mp ha c (by rw [cps_st] at hc; exact hc)))]
    congr 1
    show (⟨(x.toArray).map up1⟩ : Str) = ⟨(x.map up1).toArray⟩
    simp
end
end Fw
set_option Elab.async false
set_option linter.all false
set_option maxRecDepth 100000
set_option maxHeartbeats 4000000
namespace Fw
open PySem PySem.Spec PyProof.Rows L2 LamX

/-! ## lambdas as data -/
theorem codeO_ext (c : Addr) (q : Str) : ∃ φ, CodeO c q = .ext φ := ⟨_, rfl⟩
theorem Made.lam {X : Cx} {Tz : Tbs} {H H1 : Hp} {f c' r : Addr} {Z : Addr → Prop} {params : Arguments} {body : Expr} {scope : Scope} {dV doc pm ctv : Value} {i : Nat} (m : Made X Tz.t H H1 f c' (lamFd X params body scope dV doc pm (.ref c') ctv)) (w : Wf (X.gd Tz) r Z H)
    (hd : DflO H H1 params dV) (hl : Tz.l[i]? = some ⟨lamQ X, params, body, scope⟩) (hc : X.env.cells = Tz.c) : ∃ Z', Ext (X.gd Tz) r Z H Z' H1 ∧ LamAt (X.gd Tz) Z' H1 f i := by
  have e := m.exte w
  have anyE : ∀ {a : Addr} {φ : Heap → Prop}, H1 a = some (.ext φ) → H a = none ∨ ∃ φ, H a = some (.ext φ) := fun {a φ} h => by
    cases q : H a with
    | none => exact .inl rfl
    | some o =>
      rcases tb_or o with n | ⟨ps, rfl⟩
      · have q1 := m.ext a o q (of_nTb n)
        rw [h] at q1
        cases q1
        exact .inr ⟨_, rfl⟩
      · obtain ⟨qs, q1⟩ := m.tg a ps q
        rw [h] at q1
        cases q1
  have nr : ∀ {φ : Heap → Prop}, H1 r ≠ some (.ext φ) := fun {φ} h => by
    obtain ⟨a, ns, i, s, k, q, _⟩ := e.wf.row
    rw [q] at h
    cases h
  let Z' : Addr → Prop := fun a => Z a ∨ a = f ∨ a = c' ∨ dV = .ref a
  have z1 : ∀ a, Z' a → Z a ∨ ∃ φ, H1 a = some (.ext φ) := fun a z => by
    rcases z with z | rfl | rfl | z
    · exact .inl z
    · exact .inr ⟨_, m.fo⟩
    · exact .inr ⟨_, m.co⟩
    · rcases hd with ⟨_, d⟩ | ⟨_, T0, z0, t, d, _, h3⟩
      · rw [d] at z; cases z
      · rw [d] at z; cases z; exact .inr ⟨_, h3⟩
  refine ⟨Z', ⟨⟨?_, fun z => ?_, fun a z => ?_, m.tb⟩, e.grow, m.tg, fun a z => .inl z, fun a z => ?_⟩, ⟨lamQ X, params, body, scope⟩, c', dV, doc, pm, ctv, hl, .inr (.inl rfl), ?_, .inr (.inr (.inl rfl)), m.co, ?_⟩
  · obtain ⟨a, ns, i, s, k, q, hs, x⟩ := e.wf.row
    exact ⟨a, ns, i, s, k, q, hs.frz fun a z => ⟨.inl z, rfl⟩, x⟩
  · rcases z1 r z with z | ⟨φ, z⟩
    · exact w.rz z
    · exact nr z
  · rcases z1 a z with z | ⟨φ, z⟩
    · exact e.wf.al a z
    · exact ⟨_, z, trivial⟩
  · rcases z1 a z with z | ⟨φ, z⟩
    · exact .inl z
    · exact .inr (anyE z)
  · show H1 f = some (ObjO f { cls := .type "function", data := .func (PySem.W.kdv_fn "<lambda>" (lamQ X) params (.expr body) scope (cloFrom Tz.c scope.names []) dV doc pm (.ref c') ctv) })
    rw [← hc]
    exact m.fo
  · rcases hd with ⟨d0, d⟩ | ⟨d0, T0, z0, t, d, _, h3⟩
    · exact .inl ⟨d0, d⟩
    · exact .inr ⟨d0, T0, z0, t, d, .inr (.inr (.inr d)), h3⟩
section
variable {X : Cx} {Tz : Tbs} {XR : XRel} {E : Sg → XK} {ls : List Str} {cd P : Addr} {i : Nat} {params : Arguments} {body : Expr} {scope : Scope} {lpos : Pos}
theorem e_lam (i : Nat) (hl : Tz.l[i]? = some ⟨lamQ X, params, body, scope⟩) (hc : X.env.cells = Tz.c) (lp : LPar params body scope ls) (hcode : X.env.code = .ref cd) (TB : TabB X.base X.mg cd P) (hm : (P, lamQ X) ∈ Tz.t) (hu : ∀ p ∈ Tz.t, p.1 = P → p.2 = lamQ X) (L : LamS3 X.N X.env.scope scope ls) :
    PE X (.Lambda params body scope lpos) (tM (X.gd Tz) XR E fun _ => .ret (.lam i)) := by
  refine ⟨fun pins s σ H Q I ⟨r, Z, ρ, w, st0, h⟩ => lam_make3 lp I TB hcode hm hu w.tb (L.has I.ok) fun f c' dV doc pm ctv bl H1 s' I1 md hbl hbo hd => ?_⟩
  obtain ⟨Z', e, la⟩ := md.lam w hd hl hc
  exact ⟨.ref f, H1, I1, rfl, h _ H1 Z' e (by unfold Rep; exact ⟨f, rfl, la⟩)⟩
/-- what a lambda binds, from what it is -/
theorem LamAt.bind {Z : Addr → Prop} {H : Hp} {f : Addr} {i : Nat} (h : LamAt (X.gd Tz) Z H f i) {R : LamRec} (hl : Tz.l[i]? = some R) (lp : LPar R.params R.body R.scope ls) : ∃ (c' : Addr) (dV doc pm ctv : Value) (bl : List (Str × Value)),
    H f = some (ObjO f { cls := .type "function", data := .func (PySem.W.kdv_fn "<lambda>" R.q R.params (.expr R.body) R.scope (cloFrom Tz.c R.scope.names []) dV doc pm (.ref c') ctv) }) ∧ H c' = some (CodeO c' R.q) ∧ bl.map (·.1) = ls ∧
    BindO X H (PySem.W.kdv_fn "<lambda>" R.q R.params (.expr R.body) R.scope (cloFrom Tz.c R.scope.names []) dV doc pm (.ref c') ctv) bl := by
  obtain ⟨R', c', dV, doc, pm, ctv, e1, z1, h1, z2, h2, d⟩ := h
  have e1 : Tz.l[i]? = some R' := e1
  rw [hl] at e1
  cases e1
  cases lp with
  | none h0 q1 q2 =>
    rcases d with ⟨_, d⟩ | ⟨d0, _⟩
    · subst d
      exact ⟨c', _, doc, pm, ctv, [], h1, h2, rfl, fun _ _ _ _ => BindsTo.of_eq (q2 _ _ _ _ _ _)⟩
    · exact absurd h0 d0
  | @one a z j p q1 q2 q3 =>
    rcases d with ⟨d0, _⟩ | ⟨_, T0, z, t, d, z3, h3⟩
    · rw [q1] at d0; cases d0
    · subst d
      refine ⟨c', _, doc, pm, ctv, [(a, Value.int z t)], h1, h2, rfl, fun H3 s3 e3 hok3 => ?_⟩
      obtain ⟨k, e1, e2⟩ := q3 R.q (cloFrom Tz.c R.scope.names []) (.ref T0) doc pm (.ref c') ctv
      have q2 := e3 _ _ h3 (fun ps z => by unfold ObjO at z; cases z)
      exact BindsTo.of_defaults rfl (objO_at hok3 q2) rfl e1 (e2 _)
end
/-! ## word(e), e being a lambda of the caller's -/
def mWrong1 (wordOf : Nat → Dt → Option Dt) (m : En → Mo Dt) (ρ : En) : Mo Dt := ((m ρ).bind fun _ => .ret (.str [])).catch fun c d => match wordOf c d with | some w => .ret w | none => .err
def mWrong (wordOf : Nat → Dt → Option Dt) (ms : Nat → Option (En → Mo Dt)) (me : En → Mo Dt) : En → Mo Dt := fun ρ => (me ρ).bind fun d => match d with
  | .lam i => (match ms i with | some m => mWrong1 wordOf m ρ | none => .err)
  | _ => .err
/-- what a lambda's body computes, run over its maker's names -/
structure LamOk (X : Cx) (Tz : Tbs) (k : Nat) (i : Nat) (m : En → Mo Dt) : Prop where
  ex : ∃ (R : LamRec) (ls : List Str), Tz.l[i]? = some R ∧ R.q = lamQ X ∧ LPar R.params R.body R.scope ls ∧ LamS3 X.N X.env.scope R.scope ls ∧
    ∀ (A : Around) (outer : List Env) (s : Shared) (H : Hp) (E : XK) (f c' : Addr), Room k (A.deeper (lamEnv X R.scope s.heap.objs.size f c')) → PE (lamCx X A outer s H E R.scope f c') R.body (tM (X.gd Tz) (XRm X.mg) (WE fun cls d _ H => E cls d H) m)
section
variable {X : Cx} {Tz : Tbs} {XR : XRel} {E : Sg → XK} {wordOf : Nat → Dt → Option Dt} {x a en : Str} {st : Stmt} {Ng : List Str} {k j : Nat} {e : Expr} {me : En → Mo Dt} {ms : Nat → Option (En → Mo Dt)} {p pos p1 p2 p3 p4 p5 p6 p7 p8 : Pos} {b₀ : Stmt} {suite : List Stmt} {CL : Addr}
theorem e_wrong (D : Df X.K X.mg x st [a]) (S : FnScope Ng [a] (defScope st)) (hg : Gl X x)
    (hbg : defBody st = [.Try [.Expr (.Call (.Name a p1) [] [] p2) p3] [.ExceptHandler (some (.Name "LogicError" p4)) (some en) (b₀ :: suite) p5] [] [] p6, .Return (some (.Constant (.str "") j p7)) p8])
    (hNg : Ng[0]? = some a) (hNe : Ng[1]? = some en) (hva : Vis (defScope st) a) (hen : (defScope st).names.lookup en = some .local) (hle : (defScope st).names.lookup ("LogicError" : Str) = some NameKind.globalImplicit)
    (gL : X.mg "LogicError" = some (.ref CL)) (hx : ∀ c d wd nm, wordOf c d = some wd → clsN[c]? = some nm → Xn X.K X.mg "LogicError" nm)
    (hsu : ∀ (c : Nat) (d wd : Dt) (nm : Str) (C : Addr), wordOf c d = some wd → clsN[c]? = some nm → X.mg nm = some (.ref C) → ∀ (A : Around) (outer : List Env) (s : Shared) (H : Hp) (g : Addr) (cdv : Value) (a : Addr) (oe : Obj) (od : Option Addr) (pn : List (Addr × Obj)), Zc (.ref C) od oe → (∃ vs, oe.data = .fields vs) → Room k (A.deeper (envOfC x (defScope st) s.heap.objs.size g cdv)) →
      PSs ((cxOf C8.CX0 X.prog X.w X.K X.mg X.base Ng x (defScope st) g cdv A outer s H C8.E0).nox.suite a ((a, oe) :: pn)) (b₀ :: suite) (fun D σ H => σ.length = Ng.length ∧ σ[1]? = some (some (.ref a)) ∧ XD H c d od ∧ ∃ r Z, Wf (X.gd Tz) r Z H ∧ PV (X.gd Tz) r Z H D.rt wd))
    (hc : X.env.cells = Tz.c) (hr : Room (k + 2) X.A) (he : PE X e (tM (X.gd Tz) XR E me)) (hb : ∀ i m, ms i = some m → LamOk X Tz k i m)
    (hs : starEach [e] X.env = (false, eval e X.env) :: starEach [] X.env := by rfl)
    (hdb : (x == ("__debug__" : Str)) = false := by decide) (hd : (a == ("__debug__" : Str)) = false := by decide) (hcd : (a == ("__classdict__" : Str)) = false := by decide) :
    PE X (.Call (.Name x p) [e] [] pos) (tM (X.gd Tz) XR E (mWrong wordOf ms me)) := by
  refine ⟨fun pins s σ H Q I ⟨r, Z, ρ, w, st0, h⟩ => ?_⟩
  obtain ⟨g, fd, F, gm, b⟩ := D.ex
  obtain ⟨oc, od, kV, doc, pm, an, cdv, ct, osl, rfl, lk, hcg⟩ := F.ex
  refine wpAny_Call_Name_kw (ld_glob I hg gm ?_ hdb)
  refine PySem.W.callWith_K (h₀ := X.base) I.ok.mod.kin F.kp ?_ hs (by rfl)
  rw [hs]
  show wpAny _ _ (spliced ((false, eval e X.env) :: backTo pos (starEach [] X.env))) _ _ s
  refine Calls.spliced_cons (thn (he.run pins s σ H (fun v H1 => ∃ Z1 d, Ext (X.gd Tz) r Z H Z1 H1 ∧ Rep (X.gd Tz) r Z1 H1 v d ∧ (match d with
    | .lam i => (match ms i with | some m => mWrong1 wordOf m ρ | none => .err)
    | _ => Mo.err).wp (PV (X.gd Tz) r Z H Q) (PX (X.gd Tz) XR r Z H (E σ))) I (tM.split w st0 h fun v H1 Z1 d e1 w1 s1 rp hk => ⟨Z1, d, e1, rp, hk⟩)) fun u s' ⟨v, H1, I1, r1, hv⟩ => ?_)
  obtain ⟨Z1, d, e1, rp, h1⟩ := hv
  refine Calls.spliced_nil ⟨I1.kIn, ?_⟩
  have w1 := e1.wf
  have st1 := st0.ext w e1
  cases d with
  | lam i =>
    unfold Rep at rp
    obtain ⟨f, ev, la⟩ := rp
    subst ev
    obtain rfl : u = Value.ref f := r1
    have h1 : (match ms i with | some m => mWrong1 wordOf m ρ | none => Mo.err).wp (PV (X.gd Tz) r Z H Q) (PX (X.gd Tz) XR r Z H (E σ)) := h1
    cases hmi : ms i with
    | none => rw [hmi] at h1; exact h1.elim
    | some m =>
      rw [hmi] at h1
      obtain ⟨R, ls, hl, hq, lp, L, hbody⟩ := (hb i m hmi).ex
      obtain ⟨c', dV, doc', pm', ctv, bl, fo, co, hbl, hbo⟩ := la.bind hl lp
      rw [hq, ← hc] at fo hbo
      rw [hq] at co
      have h2 := Mo.wp_bind.mp (Mo.wp_catch.mp h1)
      have rc : codeAny (model X.prog X.w) X.A (.call (.ref g) ⟨[.ref f], []⟩) (CR C8.CX0 X.stack X.prog X.w H1 s' Q C8.E0) s' := by
        refine run_ofS (N := Ng) (ps := [a]) (us := [.ref f]) (vs := [.ref f]) lk hcg S hr I1.env0 (b s' [.ref f] I1.kIn rfl) (.cons rfl .nil) rfl fun hr' => ?_
        rw [hbg]
        have hgl : Gl (cxOf C8.CX0 X.prog X.w X.K X.mg X.base Ng x (defScope st) g cdv X.A X.stack s' H1 C8.E0).nox "LogicError" := hle
        refine ⟨_, (pss_cons (ps_try_as (X := (cxOf C8.CX0 X.prog X.w X.K X.mg X.base Ng x (defScope st) g cdv X.A X.stack s' H1 C8.E0).nox) (c := .ref CL) (i := 1) (n := en) (Wout := fun _ _ _ _ => False)
            (tb := fun W D σ' H' => ∃ Ech : XK, (∀ cls d σ'' H'', Ech cls d H'' → W cls d σ'' H'') ∧ σ'[0]? = some (some (.ref f)) ∧ H' = H1 ∧ tM (X.gd Tz) (XRm X.mg) (WE fun cls d _ H => Ech cls d H) m σ H1 (fun _ H2 => D.nx σ' H2))
            (ts := fun aE cls od D σ' H' => ∃ c d wd nm C, wordOf c d = some wd ∧ clsN[c]? = some nm ∧ X.mg nm = some (.ref C) ∧ cls = .ref C ∧ (σ'.length = Ng.length → σ'[1]? = some (some (.ref aE))) ∧ XD H' c d od ∧ ∃ r Z, Wf (X.gd Tz) r Z H' ∧ PV (X.gd Tz) r Z H' D.rt wd)
            rfl rfl S.nd hNe hen ⟨hgl, by decide, .inl gL⟩ L2.takes0 (fun W pn xe tk _ => ?_) (fun aE oe cls od pn hz hfl => ?_)) (pss_one (ps_ret pe_str))).nox, ?_⟩
        · refine ⟨fun pins2 s2 σ2 H2 D2 I2 h' => ?_⟩
          obtain ⟨Ech, hW, h1', eH, h3'⟩ := h'
          subst eH
          have hp := pe_act3 (CXg := C8.CX0) (Eg := C8.E0) (Ng := Ng) (p1 := p1) (p2 := p2) (E := Ech) I1 L fo co hbl hbo tk hW (hr'.mono (Nat.le_refl _)) (fun A outer s H hr2 => hbody A outer s H Ech f c' hr2) hNg hva hd hcd
          exact (pss_one (ps_expr (pos := p3) hp)).run pins2 s2 σ2 H2 D2 I2 ⟨h1', ExtN.refl _, h3'⟩
        · refine ⟨fun pins2 s2 σ2 H2 D2 I2 h' => ?_⟩
          obtain ⟨c, d, wd, nm, C, hw, hn, hC, ecl, hσ, hxd, r2, Z2, w2, pv2⟩ := h'
          subst ecl
          exact (hsu c d wd nm C hw hn hC X.A X.stack s' H1 g cdv aE oe od pn hz hfl (hr'.mono (Nat.le_succ _))).run pins2 s2 σ2 H2 D2 I2 ⟨I2.len, hσ I2.len, hxd, r2, Z2, w2, pv2⟩
        · refine ⟨fun cls od H' => ∃ c d wd nm C Z', wordOf c d = some wd ∧ clsN[c]? = some nm ∧ X.mg nm = some (.ref C) ∧ cls = .ref C ∧ XD H' c d od ∧ Ext (X.gd Tz) r Z1 H1 Z' H' ∧ PV (X.gd Tz) r Z' H' Q wd, fun cls od σ'' H'' hE => ?_, rfl, rfl, r, Z1, ρ, w1, st1, h2.mono (fun d hd v H' Z' e rp => ?_) fun c d hcd => ?_⟩
          · obtain ⟨c, d, wd, nm, C, Z', hw, hn, hC, ecl, hxd, e2, pv⟩ := hE
            subst ecl
            refine ⟨true, (hx c d wd nm hw hn).ex CL C gL hC, fun _ aE hna => ⟨c, d, wd, nm, C, hw, hn, hC, rfl, fun hlen => ?_, hxd, r, Z', e2.wf, pv⟩, fun z => nomatch z⟩
            rw [List.getElem?_set_self]
            rw [List.length_set] at hlen
            rw [hlen]
            exact (List.getElem?_eq_some_iff.mp hNe).1
          · exact hd (.str (Fw.st [])) H' Z' (e1.trans e) Rep.mk_str
          · intro cv od H' Z' e xr
            obtain ⟨nm, C, hn, hC, ecv, xd⟩ := xr
            split at hcd
            · rename_i wd hw
              exact ⟨c, d, wd, nm, C, Z', hw, hn, hC, ecv, xd, e, PV.ext hcd (e1.trans e)⟩
            · exact hcd.elim
      refine wpAny_call (codeAny_mono rc fun r s2 hq => ?_)
      cases r with
      | error e => exact (show False from hq).elim
      | ok fl =>
        cases fl with
        | ret u => exact I1.after hq
        | next => exact False.elim hq
        | brk => exact False.elim hq
        | cont => exact False.elim hq
  | _ => exact False.elim h1
end
end Fw
set_option Elab.async false
set_option linter.all false
set_option maxRecDepth 100000
set_option maxHeartbeats 1000000
namespace Fw
open PySem PySem.Spec PyProof.Rows L2 LamX

/-! ## a maker: a def whose last statement gives lambdas over its own names back -/
structure PSr (X : Cx) (body : List Stmt) (t : (V → Sg → Hp → Prop) → Sg → Hp → Prop) : Prop where
  run : ∀ (pins : List (Addr × Obj)) (s : Shared) (σ : Sg) (H : Hp) (Q : V → Sg → Hp → Prop), Inv X pins σ H s → t Q σ H → wpAny (model X.prog X.w) X.A (execs body X.env) (fun fl s' => ∃ u v σ' H', fl = .ret u ∧ Inv X pins σ' H' s' ∧ RelV v u ∧ Q v σ' H') X.xe s
def tR (G : Gd) (XR : XRel) (E : Sg → XK) (m : En → Mo (Dt × En)) (Q : V → Sg → Hp → Prop) (σ : Sg) (H : Hp) : Prop := ∃ r Z ρ Z0 H0, At G r Z0 H0 Z H σ ρ ∧ (m ρ).wp (fun p => ∀ v σ' H' Z', At G r Z0 H0 Z' H' σ' p.2 → Rep G r Z' H' v p.1 → Q v σ' H') (PXS G XR r Z0 H0 E)
def mSqR (n : En → Mo Fl) (k : En → Mo (Dt × En)) : En → Mo (Dt × En) := fun ρ => (n ρ).bind fun f => match f with | .nx ρ' => k ρ' | _ => .err
def mRetR (m : En → Mo Dt) : En → Mo (Dt × En) := fun ρ => (m ρ).bind fun d => .ret (d, ρ)
section
variable {X : Cx} {Tz : Tbs} {XR : XRel} {E : Sg → XK} {st : Stmt} {sts : List Stmt} {n : En → Mo Fl} {k : En → Mo (Dt × En)} {m : En → Mo Dt} {e : Expr} {pos : Pos}
theorem r_cons (h1 : PS X st (tS (X.gd Tz) XR E n)) (h2 : PSr X sts (tR (X.gd Tz) XR E k)) : PSr X (st :: sts) (tR (X.gd Tz) XR E (mSqR n k)) := by
  refine ⟨fun pins s σ H Q I ⟨r, Z, ρ, Z0, H0, a, h⟩ => wpAny_execs_cons (thn (h1.run pins s σ H { nx := fun σ' H' => tR (X.gd Tz) XR E k Q σ' H', rt := fun _ _ => False } I ⟨r, Z, ρ, Z0, H0, a, (Mo.wp_bind.mp h).mono (fun f hf => ?_) fun _ _ p => p⟩) fun f s1 q => ?_)⟩
  · cases f with
    | nx ρ' => exact fun σ' H' Z' e s o q => ⟨r, Z', ρ', Z0, H0, ⟨s, e, o⟩, hf⟩
    | rt d => exact hf.elim
    | bk ρ' => exact hf.elim
    | ct ρ' => exact hf.elim
  · cases f with
    | next =>
      obtain ⟨σ', H', I', q⟩ := q
      exact h2.run pins s1 σ' H' Q I' q
    | ret v =>
      obtain ⟨_, _, _, _, _, q⟩ := q
      exact False.elim q
    | brk =>
      obtain ⟨_, _, _, q⟩ := q
      exact False.elim q
    | cont =>
      obtain ⟨_, _, _, q⟩ := q
      exact False.elim q
theorem r_ret (he : PE X e (tM (X.gd Tz) XR E m)) : PSr X [.Return (some e) pos] (tR (X.gd Tz) XR E (mRetR m)) := by
  refine ⟨fun pins s σ H Q I ⟨r, Z, ρ, Z0, H0, a, h⟩ => wpAny_execs_cons (wpAny_Return_some (thn (he.run pins s σ H (fun v H' => Q v σ H') I (tS.split a h fun v H1 Z1 d e1 a1 rp h1 => h1 v σ H1 Z1 a1 rp)) fun u s1 ⟨v, H1, I1, r1, q⟩ => ?_))⟩
  exact ⟨u, v, σ, H1, rfl, I1, r1, q⟩
end
/-! ## what captured names hold -/
structure Cels (N : List Str) (sc : Scope) (cells : List (Str × Addr)) (σ : Sg) (H : Hp) (h : Heap) : Prop where
  inj : ∀ y z c, cells.lookup y = some c → cells.lookup z = some c → y = z
  has : ∀ y, sc.names.lookup y = some .cell ∨ sc.names.lookup y = some .free → ∃ c, cells.lookup y = some c
  loc : ∀ (i : Nat) (y : Str) (v : V), N[i]? = some y → σ[i]? = some (some v) → sc.names.lookup y = some .cell ∨ sc.names.lookup y = some .free → ∃ u c, RelV v u ∧ cells.lookup y = some c ∧ h.IsCell c (some u)
  cell : ∀ x c, cells.lookup x = some c → ∃ v, h.IsCell c v
  freeC : ∀ x c, cells.lookup x = some c → H c = none
  len : σ.length = N.length
theorem Cels.of {X : Cx} {pins : List (Addr × Obj)} {σ : Sg} {H : Hp} {s : Shared} (I : Inv X pins σ H s) : Cels X.N X.env.scope X.env.cells σ H s.heap := by
  refine ⟨I.ok.inj, fun y hy => I.ok.has y hy, fun i y v e1 e2 hk => ?_, I.cell, I.freeC, I.len⟩
  obtain ⟨m, hn, hl⟩ := I.loc
  obtain ⟨u, r, q⟩ := hl i y v e1 e2 (.inr hk)
  rcases q with ⟨k', _⟩ | ⟨_, c, e, z⟩
  · have k' : X.env.scope.names.lookup y = some .local := k'
    rcases hk with k | k <;> rw [k] at k' <;> cases k'
  · exact ⟨u, c, r, e, z⟩
theorem Cels.keep {N : List Str} {sc : Scope} {cells : List (Str × Addr)} {σ : Sg} {H H' : Hp} {h h' : Heap} {fs : List Addr} (C : Cels N sc cells σ H h) (un : Un fs [] H H' h h') : Cels N sc cells σ H' h' := by
  have ck : ∀ {c v}, H c = none → h.IsCell c v → h'.IsCell c v := fun {c v} n ⟨o, ho, hd⟩ => by
    obtain ⟨sl, q⟩ := un.any ho n (by simp)
    exact ⟨_, q, hd⟩
  refine ⟨C.inj, C.has, fun i y v e1 e2 hk => ?_, fun x c e => ?_, fun x c e => ?_, C.len⟩
  · obtain ⟨u, c, r, e, z⟩ := C.loc i y v e1 e2 hk
    exact ⟨u, c, r, e, ck (C.freeC _ _ e) z⟩
  · obtain ⟨v, z⟩ := C.cell x c e
    exact ⟨v, ck (C.freeC _ _ e) z⟩
  · obtain ⟨v, o, ho, hd⟩ := C.cell x c e
    exact un.free c o ho (C.freeC x c e) (by simp)
section
variable {X : Cx} {σ : Sg} {HZ : Hp} {s1 : Shared} {ls : List Str}
/-- a lambda's body begins, over its maker's cells -/
theorem lam_start4 {A : Around} {outer : List Env} {E : XK} {scope : Scope} {f c' : Addr} {h₁ : Heap} {tk : Nat} {bl : List (Str × Value)} (C : Cels X.N X.env.scope X.env.cells σ HZ s1.heap) (L : LamS3 X.N X.env.scope scope ls) (e0 : Env0 X.prog X.w X.K X.mg X.base A outer s1 HZ) (hd : A.handled = none)
    (hns : h₁.Ns s1.heap.objs.size fun y => bl.reverse.lookup y) (kp : ∀ b o, s1.heap.get? b = some o → h₁.get? b = some o) :
    Inv (lamCx X A outer s1 HZ E scope f c') [] σ HZ { s1 with heap := h₁, toks := tk } := by
  have hfree : ∀ y ∈ scope.names, y.2 = .free → ∃ c, X.env.cells.lookup y.1 = some c := fun y hy e => C.has _ (L.free y hy e).symm.symm
  have cm : ∀ {y c}, (cloFrom X.env.cells scope.names []).lookup y = some c → X.env.cells.lookup y = some c := fun {y c} e => by
    rcases cloFrom_mem (PySem.mem_of_lookup e) with hm | ⟨h1, h2⟩
    · cases hm
    · obtain ⟨c1, hc⟩ := hfree _ h1 rfl
      have hc : X.env.cells.lookup y = some c1 := hc
      have e2 : c = c1 := by
        rw [h2, hc] <;> rfl
      rw [e2]
      exact hc
  have look : ∀ {y}, scope.names.lookup y = some .free → ∃ c, (cloFrom X.env.cells scope.names []).lookup y = some c := fun {y} hl => by
    have hy : (y, NameKind.free) ∈ scope.names := PySem.mem_of_lookup hl
    exact mem_lookup (cloFrom_has (cells := X.env.cells) (acc := []) hy)
  have cellK : ∀ {c : Addr} {v : Option Value}, s1.heap.IsCell c v → h₁.IsCell c v := fun {c v} ⟨o, ho, hd⟩ => ⟨o, kp _ _ ho, hd⟩
  have noA : ∀ b : Addr, b ∉ (lamCx X A outer s1 HZ E scope f c').ex := fun b z => absurd (show b ∈ ([] : List Addr) from z) (by simp)
  refine ⟨⟨e0.mod, L.kind, rfl, rfl, Nat.le_refl _, fun y z c e1 e2 => C.inj y z c (cm e1) (cm e2), fun y hy => ?_, fun y c z _ => ?_, fun _ => hd, Around.frames_deeper e0.frames, .inr ⟨rfl, rfl⟩, fun b z => absurd z (noA b), e0.bs, e0.bsz, fun b _ _ => noA b,
      fun b z => absurd z (noA b), e0.funs, e0.frf⟩,
    rfl, e0.bare, Un.kept kp, ⟨_, hns, fun i y v e1 e2 e3 => ?_⟩, fun y c e => ?_, e0.hok.fresh (Nat.le_refl _), fun y c e => C.freeC y c (cm e), fun q hq => absurd (show q ∈ ([] : List (Addr × Obj)) ++ [] from hq) (by simp), e0.hok.kept kp, C.len⟩
  · have hy : scope.names.lookup y = some .cell ∨ scope.names.lookup y = some .free := hy
    rcases hy with hy | hy
    · exact absurd rfl (L.own _ (PySem.mem_of_lookup hy)).1
    · exact look hy
  · have z : false = true := z
    cases z
  · have e3 : Vis scope y := e3
    rcases e3 with k | k | k
    · exact absurd (List.mem_of_getElem? e1) ((L.own _ (PySem.mem_of_lookup k)).2 rfl)
    · exact absurd rfl (L.own _ (PySem.mem_of_lookup k)).1
    · obtain ⟨w', c1, r, ec, z⟩ := C.loc i y v e1 e2 (L.free _ (PySem.mem_of_lookup k) rfl)
      obtain ⟨c2, h2⟩ := look k
      refine ⟨w', r, .inr ⟨.inr k, c2, h2, ?_⟩⟩
      have c3 := cm h2
      rw [ec] at c3
      cases c3
      exact cellK z
  · obtain ⟨w', z⟩ := C.cell y c (cm e)
    exact ⟨w', cellK z⟩
/-- x(), in the def that got the lambda; the lambda's maker may have ended -/
theorem pe_act4 {CXg : CXT} {Eg : XK} {Ng : List Str} {qg : Str} {sg : Scope} {g f c' : Addr} {cdg dV doc pm ctv : Value} {params : Arguments} {body : Expr} {scope : Scope} {k i : Nat} {a : Str} {pn : List (Addr × Obj)} {xe : Value → Shared → Prop} {W : WX} {E : XK} {tb : TE} {p1 p2 : Pos} {bl : List (Str × Value)} {Ag : Around} {og : List Env} {s : Shared} {H : Hp}
    (C : Cels X.N X.env.scope X.env.cells σ H s.heap) (L : LamS3 X.N X.env.scope scope ls) (hf : H f = some (ObjO f { cls := .type "function", data := .func (lamFd X params body scope dV doc pm (.ref c') ctv) })) (hco : H c' = some (CodeO c' (lamQ X)))
    (hbl : bl.map (·.1) = ls) (hbind : BindO X H (lamFd X params body scope dV doc pm (.ref c') ctv) bl)
    (tk : Takes ((cxOf CXg X.prog X.w X.K X.mg X.base Ng qg sg g cdg Ag og s H Eg).tr pn xe) W) (hW : ∀ cls d σ' H', E cls d H' → W cls d σ' H') (hr : Room (k + 1) (Ag.deeper (envOfC qg sg s.heap.objs.size g cdg)))
    (hbody : ∀ (A : Around) (outer : List Env) (s : Shared) (H : Hp), Room k (A.deeper (lamEnv X scope s.heap.objs.size f c')) → PE (lamCx X A outer s H E scope f c') body tb)
    (hN : Ng[i]? = some a) (hv : Vis sg a) (hd : (a == ("__debug__" : Str)) = false := by decide) (hcd : (a == ("__classdict__" : Str)) = false := by decide) :
    PE ((cxOf CXg X.prog X.w X.K X.mg X.base Ng qg sg g cdg Ag og s H Eg).tr pn xe) (.Call (.Name a p1) [] [] p2)
      (fun σZ HZ Q => σZ[i]? = some (some (.ref f)) ∧ ExtN H HZ ∧ tb σ HZ Q) := by
  refine ⟨fun pinsZ sZ σZ HZ Q IZ h => ?_⟩
  obtain ⟨hs, eN, ht⟩ := h
  refine wpAny_Call_Name_kw (thn ((pe_var (pos := p1) (i := i) hN hv hd hcd).run pinsZ sZ σZ HZ (fun v H1 => v = .ref f ∧ H1 = HZ) IZ ⟨.ref f, hs, rfl, rfl⟩) fun u s1 ⟨v, H1, I1, r1, q1⟩ => ?_)
  obtain ⟨ev, eH⟩ := q1
  subst ev
  rw [eH] at I1
  obtain rfl : u = Value.ref f := r1
  have of1 := objO_at I1.hok (eN _ _ hf (fun ps z => by unfold ObjO at z; cases z))
  refine PySem.W.callWith_F0 ⟨_, _, _, _, of1⟩ ?_
  have un : Un (frs og) [] H HZ s.heap s1.heap := I1.base
  have C1 := C.keep un
  obtain ⟨⟨oc, vs, t, hoc, hdc, hvc⟩, _, _⟩ := I1.hok c' _ (eN _ _ hco codeO_ne)
  have hlb : ∀ y ∈ bl, scope.names.lookup y.1 = some .local := fun y hy => L.par _ (by rw [← hbl]; exact List.mem_map_of_mem hy)
  have rc : codeAny (model X.prog X.w) (Ag.deeper (envOfC qg sg s.heap.objs.size g cdg)) (.call (.ref f) ⟨[], []⟩) (CR (L2.CX X.prog X.w) (envOfC qg sg s.heap.objs.size g cdg :: og) X.prog X.w HZ s1 Q E) s1 := by
    refine PySem.W.kla_callFunE hr.depth of1 rfl L.co L.gen rfl ⟨c', oc, vs, t, rfl, hoc, hdc, hvc⟩ ?_
    refine hbind HZ s1 eN I1.hok _ _ _ _ (wpAny_newFunctionEnv (fun y hy => (L.own y hy).1) hlb (fun h₁ hns hsb => ⟨I1.nolimit.fresh _ hsb, ?_⟩) L.kind)
    show codeAny _ _ (.expr body (lamEnv X scope s1.heap.objs.size f c')) _ _
    have kp : ∀ b o, s1.heap.get? b = some o → h₁.get? b = some o := fun b o e => hsb.extBut b o (Nat.ne_of_lt (Heap.lt_size e)) (Heap.get?_push_of_some _ e)
    have J : Inv (lamCx X (Ag.deeper (envOfC qg sg s.heap.objs.size g cdg)) (envOfC qg sg s.heap.objs.size g cdg :: og) s1 HZ E scope f c') [] σ HZ { s1 with heap := h₁, toks := s1.toks + bl.length } :=
      lam_start4 C1 L I1.env0 hr.hd hns kp
    refine PySem.W.kla_codeExpr (wpAny_mono ((hbody _ _ s1 HZ (hr.deeper _)).run [] _ _ HZ Q J ht) (fun v s' hq => ?_) fun e s' hq => hq)
    obtain ⟨w', H', J', rv, q⟩ := hq
    exact ⟨w', H', J'.os, J'.bare, J'.base, J'.hok, rv, q⟩
  have hx : Passes (L2.CX X.prog X.w) ((cxOf CXg X.prog X.w X.K X.mg X.base Ng qg sg g cdg Ag og s H Eg).tr pn xe) E := passes_call tk hW
  refine wpAny_call (codeAny_mono rc fun r s' hq => ?_)
  cases r with
  | error e => exact hx pinsZ σZ HZ s1 e s' I1 hq
  | ok fl =>
    cases fl with
    | ret u => exact I1.after hq
    | next => exact False.elim hq
    | brk => exact False.elim hq
    | cont => exact False.elim hq
end
/-! ## the maker called -/
def CM (outer : List Env) (P : Program) (w : World) (N : List Str) (sc : Scope) (cells : List (Str × Addr)) (H : Hp) (s : Shared) (Q : V → Sg → Hp → Prop) (r : Result) (s' : Shared) : Prop := match r with
  | .ok (.ret u) => ∃ v σ' H', s'.os = s.os ∧ AllBare s'.gens ∧ Un (frs outer) [] H H' s.heap s'.heap ∧ HOk P w H' s'.heap ∧ RelV v u ∧ Cels N sc cells σ' H' s'.heap ∧ Q v σ' H'
  | .ok _ => False
  | .error _ => False
theorem run_ofM {P : Program} {w : World} {K : PySem.W.Frag} {mg : Str → Option Value} {base : Heap} {k : Nat} {f : Addr} {name qual : Str} {params : Arguments} {body : List Stmt} {scope : Scope} {dV kV doc pm cdv ct oc : Value} {an od : Option Addr}
    {osl : Array (Option Value)} {N ps : List Str} (lk : K.lookup f = some ⟨oc, od, .func (PySem.W.fnOf name qual params body scope dV kV doc pm an cdv ct), osl⟩) (hcd : PySem.W.codeIn K cdv qual = true) (S : FnScope N ps scope)
    {A : Around} {outer : List Env} {s : Shared} {H : Hp} {args : Args} {us : List Value} {vs : List V} {Q : V → Sg → Hp → Prop} (hr : Room (k + 1) A) (e0 : Env0 P w K mg base A outer s H) (hb : BindsTo s (PySem.W.fnOf name qual params body scope dV kV doc pm an cdv ct) args (ps.zip us)) (r : Vals vs us) (hl : vs.length = ps.length)
    (hbody : Room k (A.deeper (envOfC qual scope s.heap.objs.size f cdv)) → ∃ t, PSr (cxOf C8.CX0 P w K mg base N qual scope f cdv A outer s H C8.E0).nox body t ∧ t Q (L2.start N vs) H) :
    codeAny (model P w) A (.call (.ref f) args) (CM outer P w N scope (envOfC qual scope s.heap.objs.size f cdv).cells H s Q) s := by
  have KX : K.In s.heap := e0.mod.kin.keeps fun b o e => (e0.bs b o e).1
  have lim : s.heap.NoLimit := e0.mod.nolimit.keeps fun b o e => (e0.bs b o e).1
  have hkind : ∀ y ∈ ps.zip us, scope.names.lookup y.1 = some .local ∨ (scope.names.lookup y.1 = some .cell ∧ ((cellsFrom (s.heap.objs.size + 1) scope.names []).lookup y.1).isSome = true) := fun ⟨n, v⟩ hy => by
    rcases S.par n (List.of_mem_zip hy).1 with q | q
    · exact .inl q
    · exact .inr ⟨q, PySem.W.cellsFrom_some _ _ _ (.inl q)⟩
  refine codeAny_call_function hr.depth (KX _ _ lk) rfl S.co S.gen rfl (PySem.W.codeRec_of KX hcd) (hb _ _ _ _ ?_)
  refine wpAny_newFunctionEnv_cells S.kind hkind fun env he s1 x => ?_
  subst he
  refine ⟨lim.keeps x.toInCall.keep, codeAny_func ?_⟩
  obtain ⟨t, ht, hq⟩ := hbody (hr.deeper _)
  have I : Inv (cxOf C8.CX0 P w K mg base N qual scope f cdv A outer s H C8.E0).nox [] (L2.start N vs) H s1 := Inv.wish (X := cxOf C8.CX0 P w K mg base N qual scope f cdv A outer s H C8.E0) (inv_start (CX := C8.CX0) (E := C8.E0) S hr.hd e0 hl r x) _
  refine wpAny_mono (ht.run [] s1 (L2.start N vs) H _ I hq) (fun fl s' hs => ?_) fun e s' hs => ?_
  · obtain ⟨u, v, σ', H', efl, J, rv, q⟩ := hs
    subst efl
    exact ⟨v, σ', H', J.os, J.bare, J.base, J.hok, rv, Cels.of J, q⟩
  · exact False.elim hs
end Fw
set_option Elab.async false
set_option linter.all false
set_option maxRecDepth 100000
set_option maxHeartbeats 1000000
namespace Fw
open PySem PySem.Spec PyProof.Rows L2 LamX

/-! ## data without lambdas: the same by any maker's tables -/
mutual
def noLam : Dt → Bool
  | .lam _ => false
  | .tup ds => noLams ds
  | .lst ds => noLams ds
  | .ntp ds => noLams ds
  | .dk _ ds => noLams ds
  | .dt _ ds => noLams ds
  | _ => true
def noLams : List Dt → Bool
  | [] => true
  | d :: ds => noLam d && noLams ds
end
section
variable {K : PySem.W.Frag} {P : Params} {T T' : Tbs} {r : Addr} {Z : Addr → Prop} {H : Hp}
mutual
theorem Rep.tz : ∀ {v : V} {d : Dt}, noLam d = true → Rep ⟨K, P, T⟩ r Z H v d → Rep ⟨K, P, T'⟩ r Z H v d
  | v, .non, _, h => by simpa only [Rep] using h
  | v, .bl b, _, h => by simpa only [Rep] using h
  | v, .int i, _, h => by simpa only [Rep] using h
  | v, .str x, _, h => by simpa only [Rep] using h
  | v, .row, _, h => by simpa only [Rep] using h
  | v, .fn a, _, h => by simpa only [Rep] using h
  | v, .lam i, n, _ => by unfold noLam at n; cases n
  | v, .tup ds, n, h => by
    unfold noLam at n
    unfold Rep at h ⊢
    obtain ⟨a, vs, e, t, l, q⟩ := h
    exact ⟨a, vs, e, t, l, Reps.tz n q⟩
  | v, .lst ds, n, h => by
    unfold noLam at n
    unfold Rep at h ⊢
    obtain ⟨a, vs, e, z, t, l, q⟩ := h
    exact ⟨a, vs, e, z, t, l, Reps.tz n q⟩
  | v, .ntp ds, n, h => by
    unfold noLam at n
    unfold Rep at h ⊢
    obtain ⟨a, vs, ob, e, z, t, od, l, q⟩ := h
    exact ⟨a, vs, ob, e, z, t, od, l, Reps.tz n q⟩
  | v, .dk ks ds, n, h => by
    unfold noLam at n
    unfold Rep at h ⊢
    obtain ⟨a, vs, e, t, l, l2, q⟩ := h
    exact ⟨a, vs, e, t, l, l2, Reps.tz n q⟩
  | v, .dt ks ds, n, h => by
    unfold noLam at n
    unfold Rep at h ⊢
    obtain ⟨a, vs, e, z, t, l, l2, q⟩ := h
    exact ⟨a, vs, e, z, t, l, l2, Reps.tz n q⟩
theorem Reps.tz : ∀ {vs : List V} {ds : List Dt}, noLams ds = true → Reps ⟨K, P, T⟩ r Z H vs ds → Reps ⟨K, P, T'⟩ r Z H vs ds
  | vs, [], _, h => by simpa only [Reps] using h
  | vs, d :: ds, n, h => by
    unfold noLams at n
    rw [Bool.and_eq_true] at n
    unfold Reps at h ⊢
    obtain ⟨v, us, e, h1, h2⟩ := h
    exact ⟨v, us, e, Rep.tz n.1 h1, Reps.tz n.2 h2⟩
end
variable {t : List (Addr × Str)} {l l' : List LamRec} {c c' : List (Str × Addr)} {Z' : Addr → Prop} {H' : Hp}
theorem Wf.tz (w : Wf ⟨K, P, ⟨t, l, c⟩⟩ r Z H) : Wf ⟨K, P, ⟨t, l', c'⟩⟩ r Z H := ⟨w.row, w.rz, w.al, w.tb⟩
theorem Ext.tz (e : Ext ⟨K, P, ⟨t, l, c⟩⟩ r Z H Z' H') : Ext ⟨K, P, ⟨t, l', c'⟩⟩ r Z H Z' H' := ⟨e.wf.tz, e.grow, e.tgrow, e.sub, e.new⟩
end
/-- a def whose lambdas have a table -/
structure DfT (K : PySem.W.Frag) (mg : Str → Option Value) (base : Heap) (x : Str) (st : Stmt) (ps : List Str) (cd P : Addr) : Prop where
  ex : ∃ (f : Addr) (oc kV doc pm ct : Value) (an od : Option Addr) (osl : Array (Option Value)), K.lookup f = some ⟨oc, od, .func (PySem.W.fnOf x x (defArgs st) (defBody st) (defScope st) .none kV doc pm an (.ref cd) ct), osl⟩ ∧ PySem.W.codeIn K (.ref cd) x = true ∧
    mg x = some (.ref f) ∧ PySem.W.keepIn K (.ref f) = true ∧ Binds K (PySem.W.fnOf x x (defArgs st) (defBody st) (defScope st) .none kV doc pm an (.ref cd) ct) ps []
  tab : TabB base mg cd P
abbrev TmOf (Tz : Tbs) (lm : List LamRec) (xm : Str) (stm : Stmt) (cdm : Addr) (n : Nat) (fm : Addr) : Tbs := ⟨Tz.t, lm, (envOfC xm (defScope stm) n fm (.ref cdm)).cells⟩
abbrev XmOf (X : Cx) (Nm : List Str) (xm : Str) (stm : Stmt) (cdm fm : Addr) (A : Around) (outer : List Env) (s : Shared) (H : Hp) : Cx := cxOf C8.CX0 X.prog X.w X.K X.mg X.base Nm xm (defScope stm) fm (.ref cdm) A outer s H C8.E0
def mPickMk (mmk : En → Mo (Dt × En)) (nN np : Nat) (Fp : List Dt → Mo Dt) (mrow : En → Mo Dt) (mas : En → Mo (List Dt)) (ρ : En) : Mo (Dt × En) :=
  (mrow ρ).bind fun rw => (mas ρ).bind fun ds => if ds.length = np ∧ noLams ds = true ∧ noLam rw = true then
    (mmk (ds.map .fz ++ List.replicate (nN - ds.length) .un)).nox.bind fun p => (Fp [rw, p.1]).nox.bind fun d => .ret (d, p.2) else .err
section
variable {X : Cx} {Tz : Tbs} {XR : XRel} {E : Sg → XK} {xp xm : Str} {stm : Stmt} {Nm psm : List Str} {cdm Pm : Addr} {j kp km : Nat} {Fp : List Dt → Mo Dt} {lm : List LamRec} {mmk : En → Mo (Dt × En)} {mrow : En → Mo Dt} {mas : En → Mo (List Dt)}
  {erow e1 : Expr} {es1 : List Expr} {pp posp pm1 posm : Pos}
/-- pick(row, maker(..)) -/
theorem pick_mk (cp : Cal X.prog X.w X.K X.mg X.base kp xp 2 Fp) (mk : DfT X.K X.mg X.base xm stm psm cdm Pm) (Sm : FnScope Nm psm (defScope stm)) (hr : Room j X.A) (hkp : kp ≤ j) (hkm : km + 1 ≤ j) (hgp : Gl X xp) (hgm : Gl X xm)
    (hbm : ∀ (f : Addr) (A : Around) (outer : List Env) (s : Shared) (H : Hp), Room km (A.deeper (envOfC xm (defScope stm) s.heap.objs.size f (.ref cdm))) → PSr (XmOf X Nm xm stm cdm f A outer s H).nox (defBody stm) (tR ⟨X.K, X.w.params, TmOf Tz lm xm stm cdm s.heap.objs.size f⟩ XR0 EE mmk))
    (hrow : PE X erow (tM (X.gd Tz) XR E mrow)) (ham : PA X (e1 :: es1) (tMs (X.gd Tz) XR E mas))
    (hdp : (xp == ("__debug__" : Str)) = false) (hdm : (xm == ("__debug__" : Str)) = false)
    (hs1 : starEach [erow, .Call (.Name xm pm1) (e1 :: es1) [] posm] X.env = (false, eval erow X.env) :: starEach [.Call (.Name xm pm1) (e1 :: es1) [] posm] X.env)
    (hsm : starEach (e1 :: es1) X.env = (false, eval e1 X.env) :: starEach es1 X.env) (hpm : (backTo posm (starEach es1 X.env)).any (·.1) = false)
    {pins : List (Addr × Obj)} {s : Shared} {σ : Sg} {H : Hp} {r : Addr} {Z : Addr → Prop} {ρ : En} {β : Type} {kk : Dt × En → Mo β} {PP : β → Prop} {KK : Value → Shared → Prop} (I : Inv X pins σ H s) (w : Wf (X.gd Tz) r Z H) (st0 : StOk (X.gd Tz) r Z H σ ρ)
    (h : ((mPickMk mmk Nm.length psm.length Fp mrow mas ρ).bind kk).wp PP (PX (X.gd Tz) XR r Z H (E σ)))
    (hK : ∀ (u : Value) (v : V) (s3 : Shared) (H3 : Hp) (Z3 : Addr → Prop) (d : Dt) (ρm : En) (σm : Sg) (fm : Addr) (Am : Around) (om : List Env) (sM : Shared) (HM : Hp), Inv X pins σ H3 s3 → RelV v u → Ext (X.gd Tz) r Z H Z3 H3 → Rep ⟨X.K, X.w.params, TmOf Tz lm xm stm cdm sM.heap.objs.size fm⟩ r Z3 H3 v d →
      Cels Nm (defScope stm) (envOfC xm (defScope stm) sM.heap.objs.size fm (.ref cdm)).cells σm H3 s3.heap → StOk ⟨X.K, X.w.params, TmOf Tz lm xm stm cdm sM.heap.objs.size fm⟩ r Z3 H3 σm ρm → (kk (d, ρm)).wp PP (PX (X.gd Tz) XR r Z H (E σ)) → KK u s3) :
    wpAny (model X.prog X.w) X.A (eval (.Call (.Name xp pp) [erow, .Call (.Name xm pm1) (e1 :: es1) [] posm] [] posp) X.env) KK X.xe s := by
  obtain ⟨fp, fdp, psp, Gp, mgp, kpp, bp⟩ := cp.ex
  obtain ⟨fm, oc, kV, doc, pm, ct, an, od, osl, lk, hcd, mgm, kpm, bm⟩ := mk.ex
  unfold mPickMk at h
  rw [Mo.bind_assoc] at h
  refine wpAny_Call_Name_kw (ld_glob I hgp mgp ?_ hdp)
  refine PySem.W.callWith_K (h₀ := X.base) I.ok.mod.kin kpp ?_ hs1 (by rfl)
  rw [hs1]
  show wpAny _ _ (spliced ((false, eval erow X.env) :: backTo posp (starEach [.Call (.Name xm pm1) (e1 :: es1) [] posm] X.env))) _ _ s
  refine Calls.spliced_cons (thn (hrow.run pins s σ H (fun v H1 => ∃ Z1 d, Ext (X.gd Tz) r Z H Z1 H1 ∧ Rep (X.gd Tz) r Z1 H1 v d ∧ (((mas ρ).bind fun ds => if ds.length = psm.length ∧ noLams ds = true ∧ noLam d = true then
    (mmk (ds.map .fz ++ List.replicate (Nm.length - ds.length) .un)).nox.bind fun p => (Fp [d, p.1]).nox.bind fun d => .ret (d, p.2) else .err).bind kk).wp PP (PX (X.gd Tz) XR r Z H (E σ))) I (tM.split w st0 h fun v H1 Z1 d e1 w1 s1 rp hk => ⟨Z1, d, e1, rp, hk⟩)) fun u0 s0 ⟨v0, H0, I0, r0, hv0⟩ => ?_)
  obtain ⟨Z0, dr, e0, rp0, h0⟩ := hv0
  have w0 := e0.wf
  have st0' := st0.ext w e0
  show wpAny _ _ (spliced ((false, eval (.Call (.Name xm pm1) (e1 :: es1) [] posm) X.env) :: backTo posp (starEach [] X.env))) _ _ s0
  refine Calls.spliced_cons ?_
  refine wpAny_Call_Name_kw (ld_glob I0 hgm mgm ?_ hdm)
  rw [Mo.bind_assoc] at h0
  refine PySem.W.callWith_K (h₀ := X.base) I0.ok.mod.kin kpm (thn (ham.run posm pins s0 σ H0 (fun vs H1 => ∃ Z1 ds, Ext (X.gd Tz) r Z0 H0 Z1 H1 ∧ Reps (X.gd Tz) r Z1 H1 vs ds ∧ ((if ds.length = psm.length ∧ noLams ds = true ∧ noLam dr = true then
    (mmk (ds.map .fz ++ List.replicate (Nm.length - ds.length) .un)).nox.bind fun p => (Fp [dr, p.1]).nox.bind fun d => .ret (d, p.2) else .err).bind kk).wp PP (PX (X.gd Tz) XR r Z H (E σ))) I0 ⟨r, Z0, ρ, w0, st0', (Mo.wp_bind.mp h0).mono (fun ds hd vs H1 Z1 ee rp => ⟨Z1, ds, ee, rp, hd⟩) fun _ _ x => x.ext e0⟩) fun us s1 ⟨vs, H1, I1, r1, q1⟩ => ⟨I1.kIn, ?_⟩) hsm hpm
  obtain ⟨Z1, ds, e01, rp1, h1⟩ := q1
  have w1 := e01.wf
  by_cases hc : ds.length = psm.length ∧ noLams ds = true ∧ noLam dr = true
  · rw [if_pos hc, Mo.bind_assoc] at h1
    obtain ⟨hl, hn, hnr⟩ := hc
    have h2 := Mo.wp_bind.mp h1
    have hus : vs.length = psm.length := by rw [rp1.length]; exact hl
    have huu : us.length = psm.length := by rw [← r1.length]; exact hus
    refine wpAny_call (codeAny_mono (run_ofM (Q := fun v σ' H' => ∃ (Z2 : Addr → Prop) (p : Dt × En), Ext (X.gd Tz) r Z1 H1 Z2 H' ∧ StOk ⟨X.K, X.w.params, TmOf Tz lm xm stm cdm s1.heap.objs.size fm⟩ r Z2 H' σ' p.2 ∧ Rep ⟨X.K, X.w.params, TmOf Tz lm xm stm cdm s1.heap.objs.size fm⟩ r Z2 H' v p.1 ∧
        (((Fp [dr, p.1]).nox.bind fun d => Mo.ret (d, p.2)).bind kk).wp PP (PX (X.gd Tz) XR r Z H (E σ))) lk hcd Sm (hr.mono hkm) I1.env0 (by have := bm s1 us I1.kIn (by simpa using huu); simpa using this) r1 hus fun hr' => ⟨_, hbm fm X.A X.stack s1 H1 hr', r, Z1, _, Z1, H1, ⟨stok_start (Reps.tz hn rp1), Ext.refl w1.tz, fun i s p h1 h2 h3 => ?_⟩, ?_⟩) fun rr s2 hq => ?_)
    · have := List.mem_of_getElem? h1
      rw [List.mem_append] at this
      rcases this with q | q
      · obtain ⟨d, _, rfl⟩ := List.mem_map.mp q
        cases h2
      · rw [(List.mem_replicate.mp q).2] at h2
        cases h2
    · exact Mo.nox_wp (h2.mono (fun p hp v σ' H' Z' a rp => ⟨Z', p, a.ext.tz, a.st, rp, hp⟩) fun _ _ x => x)
    · cases rr with
      | error e => exact False.elim hq
      | ok fl =>
        cases fl with
        | next => exact False.elim hq
        | brk => exact False.elim hq
        | cont => exact False.elim hq
        | ret u2 =>
          obtain ⟨v2, σm, H2, os, bare, un, hok, rv, C, Z2, p, e12, stm2, rp2, h3⟩ := hq
          obtain ⟨v2', H2', I2, rv', ev, eH⟩ := I1.after (Q := fun v H' => v = v2 ∧ H' = H2) ⟨v2, H2, os, bare, un, hok, rv, rfl, rfl⟩
          subst ev
          subst eH
          have e02 := (e0.trans e01).trans e12
          rw [Mo.bind_assoc] at h3
          have h4 := Mo.wp_bind.mp h3
          refine Calls.spliced_nil ⟨I2.kIn, ?_⟩
          have rp02 : Rep ⟨X.K, X.w.params, TmOf Tz lm xm stm cdm s1.heap.objs.size fm⟩ r Z2 H2' v0 dr := Rep.tz hnr (rp0.frz ((e01.trans e12).frz w0))
          have hlen : [u0, u2].length = psp.length := by
            have := (Gp (TmOf Tz lm xm stm cdm s1.heap.objs.size fm)).len [v0, v2'] H2' (fun v H' => ∃ Z3 d, Ext (X.gd Tz) r Z2 H2' Z3 H' ∧ Rep ⟨X.K, X.w.params, TmOf Tz lm xm stm cdm s1.heap.objs.size fm⟩ r Z3 H' v d ∧ ((Mo.ret (d, p.2)).bind kk).wp PP (PX (X.gd Tz) XR r Z H (E σ))) E0 ⟨rfl, r, Z2, [dr, p.1], e12.wf.tz, Reps.cons rp02 (Reps.cons rp2 Reps.nil), Mo.nox_wp (h4.mono (fun d hd v H' Z' ee rp => ⟨Z', d, ee.tz, rp, hd⟩) fun _ _ x => x)⟩
            exact this
          refine wpAny_call (codeAny_mono ((Gp (TmOf Tz lm xm stm cdm s1.heap.objs.size fm)).run X.A X.stack s2 H2' ⟨[u0, u2], []⟩ [u0, u2] [v0, v2'] (fun v H' => ∃ Z3 d, Ext (X.gd Tz) r Z2 H2' Z3 H' ∧ Rep ⟨X.K, X.w.params, TmOf Tz lm xm stm cdm s1.heap.objs.size fm⟩ r Z3 H' v d ∧ ((Mo.ret (d, p.2)).bind kk).wp PP (PX (X.gd Tz) XR r Z H (E σ))) E0 (hr.mono hkp) I2.env0 (by have := bp s2 [u0, u2] I2.kIn (by simpa using hlen); simpa using this) (.cons r0 (.cons rv .nil)) ⟨rfl, r, Z2, [dr, p.1], e12.wf.tz, Reps.cons rp02 (Reps.cons rp2 Reps.nil), Mo.nox_wp (h4.mono (fun d hd v H' Z' ee rp => ⟨Z', d, ee.tz, rp, hd⟩) fun _ _ x => x)⟩) fun rr s3 hq => ?_)
          cases rr with
          | error e => exact False.elim hq
          | ok fl =>
            cases fl with
            | next => exact False.elim hq
            | brk => exact False.elim hq
            | cont => exact False.elim hq
            | ret u3 =>
              obtain ⟨v3, H3, os3, bare3, un3, hok3, rv3, Z3, d, e23, rp3, h5⟩ := hq
              obtain ⟨v3', H3', I3, rv3', ev, eH⟩ := I2.after (Q := fun v H' => v = v3 ∧ H' = H3) ⟨v3, H3, os3, bare3, un3, hok3, rv3, rfl, rfl⟩
              subst ev
              subst eH
              exact hK u3 v3' s3 H3' Z3 d p.2 σm fm X.A X.stack s1 H1 I3 rv3 (e02.trans e23) rp3 (C.keep un3) (stm2.ext e12.wf.tz e23.tz) h5
  · rw [if_neg hc] at h1
    exact h1.elim
end
end Fw
set_option Elab.async false
set_option linter.all false
set_option maxRecDepth 100000
set_option maxHeartbeats 1000000
namespace Fw
open PySem PySem.Spec PyProof.Rows L2 LamX

/-! ## word(pick(row, maker(..))) -/
def mWrongMk (wordOf : Nat → Dt → Option Dt) (ms : Nat → Option (En → Mo Dt)) (mp : En → Mo (Dt × En)) : En → Mo Dt := fun ρ => (mp ρ).bind fun p => match p.1 with
  | .lam i => (match ms i with | some m => mWrong1 wordOf m p.2 | none => .err)
  | _ => .err
section
variable {X : Cx} {Tz : Tbs} {XR : XRel} {E : Sg → XK} {wordOf : Nat → Dt → Option Dt} {x a en : Str} {st : Stmt} {Ng : List Str} {k j j1 : Nat} {ms : Nat → Option (En → Mo Dt)} {p pos p1 p2 p3 p4 p5 p6 p7 p8 : Pos} {b₀ : Stmt} {suite : List Stmt} {CL : Addr}
  {xp xm : Str} {stm : Stmt} {Nm psm : List Str} {cdm Pm : Addr} {kp km : Nat} {Fp : List Dt → Mo Dt} {lm : List LamRec} {mmk : En → Mo (Dt × En)} {mrow : En → Mo Dt} {mas : En → Mo (List Dt)}
  {erow e1 : Expr} {es1 : List Expr} {pp posp pm1 posm : Pos}
theorem e_wrongMk (D : Df X.K X.mg x st [a]) (S : FnScope Ng [a] (defScope st)) (hg : Gl X x)
    (hbg : defBody st = [.Try [.Expr (.Call (.Name a p1) [] [] p2) p3] [.ExceptHandler (some (.Name "LogicError" p4)) (some en) (b₀ :: suite) p5] [] [] p6, .Return (some (.Constant (.str "") j p7)) p8])
    (hNg : Ng[0]? = some a) (hNe : Ng[1]? = some en) (hva : Vis (defScope st) a) (hen : (defScope st).names.lookup en = some .local) (hle : (defScope st).names.lookup ("LogicError" : Str) = some NameKind.globalImplicit)
    (gL : X.mg "LogicError" = some (.ref CL)) (hx : ∀ c d wd nm, wordOf c d = some wd → clsN[c]? = some nm → Xn X.K X.mg "LogicError" nm)
    (hsu : ∀ (c : Nat) (d wd : Dt) (nm : Str) (C : Addr), wordOf c d = some wd → clsN[c]? = some nm → X.mg nm = some (.ref C) → ∀ (A : Around) (outer : List Env) (s : Shared) (H : Hp) (g : Addr) (cdv : Value) (a : Addr) (oe : Obj) (od : Option Addr) (pn : List (Addr × Obj)), Zc (.ref C) od oe → (∃ vs, oe.data = .fields vs) → Room k (A.deeper (envOfC x (defScope st) s.heap.objs.size g cdv)) →
      PSs ((cxOf C8.CX0 X.prog X.w X.K X.mg X.base Ng x (defScope st) g cdv A outer s H C8.E0).nox.suite a ((a, oe) :: pn)) (b₀ :: suite) (fun D σ H => σ.length = Ng.length ∧ σ[1]? = some (some (.ref a)) ∧ XD H c d od ∧ ∃ r Z, Wf (X.gd Tz) r Z H ∧ PV (X.gd Tz) r Z H D.rt wd))
    (hr : Room j1 X.A) (hk : k + 2 ≤ j1)
    (cp : Cal X.prog X.w X.K X.mg X.base kp xp 2 Fp) (mk : DfT X.K X.mg X.base xm stm psm cdm Pm) (Sm : FnScope Nm psm (defScope stm)) (hkp : kp ≤ j1) (hkm : km + 1 ≤ j1) (hgp : Gl X xp) (hgm : Gl X xm)
    (hbm : ∀ (f : Addr) (A : Around) (outer : List Env) (s : Shared) (H : Hp), Room km (A.deeper (envOfC xm (defScope stm) s.heap.objs.size f (.ref cdm))) → PSr (XmOf X Nm xm stm cdm f A outer s H).nox (defBody stm) (tR ⟨X.K, X.w.params, TmOf Tz lm xm stm cdm s.heap.objs.size f⟩ XR0 EE mmk))
    (hrow : PE X erow (tM (X.gd Tz) XR E mrow)) (ham : PA X (e1 :: es1) (tMs (X.gd Tz) XR E mas))
    (hb : ∀ (fm : Addr) (A : Around) (outer : List Env) (s : Shared) (H : Hp) (i : Nat) (m : En → Mo Dt), ms i = some m → LamOk (XmOf X Nm xm stm cdm fm A outer s H) (TmOf Tz lm xm stm cdm s.heap.objs.size fm) k i m)
    (hdp : (xp == ("__debug__" : Str)) = false := by decide) (hdm : (xm == ("__debug__" : Str)) = false := by decide)
    (hs1 : starEach [erow, .Call (.Name xm pm1) (e1 :: es1) [] posm] X.env = (false, eval erow X.env) :: starEach [.Call (.Name xm pm1) (e1 :: es1) [] posm] X.env := by rfl)
    (hsm : starEach (e1 :: es1) X.env = (false, eval e1 X.env) :: starEach es1 X.env := by rfl) (hpm : (backTo posm (starEach es1 X.env)).any (·.1) = false := by rfl)
    (hdb : (x == ("__debug__" : Str)) = false := by decide) (hd : (a == ("__debug__" : Str)) = false := by decide) (hcd : (a == ("__classdict__" : Str)) = false := by decide) :
    PE X (.Call (.Name x p) [.Call (.Name xp pp) [erow, .Call (.Name xm pm1) (e1 :: es1) [] posm] [] posp] [] pos) (tM (X.gd Tz) XR E (mWrongMk wordOf ms (mPickMk mmk Nm.length psm.length Fp mrow mas))) := by
  refine ⟨fun pins s σ H Q I ⟨r, Z, ρ, w, st0, h⟩ => ?_⟩
  obtain ⟨g, fd, F, gm, b⟩ := D.ex
  obtain ⟨oc, od, kV, doc, pm, an, cdv, ct, osl, rfl, lk, hcg⟩ := F.ex
  refine wpAny_Call_Name_kw (ld_glob I hg gm ?_ hdb)
  refine PySem.W.callWith_K (h₀ := X.base) I.ok.mod.kin F.kp ?_ (by rfl) (by rfl)
  show wpAny _ _ (spliced ((false, eval (.Call (.Name xp pp) [erow, .Call (.Name xm pm1) (e1 :: es1) [] posm] [] posp) X.env) :: backTo pos (starEach [] X.env))) _ _ s
  refine Calls.spliced_cons (pick_mk cp mk Sm hr hkp hkm hgp hgm hbm hrow ham hdp hdm hs1 hsm hpm I w st0 h fun u v s' H1 Z1 d ρm σm fm Am om sM HM I1 r1 e1 rp C stm1 h1 => ?_)
  refine Calls.spliced_nil ⟨I1.kIn, ?_⟩
  have w1 := e1.wf
  cases d with
  | lam i =>
    unfold Rep at rp
    obtain ⟨f, ev, la⟩ := rp
    subst ev
    obtain rfl : u = Value.ref f := r1
    have h1 : (match ms i with | some m => mWrong1 wordOf m ρm | none => Mo.err).wp (PV (X.gd Tz) r Z H Q) (PX (X.gd Tz) XR r Z H (E σ)) := h1
    cases hmi : ms i with
    | none => rw [hmi] at h1; exact h1.elim
    | some m =>
      rw [hmi] at h1
      obtain ⟨R, ls, hl, hq, lp, L, hbody⟩ := (hb fm Am om sM HM i m hmi).ex
      obtain ⟨c', dV, doc', pm', ctv, bl, fo, co, hbl, hbo⟩ := LamAt.bind (X := XmOf X Nm xm stm cdm fm Am om sM HM) la hl lp
      rw [hq] at fo hbo co
      have h2 := Mo.wp_bind.mp (Mo.wp_catch.mp h1)
      have rc : codeAny (model X.prog X.w) X.A (.call (.ref g) ⟨[.ref f], []⟩) (CR C8.CX0 X.stack X.prog X.w H1 s' Q C8.E0) s' := by
        refine run_ofS (N := Ng) (ps := [a]) (us := [.ref f]) (vs := [.ref f]) lk hcg S (hr.mono hk) I1.env0 (b s' [.ref f] I1.kIn rfl) (.cons rfl .nil) rfl fun hr' => ?_
        rw [hbg]
        have hgl : Gl (cxOf C8.CX0 X.prog X.w X.K X.mg X.base Ng x (defScope st) g cdv X.A X.stack s' H1 C8.E0).nox "LogicError" := hle
        refine ⟨_, (pss_cons (ps_try_as (X := (cxOf C8.CX0 X.prog X.w X.K X.mg X.base Ng x (defScope st) g cdv X.A X.stack s' H1 C8.E0).nox) (c := .ref CL) (i := 1) (n := en) (Wout := fun _ _ _ _ => False)
            (tb := fun W D σ' H' => ∃ Ech : XK, (∀ cls d σ'' H'', Ech cls d H'' → W cls d σ'' H'') ∧ σ'[0]? = some (some (.ref f)) ∧ H' = H1 ∧ tM ((XmOf X Nm xm stm cdm fm Am om sM HM).gd (TmOf Tz lm xm stm cdm sM.heap.objs.size fm)) (XRm X.mg) (WE fun cls d _ H => Ech cls d H) m σm H1 (fun _ H2 => D.nx σ' H2))
            (ts := fun aE cls od D σ' H' => ∃ c d wd nm C, wordOf c d = some wd ∧ clsN[c]? = some nm ∧ X.mg nm = some (.ref C) ∧ cls = .ref C ∧ (σ'.length = Ng.length → σ'[1]? = some (some (.ref aE))) ∧ XD H' c d od ∧ ∃ r Z, Wf (X.gd Tz) r Z H' ∧ PV (X.gd Tz) r Z H' D.rt wd)
            rfl rfl S.nd hNe hen ⟨hgl, by decide, .inl gL⟩ L2.takes0 (fun W pn xe tk _ => ?_) (fun aE oe cls od pn hz hfl => ?_)) (pss_one (ps_ret pe_str))).nox, ?_⟩
        · refine ⟨fun pins2 s2 σ2 H2 D2 I2 h' => ?_⟩
          obtain ⟨Ech, hW, h1', eH, h3'⟩ := h'
          subst eH
          have hp := pe_act4 (X := XmOf X Nm xm stm cdm fm Am om sM HM) (CXg := C8.CX0) (Eg := C8.E0) (Ng := Ng) (p1 := p1) (p2 := p2) (E := Ech) (Ag := X.A) (og := X.stack) C L fo co hbl hbo tk hW (hr'.mono (Nat.le_refl _)) (fun A outer s H hr2 => hbody A outer s H Ech f c' hr2) hNg hva hd hcd
          exact (pss_one (ps_expr (pos := p3) hp)).run pins2 s2 σ2 H2 D2 I2 ⟨h1', ExtN.refl _, h3'⟩
        · refine ⟨fun pins2 s2 σ2 H2 D2 I2 h' => ?_⟩
          obtain ⟨c, d, wd, nm, C, hw, hn, hC, ecl, hσ, hxd, r2, Z2, w2, pv2⟩ := h'
          subst ecl
          exact (hsu c d wd nm C hw hn hC X.A X.stack s' H1 g cdv aE oe od pn hz hfl (hr'.mono (Nat.le_succ _))).run pins2 s2 σ2 H2 D2 I2 ⟨I2.len, hσ I2.len, hxd, r2, Z2, w2, pv2⟩
        · refine ⟨fun cls od H' => ∃ c d wd nm C Z', wordOf c d = some wd ∧ clsN[c]? = some nm ∧ X.mg nm = some (.ref C) ∧ cls = .ref C ∧ XD H' c d od ∧ Ext (X.gd Tz) r Z1 H1 Z' H' ∧ PV (X.gd Tz) r Z' H' Q wd, fun cls od σ'' H'' hE => ?_, rfl, rfl, r, Z1, ρm, w1.tz, stm1, h2.mono (fun d hd v H' Z' e rp => ?_) fun c d hcd => ?_⟩
          · obtain ⟨c, d, wd, nm, C, Z', hw, hn, hC, ecl, hxd, e2, pv⟩ := hE
            subst ecl
            refine ⟨true, (hx c d wd nm hw hn).ex CL C gL hC, fun _ aE hna => ⟨c, d, wd, nm, C, hw, hn, hC, rfl, fun hlen => ?_, hxd, r, Z', e2.wf, pv⟩, fun z => nomatch z⟩
            rw [List.getElem?_set_self]
            rw [List.length_set] at hlen
            rw [hlen]
            exact (List.getElem?_eq_some_iff.mp hNe).1
          · exact hd (.str (Fw.st [])) H' Z' (e1.trans e.tz) Rep.mk_str
          · intro cv od H' Z' e xr
            obtain ⟨nm, C, hn, hC, ecv, xd⟩ := xr
            split at hcd
            · rename_i wd hw
              exact ⟨c, d, wd, nm, C, Z', hw, hn, hC, ecv, xd, e.tz, PV.ext hcd (e1.trans e.tz)⟩
            · exact hcd.elim
      refine wpAny_call (codeAny_mono rc fun r s2 hq => ?_)
      cases r with
      | error e => exact (show False from hq).elim
      | ok fl =>
        cases fl with
        | ret u => exact I1.after hq
        | next => exact False.elim hq
        | brk => exact False.elim hq
        | cont => exact False.elim hq
  | _ => exact False.elim h1
end
end Fw
set_option Elab.async false
set_option linter.all false
set_option maxRecDepth 100000
set_option maxHeartbeats 1000000
namespace PySem.W
open PySem PySem.Spec PySem.Calls PyProof.Rows
section
variable {prog : Program} {w : World} {A : Around} {E : Value → Shared → Prop} {s : Shared} {K : Frag} {x D : Addr} {ox : Obj} {odo : Option Obj}
theorem fy_findData {C : Addr} {name : Str} {a g : Value} (hc : (clsIn K C).isSome = true) (ha : findIn K (.ref C) name = some (some a)) (hg : specialIn K a "__get__" = some (some g)) (ht : takesIn K a = some true) : findObj K C odo name = some (.bind g a) := by
  obtain ⟨cd, hc⟩ := Option.isSome_iff_exists.mp hc
  unfold findObj
  rw [hc, Option.bind_some, ha, Option.bind_some]
  simp [hg, ht]
theorem fy_classE {Q : Option Value → Shared → Prop} (hga : findIn K (.ref D) "__getattribute__" = some (some (.builtin "BaseException.__getattribute__"))) (hgt : findIn K (.ref D) "__getattr__" = some none) (hsub : subIn K (.ref D) (.type "BaseException") = some true)
    (hdct : hasDictIn K D = true) (ha : findIn K (.ref D) "__class__" = some (some (.builtin "object.__class__")))
    (hn : specialIn K (.builtin "object.__class__") "__get__" = some (some (.builtin "getset_descriptor.__get__"))) (htk : takesIn K (.builtin "object.__class__") = some true) (hm : mroIn K D (.type "object") = some true)
    (X : K.In s.heap) (I : InstAt s.heap x ox D odo) (h : Q (some (.ref D)) { s with toks := s.toks + 1 }) : wpAny (model prog w) A (getAttr? (.ref x) "__class__") Q E s := by
  have hf : findObj K D odo "__class__" = some (.bind (.builtin "getset_descriptor.__get__") (.builtin "object.__class__")) := fy_findData (by obtain ⟨cd, hc, _⟩ := any_some hdct; rw [hc]; rfl) ha hn htk
  obtain ⟨hp, g, d, t, os⟩ := s
  have L0 := I.type (M := model prog w)
  have L1 := looks_findIn (M := model prog w) X hga
  have L2 := looks_findIn (M := model prog w) X hgt
  have L3 := looks_find (M := model prog w) X I hf
  have sub : Looks (model prog w) hp (isInstance (.ref x) (.type "BaseException")) true := L0.andThen (looks_subIn X hsub)
  have hx0 : (false && onTheHeap (Value.builtin "BaseException.__getattribute__")) = false := rfl
  have hx2 : (Value.builtin "BaseException.__getattribute__" == Value.builtin "object.__getattribute__") = false := by decide +kernel
  have hx1 : (onTheHeap (Value.ref D) && Value.builtin "BaseException.__getattribute__" == Value.builtin "object.__getattribute__") = false := by rw [hx2]; rfl
  unfold getAttr? getAttrBy? getAttrBy
  refine wpAny_bind (wpAny_mkText (wpAny_bind (wpAny_attempt (wpAny_holding (wpAny_bind (L0.at (wpAny_bind (L1.at ?_))))))))
  show wpAny _ _ (if (onTheHeap (Value.ref D) && Value.builtin "BaseException.__getattribute__" == Value.builtin "object.__getattribute__") = true then _ else _) _ _ _
  rw [hx1, if_neg Bool.false_ne_true]
  unfold getAttrByItsOwn hookBefore
  refine wpAny_bind ?_
  rw [if_pos (show onTheHeap (Value.ref D) = true from rfl)]
  refine L2.at ?_
  refine wpAny_bind (wpAny_attempt (wpAny_holding ?_))
  unfold callGetattribute
  rw [hx0, if_neg Bool.false_ne_true]
  unfold boundAndCalled
  rw [PySem.F.excAttr_ValueError.ga.bind (.ref x)]
  refine wpAny_bind (wpAny_pure ?_)
  show wpAny _ _ (call (.builtin "BaseException.__getattribute__") [.ref x, .str "__class__" t]) _ _ _
  refine wpAny_call (codeAny_call_builtin PySem.F.excAttr_ValueError.ga.plain PySem.F.entry_bexc_ga ?_)
  refine @check_slot (model prog w) _ _ ⟨hp, g, d, t + 1, os⟩ "BaseException.__getattribute__" "BaseException" "__getattribute__" (.ref x) [.str "__class__" t] [] _ (by decide +kernel) (by decide +kernel) sub (PySem.F.args_bexc_ga (.ref x) (.str "__class__" t)) ?_
  unfold Builtin.«object.__getattribute__»
  refine wpAny_bind (wpAny_of_eq (a := ((Value.ref x : Value), [Value.str "__class__" t])) (by first | rfl | (simp only [slotArgs]; rfl)) ?_)
  refine wpAny_bind (wpAny_pure (wpAny_bind (L0.at (wpAny_bind (L3.at ?_)))))
  show wpAny _ _ (holding [Value.builtin "object.__class__"] (call (.builtin "getset_descriptor.__get__") [.builtin "object.__class__", .ref x, .ref D]) >>= ret) _ _ _
  refine wpAny_bind (wpAny_holding (wpAny_call (class_get (s := ⟨hp, g, d, t + 1, os⟩) (ox := ox) (od := odo) X I hm ?_)))
  refine wpAny_pure ?_
  show wpAny _ _ (handedOut (.ref D)) _ _ _
  rw [handedOut_of (v := .ref D) rfl]
  first
    | exact wpAny_pure (wpAny_pure h)
    | exact wpAny_pure h
    | exact wpAny_pure (wpAny_bind (wpAny_pure (wpAny_pure h)))
theorem fy_kitx (hga : findIn K (.ref D) "__getattribute__" = some (some (.builtin "BaseException.__getattribute__"))) (hgt : findIn K (.ref D) "__getattr__" = some none) (hsub : subIn K (.ref D) (.type "BaseException") = some true) (hdct : hasDictIn K D = true) (ha : findIn K (.ref D) "__class__" = some (some (.builtin "object.__class__")))
    (hn : specialIn K (.builtin "object.__class__") "__get__" = some (some (.builtin "getset_descriptor.__get__"))) (htk : takesIn K (.builtin "object.__class__") = some true) (hm : mroIn K D (.type "object") = some true) :
    KitX K (.ref x) (.ref D) (fun h => ∃ odo, InstAt h x ox D odo) where
  ty := fun _ _ _ ⟨_, I⟩ => I.type
  it := fun _ _ X _ => by
    obtain ⟨cdD, hcD, _⟩ := any_some hdct
    unfold clsIn at hcD
    split at hcD
    · rename_i c' d' cd' sl' ho
      intro A' Q' E' s' k q
      unfold isType loadHead
      exact wpAny_bind (wpAny_loadPart (k _ _ (X _ _ ho)) (wpAny_pure q))
    · cases hcD
  ne := fun h tp dd its n sl X htp => by
    obtain ⟨cdD, hcD, _⟩ := any_some hdct
    refine Bool.eq_false_iff.mpr fun q => ?_
    have e : D = tp := Value.ref.inj (beq_iff_eq.mp q)
    subst e
    unfold clsIn at hcD
    split at hcD
    · rename_i c' d' cd' sl' ho
      have z := (X _ _ ho).symm.trans htp
      cases z
    · cases hcD
  ca := fun X ⟨_, I⟩ k => fy_classE hga hgt hsub hdct ha hn htk hm X I k
end
end PySem.W
namespace Fw
open PySem PySem.Spec PyProof.Rows L2 LamX

/-! ## isinstance(e, C), e having a dict or none -/
def HasD (H : Hp) (od : Option Addr) : Prop := od = none ∨ ∃ (dd : Addr) (fs : List (Str × V)), od = some dd ∧ H dd = some (.xd fs)
def rIsD (K : PySem.W.Frag) (D a : Addr) (od : Option Addr) : List V → Hp → VK → Prop := fun xs H Q => ∃ (c : V) (cv : Value) (b : Bool), xs = [.ref a, c] ∧ HasD H od ∧ (∀ u, RelV c u → u = cv) ∧ PySem.W.kitOne K (.ref D) cv = some b ∧ Q (.bl b) H
theorem call_isD {X : Cx} {a D : Addr} {oe : Obj} {od : Option Addr} {pn : List (Addr × Obj)} (C : ExcC X.K D) (hz : Zc (.ref D) od oe) (hf : ∃ vs, oe.data = .fields vs) : CallR (X.suite a ((a, oe) :: pn)) (.builtin "isinstance") (rIsD X.K D a od) := by
  intro pins s σ H xs us Q I r h
  obtain ⟨c, cv, b, rfl, hH, hcv, e, q⟩ := h
  cases r with
  | cons rx rr =>
    cases rr with
    | cons rt rr =>
      cases rr
      cases rx
      have ec := hcv _ rt
      subst ec
      obtain ⟨ha, _⟩ := I.pin (a, oe) (List.mem_append.mpr (.inl List.mem_cons_self))
      obtain ⟨vs, hd⟩ := hf
      have J : ∃ odo, PySem.W.InstAt s.heap a oe D odo := by
        rcases hH with rfl | ⟨dd, fs, rfl, hdd⟩
        · refine ⟨none, ?_⟩
          obtain ⟨oc, od, oda, osl⟩ := oe
          obtain ⟨h1, h2⟩ := hz
          dsimp only at h1 h2 hd
          subst h1 h2 hd
          exact ⟨ha, rfl, rfl, trivial⟩
        · have hx : ObjOk X.prog X.w H s.heap dd (.xd fs) := I.hok dd _ hdd
          obtain ⟨mA, hns, hr⟩ := hx
          obtain ⟨odo, ho, hl⟩ := lookIn_ns hns
          exact ⟨some odo, ha, hz.1, by unfold PySem.W.notCls; rw [hd] <;> rfl, by rw [hz.2]; exact ho⟩
      exact PySem.W.kia_one (PySem.W.fy_kitx C.hg C.hk C.hs C.hd C.ha C.hn C.ht C.hm) I.kIn J e (fun z => nomatch z) fun tk => ⟨.bl b, H, I.kept (t' := tk) fun _ _ z => z, rfl, q⟩
section
variable {X : Cx} {Tz : Tbs} {XR : XRel} {E : Sg → XK} {a D : Addr} {oe : Obj} {od : Option Addr} {pn : List (Addr × Obj)} {en y nm : Str} {q1 q2 q3 q4 : Pos} {b : Bool}
theorem pe_isD (i : Nat) (xi : Xi X.K X.mg nm y b) (hD : X.mg nm = some (.ref D)) (hz : Zc (.ref D) od oe) (hf : ∃ vs, oe.data = .fields vs) (hi : X.N[i]? = some en) (hv : Vis X.env.scope en) (hgI : Gl X "isinstance") (hmI : X.mg "isinstance" = none) (hgy : Gl X y)
    (hd1 : (en == ("__debug__" : Str)) = false := by decide) (hd2 : (en == ("__classdict__" : Str)) = false := by decide) (hd3 : (y == ("__debug__" : Str)) = false := by decide) :
    PE (X.suite a ((a, oe) :: pn)) (.Call (.Name "isinstance" q1) [.Name en q2, .Name y q3] [] q4) (fun σ H Q => σ[i]? = some (some (.ref a)) ∧ HasD H od ∧ Q (.bl b) H) := by
  obtain ⟨D', C, e1, e2, ec, ek⟩ := xi.ex
  rw [hD] at e1
  cases e1
  have hn : PE (X.suite a ((a, oe) :: pn)) (.Name en q2) (tVar i) := pe_var (X := X.suite a ((a, oe) :: pn)) hi hv hd1 hd2
  have hc : PE (X.suite a ((a, oe) :: pn)) (.Name y q3) (tC (.ref C)) := pe_glob (X := X.suite a ((a, oe) :: pn)) hgy e2 rfl hd3
  exact PE.imp (pe_callB (X := X.suite a ((a, oe) :: pn)) (call_isD (a := a) (pn := pn) ec hz hf) hgI hmI PyProof.Rows.Boot.«isinstance» (pa_cons hn (pa_cons hc pa_nil))) fun σ H Q ⟨hσ, hH, hq⟩ =>
    ⟨.ref a, hσ, .ref C, .ref C, b, rfl, hH, fun u h => h, ek, hq⟩
/-- the same over data: the slot i holds the exception -/
def mIsE (i : Nat) (a : Addr) (b : Bool) : En → Mo Dt := fun ρ => match ρ[i]? with | some (.fz (.fn f)) => if f = a then .ret (.bl b) else .err | _ => .err
theorem e_isE (i : Nat) (xi : Xi X.K X.mg nm y b) (hD : X.mg nm = some (.ref D)) (hz : Zc (.ref D) none oe) (hf : ∃ vs, oe.data = .fields vs) (hi : X.N[i]? = some en) (hv : Vis X.env.scope en) (hgI : Gl X "isinstance") (hmI : X.mg "isinstance" = none) (hgy : Gl X y)
    (hd1 : (en == ("__debug__" : Str)) = false := by decide) (hd2 : (en == ("__classdict__" : Str)) = false := by decide) (hd3 : (y == ("__debug__" : Str)) = false := by decide) :
    PE (X.suite a ((a, oe) :: pn)) (.Call (.Name "isinstance" q1) [.Name en q2, .Name y q3] [] q4) (tM (X.gd Tz) XR E (mIsE i a b)) := PE.imp (pe_isD i xi hD hz hf hi hv hgI hmI hgy hd1 hd2 hd3) fun σ H Q ⟨r, Z, ρ, w, s, h⟩ => by
  unfold mIsE at h
  split at h
  · rename_i f hf
    split at h
    · rename_i ef
      subst ef
      obtain ⟨v, e1, x, e2, rp⟩ := s.get hf
      subst e2
      unfold Rep at rp
      subst rp
      exact ⟨e1, .inl rfl, PV.at w h Rep.mk_bl⟩
    · exact h.elim
  · exact h.elim
end
/-! ## l.count(x) of a list of truth values -/
def isBlD : Dt → Bool
  | .bl _ => true
  | _ => false
def lcountD (xs : List Dt) (x : Dt) : Option Dt := if xs.all isBlD && isBlD x then some (.int ((xs.countP fun y => beqD y x : Nat) : Int)) else none
def mLCount (mo m : En → Mo Dt) : En → Mo Dt := fun ρ => (mo ρ).bind fun d => match d with
  | .lst xs => (m ρ).bind fun x => ofO (lcountD xs x)
  | _ => .err
def rCountD (K : PySem.W.Frag) : V → List V → Hp → VK → Prop := fun x xs H Q => ∃ (a : Addr) (y : V) (d : PyData) (ds : List PyData), x = V.ref a ∧ xs = [y] ∧ Dp K H (V.ref a) (.list ds) ∧ Dp K H y d ∧ PyData.plainAll ds = true ∧ d.plain = true ∧ PyData.depthAll ds = 0 ∧ SeqAt.shaped d = true ∧ Q (.int ((ds.countP fun z => PyData.eqv z d : Nat) : Int)) H
theorem mt_countD {X : Cx} (hu : X.A.units + 1 < cLine) : MtR X "list.count" (rCountD X.K) := by
  intro pins s σ H x xs v us Q I rx rxs h
  obtain ⟨a, y, d, ds, rfl, rfl, hl, hy, pl, pd, dp, sd, q⟩ := h
  cases rx
  cases rxs with
  | cons ry rt =>
    rename_i uy ut
    cases rt
    obtain ⟨bs, r1⟩ := Dp.reads I d y uy hy ry
    cases hl with
    | lst hs ha =>
      obtain ⟨its, rv, ⟨⟨cls, dd, data, sls⟩, n, ho, hc, hdn, hdt⟩, hlen⟩ := I.list hs
      simp only at hc hdt
      subst hc hdt
      obtain ⟨as, h4⟩ := Dp.readsAll I ds _ its ha rv
      refine SeqAt.count_list_data (vs := its.toArray) ⟨_, ho, rfl, n, rfl⟩ (show ReadsAll s.heap its.toArray.toList ds as from h4) r1 pl pd (by rw [dp, Nat.zero_min]; exact hu) ?_
      exact ⟨.int _, H, I.tok _, ⟨_, rfl⟩, q⟩
theorem bl_py {x : Dt} (h : isBlD x = true) : ∃ b, x = .bl b := by
  cases x with
  | bl b => exact ⟨b, rfl⟩
  | _ => cases h
theorem bls_py {k : Bool} : ∀ {xs : List Dt}, xs.all isBlD = true → PyData.plainAll (toPys xs) = true ∧ PyData.depthAll (toPys xs) = 0 ∧ ((toPys xs).countP fun z => PyData.eqv z (.bool k)) = xs.countP (fun y => beqD y (.bl k)) ∧ plainDs 63 xs = true
  | [], _ => ⟨rfl, rfl, rfl, rfl⟩
  | x :: xs, h => by
    rw [List.all_cons, Bool.and_eq_true] at h
    obtain ⟨b, rfl⟩ := bl_py h.1
    obtain ⟨h1, h2, h3, h4⟩ := bls_py (k := k) h.2
    refine ⟨?_, ?_, ?_, ?_⟩
    · unfold toPys PyData.plainAll; rw [h1]; rfl
    · unfold toPys PyData.depthAll; rw [h2]; rfl
    · unfold toPys; rw [List.countP_cons, List.countP_cons, h3]; rfl
    · unfold plainDs; rw [h4]; rfl
section
variable {X : Cx} {Tz : Tbs} {XR : XRel} {E : Sg → XK} {o e : Expr} {mo m : En → Mo Dt} {apos cpos : Pos}
theorem e_lcount (hu : X.A.units + 1 < cLine) (ho : PE X o (tM (X.gd Tz) XR E mo)) (he : PE X e (tM (X.gd Tz) XR E m))
    (hbase : attributeBase o "count" X.env (eval o X.env) = eval o X.env := by rfl)
    (hfew : ((backTo cpos (starEach (e :: []) X.env)).all (fun x => !x.1) && (backToKw cpos (keywordEach [] X.env)).all (fun x => x.1.isSome)
      && decide ((e :: ([] : List Expr)).length + ([] : List Keyword).length + (if ([] : List Keyword).isEmpty then 0 else 1) < 30)) = true := by rfl)
    (hline : (apos.endLine == cpos.line) = true := by rfl) (hs : starEach (e :: []) X.env = (false, eval e X.env) :: starEach [] X.env := by rfl) (hplain : (backTo cpos (starEach [] X.env)).any (·.1) = false := by rfl) :
    PE X (.Call (.Attribute o "count" apos) [e] [] cpos) (tM (X.gd Tz) XR E (mLCount mo m)) :=
  PE.imp (pe_bm PySem.F.plainAttrs_list PySem.F.slot_list_count PySem.F.type_list_count (mt_countD hu) ho (pa_cons he pa_nil hs) hbase hfew hline hs hplain) fun σ H Q ⟨r, Z, ρ, w, s, h⟩ => tM.split w s h fun v H1 Z1 d e1 w1 s1 rp h1 => by
    cases d with
    | lst xs =>
      obtain ⟨a, vs, rfl, z, t, l, q⟩ := rp.lst
      refine ⟨.inl ⟨rfl, vs, .of t⟩, tM.split w1 s1 (h1.mono (fun _ q => q) fun _ _ p => p.ext e1) fun u H2 Z2 d2 e2 w2 s2 rp2 h2 => ?_⟩
      obtain ⟨d3, e3, h3⟩ := wp_ofO h2
      unfold lcountD at e3
      split at e3
      · rename_i hp
        rw [Bool.and_eq_true] at hp
        obtain ⟨k, rfl⟩ := bl_py hp.2
        cases e3
        obtain ⟨h4, h5, h6, h7⟩ := bls_py (k := k) hp.1
        have hp' : plainD 64 (.lst xs) = true := by unfold plainD; exact h7
        refine ⟨a, u, .bool k, toPys xs, rfl, rfl, ?_, by rw [rp2.bl]; exact .bl k, h4, rfl, h5, by rfl, ?_⟩
        · have := (rp.frz (e2.frz w1)).dp hp'
          unfold toPy at this
          exact this
        · rw [h6]
          exact h3 _ H2 Z2 (e1.trans e2) Rep.mk_int
      · cases e3
    | _ => exact h1.elim
end
end Fw
set_option Elab.async false
set_option linter.all false
set_option maxRecDepth 100000
set_option maxHeartbeats 1000000
namespace Fw
open PySem PySem.Spec PyProof.Rows L2 LamX

/-! ## the suite of except LogicError as e -/
structure Xfi (K : PySem.W.Frag) (mg : Str → Option Value) (x f : Str) : Prop where
  ex : ∃ C, mg x = some (.ref C) ∧ XfC K C ∧ PySem.W.findIn K (.ref C) f = some none
section
variable {X : Cx} {Tz : Tbs} {a C : Addr} {oe : Obj} {od : Option Addr} {pn : List (Addr × Obj)} {n c : Nat} {d wd : Dt} {body rest : List Stmt} {m : En → Mo Fl} {en : Str}
theorem suite_fw {ρ0 : En} (hρ : ρ0 = (List.replicate n Slo.un).set 1 (.fz (.fn a))) (h : PSs (X.suite a ((a, oe) :: pn)) body (tS (X.gd Tz) XR0 EE m)) (hm : m ρ0 = .ret (.rt wd)) :
    PSs (X.suite a ((a, oe) :: pn)) body (fun D σ H => σ.length = n ∧ σ[1]? = some (some (.ref a)) ∧ XD H c d od ∧ ∃ r Z, Wf (X.gd Tz) r Z H ∧ PV (X.gd Tz) r Z H D.rt wd) :=
  PSs.imp h fun D σ H ⟨hl, hσ, _, r, Z, w, pv⟩ => by
    have slot : ∀ (i : Nat) (s : Slo), ρ0[i]? = some s → s = .un ∨ (i = 1 ∧ s = .fz (.fn a)) := fun i s e => by
      subst hρ
      by_cases hi : i = 1
      · subst hi
        rw [List.getElem?_set] at e
        split at e
        · split at e
          · cases e; exact .inr ⟨rfl, rfl⟩
          · cases e
        · rename_i q; exact absurd rfl q
      · rw [List.getElem?_set_ne (fun q => hi q.symm)] at e
        exact .inl (List.mem_replicate.mp (List.mem_of_getElem? e)).2
    have noOwn : ∀ (i : Nat) (s : Slo), ρ0[i]? = some s → isOwn s = true → False := fun i s e o => by
      rcases slot i s e with rfl | ⟨_, rfl⟩ <;> cases o
    refine ⟨r, Z, ρ0, Z, H, ⟨⟨?_, fun i v s h1 h2 => ?_, fun i j s t p h1 h2 o1 o2 s1 s2 => (noOwn i s h1 o1).elim⟩, Ext.refl w, fun i s p h1 h2 h3 => (noOwn i s h1 h2).elim⟩, ?_⟩
    · subst hρ; simp [hl]
    · rcases slot i s h2 with rfl | ⟨rfl, rfl⟩
      · trivial
      · rw [hσ] at h1
        cases h1
        exact ⟨_, rfl, by unfold Rep; rfl⟩
    · rw [hm]
      exact pv
variable {q1 q2 q3 q4 q5 q6 q7 q8 q9 q10 : Pos} {j k2 : Nat} {lg : Str}
theorem suite_logic (l : List Nat) (hlg : lg = st l) (xi : Xi X.K X.mg "BadLogic" "BadLogic" true) (xf : Xfi X.K X.mg "BadLogic" "index") (hC : X.mg "BadLogic" = some (.ref C)) (hz : Zc (.ref C) od oe) (hf : ∃ vs, oe.data = .fields vs) (hi : X.N[1]? = some en) (hv : Vis X.env.scope en) (hgI : Gl X "isinstance") (hmI : X.mg "isinstance" = none) (hgy : Gl X "BadLogic")
    (hd1 : (en == ("__debug__" : Str)) = false := by decide) (hd2 : (en == ("__classdict__" : Str)) = false := by decide) :
    PSs (X.suite a ((a, oe) :: pn)) (.If (.Call (.Name "isinstance" q1) [.Name en q2, .Name "BadLogic" q3] [] q4) [.Return (some (.Tuple [.Constant (.str lg) j q5, .Attribute (.Name en q6) "index" q7] k2 q8)) q9] [] q10 :: rest)
      (fun D σ H => σ.length = n ∧ σ[1]? = some (some (.ref a)) ∧ XD H 1 d od ∧ ∃ r Z, Wf (X.gd Tz) r Z H ∧ PV (X.gd Tz) r Z H D.rt (.tup [.str l, d])) := by
  obtain ⟨C', e1, T, hno⟩ := xf.ex
  rw [hC] at e1
  cases e1
  have hn : ∀ {q : Pos}, PE (X.suite a ((a, oe) :: pn)) (.Name en q) (tVar 1) := fun {q} => pe_var (X := X.suite a ((a, oe) :: pn)) hi hv hd1 hd2
  have ht := pe_tup (x1 := k2) (pos := q8) (pa_cons (pe_str (X := X.suite a ((a, oe) :: pn)) (x := lg) (j := j) (pos := q5)) (pa_cons (pe_xf (pos := q7) T hno hz hf (hn (q := q6))) pa_nil))
  refine PSs.imp (pss_cons (ps_if (pt_val (pe_isD (q1 := q1) (q2 := q2) (q3 := q3) (q4 := q4) 1 xi hC hz hf hi hv hgI hmI hgy hd1 hd2)) (pss_one (ps_ret (pos := q9) ht)) pss_never) pss_never) fun D σ H ⟨hl, hσ, hxd, r, Z, w, pv⟩ => ?_
  rcases hxd with ⟨_, dd, v, ed, hdd, fl⟩ | ⟨z, _⟩
  · subst ed
    refine ⟨hσ, .inr ⟨dd, _, rfl, hdd⟩, true, rfl, .ref a, hσ, rfl, rfl, dd, _, v, rfl, hdd, rfl, ?_⟩
    have rv : Rep (X.gd Tz) r Z H v d := by
      cases d with
      | non => cases (show v = .non from fl); exact Rep.mk_non
      | int i => cases (show v = .int i from fl); exact Rep.mk_int
      | _ => exact fl.elim
    subst hlg
    exact ⟨sl16 (show 2 ≤ 16777216 by decide), pv.tup w (Reps.cons Rep.mk_str (Reps.cons rv Reps.nil)) (sl16 (show 2 ≤ 16777216 by decide))⟩
  · exact absurd rfl z
end
def wordW : Nat → Dt → Option Dt := fun c d => match c with
  | 1 => some (.tup [.str [108, 111, 103, 105, 99], d])
  | 2 => some (.str [97, 110, 115, 119, 101, 114])
  | 3 => some (.str [110, 97, 109, 101])
  | 4 => some (.str [112, 114, 111, 109, 105, 115, 101])
  | 5 => some (.str [112, 114, 111, 109, 105, 115, 101, 115])
  | 6 => some (.str [102, 111, 114, 109, 117, 108, 97])
  | 7 => some (.str [114, 111, 119])
  | _ => none
end Fw
set_option Elab.async false
set_option linter.all false
set_option maxRecDepth 100000
set_option maxHeartbeats 4000000
namespace Fw
open PySem PySem.Spec PyProof.Rows L2 LamX

/-! ## the law, with tables for its and its makers' lambdas -/
def spLawL (K : PySem.W.Frag) (tabs : List (Addr × Str)) : Sp := fun vs H Q _ => ∃ (a : Addr) (ns : List Int), vs = [.ref a] ∧ (∀ t ∈ tabs, H t.1 = some (.tbl #[])) ∧ SqL K H a (ns.map V.int) ∧ ns.length ≤ 63 ∧ ∀ H', Q (.bl true) H'
section
variable {P : Program} {w : World} {K : PySem.W.Frag} {mg : Str → Option Value} {base : Heap}
theorem lawML {x : Str} {st : Stmt} {f cd : Addr} {tabs : List (Addr × Str)} {lams : List LamRec} {N : List Str} {s0 : Stmt} {rest : List Stmt} {c : Int} {k : Nat} {m : En → Mo Fl} {kV doc pm ct oc : Value} {an od : Option Addr} {osl : Array (Option Value)}
    (lk : K.lookup f = some ⟨oc, od, .func (PySem.W.fnOf x x (defArgs st) (defBody st) (defScope st) .none kV doc pm an (.ref cd) ct), osl⟩) (hcd : PySem.W.codeIn K (.ref cd) x = true)
    (hp : 0 ≤ c ∧ c < 2147483647) (S : FnScope N ["_law_script"] (defScope st)) (hN : 1 < N.length) (hbd : defBody st = s0 :: rest)
    (h0 : ∀ (A : Around) (outer : List Env) (s : Shared) (H : Hp) (E : XK), PS (cxOf CX0 P w K mg base N x (defScope st) f (.ref cd) A outer s H E).nox s0 (tAsg (tLst (tCons (tVar 0) (tCons (tC (.int 0)) (tCons (tC (.int c)) (tCons (tC (.int 0)) tNil))))) (gName 1)))
    (hb : ∀ (A : Around) (outer : List Env) (s : Shared) (H : Hp) (E : XK), Room k (A.deeper (envOfC x (defScope st) s.heap.objs.size f (.ref cd))) →
      PSs (cxOf CX0 P w K mg base N x (defScope st) f (.ref cd) A outer s H E).nox rest (tS ⟨K, w.params, ⟨tabs, lams, (envOfC x (defScope st) s.heap.objs.size f (.ref cd)).cells⟩⟩ XR0 EE m))
    (hm : ((m (.un :: .fz .row :: List.replicate (N.length - 2) .un)).bind flo).wp (fun d => d = .bl true) (fun _ _ => False)) :
    FnOk P w K mg base CX0 (k + 1) f (PySem.W.fnOf x x (defArgs st) (defBody st) (defScope st) .none kV doc pm an (.ref cd) ct) ["_law_script"] (spLawL K tabs) := by
  refine fn_of lk hcd S (fun vs H Q E h => ?_) fun A outer s H vs Q E hr h => ?_
  · obtain ⟨a, ns, rfl, _⟩ := h
    rfl
  · obtain ⟨a, ns, rfl, hT, hS, hl, hq⟩ := h
    rw [hbd]
    refine ⟨_, (pss_cons (h0 A outer s H E) (hb A outer s H E hr)).nox, ?_⟩
    refine ⟨.ref a, rfl, sl16 (show 4 ≤ 16777216 by decide), fun p hp' => ?_⟩
    show tS _ _ _ _ _ _ _
    have hsz : (L2.start N [V.ref a]) = some (.ref a) :: List.replicate (N.length - 1) none := rfl
    have key : ∃ Z : Addr → Prop, Wf ⟨K, w.params, ⟨tabs, lams, (envOfC x (defScope st) s.heap.objs.size f (.ref cd)).cells⟩⟩ p Z (upd H p (.lst [.ref a, .int 0, .int c, .int 0])) := by
      have tb : Tabs tabs (upd H p (.lst [.ref a, .int 0, .int c, .int 0])) := fun t ht => TabS.nil (by rw [upd_ne (ne_of_none (hT t ht) hp')]; exact hT t ht)
      rcases hS with h | h
      · refine ⟨fun b => b = a, ⟨⟨a, ns, 0, c, 0, upd_same, .inl ⟨rfl, ?_⟩, hl, by decide, hp.1, hp.2, by decide⟩, fun z => ?_, fun b z => ?_, tb⟩⟩
        · unfold Rd at h ⊢
          have n : a ≠ p := fun z => by
            subst z
            rcases h with h | ⟨_, h⟩ <;> rw [hp'] at h <;> cases h
          rw [upd_ne n]
          exact h
        · subst z
          unfold Rd at h
          rcases h with h | ⟨_, h⟩ <;> rw [hp'] at h <;> cases h
        · subst z
          unfold Rd at h
          rcases h with h | ⟨_, h⟩
          · exact ⟨_, (upd_ne (ne_of_none h hp')).trans h, True.intro⟩
          · exact ⟨_, (upd_ne (ne_of_none h hp')).trans h, True.intro⟩
      · exact ⟨fun _ => False, ⟨⟨a, ns, 0, c, 0, upd_same, .inr h, hl, by decide, hp.1, hp.2, by decide⟩, id, fun b z => z.elim, tb⟩⟩
    obtain ⟨Z, wf⟩ := key
    refine ⟨p, _, _, _, _, ⟨⟨?_, fun i v s h1 h2 => ?_, fun i j s t q h1 h2 o1 o2 s1 s2 => ?_⟩, Ext.refl wf, fun i s q h1 h2 h3 => ?_⟩, (Mo.wp_bind.mp hm).mono (fun fl hf => ?_) fun _ _ x => x.elim⟩
    · rw [hsz]
      simp only [List.length_set, List.length_cons, List.length_replicate]
      omega
    · match i, h2 with
      | 0, h2 => cases h2; trivial
      | 1, h2 =>
        cases h2
        rw [hsz, List.getElem?_set_self (by simp; omega)] at h1
        cases h1
        exact ⟨_, rfl, by unfold Rep; rfl⟩
      | i + 2, h2 =>
        have h3 : (List.replicate (N.length - 2) Slo.un)[i]? = some s := h2
        rw [(List.mem_replicate.mp (List.mem_of_getElem? h3)).2]
        trivial
    · have : s = .un ∨ s = .fz .row := by
        have := List.mem_of_getElem? h1
        rcases List.mem_cons.mp this with q | q
        · exact .inl q
        · rcases List.mem_cons.mp q with q | q
          · exact .inr q
          · exact .inl (List.mem_replicate.mp q).2
      rcases this with rfl | rfl <;> cases o1
    · have : s = .un ∨ s = .fz .row := by
        have := List.mem_of_getElem? h1
        rcases List.mem_cons.mp this with q | q
        · exact .inl q
        · rcases List.mem_cons.mp q with q | q
          · exact .inr q
          · exact .inl (List.mem_replicate.mp q).2
      rcases this with rfl | rfl <;> cases h2
    · cases fl with
      | nx ρ => cases hf
      | rt d =>
        cases (show d = .bl true from hf)
        exact fun v H' Z' e rp => by rw [rp.bl]; exact hq H'
      | bk ρ => exact hf.elim
      | ct ρ => exact hf.elim
end
end Fw
set_option Elab.async false
set_option linter.all false
set_option maxRecDepth 100000
set_option maxHeartbeats 2000000
namespace Fw
open PySem PySem.Spec PyProof.Rows L2 LamX
/-- the end, where several defs hold lambdas -/
theorem walk_ofOwns {l : PySem.W.OpenLaw} {n k : Nat} {q : Program} {loose : List Str} {XP : (Str → Option Value) → Heap → Prop} {YP : World → Heap → Prop} {d : DefRec} {K : Params → PySem.W.Frag} {CX : World → CXT} {x : Str}
    (hn : l.most = some n) (hn2 : n ≤ sizeLine) (hdf : d.params.defaults = []) (hr : Room k callerA) (hY : ∀ (w : World) (h : Heap), YP w h → (K w.params).In h)
    (F : ∀ (w : World) (mg : Str → Option Value) (fa : Addr) (h : Heap), YP w h → (K w.params).In h → h.Ns mainGlobals mg → mg d.name = some (.ref fa) → (∀ (y : Str) (f : Addr), ((recsOf q).any fun e => e.name == y) = true → mg y = some (.ref f) → OwnTab (K w.params) f h) → LawAtS l w (K w.params) (CX w) k n x mg fa h)
    (hCX : ∀ (w : World) (H : Hp) (s : Shared) (e : Value) (s' : Shared), CX w [] H s (fun _ _ _ => False) e s' → False) :
    PySem.W.WalkO q loose XP YP l.row.toRowW d [] (fun f vs => PySem.call f vs) := by
  refine Att.attach_callB hn hdf fun w s₀ s₁ mg mb fa o pm cd doc a vs ns G Y ho hd hcd hmg hobj hints hlen hbits hg => ?_
  have KX := hY w _ Y
  have own : ∀ (y : Str) (f : Addr), ((recsOf q).any fun e => e.name == y) = true → mg y = some (.ref f) → OwnTab (K w.params) f s₁.heap := fun y f hrec hy c P o1 fd1 e dd vs1 sl k1 k2 k3 k4 k5 => by
    obtain ⟨dL, hm, hn1⟩ := List.any_eq_true.mp hrec
    have hn2 : dL.name = y := beq_iff_eq.mp hn1
    obtain ⟨a', o', fd', c', P', h1, h2, h3, h4, h5, h6⟩ := G.T.tab dL hm
    rw [hn2, hy] at h1
    cases h1
    have g1 := KX _ _ k1
    rw [g1] at h2
    cases h2
    rw [k2] at h3
    cases h3
    rw [k3] at h4
    cases h4
    obtain ⟨⟨oc, vc, e1, _, e3, e4⟩, hP⟩ := h6
    have g2 := KX _ _ k4
    rw [g2] at e1
    cases e1
    cases e3
    rw [k5] at e4
    cases e4
    exact hP
  obtain ⟨fd, cs, sp, hT, nT, C, hb, hsp, hF⟩ := F w mg fa _ Y KX G.T.g hmg own
  exact law_callTs KX G.T.g G.T.b G.T.builtins G.T.nolimit hg hT nT C G.T.bmain hobj hints (Nat.le_trans hlen hn2) hr hF hb (fun H hH hS => hsp H a ns hlen hbits hH hS) fun H e s' => hCX w H s₁ e s'
end Fw
set_option Elab.async false
set_option linter.all false
set_option maxRecDepth 100000
set_option maxHeartbeats 1000000
namespace Fw
open PySem PySem.Spec PyProof.Rows L2 LamX

/-! ## C(..), where __init__ raises -/
structure CalI (P : Program) (w : World) (K : PySem.W.Frag) (mg : Str → Option Value) (base : Heap) (k : Nat) (x : Str) (n : Nat) (F1 : List Dt → Mo Dt) : Prop where
  ex : ∃ (C f : Addr) (fd : FuncData) (ps : List Str) (F' : List Dt → Mo Dt), (∀ Tz : Tbs, FnOk P w K mg base (L2.CX P w) k f fd ps (spX ⟨K, w.params, Tz⟩ (XRm mg) (n + 1) F')) ∧ mg x = some (.ref C) ∧ L2.Mk K C f ∧ Binds K fd ps [] ∧
    ∀ (y : Addr) (ds : List Dt) (R : Nat → Dt → Prop), ds.length = n → (F1 ds).wp (fun _ => False) R → (F' (.fn y :: ds)).wp (fun _ => False) R
def mMk (n : Nat) (F1 : List Dt → Mo Dt) (ms : En → Mo (List Dt)) : En → Mo Dt := fun ρ => (ms ρ).bind fun ds => if ds.length = n then (F1 ds).bind fun _ => .err else .err
section
variable {X : Cx} {Tz : Tbs} {E1 : XK} {k j n : Nat} {x : Str} {F1 : List Dt → Mo Dt} {e : Expr} {es : List Expr} {ms : En → Mo (List Dt)} {p pos : Pos}
theorem e_mk (c : CalI X.prog X.w X.K X.mg X.base k x n F1) (hr : Room j X.A) (tk : L2.Takes X (fun cls d _ H => E1 cls d H)) (hg : Gl X x) (ha : PA X (e :: es) (tMs (X.gd Tz) (XRm X.mg) (WE fun cls d _ H => E1 cls d H) ms)) (hk : k + 1 ≤ j := by omega)
    (hdb : (x == ("__debug__" : Str)) = false := by decide) (he : starEach (e :: es) X.env = (false, eval e X.env) :: starEach es X.env := by rfl) (hpl : (backTo pos (starEach es X.env)).any (·.1) = false := by rfl) :
    PE X (.Call (.Name x p) (e :: es) [] pos) (tM (X.gd Tz) (XRm X.mg) (WE fun cls d _ H => E1 cls d H) (mMk n F1 ms)) := by
  obtain ⟨C, f, fd, ps, F', G, hm, M, b, hF⟩ := c.ex
  refine PE.imp (pe_make M (G Tz) (hr.mono hk) hg hm b .nil (L2.passes_call tk fun _ _ _ _ h => h) ha hdb he hpl) fun σ H Q ⟨r, Z, ρ, w, s, h⟩ => tMs.split w s h fun vs H1 Z1 ds e1 w1 s1 rp h1 => ?_
  split at h1
  · rename_i hl
    intro y dx hy hdx hne
    have e2 := Ext.own (o := .own y) w1 hdx
    have hy2 : upd H1 dx (.own y) y = none := by rw [upd_ne (Ne.symm hne)]; exact hy
    have e3 := Ext.own (o := .ins C dx []) e2.wf hy2
    have e13 := e2.trans e3
    have rf : Rep (X.gd Tz) r Z1 (upd (upd H1 dx (.own y)) y (.ins C dx [])) (.ref y) (.fn y) := by unfold Rep; rfl
    refine ⟨by rw [List.append_nil, List.length_cons, rp.length, hl], r, Z1, .fn y :: ds, e13.wf, by rw [List.append_nil]; exact Reps.cons rf (rp.frz (e13.frz w1)), ?_⟩
    have h2 := hF y ds _ hl ((Mo.wp_bind.mp h1).mono (fun _ q => (show False from q)) fun _ _ q => q)
    exact h2.mono (fun _ q => q.elim) fun c d q => q.ext (e1.trans e13)
  · exact h1.elim
end
end Fw
set_option Elab.async false
set_option linter.all false
set_option maxRecDepth 100000
set_option maxHeartbeats 1000000
namespace Fw
open PySem PySem.Spec PyProof.Rows L2 LamX

/-! ## where a text's lambdas stand -/
def noE : Expr := .Constant .none 0 ⟨0, 0, 0, 0⟩
def stE : Stmt → Expr
  | .Assign _ v _ => v
  | .Return (some v) _ => v
  | .If t _ _ _ => t
  | .Expr e _ => e
  | _ => noE
def eK : Expr → Nat → Expr
  | .BinOp l _ r _, i => [l, r].getD i noE
  | .BoolOp _ vs _, i => vs.getD i noE
  | .Compare l _ cs _, i => (l :: cs).getD i noE
  | .Call _ as _ _, i => as.getD i noE
  | .List es _, i => es.getD i noE
  | .Tuple es _ _, i => es.getD i noE
  | _, _ => noE
def lamR (q : Str) : Expr → LamRec
  | .Lambda a b s _ => ⟨q, a, b, s⟩
  | _ => ⟨q, { posonlyargs := [], args := [], vararg := none, kwonlyargs := [], kw_defaults := [], kwarg := none, defaults := [] }, noE, { kind := .function, names := [], isGenerator := false, isCoroutine := false }⟩
def lamP (q : Str) (b : List Stmt) (i : Nat) (p : List Nat) : LamRec := lamR q (p.foldl eK (stE (b.getD i (.Pass ⟨0, 0, 0, 0⟩))))
def clsBody : Stmt → List Stmt
  | .ClassDef _ _ _ b _ _ _ _ _ _ _ => b
  | _ => []
def LamsOk (X : Cx) (Tz : Tbs) (k i : Nat) (l : List (En → Mo Dt)) : Prop := ∀ (j : Nat) (m : En → Mo Dt), l[j]? = some m → LamOk X Tz k (i + j) m
section
variable {X : Cx} {Tz : Tbs} {k i : Nat} {m : En → Mo Dt} {l : List (En → Mo Dt)} {ls : List Str}
theorem lams_nil : LamsOk X Tz k i [] := fun j m h => by cases h
theorem lams_cons (h : LamOk X Tz k i m) (t : LamsOk X Tz k (i + 1) l) : LamsOk X Tz k i (m :: l)
  | 0, m', e => by cases (show m = m' from Option.some.inj e); exact h
  | j + 1, m', e => by
    have := t j m' e
    rwa [show i + 1 + j = i + (j + 1) by omega] at this
theorem LamsOk.all (h : LamsOk X Tz k 0 l) : ∀ (i : Nat) (m : En → Mo Dt), l[i]? = some m → LamOk X Tz k i m := fun i m e => by
  have := h i m e
  rwa [Nat.zero_add] at this
theorem lam_ok (R : LamRec) (hl : Tz.l[i]? = some R) (hq : R.q = lamQ X) (lp : LPar R.params R.body R.scope ls) (L : LamS3 X.N X.env.scope R.scope ls)
    (hb : ∀ (A : Around) (outer : List Env) (s : Shared) (H : Hp) (E : XK) (f c' : Addr), Room k (A.deeper (lamEnv X R.scope s.heap.objs.size f c')) → PE (lamCx X A outer s H E R.scope f c') R.body (tM (X.gd Tz) (XRm X.mg) (WE fun cls d _ H => E cls d H) m)) : LamOk X Tz k i m :=
  ⟨R, ls, hl, hq, lp, L, hb⟩
end
end Fw
set_option Elab.async false
set_option linter.all false
set_option maxRecDepth 100000
set_option maxHeartbeats 1000000
namespace Fw
open PySem PySem.Spec PyProof.Rows L2 LamX
section
variable {X : Cx} {Tz : Tbs} {a C : Addr} {oe : Obj} {od : Option Addr} {pn : List (Addr × Obj)} {n c : Nat} {d wd : Dt} {body : List Stmt} {m : En → Mo Fl}
theorem suite_ne {ρ0 : En} (hc : c ≠ 1) (hz : Zc (.ref C) od oe) (hρ : ρ0 = (List.replicate n Slo.un).set 1 (.fz (.fn a))) (h : Zc (.ref C) none oe → PSs (X.suite a ((a, oe) :: pn)) body (tS (X.gd Tz) XR0 EE m)) (hm : m ρ0 = .ret (.rt wd)) :
    PSs (X.suite a ((a, oe) :: pn)) body (fun D σ H => σ.length = n ∧ σ[1]? = some (some (.ref a)) ∧ XD H c d od ∧ ∃ r Z, Wf (X.gd Tz) r Z H ∧ PV (X.gd Tz) r Z H D.rt wd) := by
  refine ⟨fun pins s σ H D I ⟨h1, h2, h3, h4⟩ => ?_⟩
  have e : od = none := by
    rcases h3 with ⟨q, _⟩ | ⟨_, q, _⟩
    · exact absurd q hc
    · exact q
  subst e
  exact (suite_fw (c := c) (d := d) hρ (h hz) hm).run pins s σ H D I ⟨h1, h2, h3, h4⟩
/-- the six questions -/
def mAsk (a : Addr) (b0 b1 b2 b3 b4 b5 b6 : Bool) : En → Mo Fl := mSq (mIfS (mTru (mIsE 1 a b0)) mErr mNx) (mSq (mSet 2 (mLst (mCons (mIsE 1 a b1) (mCons (mIsE 1 a b2) (mCons (mIsE 1 a b3) (mCons (mIsE 1 a b4) (mCons (mIsE 1 a b5) (mCons (mIsE 1 a b6) mNil))))))))
  (mRet (mIf (mTst (m2 (eqD false) (mLCount (mVar 2) (mC (.bl true))) (mC (.int 1)))) (m2 ixD (mLst (mCons (mC (.str [97, 110, 115, 119, 101, 114])) (mCons (mC (.str [110, 97, 109, 101])) (mCons (mC (.str [112, 114, 111, 109, 105, 115, 101])) (mCons (mC (.str [112, 114, 111, 109, 105, 115, 101, 115])) (mCons (mC (.str [102, 111, 114, 109, 117, 108, 97])) (mCons (mC (.str [114, 111, 119])) mNil))))))) (mLIndex (mVar 2) (mC (.bl true)))) (mC (.str [111, 116, 104, 101, 114])))))
theorem mIsE_at {i : Nat} {b : Bool} {ρ : En} (h : ρ[i]? = some (.fz (.fn a))) : mIsE i a b ρ = .ret (.bl b) := by
  unfold mIsE
  rw [h]
  simp
theorem ret_bind {α β : Type} {x : α} {f : α → Mo β} : (Mo.ret x).bind f = f x := rfl
theorem ask_at {b1 b2 b3 b4 b5 b6 : Bool} : mAsk a false b1 b2 b3 b4 b5 b6 [.un, .fz (.fn a), .un] = mRet (mIf (mTst (m2 (eqD false) (mLCount (mVar 2) (mC (.bl true))) (mC (.int 1)))) (m2 ixD (mLst (mCons (mC (.str [97, 110, 115, 119, 101, 114])) (mCons (mC (.str [110, 97, 109, 101])) (mCons (mC (.str [112, 114, 111, 109, 105, 115, 101])) (mCons (mC (.str [112, 114, 111, 109, 105, 115, 101, 115])) (mCons (mC (.str [102, 111, 114, 109, 117, 108, 97])) (mCons (mC (.str [114, 111, 119])) mNil))))))) (mLIndex (mVar 2) (mC (.bl true)))) (mC (.str [111, 116, 104, 101, 114])))
    [.un, .fz (.fn a), .fz (.lst [.bl b1, .bl b2, .bl b3, .bl b4, .bl b5, .bl b6])] := by
  have k : ∀ b, mIsE 1 a b [.un, .fz (.fn a), .un] = .ret (.bl b) := fun b => mIsE_at rfl
  have k1 : mIfS (mTru (mIsE 1 a false)) mErr mNx [.un, .fz (.fn a), .un] = .ret (.nx [.un, .fz (.fn a), .un]) := by
    unfold mIfS mTru
    rw [k]
    rfl
  unfold mAsk
  unfold mSq
  rw [k1]
  show (mSq (mSet 2 _) _) [.un, .fz (.fn a), .un] = _
  unfold mSq mSet
  have k2 : mLst (mCons (mIsE 1 a b1) (mCons (mIsE 1 a b2) (mCons (mIsE 1 a b3) (mCons (mIsE 1 a b4) (mCons (mIsE 1 a b5) (mCons (mIsE 1 a b6) mNil)))))) [.un, .fz (.fn a), .un] = .ret (.lst [.bl b1, .bl b2, .bl b3, .bl b4, .bl b5, .bl b6]) := by
    unfold mLst mCons
    rw [k, k, k, k, k, k]
    rfl
  rw [k2]
  rfl
theorem ask2 : mAsk a false true false false false false false [.un, .fz (.fn a), .un] = .ret (.rt (.str [97, 110, 115, 119, 101, 114])) := by rw [ask_at]; rfl
theorem ask3 : mAsk a false false true false false false false [.un, .fz (.fn a), .un] = .ret (.rt (.str [110, 97, 109, 101])) := by rw [ask_at]; rfl
theorem ask4 : mAsk a false false false true false false false [.un, .fz (.fn a), .un] = .ret (.rt (.str [112, 114, 111, 109, 105, 115, 101])) := by rw [ask_at]; rfl
theorem ask5 : mAsk a false false false false true false false [.un, .fz (.fn a), .un] = .ret (.rt (.str [112, 114, 111, 109, 105, 115, 101, 115])) := by rw [ask_at]; rfl
theorem ask6 : mAsk a false false false false false true false [.un, .fz (.fn a), .un] = .ret (.rt (.str [102, 111, 114, 109, 117, 108, 97])) := by rw [ask_at]; rfl
theorem ask7 : mAsk a false false false false false false true [.un, .fz (.fn a), .un] = .ret (.rt (.str [114, 111, 119])) := by rw [ask_at]; rfl
end
end Fw
set_option Elab.async false
set_option linter.all false
set_option maxRecDepth 100000
set_option maxHeartbeats 4000000
namespace K10
open PySem PySem.Spec PyProof.Rows L2 Fw

def g_ANSWERS : Dt := (.tup [(.str [102]), (.str [116]), (.str [117])])
def g_PAIRS : Dt := (.tup [(.tup [(.str [102]), (.str [117])]), (.tup [(.str [117]), (.str [102])]), (.tup [(.str [116]), (.str [117])]), (.tup [(.str [117]), (.str [116])]), (.tup [(.str [117]), (.str [117])])])
def g_FIVE : Dt := (.int 5)
def g_MANY : Dt := (.dk [[97, 112, 97, 114, 116], [109, 105, 100, 100, 108, 101], [112, 97, 114, 116, 115], [114, 101, 112, 101, 97, 116], [115, 112, 114, 101, 97, 100], [116, 117, 114, 110], [117, 110, 105, 116, 115], [122, 101, 114, 111, 115]] [(.int 1), (.int 1), (.int 3), (.int 1), (.int 3), (.int 1), (.int 1), (.int 1)])
def g_LETTERS : Dt := (.tup [(.str [97]), (.str [98]), (.str [99]), (.str [100]), (.str [101])])
def g_MOST_LEAVES : Dt := (.int 20)
def g_MOST_DEEP : Dt := (.int 8)
def g_USUAL : Dt := (.tup [(.str [102]), (.str [102]), (.str [102]), (.str [102]), (.str [102]), (.str [116]), (.str [116]), (.str [116]), (.str [116]), (.str [116]), (.str [116])])
def g_CLASHES : Dt := (.tup [(.tup [(.str [97, 98, 115, 111, 114, 98]), (.str [111, 112, 101, 110])]), (.tup [(.str [97, 112, 97, 114, 116]), (.str [103, 114, 111, 119, 105, 110, 103])]), (.tup [(.str [97, 112, 97, 114, 116]), (.str [111, 112, 101, 110])]), (.tup [(.str [103, 114, 111, 119, 105, 110, 103]), (.str [109, 105, 100, 100, 108, 101])]), (.tup [(.str [109, 105, 100, 100, 108, 101]), (.str [111, 112, 101, 110])]), (.tup [(.str [111, 112, 101, 110]), (.str [116, 111, 108, 100])]), (.tup [(.str [111, 112, 101, 110]), (.str [122, 101, 114, 111, 115])]), (.tup [(.str [97, 98, 115, 111, 114, 98]), (.str [97, 112, 97, 114, 116]), (.str [109, 105, 100, 100, 108, 101])]), (.tup [(.str [97, 98, 115, 111, 114, 98]), (.str [97, 112, 97, 114, 116]), (.str [116, 117, 114, 110])]), (.tup [(.str [97, 98, 115, 111, 114, 98]), (.str [109, 105, 100, 100, 108, 101]), (.str [116, 117, 114, 110])]), (.tup [(.str [97, 112, 97, 114, 116]), (.str [114, 101, 112, 101, 97, 116]), (.str [116, 117, 114, 110])]), (.tup [(.str [109, 105, 100, 100, 108, 101]), (.str [114, 101, 112, 101, 97, 116]), (.str [116, 117, 114, 110])]), (.tup [(.str [97, 112, 97, 114, 116]), (.str [109, 105, 100, 100, 108, 101]), (.str [114, 101, 112, 101, 97, 116]), (.str [117, 110, 105, 116, 115])]), (.tup [(.str [97, 112, 97, 114, 116]), (.str [109, 105, 100, 100, 108, 101]), (.str [115, 112, 114, 101, 97, 100]), (.str [117, 110, 105, 116, 115])]), (.tup [(.str [97, 112, 97, 114, 116]), (.str [115, 112, 114, 101, 97, 100]), (.str [116, 117, 114, 110]), (.str [117, 110, 105, 116, 115])]), (.tup [(.str [109, 105, 100, 100, 108, 101]), (.str [115, 112, 114, 101, 97, 100]), (.str [116, 117, 114, 110]), (.str [117, 110, 105, 116, 115])]), (.tup [(.str [97, 112, 97, 114, 116]), (.str [109, 105, 100, 100, 108, 101]), (.str [111, 114, 100, 101, 114]), (.str [115, 112, 114, 101, 97, 100]), (.str [116, 117, 114, 110])]), (.tup [(.str [97, 112, 97, 114, 116]), (.str [109, 105, 114, 114, 111, 114]), (.str [111, 114, 100, 101, 114]), (.str [115, 112, 114, 101, 97, 100]), (.str [116, 117, 114, 110])]), (.tup [(.str [109, 105, 100, 100, 108, 101]), (.str [109, 105, 114, 114, 111, 114]), (.str [111, 114, 100, 101, 114]), (.str [115, 112, 114, 101, 97, 100]), (.str [116, 117, 114, 110])])])
def g_SIDES : Dt := (.tup [(.str [103, 114, 111, 119, 105, 110, 103]), (.str [111, 112, 101, 110]), (.str [111, 114, 100, 101, 114]), (.str [112, 97, 114, 116, 115]), (.str [114, 101, 112, 101, 97, 116]), (.str [116, 111, 108, 100]), (.str [117, 110, 105, 116, 115]), (.str [122, 101, 114, 111, 115])])
def g_BACKS : Dt := (.tup [(.str [103, 114, 111, 119, 105, 110, 103]), (.str [111, 112, 101, 110]), (.str [116, 117, 114, 110])])
def g_SIZE : Dt := (.int 11)
def g_TOLD : Dt := (.dk [[97, 115, 32, 102, 97, 108, 115, 101], [97, 115, 32, 116, 114, 117, 101], [108, 97, 122, 121], [115, 116, 114, 111, 110, 103], [119, 101, 97, 107]] [(.str [102, 102, 102, 102, 102, 102, 102, 116, 116, 102, 116]), (.str [102, 102, 116, 116, 116, 116, 116, 116, 116, 116, 102]), (.str [102, 117, 117, 117, 117, 117, 117, 116, 117, 117, 117]), (.str [102, 102, 117, 117, 117, 117, 117, 116, 116, 117, 117]), (.str [117, 117, 117, 117, 117, 117, 117, 117, 117, 117, 117])])
def g_PROMISES : Dt := (.tup [(.str [97, 98, 115, 111, 114, 98]), (.str [97, 112, 97, 114, 116]), (.str [103, 114, 111, 119, 105, 110, 103]), (.str [109, 105, 100, 100, 108, 101]), (.str [109, 105, 114, 114, 111, 114]), (.str [111, 112, 101, 110]), (.str [111, 114, 100, 101, 114]), (.str [112, 97, 114, 116, 115]), (.str [114, 101, 112, 101, 97, 116]), (.str [115, 112, 114, 101, 97, 100]), (.str [116, 111, 108, 100]), (.str [116, 117, 114, 110]), (.str [117, 110, 105, 116, 115]), (.str [122, 101, 114, 111, 115])])
abbrev m__law_taken : List Dt → Mo Dt := mTaken
def b_is_answer : En → Mo Fl := (mRet (mAndV (mIs .str (mVar 0)) (m2 (inD false) (mVar 0) (mC g_ANSWERS))))
def m_is_answer : List Dt → Mo Dt := run 1 b_is_answer
def b_leaves (rec : List Dt → Mo Dt) : En → Mo Fl := (mSq (mIfS (mTru (mIs .str (mVar 0))) (mRet (mIf (mOr (mTst (m2 (inD false) (mVar 0) (mC g_LETTERS))) (mTst (m2 (inD false) (mVar 0) (mC g_ANSWERS)))) (mC (.int 1)) (mC .non))) mNx) (mSq (mIfS (mOr (mTst (m2 (eqD false) (mVar 1) (mC (.int 0)))) (mOr (mNot (mTru (mIs .tup (mVar 0)))) (mOr (mTst (m2 (eqD false) (mVar 0) (mTup mNil))) (mNot (mTru (mIs .str (m2 ixD (mVar 0) (mC (.int 0))))))))) (mRet (mC .non)) mNx) (mSq (mIfS (mTst (m2 (eqD true) (mCall lenD (mCons (mVar 0) mNil)) (mGet1 (mDict (((mC (.str [97, 110, 100])), (mC (.int 3))) :: (((mC (.str [110, 111, 116])), (mC (.int 2))) :: (((mC (.str [111, 114])), (mC (.int 3))) :: [])))) (m2 ixD (mVar 0) (mC (.int 0)))))) (mRet (mC .non)) mNx) (mSq (mSet 2 (mLc [3] (mSeq (mSl (mVar 0) (mSome (mC (.int 1))) mNo)) (mgN 3) (fun _ => .ret true) (mCal 2 rec (mCons (mVar 3) (mCons (m2 subD (mVar 1) (mC (.int 1))) mNil))))) (mRet (mIf (mTst (m2 (inD false) (mC .non) (mVar 2))) (mC .non) (mCall sumD (mCons (mVar 2) mNil))))))))
def m_leaves : Nat → List Dt → Mo Dt
  | 0 => fun _ => .err
  | n + 1 => run 4 (b_leaves (m_leaves n))
def b_is_formula : En → Mo Fl := (mSq (mSet 1 (mCal 2 (m_leaves 10) (mCons (mVar 0) (mCons (mC g_MOST_DEEP) mNil)))) (mRet (mAndV (m2 (isD true) (mVar 1) (mC .non)) (m2 (ordD .le) (mVar 1) (mC g_MOST_LEAVES)))))
def m_is_formula : List Dt → Mo Dt := run 2 b_is_formula
def b_leaves_of (rec : List Dt → Mo Dt) : En → Mo Fl := (mSq (mIfS (mTru (mIs .str (mVar 0))) (mRet (mLst (mCons (mVar 0) mNil))) mNx) (mSq (mOwn 1 mNil) (mSq (mFor (mSeq (mSl (mVar 0) (mSome (mC (.int 1))) mNo)) (mgN 2) (mExt 1 (mCal 1 rec (mCons (mVar 2) mNil)))) (fun ρ => (mRet (mVar 1)) (frzE 1 ρ)))))
def m_leaves_of : Nat → List Dt → Mo Dt
  | 0 => fun _ => .err
  | n + 1 => run 3 (b_leaves_of (m_leaves_of n))
def b_letters_in : En → Mo Fl := (mRet (mCall tupleD (mCons (mSortSet (mLc [1] (mSeq (mCal 1 (m_leaves_of 10) (mCons (mVar 0) mNil))) (mgN 1) (mTst (m2 (inD false) (mVar 1) (mC g_LETTERS))) (mVar 1))) mNil)))
def m_letters_in : List Dt → Mo Dt := run 2 b_letters_in
def b__law_pick : En → Mo Fl := (mRet (m2 ixD (mVar 1) (mCal 2 m__law_taken (mCons (mVar 0) (mCons (mCall lenD (mCons (mVar 1) mNil)) mNil)))))
def m__law_pick : List Dt → Mo Dt := run 2 b__law_pick
def b__law_told : En → Mo Fl := (mRet (mDict (((mC (.str [97, 115, 32, 102, 97, 108, 115, 101])), (mC (.str [102, 102, 102, 102, 102, 102, 102, 116, 116, 102, 116]))) :: (((mC (.str [97, 115, 32, 116, 114, 117, 101])), (mC (.str [102, 102, 116, 116, 116, 116, 116, 116, 116, 116, 102]))) :: (((mC (.str [108, 97, 122, 121])), (mC (.str [102, 117, 117, 117, 117, 117, 117, 116, 117, 117, 117]))) :: (((mC (.str [115, 116, 114, 111, 110, 103])), (mC (.str [102, 102, 117, 117, 117, 117, 117, 116, 116, 117, 117]))) :: (((mC (.str [119, 101, 97, 107])), (mC (.str [117, 117, 117, 117, 117, 117, 117, 117, 117, 117, 117]))) :: [])))))))
def m__law_told : List Dt → Mo Dt := run 0 b__law_told
def b__law_logic : En → Mo Fl := (mSq (mPar2 1 2 (mCal 2 m__law_taken (mCons (mVar 0) (mCons (mC (.int 4)) mNil))) (mVals (mCal0 m__law_told))) (mSq (mOwnL 3 (mCal 2 m__law_pick (mCons (mVar 0) (mCons (mVar 2) mNil)))) (mSq (mIfS (mTst (m2 (eqD false) (mVar 1) (mC (.int 1)))) (mFor (mRng (m2 addD (mC (.int 1)) (mCal 2 m__law_taken (mCons (mVar 0) (mCons (mC (.int 2)) mNil))))) (mgN 4) (mPutL 3 (mCal 2 m__law_taken (mCons (mVar 0) (mCons (mC (.int 11)) mNil))) (mCal 2 m__law_pick (mCons (mVar 0) (mCons (mLst (mCons (mC (.str [102])) (mCons (mC (.str [116])) (mCons (mC (.str [117])) mNil)))) mNil))))) mNx) (mSq (mIfS (mTst (m2 (eqD false) (mVar 1) (mC (.int 2)))) (mSq (mAsg (mLc [4] (mRng (mC (.int 3))) (mgN 4) (fun _ => .ret true) (mCal 2 m__law_pick (mCons (mVar 0) (mCons (mLst (mCons (mC (.str [102])) (mCons (mC (.str [116])) (mCons (mC (.str [117])) mNil)))) mNil)))) (mgL [5, 6, 7])) (mSq (mAsg (mLc [4] (mRng (mC (.int 3))) (mgN 4) (fun _ => .ret true) (mCal 2 m__law_pick (mCons (mVar 0) (mCons (mLst (mCons (mC (.str [102])) (mCons (mC (.str [116])) (mCons (mC (.str [117])) mNil)))) mNil)))) (mgL [8, 9, 10])) (mOwn 3 (mCons (mC (.str [102])) (mCons (mC (.str [102])) (mCons (mVar 5) (mCons (mVar 5) (mCons (mVar 6) (mCons (mVar 8) (mCons (mVar 8) (mCons (mC (.str [116])) (mCons (mC (.str [116])) (mCons (mVar 9) (mCons (mIf (mTst (m2 (eqD true) (mVar 7) (mC (.str [117])))) (mVar 10) (mC (.str [117]))) mNil)))))))))))))) mNx) (mSq (mIfS (mTst (m2 (eqD false) (mVar 1) (mC (.int 3)))) (mSet 3 (mLc [4] (mRng (mC (.int 11))) (mgN 4) (fun _ => .ret true) (mCal 2 m__law_pick (mCons (mVar 0) (mCons (mLst (mCons (mC (.str [102])) (mCons (mC (.str [116])) (mCons (mC (.str [117])) mNil)))) mNil))))) mNx) (fun ρ => (mRet (mCall tupleD (mCons (mVar 3) mNil))) (frzE 3 ρ)))))))
def m__law_logic : List Dt → Mo Dt := run 11 b__law_logic
def bx_need_answers : En → Mo Fl := (mFor (mSeq (mVar 0)) (mgN 1) (mIfS (mNot (mTru (mCalN 1 m_is_answer (mCons (mVar 1) mNil)))) (fun _ => .exc 2 .non) mNx))
def mx_need_answers : List Dt → Mo Dt := run 2 bx_need_answers
def bx_need_logic : En → Mo Fl := (mSq (mIfS (mOr (mNot (mTru (mIs .tup (mVar 0)))) (mTst (m2 (eqD true) (mCall lenD (mCons (mVar 0) mNil)) (mC g_SIZE)))) (mRaiseB (mC .non)) mNx) (mFor (mRng (mC g_SIZE)) (mgN 1) (mIfS (mNot (mTru (mCalN 1 m_is_answer (mCons (m2 ixD (mVar 0) (mVar 1)) mNil)))) (mRaiseB (mVar 1)) mNx)))
def mx_need_logic : List Dt → Mo Dt := run 2 bx_need_logic
def bx_conj : En → Mo Fl := (mSq (mDrop (mCal 1 mx_need_logic (mCons (mVar 0) mNil))) (mSq (mDrop (mCal 1 mx_need_answers (mCons (mTup (mCons (mVar 1) (mCons (mVar 2) mNil))) mNil))) mErr))
def mx_conj : List Dt → Mo Dt := run 3 bx_conj
def bx_disj : En → Mo Fl := (mSq (mDrop (mCal 1 mx_need_logic (mCons (mVar 0) mNil))) (mSq (mDrop (mCal 1 mx_need_answers (mCons (mTup (mCons (mVar 1) (mCons (mVar 2) mNil))) mNil))) mErr))
def mx_disj : List Dt → Mo Dt := run 3 bx_disj
def bx_neg : En → Mo Fl := (mSq (mDrop (mCal 1 mx_need_logic (mCons (mVar 0) mNil))) (mSq (mDrop (mCal 1 mx_need_answers (mCons (mTup (mCons (mVar 1) mNil)) mNil))) mErr))
def mx_neg : List Dt → Mo Dt := run 2 bx_neg
def bx_told_logic : En → Mo Fl := (mSq (mIfS (mOr (mNot (mTru (mIs .str (mVar 0)))) (mTst (m2 (inDk true) (mVar 0) (mC g_TOLD)))) (fun _ => .exc 3 .non) mNx) mErr)
def mx_told_logic : List Dt → Mo Dt := run 1 bx_told_logic
def bx_need_promise : En → Mo Fl := (mIfS (mOr (mNot (mTru (mIs .str (mVar 0)))) (mTst (m2 (inD true) (mVar 0) (mC g_PROMISES)))) (fun _ => .exc 4 .non) mNx)
def mx_need_promise : List Dt → Mo Dt := run 1 bx_need_promise
def bx_need_promises : En → Mo Fl := (mSq (mIfS (mOr (mNot (mTru (mIs .tup (mVar 0)))) (mNot (mTru (mCall allD (mCons (mLc [1] (mSeq (mVar 0)) (mgN 1) (fun _ => .ret true) (mAndV (mIs .str (mVar 1)) (m2 (inD false) (mVar 1) (mC g_PROMISES)))) mNil))))) (fun _ => .exc 5 .non) mNx) (mIfS (mNot (mTru (mCall allD (mCons (mLc [1, 2] (mZip (mVar 0) (mSl (mVar 0) (mSome (mC (.int 1))) mNo)) (mgT [1, 2]) (fun _ => .ret true) (m2 (ordD .lt) (mVar 1) (mVar 2))) mNil)))) (fun _ => .exc 5 .non) mNx))
def mx_need_promises : List Dt → Mo Dt := run 3 bx_need_promises
def bx_keeps : En → Mo Fl := (mSq (mDrop (mCal 1 mx_need_logic (mCons (mVar 0) mNil))) (mSq (mDrop (mCal 1 mx_need_promise (mCons (mVar 1) mNil))) mErr))
def mx_keeps : List Dt → Mo Dt := run 2 bx_keeps
def bx_counterexample : En → Mo Fl := (mSq (mDrop (mCal 1 mx_need_logic (mCons (mVar 0) mNil))) (mSq (mDrop (mCal 1 mx_need_promise (mCons (mVar 1) mNil))) mErr))
def mx_counterexample : List Dt → Mo Dt := run 2 bx_counterexample
def bx_profile : En → Mo Fl := (mSq (mDrop (mCal 1 mx_need_logic (mCons (mVar 0) mNil))) mErr)
def mx_profile : List Dt → Mo Dt := run 2 bx_profile
def bx_need_formula : En → Mo Fl := (mIfS (mNot (mTru (mCalN 1 m_is_formula (mCons (mVar 0) mNil)))) (fun _ => .exc 6 .non) mNx)
def mx_need_formula : List Dt → Mo Dt := run 1 bx_need_formula
def bx_letters_of : En → Mo Fl := (mSq (mDrop (mCal 1 mx_need_formula (mCons (mVar 0) mNil))) mErr)
def mx_letters_of : List Dt → Mo Dt := run 1 bx_letters_of
def bx_need_row : En → Mo Fl := (mIfS (mOr (mNot (mTru (mIs .tup (mVar 1)))) (mOr (mTst (m2 (eqD true) (mCall lenD (mCons (mVar 1) mNil)) (mCall lenD (mCons (mVar 0) mNil)))) (mNot (mTru (mCall allD (mCons (mLc [2] (mSeq (mVar 1)) (mgN 2) (fun _ => .ret true) (mCalN 1 m_is_answer (mCons (mVar 2) mNil))) mNil)))))) (fun _ => .exc 7 .non) mNx)
def mx_need_row : List Dt → Mo Dt := run 3 bx_need_row
def bx_value : En → Mo Fl := (mSq (mDrop (mCal 1 mx_need_logic (mCons (mVar 0) mNil))) (mSq (mDrop (mCal 1 mx_need_formula (mCons (mVar 1) mNil))) (mSq (mSet 3 (mCalN 1 m_letters_in (mCons (mVar 1) mNil))) (mSq (mDrop (mCal 2 mx_need_row (mCons (mVar 3) (mCons (mVar 2) mNil)))) mErr))))
def mx_value : List Dt → Mo Dt := run 4 bx_value
def bx_table : En → Mo Fl := (mSq (mDrop (mCal 1 mx_need_logic (mCons (mVar 0) mNil))) (mSq (mDrop (mCal 1 mx_need_formula (mCons (mVar 1) mNil))) mErr))
def mx_table : List Dt → Mo Dt := run 2 bx_table
def bx_is_sure : En → Mo Fl := (mRet (mCall allD (mCons (mLc [2] (mSeq (mCal 2 mx_table (mCons (mVar 0) (mCons (mVar 1) mNil)))) (mgN 2) (fun _ => .ret true) (m2 (eqD false) (mVar 2) (mC (.str [116])))) mNil)))
def mx_is_sure : List Dt → Mo Dt := run 3 bx_is_sure
def bx_parting : En → Mo Fl := (mSq (mDrop (mCal 1 mx_need_logic (mCons (mVar 0) mNil))) (mSq (mDrop (mCal 1 mx_need_formula (mCons (mVar 1) mNil))) (mSq (mDrop (mCal 1 mx_need_formula (mCons (mVar 2) mNil))) mErr)))
def mx_parting : List Dt → Mo Dt := run 6 bx_parting
def bx_alike : En → Mo Fl := (mRet (m2 (isD false) (mCal 3 mx_parting (mCons (mVar 0) (mCons (mVar 1) (mCons (mVar 2) mNil)))) (mC .non)))
def mx_alike : List Dt → Mo Dt := run 3 bx_alike
def bx_need_known : En → Mo Fl := (mSq (mDrop (mCal 1 mx_need_formula (mCons (mVar 0) mNil))) (mIfS (mTst (m2 (inD false) (mC (.str [117])) (mCalN 1 (m_leaves_of 10) (mCons (mVar 0) mNil)))) (fun _ => .exc 6 .non) mNx))
def mx_need_known : List Dt → Mo Dt := run 1 bx_need_known
def bx_filled : En → Mo Fl := (mSq (mDrop (mCal 1 mx_need_known (mCons (mVar 0) mNil))) (mSq (mSet 2 (mCalN 1 m_letters_in (mCons (mVar 0) mNil))) (mSq (mDrop (mCal 2 mx_need_row (mCons (mVar 2) (mCons (mVar 1) mNil)))) mErr)))
def mx_filled : List Dt → Mo Dt := run 3 bx_filled
def bx_rows_where : En → Mo Fl := (mSq (mDrop (mCal 1 mx_need_logic (mCons (mVar 0) mNil))) (mSq (mDrop (mCal 1 mx_need_known (mCons (mVar 1) mNil))) mErr))
def mx_rows_where : List Dt → Mo Dt := run 7 bx_rows_where
def bx_gaps : En → Mo Fl := (mRet (mCal 3 mx_rows_where (mCons (mVar 0) (mCons (mVar 1) (mCons (mC (.bl true)) mNil)))))
def mx_gaps : List Dt → Mo Dt := run 2 bx_gaps
def bx_slips : En → Mo Fl := (mRet (mCal 3 mx_rows_where (mCons (mVar 0) (mCons (mVar 1) (mCons (mC (.bl false)) mNil)))))
def mx_slips : List Dt → Mo Dt := run 2 bx_slips
def bx_is_once : En → Mo Fl := (mSq (mDrop (mCal 1 mx_need_formula (mCons (mVar 0) mNil))) mErr)
def mx_is_once : List Dt → Mo Dt := run 3 bx_is_once
def bx_write_logic : En → Mo Fl := (mSq (mDrop (mCal 1 mx_need_logic (mCons (mVar 0) mNil))) mErr)
def mx_write_logic : List Dt → Mo Dt := run 1 bx_write_logic
def bx_write_formula : En → Mo Fl := (mSq (mDrop (mCal 1 mx_need_formula (mCons (mVar 0) mNil))) mErr)
def mx_write_formula : List Dt → Mo Dt := run 1 bx_write_formula
def bx_can_hold : En → Mo Fl := (mSq (mDrop (mCal 1 mx_need_promises (mCons (mVar 0) mNil))) mErr)
def mx_can_hold : List Dt → Mo Dt := run 1 bx_can_hold
def bx_clashes : En → Mo Fl := (mSq (mDrop (mCal 1 mx_need_promises (mCons (mVar 0) mNil))) mErr)
def mx_clashes : List Dt → Mo Dt := run 1 bx_clashes
def bx_can_add : En → Mo Fl := (mSq (mDrop (mCal 1 mx_need_promises (mCons (mVar 0) mNil))) mErr)
def mx_can_add : List Dt → Mo Dt := run 3 bx_can_add
def bx_count_logics : En → Mo Fl := (mSq (mDrop (mCal 1 mx_need_promises (mCons (mVar 0) mNil))) mErr)
def mx_count_logics : List Dt → Mo Dt := run 1 bx_count_logics
def bx_least_logic : En → Mo Fl := (mSq (mDrop (mCal 1 mx_need_promises (mCons (mVar 0) mNil))) mErr)
def mx_least_logic : List Dt → Mo Dt := run 1 bx_least_logic
def bx_Desk : En → Mo Fl := (mSq (mDrop (mCal 1 mx_need_logic (mCons (mVar 1) mNil))) mErr)
def l0__law_logic_works : En → Mo Dt := (mCal 3 mx_conj (mCons (mVar 0) (mCons (mC .non) (mCons (mC .non) mNil))))
def l1__law_logic_works : En → Mo Dt := (mCal 3 mx_disj (mCons (mVar 0) (mCons (mC .non) (mCons (mC .non) mNil))))
def l2__law_logic_works : En → Mo Dt := (mCal 2 mx_neg (mCons (mVar 0) (mCons (mC .non) mNil)))
def l3__law_logic_works : En → Mo Dt := (mCal 2 mx_keeps (mCons (mVar 0) (mCons (mC .non) mNil)))
def l4__law_logic_works : En → Mo Dt := (mCal 2 mx_counterexample (mCons (mVar 0) (mCons (mC .non) mNil)))
def l5__law_logic_works : En → Mo Dt := (mCal 1 mx_profile (mCons (mVar 0) mNil))
def l6__law_logic_works : En → Mo Dt := (mCal 3 mx_value (mCons (mVar 0) (mCons (mC .non) (mCons (mC .non) mNil))))
def l7__law_logic_works : En → Mo Dt := (mCal 2 mx_table (mCons (mVar 0) (mCons (mC .non) mNil)))
def l8__law_logic_works : En → Mo Dt := (mCal 2 mx_is_sure (mCons (mVar 0) (mCons (mC .non) mNil)))
def l9__law_logic_works : En → Mo Dt := (mCal 3 mx_parting (mCons (mVar 0) (mCons (mC .non) (mCons (mC .non) mNil))))
def l10__law_logic_works : En → Mo Dt := (mCal 3 mx_alike (mCons (mVar 0) (mCons (mC .non) (mCons (mC .non) mNil))))
def l11__law_logic_works : En → Mo Dt := (mCal 2 mx_gaps (mCons (mVar 0) (mCons (mC .non) mNil)))
def l12__law_logic_works : En → Mo Dt := (mCal 2 mx_slips (mCons (mVar 0) (mCons (mC .non) mNil)))
def l13__law_logic_works : En → Mo Dt := (mCal 1 mx_write_logic (mCons (mVar 0) mNil))
def l14__law_logic_works : En → Mo Dt := (mMk 1 mx_need_logic (mCons (mVar 0) mNil))
def ml__law_logic_works : List (En → Mo Dt) := [l0__law_logic_works, l1__law_logic_works, l2__law_logic_works, l3__law_logic_works, l4__law_logic_works, l5__law_logic_works, l6__law_logic_works, l7__law_logic_works, l8__law_logic_works, l9__law_logic_works, l10__law_logic_works, l11__law_logic_works, l12__law_logic_works, l13__law_logic_works, l14__law_logic_works]
def mr__law_logic_works : En → Mo (Dt × En) := (mSqR (mSet 1 (mLst (mCons (mC (.lam 0)) (mCons (mC (.lam 1)) (mCons (mC (.lam 2)) (mCons (mC (.lam 3)) (mCons (mC (.lam 4)) mNil))))))) (mSqR (mSet 1 (m2 addD (mVar 1) (mLst (mCons (mC (.lam 5)) (mCons (mC (.lam 6)) (mCons (mC (.lam 7)) (mCons (mC (.lam 8)) (mCons (mC (.lam 9)) mNil)))))))) (mRetR (m2 addD (mVar 1) (mLst (mCons (mC (.lam 10)) (mCons (mC (.lam 11)) (mCons (mC (.lam 12)) (mCons (mC (.lam 13)) (mCons (mC (.lam 14)) mNil))))))))))
def l0__law_formula_works : En → Mo Dt := (mCal 3 mx_value (mCons (mVar 0) (mCons (mVar 1) (mCons (mC .non) mNil))))
def l1__law_formula_works : En → Mo Dt := (mCal 2 mx_table (mCons (mVar 0) (mCons (mVar 1) mNil)))
def l2__law_formula_works : En → Mo Dt := (mCal 2 mx_is_sure (mCons (mVar 0) (mCons (mVar 1) mNil)))
def l3__law_formula_works : En → Mo Dt := (mCal 3 mx_parting (mCons (mVar 0) (mCons (mVar 1) (mCons (mC .non) mNil))))
def l4__law_formula_works : En → Mo Dt := (mCal 3 mx_parting (mCons (mVar 0) (mCons (mC (.str [97])) (mCons (mVar 1) mNil))))
def l5__law_formula_works : En → Mo Dt := (mCal 3 mx_alike (mCons (mVar 0) (mCons (mVar 1) (mCons (mC .non) mNil))))
def l6__law_formula_works : En → Mo Dt := (mCal 1 mx_letters_of (mCons (mVar 1) mNil))
def l7__law_formula_works : En → Mo Dt := (mCal 2 mx_filled (mCons (mVar 1) (mCons (mC .non) mNil)))
def l8__law_formula_works : En → Mo Dt := (mCal 2 mx_gaps (mCons (mVar 0) (mCons (mVar 1) mNil)))
def l9__law_formula_works : En → Mo Dt := (mCal 2 mx_slips (mCons (mVar 0) (mCons (mVar 1) mNil)))
def l10__law_formula_works : En → Mo Dt := (mCal 1 mx_is_once (mCons (mVar 1) mNil))
def l11__law_formula_works : En → Mo Dt := (mCal 1 mx_write_formula (mCons (mVar 1) mNil))
def ml__law_formula_works : List (En → Mo Dt) := [l0__law_formula_works, l1__law_formula_works, l2__law_formula_works, l3__law_formula_works, l4__law_formula_works, l5__law_formula_works, l6__law_formula_works, l7__law_formula_works, l8__law_formula_works, l9__law_formula_works, l10__law_formula_works, l11__law_formula_works]
def mr__law_formula_works : En → Mo (Dt × En) := (mSqR (mSet 2 (mLst (mCons (mC (.lam 0)) (mCons (mC (.lam 1)) (mCons (mC (.lam 2)) (mCons (mC (.lam 3)) (mCons (mC (.lam 4)) mNil))))))) (mSqR (mSet 2 (m2 addD (mVar 2) (mLst (mCons (mC (.lam 5)) (mCons (mC (.lam 6)) (mCons (mC (.lam 7)) (mCons (mC (.lam 8)) (mCons (mC (.lam 9)) mNil)))))))) (mRetR (m2 addD (mVar 2) (mLst (mCons (mC (.lam 10)) (mCons (mC (.lam 11)) mNil)))))))
def l0_law : En → Mo Dt := (mCal 3 mx_conj (mCons (mVar 2) (mCons (mVar 5) (mCons (mC (.str [116])) mNil))))
def l1_law : En → Mo Dt := (mCal 3 mx_conj (mCons (mVar 2) (mCons (mC (.str [116])) (mCons (mVar 5) mNil))))
def l2_law : En → Mo Dt := (mCal 3 mx_disj (mCons (mVar 2) (mCons (mVar 5) (mCons (mC .non) mNil))))
def l3_law : En → Mo Dt := (mCal 3 mx_disj (mCons (mVar 2) (mCons (mC (.str [117])) (mCons (mVar 5) mNil))))
def l4_law : En → Mo Dt := (mCal 2 mx_neg (mCons (mVar 2) (mCons (mVar 5) mNil)))
def l5_law : En → Mo Dt := (mCal 1 mx_told_logic (mCons (mCalN 2 m__law_pick (mCons (mVar 1) (mCons (mLst (mCons (mC .non) (mCons (mC (.str [])) (mCons (mC (.str [83, 116, 114, 111, 110, 103])) (mCons (mC (.str [115, 116, 114, 111, 110, 103, 32])) (mCons (mLst (mCons (mC (.str [119, 101, 97, 107])) mNil)) (mCons (mC (.int 5)) (mCons (mC (.bl true)) mNil)))))))) mNil))) mNil))
def l6_law : En → Mo Dt := (mCal 2 mx_keeps (mCons (mVar 2) (mCons (mVar 5) mNil)))
def l7_law : En → Mo Dt := (mCal 2 mx_counterexample (mCons (mVar 2) (mCons (mVar 5) mNil)))
def l8_law : En → Mo Dt := (mCal 1 mx_can_hold (mCons (mVar 5) mNil))
def l9_law : En → Mo Dt := (mCal 1 mx_clashes (mCons (mVar 5) mNil))
def l10_law : En → Mo Dt := (mCal 1 mx_can_add (mCons (mVar 5) mNil))
def l11_law : En → Mo Dt := (mCal 1 mx_count_logics (mCons (mVar 5) mNil))
def l12_law : En → Mo Dt := (mCal 1 mx_least_logic (mCons (mVar 5) mNil))
def l13_law : En → Mo Dt := (mCal 2 mx_filled (mCons (mC (.str [117])) (mCons (mTup mNil) mNil)))
def l14_law : En → Mo Dt := (mCal 2 mx_gaps (mCons (mVar 2) (mCons (mTup (mCons (mC (.str [97, 110, 100])) (mCons (mC (.str [97])) (mCons (mC (.str [117])) mNil)))) mNil)))
def l15_law : En → Mo Dt := (mCal 2 mx_slips (mCons (mVar 2) (mCons (mTup (mCons (mC (.str [110, 111, 116])) (mCons (mC (.str [117])) mNil))) mNil)))
def l16_law : En → Mo Dt := (mCal 3 mx_value (mCons (mVar 2) (mCons (mTup (mCons (mC (.str [97, 110, 100])) (mCons (mC (.str [97])) (mCons (mC (.str [99])) mNil)))) (mCons (mVar 5) mNil))))
def l17_law : En → Mo Dt := (mCal 2 mx_filled (mCons (mTup (mCons (mC (.str [111, 114])) (mCons (mC (.str [97])) (mCons (mTup (mCons (mC (.str [110, 111, 116])) (mCons (mC (.str [99])) mNil))) mNil)))) (mCons (mVar 5) mNil)))
def ml_law : List (En → Mo Dt) := [l0_law, l1_law, l2_law, l3_law, l4_law, l5_law, l6_law, l7_law, l8_law, l9_law, l10_law, l11_law, l12_law, l13_law, l14_law, l15_law, l16_law, l17_law]
def b_law : En → Mo Fl := (mSq (mAsg (mTup (mCons (mCal 1 m__law_logic (mCons (mVar 1) mNil)) (mCons (mCal 2 m__law_taken (mCons (mVar 1) (mCons (mC (.int 11)) mNil))) mNil))) (mgT [2, 3])) (mSq (mSet 4 (m2 addD (m2 addD (mSl (mVar 2) mNo (mSome (mVar 3))) (mTup (mCons (mCal 2 m__law_pick (mCons (mVar 1) (mCons (mLst (mCons (mC .non) (mCons (mC (.str [120])) (mCons (mC (.str [84])) (mCons (mC (.str [])) (mCons (mC (.bl true)) (mCons (mLst (mCons (mC (.str [116])) mNil)) (mCons (mC (.str [116, 116])) mNil)))))))) mNil))) mNil))) (mSl (mVar 2) (mSome (m2 addD (mVar 3) (mC (.int 1)))) mNo))) (mSq (mAsg (mCal 2 m__law_pick (mCons (mVar 1) (mCons (mLst (mCons (mTup (mCons (mVar 4) (mCons (mVar 3) mNil))) (mCons (mTup (mCons (mCall listD (mCons (mVar 2) mNil)) (mCons (mC .non) mNil))) (mCons (mTup (mCons (mC .non) (mCons (mC .non) mNil))) (mCons (mTup (mCons (mSl (mVar 2) (mSome (mC (.int 1))) mNo) (mCons (mC .non) mNil))) (mCons (mTup (mCons (m2 addD (mVar 2) (mTup (mCons (mC (.str [116])) mNil))) (mCons (mC .non) mNil))) (mCons (mTup (mCons (mJoin (mC (.str [])) (mVar 2)) (mCons (mC .non) mNil))) mNil))))))) mNil))) (mgT [5, 6])) (mSq (mIfS (mTst (m2 (eqD true) (mWrongMk wordW (fun i => ml__law_logic_works[i]?) (mPickMk mr__law_logic_works 2 1 m__law_pick (mVar 1) (mCons (mVar 5) mNil))) (mTup (mCons (mC (.str [108, 111, 103, 105, 99])) (mCons (mVar 6) mNil))))) (mRet (mC (.bl false))) mNx) (mSq (mSet 5 (mCal 2 m__law_pick (mCons (mVar 1) (mCons (mLst (mCons (mC .non) (mCons (mC (.str [])) (mCons (mC (.str [84])) (mCons (mC (.str [116, 102])) (mCons (mC (.bl true)) (mCons (mC (.int 1)) (mCons (mLst (mCons (mC (.str [116])) mNil)) (mCons (mTup (mCons (mC (.str [116])) mNil)) mNil))))))))) mNil)))) (mSq (mSet 7 (mLst (mCons (mC (.lam 0)) (mCons (mC (.lam 1)) (mCons (mC (.lam 2)) (mCons (mC (.lam 3)) (mCons (mC (.lam 4)) mNil))))))) (mSq (mIfS (mOr (mTst (m2 (eqD true) (mWrong wordW (fun i => ml_law[i]?) (mCal 2 m__law_pick (mCons (mVar 1) (mCons (mVar 7) mNil)))) (mC (.str [97, 110, 115, 119, 101, 114])))) (mTst (m2 (eqD true) (mWrong wordW (fun i => ml_law[i]?) (mC (.lam 5))) (mC (.str [110, 97, 109, 101]))))) (mRet (mC (.bl false))) mNx) (mSq (mSet 5 (mCal 2 m__law_pick (mCons (mVar 1) (mCons (mLst (mCons (mC .non) (mCons (mC (.str [])) (mCons (mC (.str [79, 114, 100, 101, 114])) (mCons (mTup (mCons (mC (.str [111, 114, 100, 101, 114])) mNil)) (mCons (mC (.int 5)) (mCons (mLst (mCons (mC (.str [111, 114, 100, 101, 114])) mNil)) (mCons (mC (.bl true)) mNil)))))))) mNil)))) (mSq (mIfS (mTst (m2 (eqD true) (mWrong wordW (fun i => ml_law[i]?) (mCal 2 m__law_pick (mCons (mVar 1) (mCons (mLst (mCons (mC (.lam 6)) (mCons (mC (.lam 7)) mNil))) mNil)))) (mC (.str [112, 114, 111, 109, 105, 115, 101])))) (mRet (mC (.bl false))) mNx) (mSq (mSet 5 (mCal 2 m__law_pick (mCons (mVar 1) (mCons (mLst (mCons (mC .non) (mCons (mLst (mCons (mC (.str [111, 114, 100, 101, 114])) mNil)) (mCons (mC (.str [111, 114, 100, 101, 114])) (mCons (mTup (mCons (mC (.str [112, 97, 114, 116, 115])) (mCons (mC (.str [111, 114, 100, 101, 114])) mNil))) (mCons (mTup (mCons (mC (.str [111, 114, 100, 101, 114])) (mCons (mC (.str [111, 114, 100, 101, 114])) mNil))) (mCons (mTup (mCons (mC (.str [79, 114, 100, 101, 114])) mNil)) (mCons (mTup (mCons (mC .non) mNil)) (mCons (mC (.int 5)) (mCons (mTup (mCons (mC (.str [111, 114, 100, 101, 114])) (mCons (mLst (mCons (mC (.str [112, 97, 114, 116, 115])) mNil)) mNil))) mNil)))))))))) mNil)))) (mSq (mSet 7 (mLst (mCons (mC (.lam 8)) (mCons (mC (.lam 9)) (mCons (mC (.lam 10)) (mCons (mC (.lam 11)) (mCons (mC (.lam 12)) mNil))))))) (mSq (mIfS (mTst (m2 (eqD true) (mWrong wordW (fun i => ml_law[i]?) (mCal 2 m__law_pick (mCons (mVar 1) (mCons (mVar 7) mNil)))) (mC (.str [112, 114, 111, 109, 105, 115, 101, 115])))) (mRet (mC (.bl false))) mNx) (mSq (mSet 8 (mC (.str [97]))) (mSq (mFor (mRng (mC (.int 9))) (mgN 9) (mSet 8 (mTup (mCons (mC (.str [110, 111, 116])) (mCons (mVar 8) mNil))))) (mSq (mSet 10 (m2 mulD (mLst (mCons (mC (.str [97])) mNil)) (mC (.int 32)))) (mSq (mFor (mSeq (mLst (mCons (mC (.int 16)) (mCons (mC (.int 8)) (mCons (mC (.int 4)) (mCons (mC (.int 2)) (mCons (mC (.int 1)) mNil))))))) (mgN 11) (mSet 10 (mLc [3] (mRng (mVar 11)) (mgN 3) (fun _ => .ret true) (mTup (mCons (mC (.str [97, 110, 100])) (mCons (m2 ixD (mVar 10) (m2 mulD (mC (.int 2)) (mVar 3))) (mCons (m2 ixD (mVar 10) (m2 addD (m2 mulD (mC (.int 2)) (mVar 3)) (mC (.int 1)))) mNil))))))) (mSq (mSet 12 (mLst (mCons (mC .non) (mCons (mC (.str [])) (mCons (mC (.str [103])) (mCons (mC (.str [65])) (mCons (mC (.str [97, 98])) (mCons (mTup mNil) (mCons (mTup (mCons (mC (.str [97])) mNil)) (mCons (mTup (mCons (mC (.str [110, 111, 116])) mNil)) (mCons (mTup (mCons (mC (.str [110, 111, 116])) (mCons (mC (.str [97])) (mCons (mC (.str [98])) mNil)))) (mCons (mTup (mCons (mC (.str [97, 110, 100])) (mCons (mC (.str [97])) mNil))) (mCons (mTup (mCons (mC (.str [97, 110, 100])) (mCons (mC (.str [97])) (mCons (mC (.str [98])) (mCons (mC (.str [99])) mNil))))) (mCons (mLst (mCons (mC (.str [110, 111, 116])) (mCons (mC (.str [97])) mNil))) (mCons (mTup (mCons (mC (.str [120, 111, 114])) (mCons (mC (.str [97])) (mCons (mC (.str [98])) mNil)))) (mCons (mTup (mCons (mC (.str [110, 111, 116])) (mCons (mC .non) mNil))) (mCons (mTup (mCons (mC (.str [111, 114])) (mCons (mC (.str [97])) (mCons (mLst (mCons (mC (.str [98])) mNil)) mNil)))) (mCons (mC (.int 5)) (mCons (mC (.bl true)) mNil))))))))))))))))))) (mSq (mSet 5 (mCal 2 m__law_pick (mCons (mVar 1) (mCons (m2 addD (mVar 12) (mLst (mCons (mVar 8) (mCons (m2 ixD (mVar 10) (mC (.int 0))) (mCons (mTup (mCons (mC (.str [97])) (mCons (mC (.str [110, 111, 116])) mNil))) (mCons (mTup (mCons (mC .non) (mCons (mC (.str [97])) mNil))) (mCons (mTup (mCons (mLst (mCons (mC (.str [110, 111, 116])) mNil)) (mCons (mC (.str [97])) mNil))) mNil))))))) mNil)))) (mSq (mIfS (mOr (mTst (m2 (eqD true) (mWrongMk wordW (fun i => ml__law_formula_works[i]?) (mPickMk mr__law_formula_works 3 2 m__law_pick (mVar 1) (mCons (mVar 2) (mCons (mVar 5) mNil)))) (mC (.str [102, 111, 114, 109, 117, 108, 97])))) (mTst (m2 (isD true) (mCal 1 m_is_formula (mCons (mVar 5) mNil)) (mC (.bl false))))) (mRet (mC (.bl false))) mNx) (mSq (mIfS (mTst (m2 (eqD true) (mWrong wordW (fun i => ml_law[i]?) (mCal 2 m__law_pick (mCons (mVar 1) (mCons (mLst (mCons (mC (.lam 13)) (mCons (mC (.lam 14)) (mCons (mC (.lam 15)) mNil)))) mNil)))) (mC (.str [102, 111, 114, 109, 117, 108, 97])))) (mRet (mC (.bl false))) mNx) (mSq (mSet 5 (mCal 2 m__law_pick (mCons (mVar 1) (mCons (mLst (mCons (mC .non) (mCons (mTup mNil) (mCons (mTup (mCons (mC (.str [116])) mNil)) (mCons (mTup (mCons (mC (.str [116])) (mCons (mC (.str [102])) (mCons (mC (.str [117])) mNil)))) (mCons (mLst (mCons (mC (.str [116])) (mCons (mC (.str [102])) mNil))) (mCons (mTup (mCons (mC (.str [116])) (mCons (mC (.str [120])) mNil))) (mCons (mTup (mCons (mC (.str [116])) (mCons (mC .non) mNil))) (mCons (mC (.str [116, 102])) (mCons (mTup (mCons (mC (.str [116])) (mCons (mC (.bl true)) mNil))) mNil)))))))))) mNil)))) (mRet (m2 (eqD false) (mWrong wordW (fun i => ml_law[i]?) (mCal 2 m__law_pick (mCons (mVar 1) (mCons (mLst (mCons (mC (.lam 16)) (mCons (mC (.lam 17)) mNil))) mNil)))) (mC (.str [114, 111, 119])))))))))))))))))))))))))
end K10
set_option Elab.async false
set_option linter.all false
set_option maxRecDepth 100000
set_option maxHeartbeats 4000000
namespace K10
open PySem PySem.Spec PyProof.Rows L2 Fw

def topS (i : Nat) : Stmt := PySem.Challenge.pw_unknowntables_k10_whole_refused.main.body.getD i (.Pass ⟨0, 0, 0, 0⟩)
abbrev s__law_taken : Stmt := topS 94
abbrev s_is_answer : Stmt := topS 16
abbrev s_leaves : Stmt := topS 49
abbrev s_is_formula : Stmt := topS 50
abbrev s_leaves_of : Stmt := topS 52
abbrev s_letters_in : Stmt := topS 53
abbrev s__law_pick : Stmt := topS 95
abbrev s__law_told : Stmt := topS 96
abbrev s__law_logic : Stmt := topS 97
abbrev s_need_answers : Stmt := topS 17
abbrev s_need_logic : Stmt := topS 18
abbrev s_conj : Stmt := topS 23
abbrev s_disj : Stmt := topS 24
abbrev s_neg : Stmt := topS 25
abbrev s_told_logic : Stmt := topS 26
abbrev s_need_promise : Stmt := topS 30
abbrev s_need_promises : Stmt := topS 31
abbrev s_keeps : Stmt := topS 41
abbrev s_counterexample : Stmt := topS 42
abbrev s_profile : Stmt := topS 43
abbrev s_need_formula : Stmt := topS 51
abbrev s_letters_of : Stmt := topS 54
abbrev s_need_row : Stmt := topS 55
abbrev s_value : Stmt := topS 57
abbrev s_table : Stmt := topS 59
abbrev s_is_sure : Stmt := topS 60
abbrev s_parting : Stmt := topS 61
abbrev s_alike : Stmt := topS 62
abbrev s_need_known : Stmt := topS 64
abbrev s_filled : Stmt := topS 65
abbrev s_rows_where : Stmt := topS 66
abbrev s_gaps : Stmt := topS 67
abbrev s_slips : Stmt := topS 68
abbrev s_is_once : Stmt := topS 69
abbrev s_write_logic : Stmt := topS 71
abbrev s_write_formula : Stmt := topS 73
abbrev s_can_hold : Stmt := topS 81
abbrev s_clashes : Stmt := topS 82
abbrev s_can_add : Stmt := topS 83
abbrev s_count_logics : Stmt := topS 91
abbrev s_least_logic : Stmt := topS 92
abbrev s__law_wrong : Stmt := topS 98
abbrev s__law_logic_works : Stmt := topS 99
abbrev s__law_formula_works : Stmt := topS 100
abbrev s_law : Stmt := topS 101
abbrev s_Desk : Stmt := (clsBody (topS 75)).getD 0 (.Pass ⟨0, 0, 0, 0⟩)
structure Tp (K : PySem.W.Frag) (P : Params) (mg : Str → Option Value) : Prop where
  d__law_taken : Df K mg "_law_taken" s__law_taken ["_law_row", "_law_many"]
  d_is_answer : Df K mg "is_answer" s_is_answer ["value"]
  d_leaves : Df K mg "leaves" s_leaves ["value", "deep"]
  d_is_formula : Df K mg "is_formula" s_is_formula ["value"]
  d_leaves_of : Df K mg "leaves_of" s_leaves_of ["formula"]
  d_letters_in : Df K mg "letters_in" s_letters_in ["formula"]
  d__law_pick : Df K mg "_law_pick" s__law_pick ["_law_row", "_law_kinds"]
  d__law_told : Df K mg "_law_told" s__law_told []
  d__law_logic : Df K mg "_law_logic" s__law_logic ["_law_row"]
  d_need_answers : Df K mg "need_answers" s_need_answers ["values"]
  d_need_logic : Df K mg "need_logic" s_need_logic ["logic"]
  d_conj : Df K mg "conj" s_conj ["logic", "one", "other"]
  d_disj : Df K mg "disj" s_disj ["logic", "one", "other"]
  d_neg : Df K mg "neg" s_neg ["logic", "one"]
  d_told_logic : Df K mg "told_logic" s_told_logic ["name"]
  d_need_promise : Df K mg "need_promise" s_need_promise ["promise"]
  d_need_promises : Df K mg "need_promises" s_need_promises ["wanted"]
  d_keeps : Df K mg "keeps" s_keeps ["logic", "promise"]
  d_counterexample : Df K mg "counterexample" s_counterexample ["logic", "promise"]
  d_profile : Df K mg "profile" s_profile ["logic"]
  d_need_formula : Df K mg "need_formula" s_need_formula ["formula"]
  d_letters_of : Df K mg "letters_of" s_letters_of ["formula"]
  d_need_row : Df K mg "need_row" s_need_row ["letters", "row"]
  d_value : Df K mg "value" s_value ["logic", "formula", "row"]
  d_table : Df K mg "table" s_table ["logic", "formula"]
  d_is_sure : Df K mg "is_sure" s_is_sure ["logic", "formula"]
  d_parting : Df K mg "parting" s_parting ["logic", "one", "other"]
  d_alike : Df K mg "alike" s_alike ["logic", "one", "other"]
  d_need_known : Df K mg "need_known" s_need_known ["formula"]
  d_filled : Df K mg "filled" s_filled ["formula", "row"]
  d_rows_where : Df K mg "rows_where" s_rows_where ["logic", "formula", "is_gap"]
  d_gaps : Df K mg "gaps" s_gaps ["logic", "formula"]
  d_slips : Df K mg "slips" s_slips ["logic", "formula"]
  d_is_once : Df K mg "is_once" s_is_once ["formula"]
  d_write_logic : Df K mg "write_logic" s_write_logic ["logic"]
  d_write_formula : Df K mg "write_formula" s_write_formula ["formula"]
  d_can_hold : Df K mg "can_hold" s_can_hold ["wanted"]
  d_clashes : Df K mg "clashes" s_clashes ["wanted"]
  d_can_add : Df K mg "can_add" s_can_add ["wanted"]
  d_count_logics : Df K mg "count_logics" s_count_logics ["wanted"]
  d_least_logic : Df K mg "least_logic" s_least_logic ["wanted"]
  d__law_wrong : Df K mg "_law_wrong" s__law_wrong ["_law_work"]
  b_all : mg "all" = none
  b_any : mg "any" = none
  b_dict : mg "dict" = none
  b_int : mg "int" = none
  b_isinstance : mg "isinstance" = none
  b_len : mg "len" = none
  b_list : mg "list" = none
  b_range : mg "range" = none
  b_set : mg "set" = none
  b_sorted : mg "sorted" = none
  b_str : mg "str" = none
  b_sum : mg "sum" = none
  b_tuple : mg "tuple" = none
  b_zip : mg "zip" = none
  g_ANSWERS : Gv K P mg "ANSWERS" g_ANSWERS
  g_LETTERS : Gv K P mg "LETTERS" g_LETTERS
  g_MOST_LEAVES : Gv K P mg "MOST_LEAVES" g_MOST_LEAVES
  g_MOST_DEEP : Gv K P mg "MOST_DEEP" g_MOST_DEEP
  g_SIZE : Gv K P mg "SIZE" g_SIZE
  g_TOLD : Gv K P mg "TOLD" g_TOLD
  g_PROMISES : Gv K P mg "PROMISES" g_PROMISES
structure Td (K : PySem.W.Frag) (mg : Str → Option Value) : Prop where
  ex : ∃ (C f : Addr) (fd : FuncData), mg "Desk" = some (.ref C) ∧ L2.Mk K C f ∧ L2.Fun K "__init__" "Desk.__init__" s_Desk f fd ∧ L2.Binds K fd ["self", "logic"] []
/-! ## the draw, by hand -/
theorem wf_rowset {G : Gd} {r : Addr} {Z : Addr → Prop} {H : Hp} {a : Addr} {ns : List Int} {i s k i' s' k' : Int} (w : Wf G r Z H) (e : H r = some (.lst [.ref a, .int i, .int s, .int k])) (hs : ScrAt G Z H a ns) (hl : ns.length ≤ 63) (h1 : 0 ≤ i') (h2 : 0 ≤ s') (h3 : s' < 2147483647) (h4 : 0 ≤ k') :
    Ext G r Z H Z (upd H r (.lst [.ref a, .int i', .int s', .int k'])) ∧ ScrAt G Z (upd H r (.lst [.ref a, .int i', .int s', .int k'])) a ns := by
  have f : Frz Z H Z (upd H r (.lst [.ref a, .int i', .int s', .int k'])) := frz_upd w.rz
  have hs' := hs.frz f
  refine ⟨⟨⟨⟨a, ns, i', s', k', upd_same, hs', hl, h1, h2, h3, h4⟩, w.rz, fun b z => ?_, tabs_low w.tb (low_at e trivial)⟩, fun b o n q _ => ?_, fun b ps q => ⟨ps, by rw [upd_ne (fun z => by rw [z, e] at q; cases q)]; exact q⟩, fun _ z => z, fun _ z => .inl z⟩, hs'⟩
  · rw [(f b z).2]; exact w.al b z
  · rw [upd_ne n]; exact q
theorem cal__law_taken {P : Program} {w : World} {K : PySem.W.Frag} {mg : Str → Option Value} {base : Heap} (T : Tp K w.params mg) : Cal P w K mg base 1 "_law_taken" 2 mTaken := by
  have sc : FnScope ["_law_row", "_law_many", "_law_found", "_law_cell"] ["_law_row", "_law_many"] (defScope s__law_taken) := ⟨rfl, rfl, rfl, by decide +kernel, rfl, by decide +kernel, by decide +kernel⟩
  obtain ⟨f, fd, F, hm, b⟩ := T.d__law_taken.ex
  refine ⟨f, fd, _, fun Tz => F.ok sc (fun vs H Q E h => h.1) fun cdv A outer s H vs Q E hr h => ?_, hm, F.kp, b⟩
  obtain ⟨hl, r, Z, ds, wf, rp, h⟩ := h
  have hd : ∃ m, ds = [.row, .int m] ∧ (0 < m ∧ m < 1073741824) ∧ ∀ d, isDraw m d → PV ⟨K, w.params, Tz⟩ r Z H Q d := by
    unfold mTaken at h
    split at h
    · split at h
      · rename_i m hc
        exact ⟨m, rfl, hc, h⟩
      · exact h.elim
    · exact h.elim
  obtain ⟨m, rfl, hm0, hq⟩ := hd
  obtain ⟨v0, v1, rfl, r0, r1⟩ := rp.two
  have e0 : v0 = .ref r := by unfold Rep at r0; exact r0
  have e1' : v1 = .int m := r1.int
  subst e0 e1'
  have hdraw : ∀ x : Int, isDraw m (.int (x % m)) := fun x => ⟨_, rfl, Int.emod_nonneg _ (by omega), Int.emod_lt_of_pos _ hm0.1⟩
  obtain ⟨a, ns, i, s0, k, e, hs, hl, hi, hs0, hs1, hk⟩ := wf.row
  refine ⟨_, pss_cons (ps_if (pt_cmpR op_gt (pe_ix ix_list (pv 0) pe_int (fun _ _ => rfl)) pe_int (nomark _))
      (pss_cons (ps_set (i := 2) sc.nd rfl (.inl rfl) (pe_op op_mod (pe_callTy call_int1 (by rfl) T.b_int (by decide +kernel) (pa_cons (pe_ix ix_list (pv 0) pe_int (fun _ _ => rfl)) pa_nil)) (pv 1)))
      (pss_cons (ps_asg (pe_op op_fdiv (pe_ix ix_list (pv 0) pe_int (fun _ _ => rfl)) (pv 1)) (pg_sub (pv 0) pe_int set_list))
      (pss_one (ps_ret (pv 2))))) pss_nil)
    (pss_cons (ps_asg (pe_op op_add (pe_ix ix_list (pv 0) pe_int (fun _ _ => rfl)) pe_int) (pg_sub (pv 0) pe_int set_list))
    (pss_cons (ps_if (pt_cmpR op_gt (pe_ix ix_list (pv 0) pe_int (fun _ _ => rfl)) (pe_callB call_len_seq (by rfl) T.b_len PySem.boot_len (pa_cons (pe_ix ix_list (pv 0) pe_int (fun _ _ => rfl)) pa_nil)) (nomark _))
      (pss_cons (ps_asg (pe_op op_mod (pe_callTy call_int1 (by rfl) T.b_int (by decide +kernel) (pa_cons (pe_op op_add (pe_op op_mul (pe_ix ix_list (pv 0) pe_int (fun _ _ => rfl)) pe_int) pe_int) pa_nil)) pe_int) (pg_sub (pv 0) pe_int set_list))
      (pss_one (ps_ret (pe_op op_mod (pe_callTy call_int1 (by rfl) T.b_int (by decide +kernel) (pa_cons (pe_op op_fdiv (pe_ix ix_list (pv 0) pe_int (fun _ _ => rfl)) pe_int) pa_nil)) (pv 1))))) pss_nil)
    (pss_cons (ps_set (i := 3) sc.nd rfl (.inl rfl) (pe_ix ix_list (pe_ix ix_list (pv 0) pe_int (fun _ _ => rfl)) (pe_op op_sub (pe_ix ix_list (pv 0) pe_int (fun _ _ => rfl)) pe_int) (fun _ _ => rfl)))
    (pss_cons (ps_asg (pe_op op_mod (pe_callTy call_int1 (by rfl) T.b_int (by decide +kernel) (pa_cons (pe_op op_add (pe_op op_add (pe_op op_mul (pe_ix ix_list (pv 0) pe_int (fun _ _ => rfl)) pe_int) (pv 3)) pe_int) pa_nil)) pe_int) (pg_sub (pv 0) pe_int set_list))
    (pss_cons (ps_if (pt_cmpR op_ge (pv 3) (pe_op op_pow pe_int pe_int) (nomark _)) (pss_one (ps_asg (pe_op op_fdiv (pv 3) (pv 1)) (pg_sub (pv 0) pe_int set_list))) pss_nil)
    (pss_one (ps_ret (pe_op op_mod (pe_callTy call_int1 (by rfl) T.b_int (by decide +kernel) (pa_cons (pv 3) pa_nil)) (pv 1))))))))), ?_⟩
  refine ⟨.ref r, rfl, r, _, _, _, rfl, rfl, .inl (.inl e), rfl, _, _, rfl, rfl, _, rfl, ite2 (fun hk1 => ?_) (fun hk1 => ?_)⟩
  · refine ⟨.ref r, rfl, r, _, _, _, rfl, rfl, .inl (.inl e), rfl, .inl ⟨k, rfl, .int m, rfl, k, m, rfl, rfl, hm0.1, ?_⟩⟩
    refine ⟨.ref r, rfl, r, _, _, _, rfl, rfl, .inl (.inl e), rfl, .int m, rfl, k, m, rfl, rfl, hm0, ?_⟩
    refine ⟨.ref r, rfl, r, _, 3, 3, rfl, rfl, e, rfl, ?_⟩
    refine ⟨.int (k % m), rfl, ?_⟩
    obtain ⟨ex, _⟩ := wf_rowset (i' := i) (s' := s0) (k' := k / m) wf e hs hl hi hs0 hs1 (Int.ediv_nonneg hk (by omega))
    exact hq _ (hdraw k) _ _ _ ex Rep.mk_int
  · refine ⟨.ref r, rfl, r, _, _, _, rfl, rfl, .inl (.inl e), rfl, i, 1, rfl, rfl, ?_⟩
    refine ⟨.ref r, rfl, r, _, 1, 1, rfl, rfl, e, rfl, ?_⟩
    obtain ⟨ex1, hsc1⟩ := wf_rowset (i' := i + 1) (s' := s0) (k' := k) wf e hs hl (by omega) hs0 hs1 hk
    have e1 : (upd H r (.lst [.ref a, .int (i + 1), .int s0, .int k])) r = some (.lst [.ref a, .int (i + 1), .int s0, .int k]) := upd_same
    have wf1 := ex1.wf
    refine ⟨.ref r, rfl, r, _, _, _, rfl, rfl, .inl (.inl e1), rfl, .ref r, rfl, r, _, _, _, rfl, rfl, .inl (.inl e1), rfl, a, _, rfl, .inl hsc1.sq, _, _, rfl, rfl, _, rfl, ite2 (fun hc => ?_) (fun hc => ?_)⟩
    · refine ⟨.ref r, rfl, r, _, _, _, rfl, rfl, .inl (.inl e1), rfl, s0, 48271, rfl, rfl, .inl ⟨by omega, by omega⟩, _, 11, rfl, rfl, .inl ⟨_, rfl, _, 2147483647, rfl, rfl, (show (0 : Int) < 2147483647 by decide), ?_⟩⟩
      refine ⟨.ref r, rfl, r, _, 2, 2, rfl, rfl, e1, rfl, ?_⟩
      obtain ⟨ex2, hsc2⟩ := wf_rowset (i' := i + 1) (s' := (s0 * 48271 + 11) % 2147483647) (k' := k) wf1 e1 hsc1 hl (by omega) (Int.emod_nonneg _ (by decide)) (Int.emod_lt_of_pos _ (by decide)) hk
      have e2 : (upd (upd H r (.lst [.ref a, .int (i + 1), .int s0, .int k])) r (.lst [.ref a, .int (i + 1), .int ((s0 * 48271 + 11) % 2147483647), .int k])) r = some (.lst [.ref a, .int (i + 1), .int ((s0 * 48271 + 11) % 2147483647), .int k]) := upd_same
      refine ⟨.ref r, rfl, r, _, _, _, rfl, rfl, .inl (.inl e2), rfl, _, 7, rfl, rfl, ⟨by decide, by decide⟩, .inl ⟨_, rfl, .int m, rfl, _, m, rfl, rfl, hm0.1, ?_⟩⟩
      exact hq _ (hdraw _) _ _ _ (ex1.trans ex2) Rep.mk_int
    · have hc' : ¬ (((ns.map V.int).length : Nat) : Int) < i + 1 := fun z => hc (decide_eq_true z)
      rw [List.length_map] at hc'
      obtain ⟨n, rfl⟩ := Int.eq_ofNat_of_zero_le hi
      have hn : n < ns.length := by omega
      have hat : atI (ns.map V.int) ((n : Int) + 1 - 1) = some (V.int ns[n]) := by
        unfold atI ixN
        have hz : (n : Int) + 1 - 1 = n := by omega
        rw [hz]
        simp [hn]
      refine ⟨.ref r, rfl, r, _, _, _, rfl, rfl, .inl (.inl e1), rfl, .ref r, rfl, r, _, _, _, rfl, rfl, .inl (.inl e1), rfl, _, 1, rfl, rfl, a, _, _, _, rfl, rfl, hsc1.sq, hat, ?_⟩
      refine ⟨.ref r, rfl, r, _, _, _, rfl, rfl, .inl (.inl e1), rfl, s0, 48271, rfl, rfl, .inl ⟨by omega, by omega⟩, .int ns[n], rfl, _, ns[n], rfl, rfl, _, 11, rfl, rfl, .inl ⟨_, rfl, _, 2147483647, rfl, rfl, (show (0 : Int) < 2147483647 by decide), ?_⟩⟩
      refine ⟨.ref r, rfl, r, _, 2, 2, rfl, rfl, e1, rfl, ?_⟩
      obtain ⟨ex2, hsc2⟩ := wf_rowset (i' := n + 1) (s' := (s0 * 48271 + ns[n] + 11) % 2147483647) (k' := k) wf1 e1 hsc1 hl (by omega) (Int.emod_nonneg _ (by decide)) (Int.emod_lt_of_pos _ (by decide)) hk
      have e2 : (upd (upd H r (.lst [.ref a, .int ((n : Int) + 1), .int s0, .int k])) r (.lst [.ref a, .int ((n : Int) + 1), .int ((s0 * 48271 + ns[n] + 11) % 2147483647), .int k])) r = some (.lst [.ref a, .int ((n : Int) + 1), .int ((s0 * 48271 + ns[n] + 11) % 2147483647), .int k]) := upd_same
      have ex12 := ex1.trans ex2
      refine ⟨.int ns[n], rfl, 10, 18, rfl, rfl, ⟨by decide, by decide, by decide⟩, ns[n], _, rfl, rfl, _, rfl, ite2 (fun hb => ?_) (fun hb => ?_)⟩
      · refine ⟨.int ns[n], rfl, .int m, rfl, ns[n], m, rfl, rfl, hm0, ?_⟩
        refine ⟨.ref r, rfl, r, _, 3, 3, rfl, rfl, e2, rfl, ?_⟩
        have hb' : (10 : Int) ^ (18 : Int).toNat ≤ ns[n] := of_decide_eq_true hb
        have hb2 : (0 : Int) ≤ ns[n] := Int.le_trans (by decide) hb'
        obtain ⟨ex3, hsc3⟩ := wf_rowset (i' := n + 1) (s' := (s0 * 48271 + ns[n] + 11) % 2147483647) (k' := ns[n] / m) ex2.wf e2 hsc2 hl (by omega) (Int.emod_nonneg _ (by decide)) (Int.emod_lt_of_pos _ (by decide)) (Int.ediv_nonneg hb2 (by omega))
        refine ⟨.int ns[n], rfl, .inl ⟨_, rfl, .int m, rfl, _, m, rfl, rfl, hm0.1, ?_⟩⟩
        exact hq _ (hdraw _) _ _ _ (ex12.trans ex3) Rep.mk_int
      · refine ⟨.int ns[n], rfl, .inl ⟨_, rfl, .int m, rfl, _, m, rfl, rfl, hm0.1, ?_⟩⟩
        exact hq _ (hdraw _) _ _ _ ex12 Rep.mk_int

theorem sc_is_answer : FnScope ["value"] ["value"] (defScope s_is_answer) := ⟨rfl, rfl, rfl, by decide +kernel, rfl, by decide +kernel, by decide +kernel⟩
theorem cal_is_answer {P : Program} {w : World} {K : PySem.W.Frag} {mg : Str → Option Value} {base : Heap} (T : Tp K w.params mg) : Cal P w K mg base 1 "is_answer" 1 m_is_answer := by
    have sc := sc_is_answer
    exact calM (k := 0) T.d_is_answer sc fun _ f cdv A outer s H E hr => (b_one (s_ret (e_and (e_isi (T := .str) (by rfl) T.b_isinstance (by rfl) T.b_str (by decide +kernel) (e_var 0 (pv 0))) (e_one (e_cmp o_in (e_var 0 (pv 0)) (e_gv T.g_ANSWERS (by rfl)))))))
theorem sc_leaves : FnScope ["value", "deep", "found", "part"] ["value", "deep"] (defScope s_leaves) := ⟨rfl, rfl, rfl, by decide +kernel, rfl, by decide +kernel, by decide +kernel⟩
theorem cal_leaves {P : Program} {w : World} {K : PySem.W.Frag} {mg : Str → Option Value} {base : Heap} (T : Tp K w.params mg) : ∀ n, Cal P w K mg base (1 + n) "leaves" 2 (m_leaves n)
  | 0 => calErr T.d_leaves
  | n + 1 => by
    have C_rec : Cal P w K mg base (1 + n) "leaves" 2 (m_leaves n) := cal_leaves T n
    have sc := sc_leaves
    exact calM (k := 1 + n) T.d_leaves sc fun _ f cdv A outer s H E hr => (b_cons (s_if (t_val (e_isi (T := .str) (by rfl) T.b_isinstance (by rfl) T.b_str (by decide +kernel) (e_var 0 (pv 0)))) 
      (b_one (s_ret (e_if (w_or (t_cmp o_in (e_var 0 (pv 0)) (e_gv T.g_LETTERS (by rfl))) (w_or1 (t_cmp o_in (e_var 0 (pv 0)) (e_gv T.g_ANSWERS (by rfl))))).pt e_int e_non))) 
      b_nil) 
      (b_cons (s_if (w_or (t_cmp (o_eq (room_u hr)) (e_var 1 (pv 1)) e_int) (w_or (t_not (t_val (e_isi (T := .tup) (by rfl) T.b_isinstance (by rfl) T.b_tuple (by decide +kernel) (e_var 0 (pv 0))))) (w_or (t_cmp (o_eq (room_u hr)) (e_var 0 (pv 0)) (e_tup a_nil)) (w_or1 (t_not (t_val (e_isi (T := .str) (by rfl) T.b_isinstance (by rfl) T.b_str (by decide +kernel) (e_ix i_seq (e_var 0 (pv 0)) e_int)))))))).pt 
      (b_one (s_ret e_non)) 
      b_nil) 
      (b_cons (s_if (t_cmp (o_ne (room_u hr)) (e_callB c_len (by rfl) T.b_len (by decide +kernel) (a_cons (e_var 0 (pv 0)) a_nil)) (e_get1 (room_u1 hr) (e_dict _ (pp_cons (e_str [97, 110, 100] rfl) e_int (pp_cons (e_str [110, 111, 116] rfl) e_int (pp_cons (e_str [111, 114] rfl) e_int pp_nil)))) (e_ix i_seq (e_var 0 (pv 0)) e_int))) 
      (b_one (s_ret e_non)) 
      b_nil) 
      (b_cons (s_setLc (ts := [3]) (own := [("part", 3)]) 2 (by decide) rfl sc.nd rfl rfl (sw_true rfl rfl rfl rfl) (i_seq_ (e_slice (e_var 0 (pv 0)) (p_some e_int) p_none)) (show BlkOk ["value", "deep", "found", "part"] (defScope s_leaves) _ _ from blk_by (by decide +kernel)) (fun _ _ _ _ _ => (g_name 3 sc.nd rfl (by first | exact .inl rfl | exact .inr rfl))) (fun _ _ _ _ _ => ts_nil) (fun _ _ _ _ _ => (e_call C_rec hr (by rfl) (a_cons (e_var 3 (pv 3)) (a_cons (e_op o_sub (e_var 1 (pv 1)) e_int) a_nil))))) 
      (b_one (s_ret (e_if (t_cmp o_in e_non (e_var 2 (pv 2))) e_non (e_callB (c_sum rfl) (by rfl) T.b_sum (by decide +kernel) (a_cons (e_var 2 (pv 2)) a_nil)))))))))
theorem sc_is_formula : FnScope ["value", "found"] ["value"] (defScope s_is_formula) := ⟨rfl, rfl, rfl, by decide +kernel, rfl, by decide +kernel, by decide +kernel⟩
theorem cal_is_formula {P : Program} {w : World} {K : PySem.W.Frag} {mg : Str → Option Value} {base : Heap} (T : Tp K w.params mg) : Cal P w K mg base 12 "is_formula" 1 m_is_formula := by
    have sc := sc_is_formula
    have c_leaves : Cal P w K mg base _ "leaves" _ _ := (cal_leaves T 10)
    exact calM (k := 11) T.d_is_formula sc fun _ f cdv A outer s H E hr => (b_cons (s_set 1 sc.nd rfl (.inl rfl) (e_call c_leaves hr (by rfl) (a_cons (e_var 0 (pv 0)) (a_cons (e_gv T.g_MOST_DEEP (by rfl)) a_nil)))) 
      (b_one (s_ret (e_and (e_cmp o_isnt (e_var 1 (pv 1)) e_non) (e_one (e_cmp o_le (e_var 1 (pv 1)) (e_gv T.g_MOST_LEAVES (by rfl))))))))
theorem sc_leaves_of : FnScope ["formula", "found", "part"] ["formula"] (defScope s_leaves_of) := ⟨rfl, rfl, rfl, by decide +kernel, rfl, by decide +kernel, by decide +kernel⟩
theorem cal_leaves_of {P : Program} {w : World} {K : PySem.W.Frag} {mg : Str → Option Value} {base : Heap} (T : Tp K w.params mg) : ∀ n, Cal P w K mg base (1 + n) "leaves_of" 1 (m_leaves_of n)
  | 0 => calErr T.d_leaves_of
  | n + 1 => by
    have C_rec : Cal P w K mg base (1 + n) "leaves_of" 1 (m_leaves_of n) := cal_leaves_of T n
    have sc := sc_leaves_of
    exact calM (k := 1 + n) T.d_leaves_of sc fun _ f cdv A outer s H E hr => (b_cons (s_if (t_val (e_isi (T := .str) (by rfl) T.b_isinstance (by rfl) T.b_str (by decide +kernel) (e_var 0 (pv 0)))) 
      (b_one (s_ret (e_lst (a_cons (e_var 0 (pv 0)) a_nil)))) 
      b_nil) 
      (b_cons (s_own 1 sc.nd rfl (.inl rfl) a_nil) 
      (b_cons (s_for PassesOwn.never rfl (i_seq_ (e_slice (e_var 0 (pv 0)) (p_some e_int) p_none)) (g_name 2 sc.nd rfl (by first | exact .inl rfl | exact .inr rfl)) 
      (b_one (s_ext 1 (pv 1) (e_call C_rec hr (by rfl) (a_cons (e_var 2 (pv 2)) a_nil))))) 
      (b_one (s_frz 1 (s_ret (e_var 1 (pv 1))))))))
theorem sc_letters_in : FnScope ["formula", "leaf"] ["formula"] (defScope s_letters_in) := ⟨rfl, rfl, rfl, by decide +kernel, rfl, by decide +kernel, by decide +kernel⟩
theorem cal_letters_in {P : Program} {w : World} {K : PySem.W.Frag} {mg : Str → Option Value} {base : Heap} (T : Tp K w.params mg) : Cal P w K mg base 12 "letters_in" 1 m_letters_in := by
    have sc := sc_letters_in
    have c_leaves_of : Cal P w K mg base _ "leaves_of" _ _ := (cal_leaves_of T 10)
    exact calM (k := 11) T.d_letters_in sc fun _ f cdv A outer s H E hr => (b_one (s_ret (e_callTy (c_tuple rfl) (by rfl) T.b_tuple (by decide +kernel) (a_cons (e_sortSet (by rfl) T.b_sorted (by rfl) T.b_set (e_lc (ts := [1]) (own := [("leaf", 1)]) (by decide) rfl sc.nd (i_seq_ (e_call c_leaves_of hr (by rfl) (a_cons (e_var 0 (pv 0)) a_nil))) (show BlkOk ["formula", "leaf"] (defScope s_letters_in) _ _ from blk_by (by decide +kernel)) (fun _ _ _ _ _ => (g_name 1 sc.nd rfl (by first | exact .inl rfl | exact .inr rfl))) (fun _ _ _ _ _ => (ts_one (t_cmp o_in (e_var 1 (pv 1)) (e_gv T.g_LETTERS (by rfl))))) (fun _ _ _ _ _ => (e_var 1 (pv 1))))) a_nil))))
theorem sc__law_pick : FnScope ["_law_row", "_law_kinds"] ["_law_row", "_law_kinds"] (defScope s__law_pick) := ⟨rfl, rfl, rfl, by decide +kernel, rfl, by decide +kernel, by decide +kernel⟩
theorem cal__law_pick {P : Program} {w : World} {K : PySem.W.Frag} {mg : Str → Option Value} {base : Heap} (T : Tp K w.params mg) : Cal P w K mg base 2 "_law_pick" 2 m__law_pick := by
    have sc := sc__law_pick
    have c__law_taken : Cal P w K mg base _ "_law_taken" _ _ := (cal__law_taken T)
    exact calM (k := 1) T.d__law_pick sc fun _ f cdv A outer s H E hr => (b_one (s_ret (e_ix i_seq (e_var 1 (pv 1)) (e_call c__law_taken hr (by rfl) (a_cons (e_var 0 (pv 0)) (a_cons (e_callB c_len (by rfl) T.b_len (by decide +kernel) (a_cons (e_var 1 (pv 1)) a_nil)) a_nil))))))
theorem sc__law_told : FnScope [] [] (defScope s__law_told) := ⟨rfl, rfl, rfl, by decide +kernel, rfl, by decide +kernel, by decide +kernel⟩
theorem cal__law_told {P : Program} {w : World} {K : PySem.W.Frag} {mg : Str → Option Value} {base : Heap} (T : Tp K w.params mg) : Cal P w K mg base 1 "_law_told" 0 m__law_told := by
    have sc := sc__law_told
    exact calM (k := 0) T.d__law_told sc fun _ f cdv A outer s H E hr => (b_one (s_ret (e_dict _ (pp_cons (e_str [97, 115, 32, 102, 97, 108, 115, 101] rfl) (e_str [102, 102, 102, 102, 102, 102, 102, 116, 116, 102, 116] rfl) (pp_cons (e_str [97, 115, 32, 116, 114, 117, 101] rfl) (e_str [102, 102, 116, 116, 116, 116, 116, 116, 116, 116, 102] rfl) (pp_cons (e_str [108, 97, 122, 121] rfl) (e_str [102, 117, 117, 117, 117, 117, 117, 116, 117, 117, 117] rfl) (pp_cons (e_str [115, 116, 114, 111, 110, 103] rfl) (e_str [102, 102, 117, 117, 117, 117, 117, 116, 116, 117, 117] rfl) (pp_cons (e_str [119, 101, 97, 107] rfl) (e_str [117, 117, 117, 117, 117, 117, 117, 117, 117, 117, 117] rfl) pp_nil))))))))
theorem sc__law_logic : FnScope ["_law_row", "_law_kind", "_law_told_here", "_law_found", "_law_turn", "_law_a", "_law_b", "_law_c", "_law_x", "_law_y", "_law_z"] ["_law_row"] (defScope s__law_logic) := ⟨rfl, rfl, rfl, by decide +kernel, rfl, by decide +kernel, by decide +kernel⟩
theorem cal__law_logic {P : Program} {w : World} {K : PySem.W.Frag} {mg : Str → Option Value} {base : Heap} (T : Tp K w.params mg) : Cal P w K mg base 3 "_law_logic" 1 m__law_logic := by
    have sc := sc__law_logic
    have c__law_pick : Cal P w K mg base _ "_law_pick" _ _ := (cal__law_pick T)
    have c__law_taken : Cal P w K mg base _ "_law_taken" _ _ := (cal__law_taken T)
    have c__law_told : Cal P w K mg base _ "_law_told" _ _ := (cal__law_told T)
    exact calM (k := 2) T.d__law_logic sc fun _ f cdv A outer s H E hr => (b_cons (s_par2 1 2 sc.nd rfl rfl rfl rfl (e_call c__law_taken hr (by rfl) (a_cons (e_var 0 (pv 0)) (a_cons e_int a_nil))) (e_vals rfl (by rfl) T.b_list (e_call0 c__law_told hr (by rfl)))) 
      (b_cons (s_ownL 3 (by rfl) T.b_list sc.nd rfl (.inl rfl) (e_call c__law_pick hr (by rfl) (a_cons (e_var 0 (pv 0)) (a_cons (e_var 2 (pv 2)) a_nil)))) 
      (b_cons (s_if (t_cmp (o_eq (room_u hr)) (e_var 1 (pv 1)) e_int) 
      (b_one (s_for PassesOwn.never rfl (i_range (by rfl) T.b_range (e_op o_add e_int (e_call c__law_taken hr (by rfl) (a_cons (e_var 0 (pv 0)) (a_cons e_int a_nil))))) (g_name 4 sc.nd rfl (by first | exact .inl rfl | exact .inr rfl)) 
      (b_one (s_putL 3 (pv 3) (e_call c__law_taken hr (by rfl) (a_cons (e_var 0 (pv 0)) (a_cons e_int a_nil))) (e_call c__law_pick hr (by rfl) (a_cons (e_var 0 (pv 0)) (a_cons (e_lst (a_cons (e_str [102] rfl) (a_cons (e_str [116] rfl) (a_cons (e_str [117] rfl) a_nil)))) a_nil))))))) 
      b_nil) 
      (b_cons (s_if (t_cmp (o_eq (room_u hr)) (e_var 1 (pv 1)) e_int) 
      (b_cons (s_asg (e_lc (ts := [4]) (own := [("_law_turn", 4)]) (by decide) rfl sc.nd (i_range (by rfl) T.b_range e_int) (show BlkOk ["_law_row", "_law_kind", "_law_told_here", "_law_found", "_law_turn", "_law_a", "_law_b", "_law_c", "_law_x", "_law_y", "_law_z"] (defScope s__law_logic) _ _ from blk_by (by decide +kernel)) (fun _ _ _ _ _ => (g_name 4 sc.nd rfl (by first | exact .inl rfl | exact .inr rfl))) (fun _ _ _ _ _ => ts_nil) (fun _ _ _ _ _ => (e_call c__law_pick hr (by rfl) (a_cons (e_var 0 (pv 0)) (a_cons (e_lst (a_cons (e_str [102] rfl) (a_cons (e_str [116] rfl) (a_cons (e_str [117] rfl) a_nil)))) a_nil))))) (g_lst [5, 6, 7] rfl (pgs_cons (pg_name (i := 5) sc.nd rfl (by first | exact .inl rfl | exact .inr rfl)) (pgs_cons (pg_name (i := 6) sc.nd rfl (by first | exact .inl rfl | exact .inr rfl)) (pgs_cons (pg_name (i := 7) sc.nd rfl (by first | exact .inl rfl | exact .inr rfl)) pgs_nil))))) 
      (b_cons (s_asg (e_lc (ts := [4]) (own := [("_law_turn", 4)]) (by decide) rfl sc.nd (i_range (by rfl) T.b_range e_int) (show BlkOk ["_law_row", "_law_kind", "_law_told_here", "_law_found", "_law_turn", "_law_a", "_law_b", "_law_c", "_law_x", "_law_y", "_law_z"] (defScope s__law_logic) _ _ from blk_by (by decide +kernel)) (fun _ _ _ _ _ => (g_name 4 sc.nd rfl (by first | exact .inl rfl | exact .inr rfl))) (fun _ _ _ _ _ => ts_nil) (fun _ _ _ _ _ => (e_call c__law_pick hr (by rfl) (a_cons (e_var 0 (pv 0)) (a_cons (e_lst (a_cons (e_str [102] rfl) (a_cons (e_str [116] rfl) (a_cons (e_str [117] rfl) a_nil)))) a_nil))))) (g_lst [8, 9, 10] rfl (pgs_cons (pg_name (i := 8) sc.nd rfl (by first | exact .inl rfl | exact .inr rfl)) (pgs_cons (pg_name (i := 9) sc.nd rfl (by first | exact .inl rfl | exact .inr rfl)) (pgs_cons (pg_name (i := 10) sc.nd rfl (by first | exact .inl rfl | exact .inr rfl)) pgs_nil))))) 
      (b_one (s_own 3 sc.nd rfl (.inl rfl) (a_cons (e_str [102] rfl) (a_cons (e_str [102] rfl) (a_cons (e_var 5 (pv 5)) (a_cons (e_var 5 (pv 5)) (a_cons (e_var 6 (pv 6)) (a_cons (e_var 8 (pv 8)) (a_cons (e_var 8 (pv 8)) (a_cons (e_str [116] rfl) (a_cons (e_str [116] rfl) (a_cons (e_var 9 (pv 9)) (a_cons (e_if (t_cmp (o_ne (room_u hr)) (e_var 7 (pv 7)) (e_str [117] rfl)) (e_var 10 (pv 10)) (e_str [117] rfl)) a_nil))))))))))))))) 
      b_nil) 
      (b_cons (s_if (t_cmp (o_eq (room_u hr)) (e_var 1 (pv 1)) e_int) 
      (b_one (s_setLc (ts := [4]) (own := [("_law_turn", 4)]) 3 (by decide) rfl sc.nd rfl rfl (sw_true rfl rfl rfl rfl) (i_range (by rfl) T.b_range e_int) (show BlkOk ["_law_row", "_law_kind", "_law_told_here", "_law_found", "_law_turn", "_law_a", "_law_b", "_law_c", "_law_x", "_law_y", "_law_z"] (defScope s__law_logic) _ _ from blk_by (by decide +kernel)) (fun _ _ _ _ _ => (g_name 4 sc.nd rfl (by first | exact .inl rfl | exact .inr rfl))) (fun _ _ _ _ _ => ts_nil) (fun _ _ _ _ _ => (e_call c__law_pick hr (by rfl) (a_cons (e_var 0 (pv 0)) (a_cons (e_lst (a_cons (e_str [102] rfl) (a_cons (e_str [116] rfl) (a_cons (e_str [117] rfl) a_nil)))) a_nil)))))) 
      b_nil) 
      (b_one (s_frz 3 (s_ret (e_callTy (c_tuple rfl) (by rfl) T.b_tuple (by decide +kernel) (a_cons (e_var 3 (pv 3)) a_nil))))))))))
/-! ## the classes, the word of what is raised -/
structure Tx (P : Program) (K : PySem.W.Frag) (mg : Str → Option Value) : Prop where
  xb : Xb P K mg
  x_BadAnswer : Xc K mg "BadAnswer"
  x_BadName : Xc K mg "BadName"
  x_BadPromise : Xc K mg "BadPromise"
  x_BadPromises : Xc K mg "BadPromises"
  x_BadFormula : Xc K mg "BadFormula"
  x_BadRow : Xc K mg "BadRow"
  gL : ∃ CL, mg "LogicError" = some (.ref CL)
  xn_1 : Xn K mg "LogicError" "BadLogic"
  xn_2 : Xn K mg "LogicError" "BadAnswer"
  xn_3 : Xn K mg "LogicError" "BadName"
  xn_4 : Xn K mg "LogicError" "BadPromise"
  xn_5 : Xn K mg "LogicError" "BadPromises"
  xn_6 : Xn K mg "LogicError" "BadFormula"
  xn_7 : Xn K mg "LogicError" "BadRow"
  xi_1_1 : Xi K mg "BadLogic" "BadLogic" true
  xi_2_1 : Xi K mg "BadAnswer" "BadLogic" false
  xi_2_2 : Xi K mg "BadAnswer" "BadAnswer" true
  xi_2_3 : Xi K mg "BadAnswer" "BadName" false
  xi_2_4 : Xi K mg "BadAnswer" "BadPromise" false
  xi_2_5 : Xi K mg "BadAnswer" "BadPromises" false
  xi_2_6 : Xi K mg "BadAnswer" "BadFormula" false
  xi_2_7 : Xi K mg "BadAnswer" "BadRow" false
  xi_3_1 : Xi K mg "BadName" "BadLogic" false
  xi_3_2 : Xi K mg "BadName" "BadAnswer" false
  xi_3_3 : Xi K mg "BadName" "BadName" true
  xi_3_4 : Xi K mg "BadName" "BadPromise" false
  xi_3_5 : Xi K mg "BadName" "BadPromises" false
  xi_3_6 : Xi K mg "BadName" "BadFormula" false
  xi_3_7 : Xi K mg "BadName" "BadRow" false
  xi_4_1 : Xi K mg "BadPromise" "BadLogic" false
  xi_4_2 : Xi K mg "BadPromise" "BadAnswer" false
  xi_4_3 : Xi K mg "BadPromise" "BadName" false
  xi_4_4 : Xi K mg "BadPromise" "BadPromise" true
  xi_4_5 : Xi K mg "BadPromise" "BadPromises" false
  xi_4_6 : Xi K mg "BadPromise" "BadFormula" false
  xi_4_7 : Xi K mg "BadPromise" "BadRow" false
  xi_5_1 : Xi K mg "BadPromises" "BadLogic" false
  xi_5_2 : Xi K mg "BadPromises" "BadAnswer" false
  xi_5_3 : Xi K mg "BadPromises" "BadName" false
  xi_5_4 : Xi K mg "BadPromises" "BadPromise" false
  xi_5_5 : Xi K mg "BadPromises" "BadPromises" true
  xi_5_6 : Xi K mg "BadPromises" "BadFormula" false
  xi_5_7 : Xi K mg "BadPromises" "BadRow" false
  xi_6_1 : Xi K mg "BadFormula" "BadLogic" false
  xi_6_2 : Xi K mg "BadFormula" "BadAnswer" false
  xi_6_3 : Xi K mg "BadFormula" "BadName" false
  xi_6_4 : Xi K mg "BadFormula" "BadPromise" false
  xi_6_5 : Xi K mg "BadFormula" "BadPromises" false
  xi_6_6 : Xi K mg "BadFormula" "BadFormula" true
  xi_6_7 : Xi K mg "BadFormula" "BadRow" false
  xi_7_1 : Xi K mg "BadRow" "BadLogic" false
  xi_7_2 : Xi K mg "BadRow" "BadAnswer" false
  xi_7_3 : Xi K mg "BadRow" "BadName" false
  xi_7_4 : Xi K mg "BadRow" "BadPromise" false
  xi_7_5 : Xi K mg "BadRow" "BadPromises" false
  xi_7_6 : Xi K mg "BadRow" "BadFormula" false
  xi_7_7 : Xi K mg "BadRow" "BadRow" true
  xfi : Xfi K mg "BadLogic" "index"
theorem sc__law_wrong : FnScope ["_law_work", "_law_e", "_law_known"] ["_law_work"] (defScope s__law_wrong) := ⟨rfl, rfl, rfl, by decide +kernel, rfl, by decide +kernel, by decide +kernel⟩
theorem hx_wrong {P : Program} {K : PySem.W.Frag} {mg : Str → Option Value} (U : Tx P K mg) : ∀ c d wd nm, wordW c d = some wd → clsN[c]? = some nm → Xn K mg "LogicError" nm := fun c d wd nm hw hn => by
  unfold wordW at hw
  split at hw
  · cases hn; exact U.xn_1
  · cases hn; exact U.xn_2
  · cases hn; exact U.xn_3
  · cases hn; exact U.xn_4
  · cases hn; exact U.xn_5
  · cases hn; exact U.xn_6
  · cases hn; exact U.xn_7
  · cases hw
def wSuite : List Stmt := match defBody s__law_wrong with
  | [.Try _ [.ExceptHandler _ _ b _] _ _ _, _] => b
  | _ => []
theorem su_wrong {P : Program} {w : World} {K : PySem.W.Frag} {mg : Str → Option Value} {base : Heap} {Tz : Tbs} {k : Nat} (T : Tp K w.params mg) (U : Tx P K mg) (c : Nat) (d wd : Dt) (nm : Str) (C : Addr) (hw : wordW c d = some wd) (hn : clsN[c]? = some nm) (hC : mg nm = some (.ref C)) (A : Around) (outer : List Env) (s : Shared) (H : Hp) (g : Addr) (cdv : Value) (a : Addr) (oe : Obj) (od : Option Addr) (pn : List (Addr × Obj)) (hz : Zc (.ref C) od oe) (hf : ∃ vs, oe.data = .fields vs) (hr : Room k (A.deeper (envOfC "_law_wrong" (defScope s__law_wrong) s.heap.objs.size g cdv))) :
    PSs ((cxOf C8.CX0 P w K mg base ["_law_work", "_law_e", "_law_known"] "_law_wrong" (defScope s__law_wrong) g cdv A outer s H C8.E0).nox.suite a ((a, oe) :: pn)) wSuite (fun D σ H => σ.length = 3 ∧ σ[1]? = some (some (.ref a)) ∧ XD H c d od ∧ ∃ r Z, Wf (⟨K, w.params, Tz⟩ : Gd) r Z H ∧ PV (⟨K, w.params, Tz⟩ : Gd) r Z H D.rt wd) := by
  have sc := sc__law_wrong
  have hu0 : ((cxOf C8.CX0 P w K mg base ["_law_work", "_law_e", "_law_known"] "_law_wrong" (defScope s__law_wrong) g cdv A outer s H C8.E0).nox.suite a ((a, oe) :: pn)).A.units + 64 < cLine := by have := room_u hr; exact this
  have hu1 : ((cxOf C8.CX0 P w K mg base ["_law_work", "_law_e", "_law_known"] "_law_wrong" (defScope s__law_wrong) g cdv A outer s H C8.E0).nox.suite a ((a, oe) :: pn)).A.units + 1 < cLine := by have := room_u1 hr; exact this
  have hu2 : ((cxOf C8.CX0 P w K mg base ["_law_work", "_law_e", "_law_known"] "_law_wrong" (defScope s__law_wrong) g cdv A outer s H C8.E0).nox.suite a ((a, oe) :: pn)).A.units + 64 + 1 < cLine := by have := room_u65 hr; exact this
  unfold wordW at hw
  split at hw
  · cases hw
    cases hn
    exact suite_logic (X := (cxOf C8.CX0 P w K mg base ["_law_work", "_law_e", "_law_known"] "_law_wrong" (defScope s__law_wrong) g cdv A outer s H C8.E0).nox) [108, 111, 103, 105, 99] rfl U.xi_1_1 U.xfi hC hz hf rfl (.inl rfl) rfl T.b_isinstance rfl
  · cases hw
    cases hn
    exact suite_ne (X := (cxOf C8.CX0 P w K mg base ["_law_work", "_law_e", "_law_known"] "_law_wrong" (defScope s__law_wrong) g cdv A outer s H C8.E0).nox) (m := mAsk a false true false false false false false) (by decide) hz rfl (fun hz => (b_cons (s_if (t_val (e_isE 1 U.xi_2_1 hC hz hf rfl (.inl rfl) rfl T.b_isinstance rfl)) b_never b_nil) (b_cons (s_set 2 sc.nd rfl (.inl rfl) (e_lst (a_cons (e_isE 1 U.xi_2_2 hC hz hf rfl (.inl rfl) rfl T.b_isinstance rfl) (a_cons (e_isE 1 U.xi_2_3 hC hz hf rfl (.inl rfl) rfl T.b_isinstance rfl) (a_cons (e_isE 1 U.xi_2_4 hC hz hf rfl (.inl rfl) rfl T.b_isinstance rfl) (a_cons (e_isE 1 U.xi_2_5 hC hz hf rfl (.inl rfl) rfl T.b_isinstance rfl) (a_cons (e_isE 1 U.xi_2_6 hC hz hf rfl (.inl rfl) rfl T.b_isinstance rfl) (a_cons (e_isE 1 U.xi_2_7 hC hz hf rfl (.inl rfl) rfl T.b_isinstance rfl) a_nil)))))))) (b_one (s_ret (e_if (t_cmp (o_eq hu0) (e_lcount hu1 (e_var 2 (pv 2)) e_bl) e_int) (e_ix i_seq (e_lst (a_cons (e_str [97, 110, 115, 119, 101, 114] rfl) (a_cons (e_str [110, 97, 109, 101] rfl) (a_cons (e_str [112, 114, 111, 109, 105, 115, 101] rfl) (a_cons (e_str [112, 114, 111, 109, 105, 115, 101, 115] rfl) (a_cons (e_str [102, 111, 114, 109, 117, 108, 97] rfl) (a_cons (e_str [114, 111, 119] rfl) a_nil))))))) (e_lindex hu2 (e_var 2 (pv 2)) e_bl)) (e_str [111, 116, 104, 101, 114] rfl))))))) ask2
  · cases hw
    cases hn
    exact suite_ne (X := (cxOf C8.CX0 P w K mg base ["_law_work", "_law_e", "_law_known"] "_law_wrong" (defScope s__law_wrong) g cdv A outer s H C8.E0).nox) (m := mAsk a false false true false false false false) (by decide) hz rfl (fun hz => (b_cons (s_if (t_val (e_isE 1 U.xi_3_1 hC hz hf rfl (.inl rfl) rfl T.b_isinstance rfl)) b_never b_nil) (b_cons (s_set 2 sc.nd rfl (.inl rfl) (e_lst (a_cons (e_isE 1 U.xi_3_2 hC hz hf rfl (.inl rfl) rfl T.b_isinstance rfl) (a_cons (e_isE 1 U.xi_3_3 hC hz hf rfl (.inl rfl) rfl T.b_isinstance rfl) (a_cons (e_isE 1 U.xi_3_4 hC hz hf rfl (.inl rfl) rfl T.b_isinstance rfl) (a_cons (e_isE 1 U.xi_3_5 hC hz hf rfl (.inl rfl) rfl T.b_isinstance rfl) (a_cons (e_isE 1 U.xi_3_6 hC hz hf rfl (.inl rfl) rfl T.b_isinstance rfl) (a_cons (e_isE 1 U.xi_3_7 hC hz hf rfl (.inl rfl) rfl T.b_isinstance rfl) a_nil)))))))) (b_one (s_ret (e_if (t_cmp (o_eq hu0) (e_lcount hu1 (e_var 2 (pv 2)) e_bl) e_int) (e_ix i_seq (e_lst (a_cons (e_str [97, 110, 115, 119, 101, 114] rfl) (a_cons (e_str [110, 97, 109, 101] rfl) (a_cons (e_str [112, 114, 111, 109, 105, 115, 101] rfl) (a_cons (e_str [112, 114, 111, 109, 105, 115, 101, 115] rfl) (a_cons (e_str [102, 111, 114, 109, 117, 108, 97] rfl) (a_cons (e_str [114, 111, 119] rfl) a_nil))))))) (e_lindex hu2 (e_var 2 (pv 2)) e_bl)) (e_str [111, 116, 104, 101, 114] rfl))))))) ask3
  · cases hw
    cases hn
    exact suite_ne (X := (cxOf C8.CX0 P w K mg base ["_law_work", "_law_e", "_law_known"] "_law_wrong" (defScope s__law_wrong) g cdv A outer s H C8.E0).nox) (m := mAsk a false false false true false false false) (by decide) hz rfl (fun hz => (b_cons (s_if (t_val (e_isE 1 U.xi_4_1 hC hz hf rfl (.inl rfl) rfl T.b_isinstance rfl)) b_never b_nil) (b_cons (s_set 2 sc.nd rfl (.inl rfl) (e_lst (a_cons (e_isE 1 U.xi_4_2 hC hz hf rfl (.inl rfl) rfl T.b_isinstance rfl) (a_cons (e_isE 1 U.xi_4_3 hC hz hf rfl (.inl rfl) rfl T.b_isinstance rfl) (a_cons (e_isE 1 U.xi_4_4 hC hz hf rfl (.inl rfl) rfl T.b_isinstance rfl) (a_cons (e_isE 1 U.xi_4_5 hC hz hf rfl (.inl rfl) rfl T.b_isinstance rfl) (a_cons (e_isE 1 U.xi_4_6 hC hz hf rfl (.inl rfl) rfl T.b_isinstance rfl) (a_cons (e_isE 1 U.xi_4_7 hC hz hf rfl (.inl rfl) rfl T.b_isinstance rfl) a_nil)))))))) (b_one (s_ret (e_if (t_cmp (o_eq hu0) (e_lcount hu1 (e_var 2 (pv 2)) e_bl) e_int) (e_ix i_seq (e_lst (a_cons (e_str [97, 110, 115, 119, 101, 114] rfl) (a_cons (e_str [110, 97, 109, 101] rfl) (a_cons (e_str [112, 114, 111, 109, 105, 115, 101] rfl) (a_cons (e_str [112, 114, 111, 109, 105, 115, 101, 115] rfl) (a_cons (e_str [102, 111, 114, 109, 117, 108, 97] rfl) (a_cons (e_str [114, 111, 119] rfl) a_nil))))))) (e_lindex hu2 (e_var 2 (pv 2)) e_bl)) (e_str [111, 116, 104, 101, 114] rfl))))))) ask4
  · cases hw
    cases hn
    exact suite_ne (X := (cxOf C8.CX0 P w K mg base ["_law_work", "_law_e", "_law_known"] "_law_wrong" (defScope s__law_wrong) g cdv A outer s H C8.E0).nox) (m := mAsk a false false false false true false false) (by decide) hz rfl (fun hz => (b_cons (s_if (t_val (e_isE 1 U.xi_5_1 hC hz hf rfl (.inl rfl) rfl T.b_isinstance rfl)) b_never b_nil) (b_cons (s_set 2 sc.nd rfl (.inl rfl) (e_lst (a_cons (e_isE 1 U.xi_5_2 hC hz hf rfl (.inl rfl) rfl T.b_isinstance rfl) (a_cons (e_isE 1 U.xi_5_3 hC hz hf rfl (.inl rfl) rfl T.b_isinstance rfl) (a_cons (e_isE 1 U.xi_5_4 hC hz hf rfl (.inl rfl) rfl T.b_isinstance rfl) (a_cons (e_isE 1 U.xi_5_5 hC hz hf rfl (.inl rfl) rfl T.b_isinstance rfl) (a_cons (e_isE 1 U.xi_5_6 hC hz hf rfl (.inl rfl) rfl T.b_isinstance rfl) (a_cons (e_isE 1 U.xi_5_7 hC hz hf rfl (.inl rfl) rfl T.b_isinstance rfl) a_nil)))))))) (b_one (s_ret (e_if (t_cmp (o_eq hu0) (e_lcount hu1 (e_var 2 (pv 2)) e_bl) e_int) (e_ix i_seq (e_lst (a_cons (e_str [97, 110, 115, 119, 101, 114] rfl) (a_cons (e_str [110, 97, 109, 101] rfl) (a_cons (e_str [112, 114, 111, 109, 105, 115, 101] rfl) (a_cons (e_str [112, 114, 111, 109, 105, 115, 101, 115] rfl) (a_cons (e_str [102, 111, 114, 109, 117, 108, 97] rfl) (a_cons (e_str [114, 111, 119] rfl) a_nil))))))) (e_lindex hu2 (e_var 2 (pv 2)) e_bl)) (e_str [111, 116, 104, 101, 114] rfl))))))) ask5
  · cases hw
    cases hn
    exact suite_ne (X := (cxOf C8.CX0 P w K mg base ["_law_work", "_law_e", "_law_known"] "_law_wrong" (defScope s__law_wrong) g cdv A outer s H C8.E0).nox) (m := mAsk a false false false false false true false) (by decide) hz rfl (fun hz => (b_cons (s_if (t_val (e_isE 1 U.xi_6_1 hC hz hf rfl (.inl rfl) rfl T.b_isinstance rfl)) b_never b_nil) (b_cons (s_set 2 sc.nd rfl (.inl rfl) (e_lst (a_cons (e_isE 1 U.xi_6_2 hC hz hf rfl (.inl rfl) rfl T.b_isinstance rfl) (a_cons (e_isE 1 U.xi_6_3 hC hz hf rfl (.inl rfl) rfl T.b_isinstance rfl) (a_cons (e_isE 1 U.xi_6_4 hC hz hf rfl (.inl rfl) rfl T.b_isinstance rfl) (a_cons (e_isE 1 U.xi_6_5 hC hz hf rfl (.inl rfl) rfl T.b_isinstance rfl) (a_cons (e_isE 1 U.xi_6_6 hC hz hf rfl (.inl rfl) rfl T.b_isinstance rfl) (a_cons (e_isE 1 U.xi_6_7 hC hz hf rfl (.inl rfl) rfl T.b_isinstance rfl) a_nil)))))))) (b_one (s_ret (e_if (t_cmp (o_eq hu0) (e_lcount hu1 (e_var 2 (pv 2)) e_bl) e_int) (e_ix i_seq (e_lst (a_cons (e_str [97, 110, 115, 119, 101, 114] rfl) (a_cons (e_str [110, 97, 109, 101] rfl) (a_cons (e_str [112, 114, 111, 109, 105, 115, 101] rfl) (a_cons (e_str [112, 114, 111, 109, 105, 115, 101, 115] rfl) (a_cons (e_str [102, 111, 114, 109, 117, 108, 97] rfl) (a_cons (e_str [114, 111, 119] rfl) a_nil))))))) (e_lindex hu2 (e_var 2 (pv 2)) e_bl)) (e_str [111, 116, 104, 101, 114] rfl))))))) ask6
  · cases hw
    cases hn
    exact suite_ne (X := (cxOf C8.CX0 P w K mg base ["_law_work", "_law_e", "_law_known"] "_law_wrong" (defScope s__law_wrong) g cdv A outer s H C8.E0).nox) (m := mAsk a false false false false false false true) (by decide) hz rfl (fun hz => (b_cons (s_if (t_val (e_isE 1 U.xi_7_1 hC hz hf rfl (.inl rfl) rfl T.b_isinstance rfl)) b_never b_nil) (b_cons (s_set 2 sc.nd rfl (.inl rfl) (e_lst (a_cons (e_isE 1 U.xi_7_2 hC hz hf rfl (.inl rfl) rfl T.b_isinstance rfl) (a_cons (e_isE 1 U.xi_7_3 hC hz hf rfl (.inl rfl) rfl T.b_isinstance rfl) (a_cons (e_isE 1 U.xi_7_4 hC hz hf rfl (.inl rfl) rfl T.b_isinstance rfl) (a_cons (e_isE 1 U.xi_7_5 hC hz hf rfl (.inl rfl) rfl T.b_isinstance rfl) (a_cons (e_isE 1 U.xi_7_6 hC hz hf rfl (.inl rfl) rfl T.b_isinstance rfl) (a_cons (e_isE 1 U.xi_7_7 hC hz hf rfl (.inl rfl) rfl T.b_isinstance rfl) a_nil)))))))) (b_one (s_ret (e_if (t_cmp (o_eq hu0) (e_lcount hu1 (e_var 2 (pv 2)) e_bl) e_int) (e_ix i_seq (e_lst (a_cons (e_str [97, 110, 115, 119, 101, 114] rfl) (a_cons (e_str [110, 97, 109, 101] rfl) (a_cons (e_str [112, 114, 111, 109, 105, 115, 101] rfl) (a_cons (e_str [112, 114, 111, 109, 105, 115, 101, 115] rfl) (a_cons (e_str [102, 111, 114, 109, 117, 108, 97] rfl) (a_cons (e_str [114, 111, 119] rfl) a_nil))))))) (e_lindex hu2 (e_var 2 (pv 2)) e_bl)) (e_str [111, 116, 104, 101, 114] rfl))))))) ask7
  · cases hw
theorem w_wrong {X : Cx} {Tz : Tbs} {XR : XRel} {E : Sg → XK} {k j : Nat} {e : Expr} {me : En → Mo Dt} {ms : Nat → Option (En → Mo Dt)} {p pos : Pos} (T : Tp X.K X.w.params X.mg) (U : Tx X.prog X.K X.mg) (hg : Gl X "_law_wrong") (hc : X.env.cells = Tz.c) (hr : Room j X.A) (he : PE X e (tM (X.gd Tz) XR E me)) (hb : ∀ i m, ms i = some m → LamOk X Tz k i m) (hk : k + 2 ≤ j := by first | exact Nat.le_refl _ | omega)
    (hs : starEach [e] X.env = (false, eval e X.env) :: starEach [] X.env := by rfl) : PE X (.Call (.Name "_law_wrong" p) [e] [] pos) (tM (X.gd Tz) XR E (mWrong wordW ms me)) := by
  obtain ⟨CL, gL⟩ := U.gL
  exact e_wrong (k := k) (CL := CL) (Ng := ["_law_work", "_law_e", "_law_known"]) T.d__law_wrong sc__law_wrong hg rfl rfl rfl (.inl rfl) rfl rfl gL (hx_wrong U) (fun c d wd nm C hw hn hC A outer s H g cdv a oe od pn hz hf hr => su_wrong (Tz := Tz) T U c d wd nm C hw hn hC A outer s H g cdv a oe od pn hz hf hr) hc (hr.mono hk) he hb hs
theorem w_wrongMk {X : Cx} {Tz : Tbs} {XR : XRel} {E : Sg → XK} {k j kp km : Nat} {ms : Nat → Option (En → Mo Dt)} {p pos pp posp pm1 posm : Pos} {xm : Str} {stm : Stmt} {Nm psm : List Str} {cdm Pm : Addr} {Fp : List Dt → Mo Dt} {lm : List LamRec} {mmk : En → Mo (Dt × En)} {mrow : En → Mo Dt} {mas : En → Mo (List Dt)} {erow e1 : Expr} {es1 : List Expr} (T : Tp X.K X.w.params X.mg) (U : Tx X.prog X.K X.mg) (hg : Gl X "_law_wrong") (hr : Room j X.A) (hk : k + 2 ≤ j)
    (cp : Cal X.prog X.w X.K X.mg X.base kp "_law_pick" 2 Fp) (mk : DfT X.K X.mg X.base xm stm psm cdm Pm) (Sm : FnScope Nm psm (defScope stm)) (hkp : kp ≤ j) (hkm : km + 1 ≤ j) (hgp : Gl X "_law_pick") (hgm : Gl X xm)
    (hbm : ∀ (f : Addr) (A : Around) (outer : List Env) (s : Shared) (H : Hp), Room km (A.deeper (envOfC xm (defScope stm) s.heap.objs.size f (.ref cdm))) → PSr (XmOf X Nm xm stm cdm f A outer s H).nox (defBody stm) (tR ⟨X.K, X.w.params, TmOf Tz lm xm stm cdm s.heap.objs.size f⟩ XR0 EE mmk))
    (hrow : PE X erow (tM (X.gd Tz) XR E mrow)) (ham : PA X (e1 :: es1) (tMs (X.gd Tz) XR E mas))
    (hb : ∀ (fm : Addr) (A : Around) (outer : List Env) (s : Shared) (H : Hp) (i : Nat) (m : En → Mo Dt), ms i = some m → LamOk (XmOf X Nm xm stm cdm fm A outer s H) (TmOf Tz lm xm stm cdm s.heap.objs.size fm) k i m)
    (hdm : (xm == ("__debug__" : Str)) = false)
    (hs1 : starEach [erow, .Call (.Name xm pm1) (e1 :: es1) [] posm] X.env = (false, eval erow X.env) :: starEach [.Call (.Name xm pm1) (e1 :: es1) [] posm] X.env) (hsm : starEach (e1 :: es1) X.env = (false, eval e1 X.env) :: starEach es1 X.env) (hpm : (backTo posm (starEach es1 X.env)).any (·.1) = false) :
    PE X (.Call (.Name "_law_wrong" p) [.Call (.Name "_law_pick" pp) [erow, .Call (.Name xm pm1) (e1 :: es1) [] posm] [] posp] [] pos) (tM (X.gd Tz) XR E (mWrongMk wordW ms (mPickMk mmk Nm.length psm.length Fp mrow mas))) := by
  obtain ⟨CL, gL⟩ := U.gL
  exact e_wrongMk (k := k) (CL := CL) (Ng := ["_law_work", "_law_e", "_law_known"]) T.d__law_wrong sc__law_wrong hg rfl rfl rfl (.inl rfl) rfl rfl gL (hx_wrong U) (fun c d wd nm C hw hn hC A outer s H g cdv a oe od pn hz hf hr => su_wrong (Tz := Tz) T U c d wd nm C hw hn hC A outer s H g cdv a oe od pn hz hf hr) hr hk cp mk Sm hkp hkm hgp hgm hbm hrow ham hb (by decide) hdm hs1 hsm hpm

theorem sc_need_answers : FnScope ["values", "value"] ["values"] (defScope s_need_answers) := ⟨rfl, rfl, rfl, by decide +kernel, rfl, by decide +kernel, by decide +kernel⟩
theorem calx_need_answers {P : Program} {w : World} {K : PySem.W.Frag} {mg : Str → Option Value} {base : Heap} (T : Tp K w.params mg) (U : Tx P K mg) : CalX (L2N.CX P w) P w K mg base 3 "need_answers" 1 mx_need_answers := by
    have sc := sc_need_answers
    have c_is_answer : Cal P w K mg base _ "is_answer" _ _ := (cal_is_answer T)
    exact calX (k := 2) T.d_need_answers sc fun _ f cdv A outer s H E hr => (b_one (s_for (passes_of rfl) rfl (i_seq_ (e_var 0 (pv 0))) (g_name 1 sc.nd rfl (by first | exact .inl rfl | exact .inr rfl)) 
      (b_one (s_if (t_not (t_val (e_callN c_is_answer hr (by rfl) (a_cons (e_var 1 (pv 1)) a_nil)))) 
      (b_one (s_raise0 2 U.x_BadAnswer (by rfl) (L2N.takes_of rfl rfl rfl rfl))) 
      b_nil))))
theorem sc_need_logic : FnScope ["logic", "index"] ["logic"] (defScope s_need_logic) := ⟨rfl, rfl, rfl, by decide +kernel, rfl, by decide +kernel, by decide +kernel⟩
theorem calx_need_logic {P : Program} {w : World} {K : PySem.W.Frag} {mg : Str → Option Value} {base : Heap} (T : Tp K w.params mg) (U : Tx P K mg) : CalX (L2N.CX P w) P w K mg base 3 "need_logic" 1 mx_need_logic := by
    have sc := sc_need_logic
    have c_is_answer : Cal P w K mg base _ "is_answer" _ _ := (cal_is_answer T)
    exact calX (k := 2) T.d_need_logic sc fun _ f cdv A outer s H E hr => (b_cons (s_if (w_or (t_not (t_val (e_isi (T := .tup) (by rfl) T.b_isinstance (by rfl) T.b_tuple (by decide +kernel) (e_var 0 (pv 0))))) (w_or1 (t_cmp (o_ne (room_u hr)) (e_callB c_len (by rfl) T.b_len (by decide +kernel) (a_cons (e_var 0 (pv 0)) a_nil)) (e_gv T.g_SIZE (by rfl))))).pt 
      (b_one (s_raiseB U.xb (by rfl) (L2N.takes_of rfl rfl rfl rfl) hr e_non)) 
      b_nil) 
      (b_one (s_for (passes_of rfl) rfl (i_range (by rfl) T.b_range (e_gv T.g_SIZE (by rfl))) (g_name 1 sc.nd rfl (by first | exact .inl rfl | exact .inr rfl)) 
      (b_one (s_if (t_not (t_val (e_callN c_is_answer hr (by rfl) (a_cons (e_ix i_seq (e_var 0 (pv 0)) (e_var 1 (pv 1))) a_nil)))) 
      (b_one (s_raiseB U.xb (by rfl) (L2N.takes_of rfl rfl rfl rfl) hr (e_var 1 (pv 1)))) 
      b_nil)))))
theorem sc_conj : FnScope ["logic", "one", "other"] ["logic", "one", "other"] (defScope s_conj) := ⟨rfl, rfl, rfl, by decide +kernel, rfl, by decide +kernel, by decide +kernel⟩
theorem calx_conj {P : Program} {w : World} {K : PySem.W.Frag} {mg : Str → Option Value} {base : Heap} (T : Tp K w.params mg) (U : Tx P K mg) : CalX (L2N.CX P w) P w K mg base 4 "conj" 3 mx_conj := by
    have sc := sc_conj
    have x_need_answers : CalX (L2N.CX P w) P w K mg base _ "need_answers" _ _ := calx_need_answers T U
    have x_need_logic : CalX (L2N.CX P w) P w K mg base _ "need_logic" _ _ := calx_need_logic T U
    exact calX (k := 3) T.d_conj sc fun _ f cdv A outer s H E hr => (b_cons (s_expr (e_callX x_need_logic hr (fun σ => L2N.passAt (L2N.takes_of rfl rfl rfl rfl) σ) (by rfl) (a_cons (e_var 0 (pv 0)) a_nil))) 
      (b_cons (s_expr (e_callX x_need_answers hr (fun σ => L2N.passAt (L2N.takes_of rfl rfl rfl rfl) σ) (by rfl) (a_cons (e_tup (a_cons (e_var 1 (pv 1)) (a_cons (e_var 2 (pv 2)) a_nil))) a_nil))) 
      b_never))
theorem sc_disj : FnScope ["logic", "one", "other"] ["logic", "one", "other"] (defScope s_disj) := ⟨rfl, rfl, rfl, by decide +kernel, rfl, by decide +kernel, by decide +kernel⟩
theorem calx_disj {P : Program} {w : World} {K : PySem.W.Frag} {mg : Str → Option Value} {base : Heap} (T : Tp K w.params mg) (U : Tx P K mg) : CalX (L2N.CX P w) P w K mg base 4 "disj" 3 mx_disj := by
    have sc := sc_disj
    have x_need_answers : CalX (L2N.CX P w) P w K mg base _ "need_answers" _ _ := calx_need_answers T U
    have x_need_logic : CalX (L2N.CX P w) P w K mg base _ "need_logic" _ _ := calx_need_logic T U
    exact calX (k := 3) T.d_disj sc fun _ f cdv A outer s H E hr => (b_cons (s_expr (e_callX x_need_logic hr (fun σ => L2N.passAt (L2N.takes_of rfl rfl rfl rfl) σ) (by rfl) (a_cons (e_var 0 (pv 0)) a_nil))) 
      (b_cons (s_expr (e_callX x_need_answers hr (fun σ => L2N.passAt (L2N.takes_of rfl rfl rfl rfl) σ) (by rfl) (a_cons (e_tup (a_cons (e_var 1 (pv 1)) (a_cons (e_var 2 (pv 2)) a_nil))) a_nil))) 
      b_never))
theorem sc_neg : FnScope ["logic", "one"] ["logic", "one"] (defScope s_neg) := ⟨rfl, rfl, rfl, by decide +kernel, rfl, by decide +kernel, by decide +kernel⟩
theorem calx_neg {P : Program} {w : World} {K : PySem.W.Frag} {mg : Str → Option Value} {base : Heap} (T : Tp K w.params mg) (U : Tx P K mg) : CalX (L2N.CX P w) P w K mg base 4 "neg" 2 mx_neg := by
    have sc := sc_neg
    have x_need_answers : CalX (L2N.CX P w) P w K mg base _ "need_answers" _ _ := calx_need_answers T U
    have x_need_logic : CalX (L2N.CX P w) P w K mg base _ "need_logic" _ _ := calx_need_logic T U
    exact calX (k := 3) T.d_neg sc fun _ f cdv A outer s H E hr => (b_cons (s_expr (e_callX x_need_logic hr (fun σ => L2N.passAt (L2N.takes_of rfl rfl rfl rfl) σ) (by rfl) (a_cons (e_var 0 (pv 0)) a_nil))) 
      (b_cons (s_expr (e_callX x_need_answers hr (fun σ => L2N.passAt (L2N.takes_of rfl rfl rfl rfl) σ) (by rfl) (a_cons (e_tup (a_cons (e_var 1 (pv 1)) a_nil)) a_nil))) 
      b_never))
theorem sc_told_logic : FnScope ["name"] ["name"] (defScope s_told_logic) := ⟨rfl, rfl, rfl, by decide +kernel, rfl, by decide +kernel, by decide +kernel⟩
theorem calx_told_logic {P : Program} {w : World} {K : PySem.W.Frag} {mg : Str → Option Value} {base : Heap} (T : Tp K w.params mg) (U : Tx P K mg) : CalX (L2N.CX P w) P w K mg base 3 "told_logic" 1 mx_told_logic := by
    have sc := sc_told_logic
    exact calX (k := 2) T.d_told_logic sc fun _ f cdv A outer s H E hr => (b_cons (s_if (w_or (t_not (t_val (e_isi (T := .str) (by rfl) T.b_isinstance (by rfl) T.b_str (by decide +kernel) (e_var 0 (pv 0))))) (w_or1 (t_cmp (o_notInK (room_u1 hr)) (e_var 0 (pv 0)) (e_gv T.g_TOLD (by rfl))))).pt 
      (b_one (s_raise0 3 U.x_BadName (by rfl) (L2N.takes_of rfl rfl rfl rfl))) 
      b_nil) 
      b_never)
theorem sc_need_promise : FnScope ["promise"] ["promise"] (defScope s_need_promise) := ⟨rfl, rfl, rfl, by decide +kernel, rfl, by decide +kernel, by decide +kernel⟩
theorem calx_need_promise {P : Program} {w : World} {K : PySem.W.Frag} {mg : Str → Option Value} {base : Heap} (T : Tp K w.params mg) (U : Tx P K mg) : CalX (L2N.CX P w) P w K mg base 3 "need_promise" 1 mx_need_promise := by
    have sc := sc_need_promise
    exact calX (k := 2) T.d_need_promise sc fun _ f cdv A outer s H E hr => (b_one (s_if (w_or (t_not (t_val (e_isi (T := .str) (by rfl) T.b_isinstance (by rfl) T.b_str (by decide +kernel) (e_var 0 (pv 0))))) (w_or1 (t_cmp o_notIn (e_var 0 (pv 0)) (e_gv T.g_PROMISES (by rfl))))).pt 
      (b_one (s_raise0 4 U.x_BadPromise (by rfl) (L2N.takes_of rfl rfl rfl rfl))) 
      b_nil))
theorem sc_need_promises : FnScope ["wanted", "one", "other"] ["wanted"] (defScope s_need_promises) := ⟨rfl, rfl, rfl, by decide +kernel, rfl, by decide +kernel, by decide +kernel⟩
theorem calx_need_promises {P : Program} {w : World} {K : PySem.W.Frag} {mg : Str → Option Value} {base : Heap} (T : Tp K w.params mg) (U : Tx P K mg) : CalX (L2N.CX P w) P w K mg base 3 "need_promises" 1 mx_need_promises := by
    have sc := sc_need_promises
    exact calX (k := 2) T.d_need_promises sc fun _ f cdv A outer s H E hr => (b_cons (s_if (w_or (t_not (t_val (e_isi (T := .tup) (by rfl) T.b_isinstance (by rfl) T.b_tuple (by decide +kernel) (e_var 0 (pv 0))))) (w_or1 (t_not (t_val (e_callB (c_all rfl) (by rfl) T.b_all (by decide +kernel) (a_cons (e_lc (ts := [1]) (own := [("one", 1)]) (by decide) rfl sc.nd (i_seq_ (e_var 0 (pv 0))) (show BlkOk ["wanted", "one", "other"] (defScope s_need_promises) _ _ from blk_by (by decide +kernel)) (fun _ _ _ _ _ => (g_name 1 sc.nd rfl (by first | exact .inl rfl | exact .inr rfl))) (fun _ _ _ _ _ => ts_nil) (fun _ _ _ _ _ => (e_and (e_isi (T := .str) (by rfl) T.b_isinstance (by rfl) T.b_str (by decide +kernel) (e_var 1 (pv 1))) (e_one (e_cmp o_in (e_var 1 (pv 1)) (e_gv T.g_PROMISES (by rfl))))))) a_nil)))))).pt 
      (b_one (s_raise0 5 U.x_BadPromises (by rfl) (L2N.takes_of rfl rfl rfl rfl))) 
      b_nil) 
      (b_one (s_if (t_not (t_val (e_callB (c_all rfl) (by rfl) T.b_all (by decide +kernel) (a_cons (e_lc (ts := [1, 2]) (own := [("one", 1), ("other", 2)]) (by decide) rfl sc.nd (i_zip (by rfl) T.b_zip (e_var 0 (pv 0)) (e_slice (e_var 0 (pv 0)) (p_some e_int) p_none)) (show BlkOk ["wanted", "one", "other"] (defScope s_need_promises) _ _ from blk_by (by decide +kernel)) (fun _ _ _ _ _ => (g_tup [1, 2] rfl (pgs_cons (pg_name (i := 1) sc.nd rfl (by first | exact .inl rfl | exact .inr rfl)) (pgs_cons (pg_name (i := 2) sc.nd rfl (by first | exact .inl rfl | exact .inr rfl)) pgs_nil)))) (fun _ _ _ _ _ => ts_nil) (fun _ _ _ _ _ => (e_cmp o_lt (e_var 1 (pv 1)) (e_var 2 (pv 2))))) a_nil)))) 
      (b_one (s_raise0 5 U.x_BadPromises (by rfl) (L2N.takes_of rfl rfl rfl rfl))) 
      b_nil)))
theorem sc_keeps : FnScope ["logic", "promise"] ["logic", "promise"] (defScope s_keeps) := ⟨rfl, rfl, rfl, by decide +kernel, rfl, by decide +kernel, by decide +kernel⟩
theorem calx_keeps {P : Program} {w : World} {K : PySem.W.Frag} {mg : Str → Option Value} {base : Heap} (T : Tp K w.params mg) (U : Tx P K mg) : CalX (L2N.CX P w) P w K mg base 4 "keeps" 2 mx_keeps := by
    have sc := sc_keeps
    have x_need_logic : CalX (L2N.CX P w) P w K mg base _ "need_logic" _ _ := calx_need_logic T U
    have x_need_promise : CalX (L2N.CX P w) P w K mg base _ "need_promise" _ _ := calx_need_promise T U
    exact calX (k := 3) T.d_keeps sc fun _ f cdv A outer s H E hr => (b_cons (s_expr (e_callX x_need_logic hr (fun σ => L2N.passAt (L2N.takes_of rfl rfl rfl rfl) σ) (by rfl) (a_cons (e_var 0 (pv 0)) a_nil))) 
      (b_cons (s_expr (e_callX x_need_promise hr (fun σ => L2N.passAt (L2N.takes_of rfl rfl rfl rfl) σ) (by rfl) (a_cons (e_var 1 (pv 1)) a_nil))) 
      b_never))
theorem sc_counterexample : FnScope ["logic", "promise"] ["logic", "promise"] (defScope s_counterexample) := ⟨rfl, rfl, rfl, by decide +kernel, rfl, by decide +kernel, by decide +kernel⟩
theorem calx_counterexample {P : Program} {w : World} {K : PySem.W.Frag} {mg : Str → Option Value} {base : Heap} (T : Tp K w.params mg) (U : Tx P K mg) : CalX (L2N.CX P w) P w K mg base 4 "counterexample" 2 mx_counterexample := by
    have sc := sc_counterexample
    have x_need_logic : CalX (L2N.CX P w) P w K mg base _ "need_logic" _ _ := calx_need_logic T U
    have x_need_promise : CalX (L2N.CX P w) P w K mg base _ "need_promise" _ _ := calx_need_promise T U
    exact calX (k := 3) T.d_counterexample sc fun _ f cdv A outer s H E hr => (b_cons (s_expr (e_callX x_need_logic hr (fun σ => L2N.passAt (L2N.takes_of rfl rfl rfl rfl) σ) (by rfl) (a_cons (e_var 0 (pv 0)) a_nil))) 
      (b_cons (s_expr (e_callX x_need_promise hr (fun σ => L2N.passAt (L2N.takes_of rfl rfl rfl rfl) σ) (by rfl) (a_cons (e_var 1 (pv 1)) a_nil))) 
      b_never))
theorem sc_profile : FnScope ["logic", "promise"] ["logic"] (defScope s_profile) := ⟨rfl, rfl, rfl, by decide +kernel, rfl, by decide +kernel, by decide +kernel⟩
theorem calx_profile {P : Program} {w : World} {K : PySem.W.Frag} {mg : Str → Option Value} {base : Heap} (T : Tp K w.params mg) (U : Tx P K mg) : CalX (L2N.CX P w) P w K mg base 4 "profile" 1 mx_profile := by
    have sc := sc_profile
    have x_need_logic : CalX (L2N.CX P w) P w K mg base _ "need_logic" _ _ := calx_need_logic T U
    exact calX (k := 3) T.d_profile sc fun _ f cdv A outer s H E hr => (b_cons (s_expr (e_callX x_need_logic hr (fun σ => L2N.passAt (L2N.takes_of rfl rfl rfl rfl) σ) (by rfl) (a_cons (e_var 0 (pv 0)) a_nil))) 
      b_never)
theorem sc_need_formula : FnScope ["formula"] ["formula"] (defScope s_need_formula) := ⟨rfl, rfl, rfl, by decide +kernel, rfl, by decide +kernel, by decide +kernel⟩
theorem calx_need_formula {P : Program} {w : World} {K : PySem.W.Frag} {mg : Str → Option Value} {base : Heap} (T : Tp K w.params mg) (U : Tx P K mg) : CalX (L2N.CX P w) P w K mg base 13 "need_formula" 1 mx_need_formula := by
    have sc := sc_need_formula
    have c_is_formula : Cal P w K mg base _ "is_formula" _ _ := (cal_is_formula T)
    exact calX (k := 12) T.d_need_formula sc fun _ f cdv A outer s H E hr => (b_one (s_if (t_not (t_val (e_callN c_is_formula hr (by rfl) (a_cons (e_var 0 (pv 0)) a_nil)))) 
      (b_one (s_raise0 6 U.x_BadFormula (by rfl) (L2N.takes_of rfl rfl rfl rfl))) 
      b_nil))
theorem sc_letters_of : FnScope ["formula"] ["formula"] (defScope s_letters_of) := ⟨rfl, rfl, rfl, by decide +kernel, rfl, by decide +kernel, by decide +kernel⟩
theorem calx_letters_of {P : Program} {w : World} {K : PySem.W.Frag} {mg : Str → Option Value} {base : Heap} (T : Tp K w.params mg) (U : Tx P K mg) : CalX (L2N.CX P w) P w K mg base 14 "letters_of" 1 mx_letters_of := by
    have sc := sc_letters_of
    have x_need_formula : CalX (L2N.CX P w) P w K mg base _ "need_formula" _ _ := calx_need_formula T U
    exact calX (k := 13) T.d_letters_of sc fun _ f cdv A outer s H E hr => (b_cons (s_expr (e_callX x_need_formula hr (fun σ => L2N.passAt (L2N.takes_of rfl rfl rfl rfl) σ) (by rfl) (a_cons (e_var 0 (pv 0)) a_nil))) 
      b_never)
theorem sc_need_row : FnScope ["letters", "row", "one"] ["letters", "row"] (defScope s_need_row) := ⟨rfl, rfl, rfl, by decide +kernel, rfl, by decide +kernel, by decide +kernel⟩
theorem calx_need_row {P : Program} {w : World} {K : PySem.W.Frag} {mg : Str → Option Value} {base : Heap} (T : Tp K w.params mg) (U : Tx P K mg) : CalX (L2N.CX P w) P w K mg base 3 "need_row" 2 mx_need_row := by
    have sc := sc_need_row
    have c_is_answer : Cal P w K mg base _ "is_answer" _ _ := (cal_is_answer T)
    exact calX (k := 2) T.d_need_row sc fun _ f cdv A outer s H E hr => (b_one (s_if (w_or (t_not (t_val (e_isi (T := .tup) (by rfl) T.b_isinstance (by rfl) T.b_tuple (by decide +kernel) (e_var 1 (pv 1))))) (w_or (t_cmp (o_ne (room_u hr)) (e_callB c_len (by rfl) T.b_len (by decide +kernel) (a_cons (e_var 1 (pv 1)) a_nil)) (e_callB c_len (by rfl) T.b_len (by decide +kernel) (a_cons (e_var 0 (pv 0)) a_nil))) (w_or1 (t_not (t_val (e_callB (c_all rfl) (by rfl) T.b_all (by decide +kernel) (a_cons (e_lc (ts := [2]) (own := [("one", 2)]) (by decide) rfl sc.nd (i_seq_ (e_var 1 (pv 1))) (show BlkOk ["letters", "row", "one"] (defScope s_need_row) _ _ from blk_by (by decide +kernel)) (fun _ _ _ _ _ => (g_name 2 sc.nd rfl (by first | exact .inl rfl | exact .inr rfl))) (fun _ _ _ _ _ => ts_nil) (fun _ _ _ _ _ => (e_callN c_is_answer hr (by rfl) (a_cons (e_var 2 (pv 2)) a_nil)))) a_nil))))))).pt 
      (b_one (s_raise0 7 U.x_BadRow (by rfl) (L2N.takes_of rfl rfl rfl rfl))) 
      b_nil))
theorem sc_value : FnScope ["logic", "formula", "row", "letters"] ["logic", "formula", "row"] (defScope s_value) := ⟨rfl, rfl, rfl, by decide +kernel, rfl, by decide +kernel, by decide +kernel⟩
theorem calx_value {P : Program} {w : World} {K : PySem.W.Frag} {mg : Str → Option Value} {base : Heap} (T : Tp K w.params mg) (U : Tx P K mg) : CalX (L2N.CX P w) P w K mg base 14 "value" 3 mx_value := by
    have sc := sc_value
    have c_letters_in : Cal P w K mg base _ "letters_in" _ _ := (cal_letters_in T)
    have x_need_formula : CalX (L2N.CX P w) P w K mg base _ "need_formula" _ _ := calx_need_formula T U
    have x_need_logic : CalX (L2N.CX P w) P w K mg base _ "need_logic" _ _ := calx_need_logic T U
    have x_need_row : CalX (L2N.CX P w) P w K mg base _ "need_row" _ _ := calx_need_row T U
    exact calX (k := 13) T.d_value sc fun _ f cdv A outer s H E hr => (b_cons (s_expr (e_callX x_need_logic hr (fun σ => L2N.passAt (L2N.takes_of rfl rfl rfl rfl) σ) (by rfl) (a_cons (e_var 0 (pv 0)) a_nil))) 
      (b_cons (s_expr (e_callX x_need_formula hr (fun σ => L2N.passAt (L2N.takes_of rfl rfl rfl rfl) σ) (by rfl) (a_cons (e_var 1 (pv 1)) a_nil))) 
      (b_cons (s_set 3 sc.nd rfl (.inl rfl) (e_callN c_letters_in hr (by rfl) (a_cons (e_var 1 (pv 1)) a_nil))) 
      (b_cons (s_expr (e_callX x_need_row hr (fun σ => L2N.passAt (L2N.takes_of rfl rfl rfl rfl) σ) (by rfl) (a_cons (e_var 3 (pv 3)) (a_cons (e_var 2 (pv 2)) a_nil)))) 
      b_never))))
theorem sc_table : FnScope ["logic", "formula"] ["logic", "formula"] (defScope s_table) := ⟨rfl, rfl, rfl, by decide +kernel, rfl, by decide +kernel, by decide +kernel⟩
theorem calx_table {P : Program} {w : World} {K : PySem.W.Frag} {mg : Str → Option Value} {base : Heap} (T : Tp K w.params mg) (U : Tx P K mg) : CalX (L2N.CX P w) P w K mg base 14 "table" 2 mx_table := by
    have sc := sc_table
    have x_need_formula : CalX (L2N.CX P w) P w K mg base _ "need_formula" _ _ := calx_need_formula T U
    have x_need_logic : CalX (L2N.CX P w) P w K mg base _ "need_logic" _ _ := calx_need_logic T U
    exact calX (k := 13) T.d_table sc fun _ f cdv A outer s H E hr => (b_cons (s_expr (e_callX x_need_logic hr (fun σ => L2N.passAt (L2N.takes_of rfl rfl rfl rfl) σ) (by rfl) (a_cons (e_var 0 (pv 0)) a_nil))) 
      (b_cons (s_expr (e_callX x_need_formula hr (fun σ => L2N.passAt (L2N.takes_of rfl rfl rfl rfl) σ) (by rfl) (a_cons (e_var 1 (pv 1)) a_nil))) 
      b_never))
theorem sc_is_sure : FnScope ["logic", "formula", "one"] ["logic", "formula"] (defScope s_is_sure) := ⟨rfl, rfl, rfl, by decide +kernel, rfl, by decide +kernel, by decide +kernel⟩
theorem calx_is_sure {P : Program} {w : World} {K : PySem.W.Frag} {mg : Str → Option Value} {base : Heap} (T : Tp K w.params mg) (U : Tx P K mg) : CalX (L2N.CX P w) P w K mg base 15 "is_sure" 2 mx_is_sure := by
    have sc := sc_is_sure
    have x_table : CalX (L2N.CX P w) P w K mg base _ "table" _ _ := calx_table T U
    exact calX (k := 14) T.d_is_sure sc fun _ f cdv A outer s H E hr => (b_one (s_ret (e_callB (c_all rfl) (by rfl) T.b_all (by decide +kernel) (a_cons (e_lc (ts := [2]) (own := [("one", 2)]) (by decide) rfl sc.nd (i_seq_ (e_callX x_table hr (fun σ => L2N.passAt (L2N.takes_of rfl rfl rfl rfl) σ) (by rfl) (a_cons (e_var 0 (pv 0)) (a_cons (e_var 1 (pv 1)) a_nil)))) (show BlkOk ["logic", "formula", "one"] (defScope s_is_sure) _ _ from blk_by (by decide +kernel)) (fun _ _ _ _ _ => (g_name 2 sc.nd rfl (by first | exact .inl rfl | exact .inr rfl))) (fun _ _ _ _ _ => ts_nil) (fun _ _ _ _ _ => (e_cmp (o_eq (room_u hr)) (e_var 2 (pv 2)) (e_str [116] rfl)))) a_nil))))
theorem sc_parting : FnScope ["logic", "one", "other", "letters", "row", "known"] ["logic", "one", "other"] (defScope s_parting) := ⟨rfl, rfl, rfl, by decide +kernel, rfl, by decide +kernel, by decide +kernel⟩
theorem calx_parting {P : Program} {w : World} {K : PySem.W.Frag} {mg : Str → Option Value} {base : Heap} (T : Tp K w.params mg) (U : Tx P K mg) : CalX (L2N.CX P w) P w K mg base 14 "parting" 3 mx_parting := by
    have sc := sc_parting
    have x_need_formula : CalX (L2N.CX P w) P w K mg base _ "need_formula" _ _ := calx_need_formula T U
    have x_need_logic : CalX (L2N.CX P w) P w K mg base _ "need_logic" _ _ := calx_need_logic T U
    exact calX (k := 13) T.d_parting sc fun _ f cdv A outer s H E hr => (b_cons (s_expr (e_callX x_need_logic hr (fun σ => L2N.passAt (L2N.takes_of rfl rfl rfl rfl) σ) (by rfl) (a_cons (e_var 0 (pv 0)) a_nil))) 
      (b_cons (s_expr (e_callX x_need_formula hr (fun σ => L2N.passAt (L2N.takes_of rfl rfl rfl rfl) σ) (by rfl) (a_cons (e_var 1 (pv 1)) a_nil))) 
      (b_cons (s_expr (e_callX x_need_formula hr (fun σ => L2N.passAt (L2N.takes_of rfl rfl rfl rfl) σ) (by rfl) (a_cons (e_var 2 (pv 2)) a_nil))) 
      b_never)))
theorem sc_alike : FnScope ["logic", "one", "other"] ["logic", "one", "other"] (defScope s_alike) := ⟨rfl, rfl, rfl, by decide +kernel, rfl, by decide +kernel, by decide +kernel⟩
theorem calx_alike {P : Program} {w : World} {K : PySem.W.Frag} {mg : Str → Option Value} {base : Heap} (T : Tp K w.params mg) (U : Tx P K mg) : CalX (L2N.CX P w) P w K mg base 15 "alike" 3 mx_alike := by
    have sc := sc_alike
    have x_parting : CalX (L2N.CX P w) P w K mg base _ "parting" _ _ := calx_parting T U
    exact calX (k := 14) T.d_alike sc fun _ f cdv A outer s H E hr => (b_one (s_ret (e_cmp o_is (e_callX x_parting hr (fun σ => L2N.passAt (L2N.takes_of rfl rfl rfl rfl) σ) (by rfl) (a_cons (e_var 0 (pv 0)) (a_cons (e_var 1 (pv 1)) (a_cons (e_var 2 (pv 2)) a_nil)))) e_non)))
theorem sc_need_known : FnScope ["formula"] ["formula"] (defScope s_need_known) := ⟨rfl, rfl, rfl, by decide +kernel, rfl, by decide +kernel, by decide +kernel⟩
theorem calx_need_known {P : Program} {w : World} {K : PySem.W.Frag} {mg : Str → Option Value} {base : Heap} (T : Tp K w.params mg) (U : Tx P K mg) : CalX (L2N.CX P w) P w K mg base 14 "need_known" 1 mx_need_known := by
    have sc := sc_need_known
    have c_leaves_of : Cal P w K mg base _ "leaves_of" _ _ := (cal_leaves_of T 10)
    have x_need_formula : CalX (L2N.CX P w) P w K mg base _ "need_formula" _ _ := calx_need_formula T U
    exact calX (k := 13) T.d_need_known sc fun _ f cdv A outer s H E hr => (b_cons (s_expr (e_callX x_need_formula hr (fun σ => L2N.passAt (L2N.takes_of rfl rfl rfl rfl) σ) (by rfl) (a_cons (e_var 0 (pv 0)) a_nil))) 
      (b_one (s_if (t_cmp o_in (e_str [117] rfl) (e_callN c_leaves_of hr (by rfl) (a_cons (e_var 0 (pv 0)) a_nil))) 
      (b_one (s_raise0 6 U.x_BadFormula (by rfl) (L2N.takes_of rfl rfl rfl rfl))) 
      b_nil)))
theorem sc_filled : FnScope ["formula", "row", "letters"] ["formula", "row"] (defScope s_filled) := ⟨rfl, rfl, rfl, by decide +kernel, rfl, by decide +kernel, by decide +kernel⟩
theorem calx_filled {P : Program} {w : World} {K : PySem.W.Frag} {mg : Str → Option Value} {base : Heap} (T : Tp K w.params mg) (U : Tx P K mg) : CalX (L2N.CX P w) P w K mg base 15 "filled" 2 mx_filled := by
    have sc := sc_filled
    have c_letters_in : Cal P w K mg base _ "letters_in" _ _ := (cal_letters_in T)
    have x_need_known : CalX (L2N.CX P w) P w K mg base _ "need_known" _ _ := calx_need_known T U
    have x_need_row : CalX (L2N.CX P w) P w K mg base _ "need_row" _ _ := calx_need_row T U
    exact calX (k := 14) T.d_filled sc fun _ f cdv A outer s H E hr => (b_cons (s_expr (e_callX x_need_known hr (fun σ => L2N.passAt (L2N.takes_of rfl rfl rfl rfl) σ) (by rfl) (a_cons (e_var 0 (pv 0)) a_nil))) 
      (b_cons (s_set 2 sc.nd rfl (.inl rfl) (e_callN c_letters_in hr (by rfl) (a_cons (e_var 0 (pv 0)) a_nil))) 
      (b_cons (s_expr (e_callX x_need_row hr (fun σ => L2N.passAt (L2N.takes_of rfl rfl rfl rfl) σ) (by rfl) (a_cons (e_var 2 (pv 2)) (a_cons (e_var 1 (pv 1)) a_nil)))) 
      b_never)))
theorem sc_rows_where : FnScope ["logic", "formula", "is_gap", "letters", "found", "row", "here"] ["logic", "formula", "is_gap"] (defScope s_rows_where) := ⟨rfl, rfl, rfl, by decide +kernel, rfl, by decide +kernel, by decide +kernel⟩
theorem calx_rows_where {P : Program} {w : World} {K : PySem.W.Frag} {mg : Str → Option Value} {base : Heap} (T : Tp K w.params mg) (U : Tx P K mg) : CalX (L2N.CX P w) P w K mg base 15 "rows_where" 3 mx_rows_where := by
    have sc := sc_rows_where
    have x_need_known : CalX (L2N.CX P w) P w K mg base _ "need_known" _ _ := calx_need_known T U
    have x_need_logic : CalX (L2N.CX P w) P w K mg base _ "need_logic" _ _ := calx_need_logic T U
    exact calX (k := 14) T.d_rows_where sc fun _ f cdv A outer s H E hr => (b_cons (s_expr (e_callX x_need_logic hr (fun σ => L2N.passAt (L2N.takes_of rfl rfl rfl rfl) σ) (by rfl) (a_cons (e_var 0 (pv 0)) a_nil))) 
      (b_cons (s_expr (e_callX x_need_known hr (fun σ => L2N.passAt (L2N.takes_of rfl rfl rfl rfl) σ) (by rfl) (a_cons (e_var 1 (pv 1)) a_nil))) 
      b_never))
theorem sc_gaps : FnScope ["logic", "formula"] ["logic", "formula"] (defScope s_gaps) := ⟨rfl, rfl, rfl, by decide +kernel, rfl, by decide +kernel, by decide +kernel⟩
theorem calx_gaps {P : Program} {w : World} {K : PySem.W.Frag} {mg : Str → Option Value} {base : Heap} (T : Tp K w.params mg) (U : Tx P K mg) : CalX (L2N.CX P w) P w K mg base 16 "gaps" 2 mx_gaps := by
    have sc := sc_gaps
    have x_rows_where : CalX (L2N.CX P w) P w K mg base _ "rows_where" _ _ := calx_rows_where T U
    exact calX (k := 15) T.d_gaps sc fun _ f cdv A outer s H E hr => (b_one (s_ret (e_callX x_rows_where hr (fun σ => L2N.passAt (L2N.takes_of rfl rfl rfl rfl) σ) (by rfl) (a_cons (e_var 0 (pv 0)) (a_cons (e_var 1 (pv 1)) (a_cons e_bl a_nil))))))
theorem sc_slips : FnScope ["logic", "formula"] ["logic", "formula"] (defScope s_slips) := ⟨rfl, rfl, rfl, by decide +kernel, rfl, by decide +kernel, by decide +kernel⟩
theorem calx_slips {P : Program} {w : World} {K : PySem.W.Frag} {mg : Str → Option Value} {base : Heap} (T : Tp K w.params mg) (U : Tx P K mg) : CalX (L2N.CX P w) P w K mg base 16 "slips" 2 mx_slips := by
    have sc := sc_slips
    have x_rows_where : CalX (L2N.CX P w) P w K mg base _ "rows_where" _ _ := calx_rows_where T U
    exact calX (k := 15) T.d_slips sc fun _ f cdv A outer s H E hr => (b_one (s_ret (e_callX x_rows_where hr (fun σ => L2N.passAt (L2N.takes_of rfl rfl rfl rfl) σ) (by rfl) (a_cons (e_var 0 (pv 0)) (a_cons (e_var 1 (pv 1)) (a_cons e_bl a_nil))))))
theorem sc_is_once : FnScope ["formula", "some", "leaf"] ["formula"] (defScope s_is_once) := ⟨rfl, rfl, rfl, by decide +kernel, rfl, by decide +kernel, by decide +kernel⟩
theorem calx_is_once {P : Program} {w : World} {K : PySem.W.Frag} {mg : Str → Option Value} {base : Heap} (T : Tp K w.params mg) (U : Tx P K mg) : CalX (L2N.CX P w) P w K mg base 14 "is_once" 1 mx_is_once := by
    have sc := sc_is_once
    have x_need_formula : CalX (L2N.CX P w) P w K mg base _ "need_formula" _ _ := calx_need_formula T U
    exact calX (k := 13) T.d_is_once sc fun _ f cdv A outer s H E hr => (b_cons (s_expr (e_callX x_need_formula hr (fun σ => L2N.passAt (L2N.takes_of rfl rfl rfl rfl) σ) (by rfl) (a_cons (e_var 0 (pv 0)) a_nil))) 
      b_never)
theorem sc_write_logic : FnScope ["logic"] ["logic"] (defScope s_write_logic) := ⟨rfl, rfl, rfl, by decide +kernel, rfl, by decide +kernel, by decide +kernel⟩
theorem calx_write_logic {P : Program} {w : World} {K : PySem.W.Frag} {mg : Str → Option Value} {base : Heap} (T : Tp K w.params mg) (U : Tx P K mg) : CalX (L2N.CX P w) P w K mg base 4 "write_logic" 1 mx_write_logic := by
    have sc := sc_write_logic
    have x_need_logic : CalX (L2N.CX P w) P w K mg base _ "need_logic" _ _ := calx_need_logic T U
    exact calX (k := 3) T.d_write_logic sc fun _ f cdv A outer s H E hr => (b_cons (s_expr (e_callX x_need_logic hr (fun σ => L2N.passAt (L2N.takes_of rfl rfl rfl rfl) σ) (by rfl) (a_cons (e_var 0 (pv 0)) a_nil))) 
      b_never)
theorem sc_write_formula : FnScope ["formula"] ["formula"] (defScope s_write_formula) := ⟨rfl, rfl, rfl, by decide +kernel, rfl, by decide +kernel, by decide +kernel⟩
theorem calx_write_formula {P : Program} {w : World} {K : PySem.W.Frag} {mg : Str → Option Value} {base : Heap} (T : Tp K w.params mg) (U : Tx P K mg) : CalX (L2N.CX P w) P w K mg base 14 "write_formula" 1 mx_write_formula := by
    have sc := sc_write_formula
    have x_need_formula : CalX (L2N.CX P w) P w K mg base _ "need_formula" _ _ := calx_need_formula T U
    exact calX (k := 13) T.d_write_formula sc fun _ f cdv A outer s H E hr => (b_cons (s_expr (e_callX x_need_formula hr (fun σ => L2N.passAt (L2N.takes_of rfl rfl rfl rfl) σ) (by rfl) (a_cons (e_var 0 (pv 0)) a_nil))) 
      b_never)
theorem sc_can_hold : FnScope ["wanted"] ["wanted"] (defScope s_can_hold) := ⟨rfl, rfl, rfl, by decide +kernel, rfl, by decide +kernel, by decide +kernel⟩
theorem calx_can_hold {P : Program} {w : World} {K : PySem.W.Frag} {mg : Str → Option Value} {base : Heap} (T : Tp K w.params mg) (U : Tx P K mg) : CalX (L2N.CX P w) P w K mg base 4 "can_hold" 1 mx_can_hold := by
    have sc := sc_can_hold
    have x_need_promises : CalX (L2N.CX P w) P w K mg base _ "need_promises" _ _ := calx_need_promises T U
    exact calX (k := 3) T.d_can_hold sc fun _ f cdv A outer s H E hr => (b_cons (s_expr (e_callX x_need_promises hr (fun σ => L2N.passAt (L2N.takes_of rfl rfl rfl rfl) σ) (by rfl) (a_cons (e_var 0 (pv 0)) a_nil))) 
      b_never)
theorem sc_clashes : FnScope ["wanted"] ["wanted"] (defScope s_clashes) := ⟨rfl, rfl, rfl, by decide +kernel, rfl, by decide +kernel, by decide +kernel⟩
theorem calx_clashes {P : Program} {w : World} {K : PySem.W.Frag} {mg : Str → Option Value} {base : Heap} (T : Tp K w.params mg) (U : Tx P K mg) : CalX (L2N.CX P w) P w K mg base 4 "clashes" 1 mx_clashes := by
    have sc := sc_clashes
    have x_need_promises : CalX (L2N.CX P w) P w K mg base _ "need_promises" _ _ := calx_need_promises T U
    exact calX (k := 3) T.d_clashes sc fun _ f cdv A outer s H E hr => (b_cons (s_expr (e_callX x_need_promises hr (fun σ => L2N.passAt (L2N.takes_of rfl rfl rfl rfl) σ) (by rfl) (a_cons (e_var 0 (pv 0)) a_nil))) 
      b_never)
theorem sc_can_add : FnScope ["wanted", "rest", "one"] ["wanted"] (defScope s_can_add) := ⟨rfl, rfl, rfl, by decide +kernel, rfl, by decide +kernel, by decide +kernel⟩
theorem calx_can_add {P : Program} {w : World} {K : PySem.W.Frag} {mg : Str → Option Value} {base : Heap} (T : Tp K w.params mg) (U : Tx P K mg) : CalX (L2N.CX P w) P w K mg base 4 "can_add" 1 mx_can_add := by
    have sc := sc_can_add
    have x_need_promises : CalX (L2N.CX P w) P w K mg base _ "need_promises" _ _ := calx_need_promises T U
    exact calX (k := 3) T.d_can_add sc fun _ f cdv A outer s H E hr => (b_cons (s_expr (e_callX x_need_promises hr (fun σ => L2N.passAt (L2N.takes_of rfl rfl rfl rfl) σ) (by rfl) (a_cons (e_var 0 (pv 0)) a_nil))) 
      b_never)
theorem sc_count_logics : FnScope ["wanted"] ["wanted"] (defScope s_count_logics) := ⟨rfl, rfl, rfl, by decide +kernel, rfl, by decide +kernel, by decide +kernel⟩
theorem calx_count_logics {P : Program} {w : World} {K : PySem.W.Frag} {mg : Str → Option Value} {base : Heap} (T : Tp K w.params mg) (U : Tx P K mg) : CalX (L2N.CX P w) P w K mg base 4 "count_logics" 1 mx_count_logics := by
    have sc := sc_count_logics
    have x_need_promises : CalX (L2N.CX P w) P w K mg base _ "need_promises" _ _ := calx_need_promises T U
    exact calX (k := 3) T.d_count_logics sc fun _ f cdv A outer s H E hr => (b_cons (s_expr (e_callX x_need_promises hr (fun σ => L2N.passAt (L2N.takes_of rfl rfl rfl rfl) σ) (by rfl) (a_cons (e_var 0 (pv 0)) a_nil))) 
      b_never)
theorem sc_least_logic : FnScope ["wanted"] ["wanted"] (defScope s_least_logic) := ⟨rfl, rfl, rfl, by decide +kernel, rfl, by decide +kernel, by decide +kernel⟩
theorem calx_least_logic {P : Program} {w : World} {K : PySem.W.Frag} {mg : Str → Option Value} {base : Heap} (T : Tp K w.params mg) (U : Tx P K mg) : CalX (L2N.CX P w) P w K mg base 4 "least_logic" 1 mx_least_logic := by
    have sc := sc_least_logic
    have x_need_promises : CalX (L2N.CX P w) P w K mg base _ "need_promises" _ _ := calx_need_promises T U
    exact calX (k := 3) T.d_least_logic sc fun _ f cdv A outer s H E hr => (b_cons (s_expr (e_callX x_need_promises hr (fun σ => L2N.passAt (L2N.takes_of rfl rfl rfl rfl) σ) (by rfl) (a_cons (e_var 0 (pv 0)) a_nil))) 
      b_never)
theorem sc_Desk : FnScope ["self", "logic"] ["self", "logic"] (defScope s_Desk) := ⟨rfl, rfl, rfl, by decide +kernel, rfl, by decide +kernel, by decide +kernel⟩
theorem cali_Desk {P : Program} {w : World} {K : PySem.W.Frag} {mg : Str → Option Value} {base : Heap} (T : Tp K w.params mg) (U : Tx P K mg) (V : Td K mg) : CalI P w K mg base 4 "Desk" 1 mx_need_logic := by
    have sc := sc_Desk
    have x_need_logic : CalX (L2N.CX P w) P w K mg base _ "need_logic" _ _ := calx_need_logic T U
    obtain ⟨C, f, fd, hm, M, F, b⟩ := V.ex
    refine ⟨C, f, fd, ["self", "logic"], run 2 bx_Desk, fun Tz => fnX (CX := L2.CX P w) (N := ["self", "logic"]) (k := 3) F sc fun cdv A outer s H E hr => (b_cons (s_expr (e_callX x_need_logic.n2 hr (fun σ => L2.passAt (L2.takes_of rfl rfl rfl rfl) σ) (by rfl) (a_cons (e_var 1 (pv 1)) a_nil))) 
      b_never), hm, M, b, fun y ds R hl h => ?_⟩
    match ds, hl with
    | [d], _ =>
      show (((((mx_need_logic [d]).bind fun _ => Mo.ret (Fl.nx _)).bind fun f => match f with | .nx ρ' => mErr ρ' | f => .ret f)).bind flo).wp _ _
      rw [Mo.bind_assoc, Mo.bind_assoc]
      exact Mo.wp_bind.mpr (h.mono (fun _ q => q.elim) fun _ _ q => q)
def lm__law_logic_works : List LamRec := [lamP (("_law_logic_works" : Str) ++ ".<locals>." ++ "<lambda>") (defBody s__law_logic_works) 0 [0], lamP (("_law_logic_works" : Str) ++ ".<locals>." ++ "<lambda>") (defBody s__law_logic_works) 0 [1], lamP (("_law_logic_works" : Str) ++ ".<locals>." ++ "<lambda>") (defBody s__law_logic_works) 0 [2], lamP (("_law_logic_works" : Str) ++ ".<locals>." ++ "<lambda>") (defBody s__law_logic_works) 0 [3], lamP (("_law_logic_works" : Str) ++ ".<locals>." ++ "<lambda>") (defBody s__law_logic_works) 0 [4], lamP (("_law_logic_works" : Str) ++ ".<locals>." ++ "<lambda>") (defBody s__law_logic_works) 1 [1, 0], lamP (("_law_logic_works" : Str) ++ ".<locals>." ++ "<lambda>") (defBody s__law_logic_works) 1 [1, 1], lamP (("_law_logic_works" : Str) ++ ".<locals>." ++ "<lambda>") (defBody s__law_logic_works) 1 [1, 2], lamP (("_law_logic_works" : Str) ++ ".<locals>." ++ "<lambda>") (defBody s__law_logic_works) 1 [1, 3], lamP (("_law_logic_works" : Str) ++ ".<locals>." ++ "<lambda>") (defBody s__law_logic_works) 1 [1, 4], lamP (("_law_logic_works" : Str) ++ ".<locals>." ++ "<lambda>") (defBody s__law_logic_works) 2 [1, 0], lamP (("_law_logic_works" : Str) ++ ".<locals>." ++ "<lambda>") (defBody s__law_logic_works) 2 [1, 1], lamP (("_law_logic_works" : Str) ++ ".<locals>." ++ "<lambda>") (defBody s__law_logic_works) 2 [1, 2], lamP (("_law_logic_works" : Str) ++ ".<locals>." ++ "<lambda>") (defBody s__law_logic_works) 2 [1, 3], lamP (("_law_logic_works" : Str) ++ ".<locals>." ++ "<lambda>") (defBody s__law_logic_works) 2 [1, 4]]
theorem sc__law_logic_works : FnScope ["_law_bad", "_law_works"] ["_law_bad"] (defScope s__law_logic_works) := ⟨rfl, rfl, rfl, by decide +kernel, rfl, by decide +kernel, by decide +kernel⟩
theorem lams__law_logic_works {P : Program} {w : World} {K : PySem.W.Frag} {mg : Str → Option Value} {base : Heap} {t : List (Addr × Str)} (T : Tp K w.params mg) (U : Tx P K mg) (V : Td K mg) (f : Addr) (cd : Addr) (A : Around) (outer : List Env) (s : Shared) (H : Hp) : LamsOk (cxOf C8.CX0 P w K mg base ["_law_bad", "_law_works"] "_law_logic_works" (defScope s__law_logic_works) f (.ref cd) A outer s H C8.E0) ⟨t, lm__law_logic_works, (envOfC "_law_logic_works" (defScope s__law_logic_works) s.heap.objs.size f (.ref cd)).cells⟩ 16 0 ml__law_logic_works := by
    have x_alike : CalX (L2N.CX P w) P w K mg base _ "alike" _ _ := calx_alike T U
    have x_conj : CalX (L2N.CX P w) P w K mg base _ "conj" _ _ := calx_conj T U
    have x_counterexample : CalX (L2N.CX P w) P w K mg base _ "counterexample" _ _ := calx_counterexample T U
    have x_disj : CalX (L2N.CX P w) P w K mg base _ "disj" _ _ := calx_disj T U
    have x_gaps : CalX (L2N.CX P w) P w K mg base _ "gaps" _ _ := calx_gaps T U
    have x_is_sure : CalX (L2N.CX P w) P w K mg base _ "is_sure" _ _ := calx_is_sure T U
    have x_keeps : CalX (L2N.CX P w) P w K mg base _ "keeps" _ _ := calx_keeps T U
    have x_need_logic : CalX (L2N.CX P w) P w K mg base _ "need_logic" _ _ := calx_need_logic T U
    have x_neg : CalX (L2N.CX P w) P w K mg base _ "neg" _ _ := calx_neg T U
    have x_parting : CalX (L2N.CX P w) P w K mg base _ "parting" _ _ := calx_parting T U
    have x_profile : CalX (L2N.CX P w) P w K mg base _ "profile" _ _ := calx_profile T U
    have x_slips : CalX (L2N.CX P w) P w K mg base _ "slips" _ _ := calx_slips T U
    have x_table : CalX (L2N.CX P w) P w K mg base _ "table" _ _ := calx_table T U
    have x_value : CalX (L2N.CX P w) P w K mg base _ "value" _ _ := calx_value T U
    have x_write_logic : CalX (L2N.CX P w) P w K mg base _ "write_logic" _ _ := calx_write_logic T U
    have i_Desk : CalI P w K mg base _ "Desk" 1 mx_need_logic := cali_Desk T U V
    exact (lams_cons (lam_ok _ rfl rfl (.none rfl (fun _ => rfl) fun _ _ _ _ _ _ => rfl) (lamS3_by (by kernel_rfl)) fun A outer s H E f c' hr => (e_callX x_conj.n2 hr (fun σ => L2.passAt (L2.takes_of rfl rfl rfl rfl) σ) (by rfl) (a_cons (e_var 0 (pv 0)) (a_cons e_non (a_cons e_non a_nil)))))
      (lams_cons (lam_ok _ rfl rfl (.one rfl rfl fun _ _ _ _ _ _ _ => ⟨_, rfl, fun _ => rfl⟩) (lamS3_by (by kernel_rfl)) fun A outer s H E f c' hr => (e_callX x_disj.n2 hr (fun σ => L2.passAt (L2.takes_of rfl rfl rfl rfl) σ) (by rfl) (a_cons (e_var 0 (pv 0)) (a_cons e_non (a_cons e_non a_nil)))))
      (lams_cons (lam_ok _ rfl rfl (.one rfl rfl fun _ _ _ _ _ _ _ => ⟨_, rfl, fun _ => rfl⟩) (lamS3_by (by kernel_rfl)) fun A outer s H E f c' hr => (e_callX x_neg.n2 hr (fun σ => L2.passAt (L2.takes_of rfl rfl rfl rfl) σ) (by rfl) (a_cons (e_var 0 (pv 0)) (a_cons e_non a_nil))))
      (lams_cons (lam_ok _ rfl rfl (.one rfl rfl fun _ _ _ _ _ _ _ => ⟨_, rfl, fun _ => rfl⟩) (lamS3_by (by kernel_rfl)) fun A outer s H E f c' hr => (e_callX x_keeps.n2 hr (fun σ => L2.passAt (L2.takes_of rfl rfl rfl rfl) σ) (by rfl) (a_cons (e_var 0 (pv 0)) (a_cons e_non a_nil))))
      (lams_cons (lam_ok _ rfl rfl (.one rfl rfl fun _ _ _ _ _ _ _ => ⟨_, rfl, fun _ => rfl⟩) (lamS3_by (by kernel_rfl)) fun A outer s H E f c' hr => (e_callX x_counterexample.n2 hr (fun σ => L2.passAt (L2.takes_of rfl rfl rfl rfl) σ) (by rfl) (a_cons (e_var 0 (pv 0)) (a_cons e_non a_nil))))
      (lams_cons (lam_ok _ rfl rfl (.one rfl rfl fun _ _ _ _ _ _ _ => ⟨_, rfl, fun _ => rfl⟩) (lamS3_by (by kernel_rfl)) fun A outer s H E f c' hr => (e_callX x_profile.n2 hr (fun σ => L2.passAt (L2.takes_of rfl rfl rfl rfl) σ) (by rfl) (a_cons (e_var 0 (pv 0)) a_nil)))
      (lams_cons (lam_ok _ rfl rfl (.one rfl rfl fun _ _ _ _ _ _ _ => ⟨_, rfl, fun _ => rfl⟩) (lamS3_by (by kernel_rfl)) fun A outer s H E f c' hr => (e_callX x_value.n2 hr (fun σ => L2.passAt (L2.takes_of rfl rfl rfl rfl) σ) (by rfl) (a_cons (e_var 0 (pv 0)) (a_cons e_non (a_cons e_non a_nil)))))
      (lams_cons (lam_ok _ rfl rfl (.one rfl rfl fun _ _ _ _ _ _ _ => ⟨_, rfl, fun _ => rfl⟩) (lamS3_by (by kernel_rfl)) fun A outer s H E f c' hr => (e_callX x_table.n2 hr (fun σ => L2.passAt (L2.takes_of rfl rfl rfl rfl) σ) (by rfl) (a_cons (e_var 0 (pv 0)) (a_cons e_non a_nil))))
      (lams_cons (lam_ok _ rfl rfl (.one rfl rfl fun _ _ _ _ _ _ _ => ⟨_, rfl, fun _ => rfl⟩) (lamS3_by (by kernel_rfl)) fun A outer s H E f c' hr => (e_callX x_is_sure.n2 hr (fun σ => L2.passAt (L2.takes_of rfl rfl rfl rfl) σ) (by rfl) (a_cons (e_var 0 (pv 0)) (a_cons e_non a_nil))))
      (lams_cons (lam_ok _ rfl rfl (.one rfl rfl fun _ _ _ _ _ _ _ => ⟨_, rfl, fun _ => rfl⟩) (lamS3_by (by kernel_rfl)) fun A outer s H E f c' hr => (e_callX x_parting.n2 hr (fun σ => L2.passAt (L2.takes_of rfl rfl rfl rfl) σ) (by rfl) (a_cons (e_var 0 (pv 0)) (a_cons e_non (a_cons e_non a_nil)))))
      (lams_cons (lam_ok _ rfl rfl (.one rfl rfl fun _ _ _ _ _ _ _ => ⟨_, rfl, fun _ => rfl⟩) (lamS3_by (by kernel_rfl)) fun A outer s H E f c' hr => (e_callX x_alike.n2 hr (fun σ => L2.passAt (L2.takes_of rfl rfl rfl rfl) σ) (by rfl) (a_cons (e_var 0 (pv 0)) (a_cons e_non (a_cons e_non a_nil)))))
      (lams_cons (lam_ok _ rfl rfl (.one rfl rfl fun _ _ _ _ _ _ _ => ⟨_, rfl, fun _ => rfl⟩) (lamS3_by (by kernel_rfl)) fun A outer s H E f c' hr => (e_callX x_gaps.n2 hr (fun σ => L2.passAt (L2.takes_of rfl rfl rfl rfl) σ) (by rfl) (a_cons (e_var 0 (pv 0)) (a_cons e_non a_nil))))
      (lams_cons (lam_ok _ rfl rfl (.one rfl rfl fun _ _ _ _ _ _ _ => ⟨_, rfl, fun _ => rfl⟩) (lamS3_by (by kernel_rfl)) fun A outer s H E f c' hr => (e_callX x_slips.n2 hr (fun σ => L2.passAt (L2.takes_of rfl rfl rfl rfl) σ) (by rfl) (a_cons (e_var 0 (pv 0)) (a_cons e_non a_nil))))
      (lams_cons (lam_ok _ rfl rfl (.one rfl rfl fun _ _ _ _ _ _ _ => ⟨_, rfl, fun _ => rfl⟩) (lamS3_by (by kernel_rfl)) fun A outer s H E f c' hr => (e_callX x_write_logic.n2 hr (fun σ => L2.passAt (L2.takes_of rfl rfl rfl rfl) σ) (by rfl) (a_cons (e_var 0 (pv 0)) a_nil)))
      (lams_cons (lam_ok _ rfl rfl (.one rfl rfl fun _ _ _ _ _ _ _ => ⟨_, rfl, fun _ => rfl⟩) (lamS3_by (by kernel_rfl)) fun A outer s H E f c' hr => (e_mk i_Desk hr (L2.takes_of rfl rfl rfl rfl) (by rfl) (a_cons (e_var 0 (pv 0)) a_nil)))
      lams_nil)))))))))))))))
theorem body__law_logic_works {P : Program} {w : World} {K : PySem.W.Frag} {mg : Str → Option Value} {base : Heap} {t : List (Addr × Str)} {cd Pa : Addr} (T : Tp K w.params mg) (TB : LamX.TabB base mg cd Pa) (hm : (Pa, (("_law_logic_works" : Str) ++ ".<locals>." ++ "<lambda>")) ∈ t) (hu : ∀ p ∈ t, p.1 = Pa → p.2 = (("_law_logic_works" : Str) ++ ".<locals>." ++ "<lambda>")) (f : Addr) (A : Around) (outer : List Env) (s : Shared) (H : Hp) {k : Nat} (hr : Room k (A.deeper (envOfC "_law_logic_works" (defScope s__law_logic_works) s.heap.objs.size f (.ref cd)))) : PSr (cxOf C8.CX0 P w K mg base ["_law_bad", "_law_works"] "_law_logic_works" (defScope s__law_logic_works) f (.ref cd) A outer s H C8.E0).nox (defBody s__law_logic_works) (tR ⟨K, w.params, ⟨t, lm__law_logic_works, (envOfC "_law_logic_works" (defScope s__law_logic_works) s.heap.objs.size f (.ref cd)).cells⟩⟩ XR0 EE mr__law_logic_works) := by
    have sc := sc__law_logic_works
    exact (r_cons (s_set 1 sc.nd rfl (.inl rfl) (e_lst (a_cons (e_lam 0 rfl rfl (.none rfl (fun _ => rfl) fun _ _ _ _ _ _ => rfl) rfl TB hm hu (lamS3_by (by kernel_rfl))) (a_cons (e_lam 1 rfl rfl (.one rfl rfl fun _ _ _ _ _ _ _ => ⟨_, rfl, fun _ => rfl⟩) rfl TB hm hu (lamS3_by (by kernel_rfl))) (a_cons (e_lam 2 rfl rfl (.one rfl rfl fun _ _ _ _ _ _ _ => ⟨_, rfl, fun _ => rfl⟩) rfl TB hm hu (lamS3_by (by kernel_rfl))) (a_cons (e_lam 3 rfl rfl (.one rfl rfl fun _ _ _ _ _ _ _ => ⟨_, rfl, fun _ => rfl⟩) rfl TB hm hu (lamS3_by (by kernel_rfl))) (a_cons (e_lam 4 rfl rfl (.one rfl rfl fun _ _ _ _ _ _ _ => ⟨_, rfl, fun _ => rfl⟩) rfl TB hm hu (lamS3_by (by kernel_rfl))) a_nil))))))) 
      (r_cons (s_set 1 sc.nd rfl (.inl rfl) (e_op o_add (e_var 1 (pv 1)) (e_lst (a_cons (e_lam 5 rfl rfl (.one rfl rfl fun _ _ _ _ _ _ _ => ⟨_, rfl, fun _ => rfl⟩) rfl TB hm hu (lamS3_by (by kernel_rfl))) (a_cons (e_lam 6 rfl rfl (.one rfl rfl fun _ _ _ _ _ _ _ => ⟨_, rfl, fun _ => rfl⟩) rfl TB hm hu (lamS3_by (by kernel_rfl))) (a_cons (e_lam 7 rfl rfl (.one rfl rfl fun _ _ _ _ _ _ _ => ⟨_, rfl, fun _ => rfl⟩) rfl TB hm hu (lamS3_by (by kernel_rfl))) (a_cons (e_lam 8 rfl rfl (.one rfl rfl fun _ _ _ _ _ _ _ => ⟨_, rfl, fun _ => rfl⟩) rfl TB hm hu (lamS3_by (by kernel_rfl))) (a_cons (e_lam 9 rfl rfl (.one rfl rfl fun _ _ _ _ _ _ _ => ⟨_, rfl, fun _ => rfl⟩) rfl TB hm hu (lamS3_by (by kernel_rfl))) a_nil)))))))) 
      (r_ret (e_op o_add (e_var 1 (pv 1)) (e_lst (a_cons (e_lam 10 rfl rfl (.one rfl rfl fun _ _ _ _ _ _ _ => ⟨_, rfl, fun _ => rfl⟩) rfl TB hm hu (lamS3_by (by kernel_rfl))) (a_cons (e_lam 11 rfl rfl (.one rfl rfl fun _ _ _ _ _ _ _ => ⟨_, rfl, fun _ => rfl⟩) rfl TB hm hu (lamS3_by (by kernel_rfl))) (a_cons (e_lam 12 rfl rfl (.one rfl rfl fun _ _ _ _ _ _ _ => ⟨_, rfl, fun _ => rfl⟩) rfl TB hm hu (lamS3_by (by kernel_rfl))) (a_cons (e_lam 13 rfl rfl (.one rfl rfl fun _ _ _ _ _ _ _ => ⟨_, rfl, fun _ => rfl⟩) rfl TB hm hu (lamS3_by (by kernel_rfl))) (a_cons (e_lam 14 rfl rfl (.one rfl rfl fun _ _ _ _ _ _ _ => ⟨_, rfl, fun _ => rfl⟩) rfl TB hm hu (lamS3_by (by kernel_rfl))) a_nil))))))))))
def lm__law_formula_works : List LamRec := [lamP (("_law_formula_works" : Str) ++ ".<locals>." ++ "<lambda>") (defBody s__law_formula_works) 0 [0], lamP (("_law_formula_works" : Str) ++ ".<locals>." ++ "<lambda>") (defBody s__law_formula_works) 0 [1], lamP (("_law_formula_works" : Str) ++ ".<locals>." ++ "<lambda>") (defBody s__law_formula_works) 0 [2], lamP (("_law_formula_works" : Str) ++ ".<locals>." ++ "<lambda>") (defBody s__law_formula_works) 0 [3], lamP (("_law_formula_works" : Str) ++ ".<locals>." ++ "<lambda>") (defBody s__law_formula_works) 0 [4], lamP (("_law_formula_works" : Str) ++ ".<locals>." ++ "<lambda>") (defBody s__law_formula_works) 1 [1, 0], lamP (("_law_formula_works" : Str) ++ ".<locals>." ++ "<lambda>") (defBody s__law_formula_works) 1 [1, 1], lamP (("_law_formula_works" : Str) ++ ".<locals>." ++ "<lambda>") (defBody s__law_formula_works) 1 [1, 2], lamP (("_law_formula_works" : Str) ++ ".<locals>." ++ "<lambda>") (defBody s__law_formula_works) 1 [1, 3], lamP (("_law_formula_works" : Str) ++ ".<locals>." ++ "<lambda>") (defBody s__law_formula_works) 1 [1, 4], lamP (("_law_formula_works" : Str) ++ ".<locals>." ++ "<lambda>") (defBody s__law_formula_works) 2 [1, 0], lamP (("_law_formula_works" : Str) ++ ".<locals>." ++ "<lambda>") (defBody s__law_formula_works) 2 [1, 1]]
theorem sc__law_formula_works : FnScope ["_law_logic_here", "_law_bad", "_law_works"] ["_law_logic_here", "_law_bad"] (defScope s__law_formula_works) := ⟨rfl, rfl, rfl, by decide +kernel, rfl, by decide +kernel, by decide +kernel⟩
theorem lams__law_formula_works {P : Program} {w : World} {K : PySem.W.Frag} {mg : Str → Option Value} {base : Heap} {t : List (Addr × Str)} (T : Tp K w.params mg) (U : Tx P K mg) (V : Td K mg) (f : Addr) (cd : Addr) (A : Around) (outer : List Env) (s : Shared) (H : Hp) : LamsOk (cxOf C8.CX0 P w K mg base ["_law_logic_here", "_law_bad", "_law_works"] "_law_formula_works" (defScope s__law_formula_works) f (.ref cd) A outer s H C8.E0) ⟨t, lm__law_formula_works, (envOfC "_law_formula_works" (defScope s__law_formula_works) s.heap.objs.size f (.ref cd)).cells⟩ 16 0 ml__law_formula_works := by
    have x_alike : CalX (L2N.CX P w) P w K mg base _ "alike" _ _ := calx_alike T U
    have x_filled : CalX (L2N.CX P w) P w K mg base _ "filled" _ _ := calx_filled T U
    have x_gaps : CalX (L2N.CX P w) P w K mg base _ "gaps" _ _ := calx_gaps T U
    have x_is_once : CalX (L2N.CX P w) P w K mg base _ "is_once" _ _ := calx_is_once T U
    have x_is_sure : CalX (L2N.CX P w) P w K mg base _ "is_sure" _ _ := calx_is_sure T U
    have x_letters_of : CalX (L2N.CX P w) P w K mg base _ "letters_of" _ _ := calx_letters_of T U
    have x_parting : CalX (L2N.CX P w) P w K mg base _ "parting" _ _ := calx_parting T U
    have x_slips : CalX (L2N.CX P w) P w K mg base _ "slips" _ _ := calx_slips T U
    have x_table : CalX (L2N.CX P w) P w K mg base _ "table" _ _ := calx_table T U
    have x_value : CalX (L2N.CX P w) P w K mg base _ "value" _ _ := calx_value T U
    have x_write_formula : CalX (L2N.CX P w) P w K mg base _ "write_formula" _ _ := calx_write_formula T U
    exact (lams_cons (lam_ok _ rfl rfl (.none rfl (fun _ => rfl) fun _ _ _ _ _ _ => rfl) (lamS3_by (by kernel_rfl)) fun A outer s H E f c' hr => (e_callX x_value.n2 hr (fun σ => L2.passAt (L2.takes_of rfl rfl rfl rfl) σ) (by rfl) (a_cons (e_var 0 (pv 0)) (a_cons (e_var 1 (pv 1)) (a_cons e_non a_nil)))))
      (lams_cons (lam_ok _ rfl rfl (.one rfl rfl fun _ _ _ _ _ _ _ => ⟨_, rfl, fun _ => rfl⟩) (lamS3_by (by kernel_rfl)) fun A outer s H E f c' hr => (e_callX x_table.n2 hr (fun σ => L2.passAt (L2.takes_of rfl rfl rfl rfl) σ) (by rfl) (a_cons (e_var 0 (pv 0)) (a_cons (e_var 1 (pv 1)) a_nil))))
      (lams_cons (lam_ok _ rfl rfl (.one rfl rfl fun _ _ _ _ _ _ _ => ⟨_, rfl, fun _ => rfl⟩) (lamS3_by (by kernel_rfl)) fun A outer s H E f c' hr => (e_callX x_is_sure.n2 hr (fun σ => L2.passAt (L2.takes_of rfl rfl rfl rfl) σ) (by rfl) (a_cons (e_var 0 (pv 0)) (a_cons (e_var 1 (pv 1)) a_nil))))
      (lams_cons (lam_ok _ rfl rfl (.one rfl rfl fun _ _ _ _ _ _ _ => ⟨_, rfl, fun _ => rfl⟩) (lamS3_by (by kernel_rfl)) fun A outer s H E f c' hr => (e_callX x_parting.n2 hr (fun σ => L2.passAt (L2.takes_of rfl rfl rfl rfl) σ) (by rfl) (a_cons (e_var 0 (pv 0)) (a_cons (e_var 1 (pv 1)) (a_cons e_non a_nil)))))
      (lams_cons (lam_ok _ rfl rfl (.one rfl rfl fun _ _ _ _ _ _ _ => ⟨_, rfl, fun _ => rfl⟩) (lamS3_by (by kernel_rfl)) fun A outer s H E f c' hr => (e_callX x_parting.n2 hr (fun σ => L2.passAt (L2.takes_of rfl rfl rfl rfl) σ) (by rfl) (a_cons (e_var 0 (pv 0)) (a_cons (e_str [97] rfl) (a_cons (e_var 1 (pv 1)) a_nil)))))
      (lams_cons (lam_ok _ rfl rfl (.one rfl rfl fun _ _ _ _ _ _ _ => ⟨_, rfl, fun _ => rfl⟩) (lamS3_by (by kernel_rfl)) fun A outer s H E f c' hr => (e_callX x_alike.n2 hr (fun σ => L2.passAt (L2.takes_of rfl rfl rfl rfl) σ) (by rfl) (a_cons (e_var 0 (pv 0)) (a_cons (e_var 1 (pv 1)) (a_cons e_non a_nil)))))
      (lams_cons (lam_ok _ rfl rfl (.one rfl rfl fun _ _ _ _ _ _ _ => ⟨_, rfl, fun _ => rfl⟩) (lamS3_by (by kernel_rfl)) fun A outer s H E f c' hr => (e_callX x_letters_of.n2 hr (fun σ => L2.passAt (L2.takes_of rfl rfl rfl rfl) σ) (by rfl) (a_cons (e_var 1 (pv 1)) a_nil)))
      (lams_cons (lam_ok _ rfl rfl (.one rfl rfl fun _ _ _ _ _ _ _ => ⟨_, rfl, fun _ => rfl⟩) (lamS3_by (by kernel_rfl)) fun A outer s H E f c' hr => (e_callX x_filled.n2 hr (fun σ => L2.passAt (L2.takes_of rfl rfl rfl rfl) σ) (by rfl) (a_cons (e_var 1 (pv 1)) (a_cons e_non a_nil))))
      (lams_cons (lam_ok _ rfl rfl (.one rfl rfl fun _ _ _ _ _ _ _ => ⟨_, rfl, fun _ => rfl⟩) (lamS3_by (by kernel_rfl)) fun A outer s H E f c' hr => (e_callX x_gaps.n2 hr (fun σ => L2.passAt (L2.takes_of rfl rfl rfl rfl) σ) (by rfl) (a_cons (e_var 0 (pv 0)) (a_cons (e_var 1 (pv 1)) a_nil))))
      (lams_cons (lam_ok _ rfl rfl (.one rfl rfl fun _ _ _ _ _ _ _ => ⟨_, rfl, fun _ => rfl⟩) (lamS3_by (by kernel_rfl)) fun A outer s H E f c' hr => (e_callX x_slips.n2 hr (fun σ => L2.passAt (L2.takes_of rfl rfl rfl rfl) σ) (by rfl) (a_cons (e_var 0 (pv 0)) (a_cons (e_var 1 (pv 1)) a_nil))))
      (lams_cons (lam_ok _ rfl rfl (.one rfl rfl fun _ _ _ _ _ _ _ => ⟨_, rfl, fun _ => rfl⟩) (lamS3_by (by kernel_rfl)) fun A outer s H E f c' hr => (e_callX x_is_once.n2 hr (fun σ => L2.passAt (L2.takes_of rfl rfl rfl rfl) σ) (by rfl) (a_cons (e_var 1 (pv 1)) a_nil)))
      (lams_cons (lam_ok _ rfl rfl (.one rfl rfl fun _ _ _ _ _ _ _ => ⟨_, rfl, fun _ => rfl⟩) (lamS3_by (by kernel_rfl)) fun A outer s H E f c' hr => (e_callX x_write_formula.n2 hr (fun σ => L2.passAt (L2.takes_of rfl rfl rfl rfl) σ) (by rfl) (a_cons (e_var 1 (pv 1)) a_nil)))
      lams_nil))))))))))))
theorem body__law_formula_works {P : Program} {w : World} {K : PySem.W.Frag} {mg : Str → Option Value} {base : Heap} {t : List (Addr × Str)} {cd Pa : Addr} (T : Tp K w.params mg) (TB : LamX.TabB base mg cd Pa) (hm : (Pa, (("_law_formula_works" : Str) ++ ".<locals>." ++ "<lambda>")) ∈ t) (hu : ∀ p ∈ t, p.1 = Pa → p.2 = (("_law_formula_works" : Str) ++ ".<locals>." ++ "<lambda>")) (f : Addr) (A : Around) (outer : List Env) (s : Shared) (H : Hp) {k : Nat} (hr : Room k (A.deeper (envOfC "_law_formula_works" (defScope s__law_formula_works) s.heap.objs.size f (.ref cd)))) : PSr (cxOf C8.CX0 P w K mg base ["_law_logic_here", "_law_bad", "_law_works"] "_law_formula_works" (defScope s__law_formula_works) f (.ref cd) A outer s H C8.E0).nox (defBody s__law_formula_works) (tR ⟨K, w.params, ⟨t, lm__law_formula_works, (envOfC "_law_formula_works" (defScope s__law_formula_works) s.heap.objs.size f (.ref cd)).cells⟩⟩ XR0 EE mr__law_formula_works) := by
    have sc := sc__law_formula_works
    exact (r_cons (s_set 2 sc.nd rfl (.inl rfl) (e_lst (a_cons (e_lam 0 rfl rfl (.none rfl (fun _ => rfl) fun _ _ _ _ _ _ => rfl) rfl TB hm hu (lamS3_by (by kernel_rfl))) (a_cons (e_lam 1 rfl rfl (.one rfl rfl fun _ _ _ _ _ _ _ => ⟨_, rfl, fun _ => rfl⟩) rfl TB hm hu (lamS3_by (by kernel_rfl))) (a_cons (e_lam 2 rfl rfl (.one rfl rfl fun _ _ _ _ _ _ _ => ⟨_, rfl, fun _ => rfl⟩) rfl TB hm hu (lamS3_by (by kernel_rfl))) (a_cons (e_lam 3 rfl rfl (.one rfl rfl fun _ _ _ _ _ _ _ => ⟨_, rfl, fun _ => rfl⟩) rfl TB hm hu (lamS3_by (by kernel_rfl))) (a_cons (e_lam 4 rfl rfl (.one rfl rfl fun _ _ _ _ _ _ _ => ⟨_, rfl, fun _ => rfl⟩) rfl TB hm hu (lamS3_by (by kernel_rfl))) a_nil))))))) 
      (r_cons (s_set 2 sc.nd rfl (.inl rfl) (e_op o_add (e_var 2 (pv 2)) (e_lst (a_cons (e_lam 5 rfl rfl (.one rfl rfl fun _ _ _ _ _ _ _ => ⟨_, rfl, fun _ => rfl⟩) rfl TB hm hu (lamS3_by (by kernel_rfl))) (a_cons (e_lam 6 rfl rfl (.one rfl rfl fun _ _ _ _ _ _ _ => ⟨_, rfl, fun _ => rfl⟩) rfl TB hm hu (lamS3_by (by kernel_rfl))) (a_cons (e_lam 7 rfl rfl (.one rfl rfl fun _ _ _ _ _ _ _ => ⟨_, rfl, fun _ => rfl⟩) rfl TB hm hu (lamS3_by (by kernel_rfl))) (a_cons (e_lam 8 rfl rfl (.one rfl rfl fun _ _ _ _ _ _ _ => ⟨_, rfl, fun _ => rfl⟩) rfl TB hm hu (lamS3_by (by kernel_rfl))) (a_cons (e_lam 9 rfl rfl (.one rfl rfl fun _ _ _ _ _ _ _ => ⟨_, rfl, fun _ => rfl⟩) rfl TB hm hu (lamS3_by (by kernel_rfl))) a_nil)))))))) 
      (r_ret (e_op o_add (e_var 2 (pv 2)) (e_lst (a_cons (e_lam 10 rfl rfl (.one rfl rfl fun _ _ _ _ _ _ _ => ⟨_, rfl, fun _ => rfl⟩) rfl TB hm hu (lamS3_by (by kernel_rfl))) (a_cons (e_lam 11 rfl rfl (.one rfl rfl fun _ _ _ _ _ _ _ => ⟨_, rfl, fun _ => rfl⟩) rfl TB hm hu (lamS3_by (by kernel_rfl))) a_nil)))))))
def lm_law : List LamRec := [lamP (("law" : Str) ++ ".<locals>." ++ "<lambda>") (defBody s_law) 6 [0], lamP (("law" : Str) ++ ".<locals>." ++ "<lambda>") (defBody s_law) 6 [1], lamP (("law" : Str) ++ ".<locals>." ++ "<lambda>") (defBody s_law) 6 [2], lamP (("law" : Str) ++ ".<locals>." ++ "<lambda>") (defBody s_law) 6 [3], lamP (("law" : Str) ++ ".<locals>." ++ "<lambda>") (defBody s_law) 6 [4], lamP (("law" : Str) ++ ".<locals>." ++ "<lambda>") (defBody s_law) 7 [1, 0, 0], lamP (("law" : Str) ++ ".<locals>." ++ "<lambda>") (defBody s_law) 9 [0, 0, 1, 0], lamP (("law" : Str) ++ ".<locals>." ++ "<lambda>") (defBody s_law) 9 [0, 0, 1, 1], lamP (("law" : Str) ++ ".<locals>." ++ "<lambda>") (defBody s_law) 11 [0], lamP (("law" : Str) ++ ".<locals>." ++ "<lambda>") (defBody s_law) 11 [1], lamP (("law" : Str) ++ ".<locals>." ++ "<lambda>") (defBody s_law) 11 [2], lamP (("law" : Str) ++ ".<locals>." ++ "<lambda>") (defBody s_law) 11 [3], lamP (("law" : Str) ++ ".<locals>." ++ "<lambda>") (defBody s_law) 11 [4], lamP (("law" : Str) ++ ".<locals>." ++ "<lambda>") (defBody s_law) 20 [0, 0, 1, 0], lamP (("law" : Str) ++ ".<locals>." ++ "<lambda>") (defBody s_law) 20 [0, 0, 1, 1], lamP (("law" : Str) ++ ".<locals>." ++ "<lambda>") (defBody s_law) 20 [0, 0, 1, 2], lamP (("law" : Str) ++ ".<locals>." ++ "<lambda>") (defBody s_law) 22 [0, 0, 1, 0], lamP (("law" : Str) ++ ".<locals>." ++ "<lambda>") (defBody s_law) 22 [0, 0, 1, 1]]
theorem sc_law : FnScope ["_law_script", "_law_row", "_law_logic_here", "_law_at", "_law_torn", "_law_bad", "_law_due", "_law_works", "_law_deep", "_law_turn", "_law_wide", "_law_size", "_law_odd"] ["_law_script"] (defScope s_law) := ⟨rfl, rfl, rfl, by decide +kernel, rfl, by decide +kernel, by decide +kernel⟩
theorem lams_law {P : Program} {w : World} {K : PySem.W.Frag} {mg : Str → Option Value} {base : Heap} {t : List (Addr × Str)} (T : Tp K w.params mg) (U : Tx P K mg) (V : Td K mg) (f : Addr) (cd : Addr) (A : Around) (outer : List Env) (s : Shared) (H : Hp) (E : XK) : LamsOk (cxOf L2.CX0 P w K mg base ["_law_script", "_law_row", "_law_logic_here", "_law_at", "_law_torn", "_law_bad", "_law_due", "_law_works", "_law_deep", "_law_turn", "_law_wide", "_law_size", "_law_odd"] "law" (defScope s_law) f (.ref cd) A outer s H E).nox ⟨t, lm_law, (envOfC "law" (defScope s_law) s.heap.objs.size f (.ref cd)).cells⟩ 16 0 ml_law := by
    have c__law_logic : Cal P w K mg base _ "_law_logic" _ _ := (cal__law_logic T)
    have c__law_pick : Cal P w K mg base _ "_law_pick" _ _ := (cal__law_pick T)
    have c__law_taken : Cal P w K mg base _ "_law_taken" _ _ := (cal__law_taken T)
    have c_is_formula : Cal P w K mg base _ "is_formula" _ _ := (cal_is_formula T)
    have x_can_add : CalX (L2N.CX P w) P w K mg base _ "can_add" _ _ := calx_can_add T U
    have x_can_hold : CalX (L2N.CX P w) P w K mg base _ "can_hold" _ _ := calx_can_hold T U
    have x_clashes : CalX (L2N.CX P w) P w K mg base _ "clashes" _ _ := calx_clashes T U
    have x_conj : CalX (L2N.CX P w) P w K mg base _ "conj" _ _ := calx_conj T U
    have x_count_logics : CalX (L2N.CX P w) P w K mg base _ "count_logics" _ _ := calx_count_logics T U
    have x_counterexample : CalX (L2N.CX P w) P w K mg base _ "counterexample" _ _ := calx_counterexample T U
    have x_disj : CalX (L2N.CX P w) P w K mg base _ "disj" _ _ := calx_disj T U
    have x_filled : CalX (L2N.CX P w) P w K mg base _ "filled" _ _ := calx_filled T U
    have x_gaps : CalX (L2N.CX P w) P w K mg base _ "gaps" _ _ := calx_gaps T U
    have x_keeps : CalX (L2N.CX P w) P w K mg base _ "keeps" _ _ := calx_keeps T U
    have x_least_logic : CalX (L2N.CX P w) P w K mg base _ "least_logic" _ _ := calx_least_logic T U
    have x_neg : CalX (L2N.CX P w) P w K mg base _ "neg" _ _ := calx_neg T U
    have x_slips : CalX (L2N.CX P w) P w K mg base _ "slips" _ _ := calx_slips T U
    have x_told_logic : CalX (L2N.CX P w) P w K mg base _ "told_logic" _ _ := calx_told_logic T U
    have x_value : CalX (L2N.CX P w) P w K mg base _ "value" _ _ := calx_value T U
    exact (lams_cons (lam_ok _ rfl rfl (.none rfl (fun _ => rfl) fun _ _ _ _ _ _ => rfl) (lamS3_by (by kernel_rfl)) fun A outer s H E f c' hr => (e_callX x_conj.n2 hr (fun σ => L2.passAt (L2.takes_of rfl rfl rfl rfl) σ) (by rfl) (a_cons (e_var 2 (pv 2)) (a_cons (e_var 5 (pv 5)) (a_cons (e_str [116] rfl) a_nil)))))
      (lams_cons (lam_ok _ rfl rfl (.one rfl rfl fun _ _ _ _ _ _ _ => ⟨_, rfl, fun _ => rfl⟩) (lamS3_by (by kernel_rfl)) fun A outer s H E f c' hr => (e_callX x_conj.n2 hr (fun σ => L2.passAt (L2.takes_of rfl rfl rfl rfl) σ) (by rfl) (a_cons (e_var 2 (pv 2)) (a_cons (e_str [116] rfl) (a_cons (e_var 5 (pv 5)) a_nil)))))
      (lams_cons (lam_ok _ rfl rfl (.one rfl rfl fun _ _ _ _ _ _ _ => ⟨_, rfl, fun _ => rfl⟩) (lamS3_by (by kernel_rfl)) fun A outer s H E f c' hr => (e_callX x_disj.n2 hr (fun σ => L2.passAt (L2.takes_of rfl rfl rfl rfl) σ) (by rfl) (a_cons (e_var 2 (pv 2)) (a_cons (e_var 5 (pv 5)) (a_cons e_non a_nil)))))
      (lams_cons (lam_ok _ rfl rfl (.one rfl rfl fun _ _ _ _ _ _ _ => ⟨_, rfl, fun _ => rfl⟩) (lamS3_by (by kernel_rfl)) fun A outer s H E f c' hr => (e_callX x_disj.n2 hr (fun σ => L2.passAt (L2.takes_of rfl rfl rfl rfl) σ) (by rfl) (a_cons (e_var 2 (pv 2)) (a_cons (e_str [117] rfl) (a_cons (e_var 5 (pv 5)) a_nil)))))
      (lams_cons (lam_ok _ rfl rfl (.one rfl rfl fun _ _ _ _ _ _ _ => ⟨_, rfl, fun _ => rfl⟩) (lamS3_by (by kernel_rfl)) fun A outer s H E f c' hr => (e_callX x_neg.n2 hr (fun σ => L2.passAt (L2.takes_of rfl rfl rfl rfl) σ) (by rfl) (a_cons (e_var 2 (pv 2)) (a_cons (e_var 5 (pv 5)) a_nil))))
      (lams_cons (lam_ok _ rfl rfl (.none rfl (fun _ => rfl) fun _ _ _ _ _ _ => rfl) (lamS3_by (by kernel_rfl)) fun A outer s H E f c' hr => (e_callX x_told_logic.n2 hr (fun σ => L2.passAt (L2.takes_of rfl rfl rfl rfl) σ) (by rfl) (a_cons (e_callN c__law_pick hr (by rfl) (a_cons (e_var 1 (pv 1)) (a_cons (e_lst (a_cons e_non (a_cons (e_str [] rfl) (a_cons (e_str [83, 116, 114, 111, 110, 103] rfl) (a_cons (e_str [115, 116, 114, 111, 110, 103, 32] rfl) (a_cons (e_lst (a_cons (e_str [119, 101, 97, 107] rfl) a_nil)) (a_cons e_int (a_cons e_bl a_nil)))))))) a_nil))) a_nil)))
      (lams_cons (lam_ok _ rfl rfl (.none rfl (fun _ => rfl) fun _ _ _ _ _ _ => rfl) (lamS3_by (by kernel_rfl)) fun A outer s H E f c' hr => (e_callX x_keeps.n2 hr (fun σ => L2.passAt (L2.takes_of rfl rfl rfl rfl) σ) (by rfl) (a_cons (e_var 2 (pv 2)) (a_cons (e_var 5 (pv 5)) a_nil))))
      (lams_cons (lam_ok _ rfl rfl (.one rfl rfl fun _ _ _ _ _ _ _ => ⟨_, rfl, fun _ => rfl⟩) (lamS3_by (by kernel_rfl)) fun A outer s H E f c' hr => (e_callX x_counterexample.n2 hr (fun σ => L2.passAt (L2.takes_of rfl rfl rfl rfl) σ) (by rfl) (a_cons (e_var 2 (pv 2)) (a_cons (e_var 5 (pv 5)) a_nil))))
      (lams_cons (lam_ok _ rfl rfl (.none rfl (fun _ => rfl) fun _ _ _ _ _ _ => rfl) (lamS3_by (by kernel_rfl)) fun A outer s H E f c' hr => (e_callX x_can_hold.n2 hr (fun σ => L2.passAt (L2.takes_of rfl rfl rfl rfl) σ) (by rfl) (a_cons (e_var 5 (pv 5)) a_nil)))
      (lams_cons (lam_ok _ rfl rfl (.one rfl rfl fun _ _ _ _ _ _ _ => ⟨_, rfl, fun _ => rfl⟩) (lamS3_by (by kernel_rfl)) fun A outer s H E f c' hr => (e_callX x_clashes.n2 hr (fun σ => L2.passAt (L2.takes_of rfl rfl rfl rfl) σ) (by rfl) (a_cons (e_var 5 (pv 5)) a_nil)))
      (lams_cons (lam_ok _ rfl rfl (.one rfl rfl fun _ _ _ _ _ _ _ => ⟨_, rfl, fun _ => rfl⟩) (lamS3_by (by kernel_rfl)) fun A outer s H E f c' hr => (e_callX x_can_add.n2 hr (fun σ => L2.passAt (L2.takes_of rfl rfl rfl rfl) σ) (by rfl) (a_cons (e_var 5 (pv 5)) a_nil)))
      (lams_cons (lam_ok _ rfl rfl (.one rfl rfl fun _ _ _ _ _ _ _ => ⟨_, rfl, fun _ => rfl⟩) (lamS3_by (by kernel_rfl)) fun A outer s H E f c' hr => (e_callX x_count_logics.n2 hr (fun σ => L2.passAt (L2.takes_of rfl rfl rfl rfl) σ) (by rfl) (a_cons (e_var 5 (pv 5)) a_nil)))
      (lams_cons (lam_ok _ rfl rfl (.one rfl rfl fun _ _ _ _ _ _ _ => ⟨_, rfl, fun _ => rfl⟩) (lamS3_by (by kernel_rfl)) fun A outer s H E f c' hr => (e_callX x_least_logic.n2 hr (fun σ => L2.passAt (L2.takes_of rfl rfl rfl rfl) σ) (by rfl) (a_cons (e_var 5 (pv 5)) a_nil)))
      (lams_cons (lam_ok _ rfl rfl (.none rfl (fun _ => rfl) fun _ _ _ _ _ _ => rfl) (lamS3_by (by kernel_rfl)) fun A outer s H E f c' hr => (e_callX x_filled.n2 hr (fun σ => L2.passAt (L2.takes_of rfl rfl rfl rfl) σ) (by rfl) (a_cons (e_str [117] rfl) (a_cons (e_tup a_nil) a_nil))))
      (lams_cons (lam_ok _ rfl rfl (.one rfl rfl fun _ _ _ _ _ _ _ => ⟨_, rfl, fun _ => rfl⟩) (lamS3_by (by kernel_rfl)) fun A outer s H E f c' hr => (e_callX x_gaps.n2 hr (fun σ => L2.passAt (L2.takes_of rfl rfl rfl rfl) σ) (by rfl) (a_cons (e_var 2 (pv 2)) (a_cons (e_tup (a_cons (e_str [97, 110, 100] rfl) (a_cons (e_str [97] rfl) (a_cons (e_str [117] rfl) a_nil)))) a_nil))))
      (lams_cons (lam_ok _ rfl rfl (.one rfl rfl fun _ _ _ _ _ _ _ => ⟨_, rfl, fun _ => rfl⟩) (lamS3_by (by kernel_rfl)) fun A outer s H E f c' hr => (e_callX x_slips.n2 hr (fun σ => L2.passAt (L2.takes_of rfl rfl rfl rfl) σ) (by rfl) (a_cons (e_var 2 (pv 2)) (a_cons (e_tup (a_cons (e_str [110, 111, 116] rfl) (a_cons (e_str [117] rfl) a_nil))) a_nil))))
      (lams_cons (lam_ok _ rfl rfl (.none rfl (fun _ => rfl) fun _ _ _ _ _ _ => rfl) (lamS3_by (by kernel_rfl)) fun A outer s H E f c' hr => (e_callX x_value.n2 hr (fun σ => L2.passAt (L2.takes_of rfl rfl rfl rfl) σ) (by rfl) (a_cons (e_var 2 (pv 2)) (a_cons (e_tup (a_cons (e_str [97, 110, 100] rfl) (a_cons (e_str [97] rfl) (a_cons (e_str [99] rfl) a_nil)))) (a_cons (e_var 5 (pv 5)) a_nil)))))
      (lams_cons (lam_ok _ rfl rfl (.one rfl rfl fun _ _ _ _ _ _ _ => ⟨_, rfl, fun _ => rfl⟩) (lamS3_by (by kernel_rfl)) fun A outer s H E f c' hr => (e_callX x_filled.n2 hr (fun σ => L2.passAt (L2.takes_of rfl rfl rfl rfl) σ) (by rfl) (a_cons (e_tup (a_cons (e_str [111, 114] rfl) (a_cons (e_str [97] rfl) (a_cons (e_tup (a_cons (e_str [110, 111, 116] rfl) (a_cons (e_str [99] rfl) a_nil))) a_nil)))) (a_cons (e_var 5 (pv 5)) a_nil))))
      lams_nil))))))))))))))))))
end K10
set_option Elab.async false
set_option linter.all false
set_option maxRecDepth 100000
set_option maxHeartbeats 1000000
namespace K10
open PySem PySem.Spec PyProof.Rows L2 Fw

theorem w_wrong__law_logic_works {X : Cx} {Tz : Tbs} {XR : XRel} {E : Sg → XK} {j kp : Nat} {p pos pp posp pm1 posm : Pos} {Fp : List Dt → Mo Dt} {mrow : En → Mo Dt} {mas : En → Mo (List Dt)} {erow e1 : Expr} {es1 : List Expr} {cdm Pm : Addr} (T : Tp X.K X.w.params X.mg) (U : Tx X.prog X.K X.mg) (V : Td X.K X.mg)
    (mk : DfT X.K X.mg X.base "_law_logic_works" s__law_logic_works ["_law_bad"] cdm Pm) (hm : (Pm, (("_law_logic_works" : Str) ++ ".<locals>." ++ "<lambda>")) ∈ Tz.t) (hu : ∀ p ∈ Tz.t, p.1 = Pm → p.2 = (("_law_logic_works" : Str) ++ ".<locals>." ++ "<lambda>")) (cp : Cal X.prog X.w X.K X.mg X.base kp "_law_pick" 2 Fp) (hg : Gl X "_law_wrong") (hgp : Gl X "_law_pick") (hgm : Gl X "_law_logic_works") (hr : Room j X.A) (hrow : PE X erow (tM (X.gd Tz) XR E mrow)) (ham : PA X (e1 :: es1) (tMs (X.gd Tz) XR E mas))
    (hk : 16 + 2 ≤ j := by first | exact Nat.le_refl _ | omega) (hkp : kp ≤ j := by omega)
    (hs1 : starEach [erow, .Call (.Name "_law_logic_works" pm1) (e1 :: es1) [] posm] X.env = (false, eval erow X.env) :: starEach [.Call (.Name "_law_logic_works" pm1) (e1 :: es1) [] posm] X.env := by rfl) (hsm : starEach (e1 :: es1) X.env = (false, eval e1 X.env) :: starEach es1 X.env := by rfl) (hpm : (backTo posm (starEach es1 X.env)).any (·.1) = false := by rfl) :
    PE X (.Call (.Name "_law_wrong" p) [.Call (.Name "_law_pick" pp) [erow, .Call (.Name "_law_logic_works" pm1) (e1 :: es1) [] posm] [] posp] [] pos) (tM (X.gd Tz) XR E (mWrongMk wordW (fun i => ml__law_logic_works[i]?) (mPickMk mr__law_logic_works 2 1 Fp mrow mas))) :=
  w_wrongMk (k := 16) (km := 0) (Nm := ["_law_bad", "_law_works"]) (psm := ["_law_bad"]) (lm := lm__law_logic_works) T U hg hr hk cp mk sc__law_logic_works hkp (by omega) hgp hgm (fun f A outer s H hr => body__law_logic_works T mk.tab hm hu f A outer s H hr) hrow ham (fun fm A outer s H => (lams__law_logic_works T U V fm cdm A outer s H).all) (by decide) hs1 hsm hpm
theorem w_wrong__law_formula_works {X : Cx} {Tz : Tbs} {XR : XRel} {E : Sg → XK} {j kp : Nat} {p pos pp posp pm1 posm : Pos} {Fp : List Dt → Mo Dt} {mrow : En → Mo Dt} {mas : En → Mo (List Dt)} {erow e1 : Expr} {es1 : List Expr} {cdm Pm : Addr} (T : Tp X.K X.w.params X.mg) (U : Tx X.prog X.K X.mg) (V : Td X.K X.mg)
    (mk : DfT X.K X.mg X.base "_law_formula_works" s__law_formula_works ["_law_logic_here", "_law_bad"] cdm Pm) (hm : (Pm, (("_law_formula_works" : Str) ++ ".<locals>." ++ "<lambda>")) ∈ Tz.t) (hu : ∀ p ∈ Tz.t, p.1 = Pm → p.2 = (("_law_formula_works" : Str) ++ ".<locals>." ++ "<lambda>")) (cp : Cal X.prog X.w X.K X.mg X.base kp "_law_pick" 2 Fp) (hg : Gl X "_law_wrong") (hgp : Gl X "_law_pick") (hgm : Gl X "_law_formula_works") (hr : Room j X.A) (hrow : PE X erow (tM (X.gd Tz) XR E mrow)) (ham : PA X (e1 :: es1) (tMs (X.gd Tz) XR E mas))
    (hk : 16 + 2 ≤ j := by first | exact Nat.le_refl _ | omega) (hkp : kp ≤ j := by omega)
    (hs1 : starEach [erow, .Call (.Name "_law_formula_works" pm1) (e1 :: es1) [] posm] X.env = (false, eval erow X.env) :: starEach [.Call (.Name "_law_formula_works" pm1) (e1 :: es1) [] posm] X.env := by rfl) (hsm : starEach (e1 :: es1) X.env = (false, eval e1 X.env) :: starEach es1 X.env := by rfl) (hpm : (backTo posm (starEach es1 X.env)).any (·.1) = false := by rfl) :
    PE X (.Call (.Name "_law_wrong" p) [.Call (.Name "_law_pick" pp) [erow, .Call (.Name "_law_formula_works" pm1) (e1 :: es1) [] posm] [] posp] [] pos) (tM (X.gd Tz) XR E (mWrongMk wordW (fun i => ml__law_formula_works[i]?) (mPickMk mr__law_formula_works 3 2 Fp mrow mas))) :=
  w_wrongMk (k := 16) (km := 0) (Nm := ["_law_logic_here", "_law_bad", "_law_works"]) (psm := ["_law_logic_here", "_law_bad"]) (lm := lm__law_formula_works) T U hg hr hk cp mk sc__law_formula_works hkp (by omega) hgp hgm (fun f A outer s H hr => body__law_formula_works T mk.tab hm hu f A outer s H hr) hrow ham (fun fm A outer s H => (lams__law_formula_works T U V fm cdm A outer s H).all) (by decide) hs1 hsm hpm
theorem ok_law {P : Program} {w : World} {K : PySem.W.Frag} {mg : Str → Option Value} {base : Heap} (T : Tp K w.params mg) (U : Tx P K mg) (V : Td K mg) {f cd Pa cd1 P1 cd2 P2 : Addr} {kV doc pm ct oc : Value} {an od : Option Addr} {osl : Array (Option Value)}
    (lk : K.lookup f = some ⟨oc, od, .func (PySem.W.fnOf "law" "law" (defArgs s_law) (defBody s_law) (defScope s_law) .none kV doc pm an (.ref cd) ct), osl⟩) (hcd : PySem.W.codeIn K (.ref cd) "law" = true) (TB : LamX.TabB base mg cd Pa)
    (M_law_logic_works : DfT K mg base "_law_logic_works" s__law_logic_works ["_law_bad"] cd1 P1) (M_law_formula_works : DfT K mg base "_law_formula_works" s__law_formula_works ["_law_logic_here", "_law_bad"] cd2 P2) (n01 : Pa ≠ P1) (n02 : Pa ≠ P2) (n12 : P1 ≠ P2)
    (hwp : ((b_law (.un :: .fz .row :: List.replicate 11 .un)).bind flo).wp (fun d => d = .bl true) (fun _ _ => False)) : FnOk P w K mg base CX0 19 f (PySem.W.fnOf "law" "law" (defArgs s_law) (defBody s_law) (defScope s_law) .none kV doc pm an (.ref cd) ct) ["_law_script"] (spLawL K [(Pa, (("law" : Str) ++ ".<locals>." ++ "<lambda>")), (P1, (("_law_logic_works" : Str) ++ ".<locals>." ++ "<lambda>")), (P2, (("_law_formula_works" : Str) ++ ".<locals>." ++ "<lambda>"))]) := by
    have sc := sc_law
    have hm : (Pa, (("law" : Str) ++ ".<locals>." ++ "<lambda>")) ∈ [(Pa, (("law" : Str) ++ ".<locals>." ++ "<lambda>")), (P1, (("_law_logic_works" : Str) ++ ".<locals>." ++ "<lambda>")), (P2, (("_law_formula_works" : Str) ++ ".<locals>." ++ "<lambda>"))] := List.mem_cons_self
    have hm_law_logic_works : (P1, (("_law_logic_works" : Str) ++ ".<locals>." ++ "<lambda>")) ∈ [(Pa, (("law" : Str) ++ ".<locals>." ++ "<lambda>")), (P1, (("_law_logic_works" : Str) ++ ".<locals>." ++ "<lambda>")), (P2, (("_law_formula_works" : Str) ++ ".<locals>." ++ "<lambda>"))] := List.mem_cons_of_mem _ List.mem_cons_self
    have hm_law_formula_works : (P2, (("_law_formula_works" : Str) ++ ".<locals>." ++ "<lambda>")) ∈ [(Pa, (("law" : Str) ++ ".<locals>." ++ "<lambda>")), (P1, (("_law_logic_works" : Str) ++ ".<locals>." ++ "<lambda>")), (P2, (("_law_formula_works" : Str) ++ ".<locals>." ++ "<lambda>"))] := List.mem_cons_of_mem _ (List.mem_cons_of_mem _ List.mem_cons_self)
    have hu : ∀ p ∈ [(Pa, (("law" : Str) ++ ".<locals>." ++ "<lambda>")), (P1, (("_law_logic_works" : Str) ++ ".<locals>." ++ "<lambda>")), (P2, (("_law_formula_works" : Str) ++ ".<locals>." ++ "<lambda>"))], p.1 = Pa → p.2 = (("law" : Str) ++ ".<locals>." ++ "<lambda>") := fun p hp e => by
      simp only [List.mem_cons, List.not_mem_nil, or_false] at hp
      rcases hp with rfl | rfl | rfl
      · rfl
      · exact absurd e.symm n01
      · exact absurd e.symm n02
    have hu_law_logic_works : ∀ p ∈ [(Pa, (("law" : Str) ++ ".<locals>." ++ "<lambda>")), (P1, (("_law_logic_works" : Str) ++ ".<locals>." ++ "<lambda>")), (P2, (("_law_formula_works" : Str) ++ ".<locals>." ++ "<lambda>"))], p.1 = P1 → p.2 = (("_law_logic_works" : Str) ++ ".<locals>." ++ "<lambda>") := fun p hp e => by
      simp only [List.mem_cons, List.not_mem_nil, or_false] at hp
      rcases hp with rfl | rfl | rfl
      · exact absurd e n01
      · rfl
      · exact absurd e.symm n12
    have hu_law_formula_works : ∀ p ∈ [(Pa, (("law" : Str) ++ ".<locals>." ++ "<lambda>")), (P1, (("_law_logic_works" : Str) ++ ".<locals>." ++ "<lambda>")), (P2, (("_law_formula_works" : Str) ++ ".<locals>." ++ "<lambda>"))], p.1 = P2 → p.2 = (("_law_formula_works" : Str) ++ ".<locals>." ++ "<lambda>") := fun p hp e => by
      simp only [List.mem_cons, List.not_mem_nil, or_false] at hp
      rcases hp with rfl | rfl | rfl
      · exact absurd e n02
      · exact absurd e n12
      · rfl
    have c__law_logic : Cal P w K mg base _ "_law_logic" _ _ := (cal__law_logic T)
    have c__law_pick : Cal P w K mg base _ "_law_pick" _ _ := (cal__law_pick T)
    have c__law_taken : Cal P w K mg base _ "_law_taken" _ _ := (cal__law_taken T)
    have c_is_formula : Cal P w K mg base _ "is_formula" _ _ := (cal_is_formula T)
    exact lawML (lams := lm_law) (c := 15650) (k := 18) lk hcd ⟨by decide, by decide⟩ sc (by decide) rfl (fun A outer s H E => ps_set (i := 1) sc.nd rfl (.inr rfl) (pe_lst (pa_cons (pv 0) (pa_cons pe_int (pa_cons pe_int (pa_cons pe_int pa_nil)))))) (fun A outer s H E hr => by
      have hLam := (lams_law (base := base) (t := [(Pa, (("law" : Str) ++ ".<locals>." ++ "<lambda>")), (P1, (("_law_logic_works" : Str) ++ ".<locals>." ++ "<lambda>")), (P2, (("_law_formula_works" : Str) ++ ".<locals>." ++ "<lambda>"))]) T U V f cd A outer s H E).all
      exact (b_cons (s_asg (e_tup (a_cons (e_call c__law_logic hr (by rfl) (a_cons (e_var 1 (pv 1)) a_nil)) (a_cons (e_call c__law_taken hr (by rfl) (a_cons (e_var 1 (pv 1)) (a_cons e_int a_nil))) a_nil))) (g_tup [2, 3] rfl (pgs_cons (pg_name (i := 2) sc.nd rfl (by first | exact .inl rfl | exact .inr rfl)) (pgs_cons (pg_name (i := 3) sc.nd rfl (by first | exact .inl rfl | exact .inr rfl)) pgs_nil)))) 
      (b_cons (s_set 4 sc.nd rfl (.inl rfl) (e_op o_add (e_op o_add (e_slice (e_var 2 (pv 2)) p_none (p_some (e_var 3 (pv 3)))) (e_tup (a_cons (e_call c__law_pick hr (by rfl) (a_cons (e_var 1 (pv 1)) (a_cons (e_lst (a_cons e_non (a_cons (e_str [120] rfl) (a_cons (e_str [84] rfl) (a_cons (e_str [] rfl) (a_cons e_bl (a_cons (e_lst (a_cons (e_str [116] rfl) a_nil)) (a_cons (e_str [116, 116] rfl) a_nil)))))))) a_nil))) a_nil))) (e_slice (e_var 2 (pv 2)) (p_some (e_op o_add (e_var 3 (pv 3)) e_int)) p_none))) 
      (b_cons (s_asg (e_call c__law_pick hr (by rfl) (a_cons (e_var 1 (pv 1)) (a_cons (e_lst (a_cons (e_tup (a_cons (e_var 4 (pv 4)) (a_cons (e_var 3 (pv 3)) a_nil))) (a_cons (e_tup (a_cons (e_callTy (c_list rfl) (by rfl) T.b_list (by decide +kernel) (a_cons (e_var 2 (pv 2)) a_nil)) (a_cons e_non a_nil))) (a_cons (e_tup (a_cons e_non (a_cons e_non a_nil))) (a_cons (e_tup (a_cons (e_slice (e_var 2 (pv 2)) (p_some e_int) p_none) (a_cons e_non a_nil))) (a_cons (e_tup (a_cons (e_op o_add (e_var 2 (pv 2)) (e_tup (a_cons (e_str [116] rfl) a_nil))) (a_cons e_non a_nil))) (a_cons (e_tup (a_cons (e_join (e_str [] rfl) (e_var 2 (pv 2))) (a_cons e_non a_nil))) a_nil))))))) a_nil))) (g_tup [5, 6] rfl (pgs_cons (pg_name (i := 5) sc.nd rfl (by first | exact .inl rfl | exact .inr rfl)) (pgs_cons (pg_name (i := 6) sc.nd rfl (by first | exact .inl rfl | exact .inr rfl)) pgs_nil)))) 
      (b_cons (s_if (t_cmp (o_ne (room_u hr)) (w_wrong__law_logic_works T U V M_law_logic_works hm_law_logic_works hu_law_logic_works c__law_pick (by rfl) (by rfl) (by rfl) hr (e_var 1 (pv 1)) (a_cons (e_var 5 (pv 5)) a_nil)) (e_tup (a_cons (e_str [108, 111, 103, 105, 99] rfl) (a_cons (e_var 6 (pv 6)) a_nil)))) 
      (b_one (s_ret e_bl)) 
      b_nil) 
      (b_cons (s_set 5 sc.nd rfl (.inr rfl) (e_call c__law_pick hr (by rfl) (a_cons (e_var 1 (pv 1)) (a_cons (e_lst (a_cons e_non (a_cons (e_str [] rfl) (a_cons (e_str [84] rfl) (a_cons (e_str [116, 102] rfl) (a_cons e_bl (a_cons e_int (a_cons (e_lst (a_cons (e_str [116] rfl) a_nil)) (a_cons (e_tup (a_cons (e_str [116] rfl) a_nil)) a_nil))))))))) a_nil)))) 
      (b_cons (s_set 7 sc.nd rfl (.inl rfl) (e_lst (a_cons (e_lam 0 rfl rfl (.none rfl (fun _ => rfl) fun _ _ _ _ _ _ => rfl) rfl TB hm hu (lamS3_by (by kernel_rfl))) (a_cons (e_lam 1 rfl rfl (.one rfl rfl fun _ _ _ _ _ _ _ => ⟨_, rfl, fun _ => rfl⟩) rfl TB hm hu (lamS3_by (by kernel_rfl))) (a_cons (e_lam 2 rfl rfl (.one rfl rfl fun _ _ _ _ _ _ _ => ⟨_, rfl, fun _ => rfl⟩) rfl TB hm hu (lamS3_by (by kernel_rfl))) (a_cons (e_lam 3 rfl rfl (.one rfl rfl fun _ _ _ _ _ _ _ => ⟨_, rfl, fun _ => rfl⟩) rfl TB hm hu (lamS3_by (by kernel_rfl))) (a_cons (e_lam 4 rfl rfl (.one rfl rfl fun _ _ _ _ _ _ _ => ⟨_, rfl, fun _ => rfl⟩) rfl TB hm hu (lamS3_by (by kernel_rfl))) a_nil))))))) 
      (b_cons (s_if (w_or (t_cmp (o_ne (room_u hr)) (w_wrong T U (by rfl) rfl hr (e_call c__law_pick hr (by rfl) (a_cons (e_var 1 (pv 1)) (a_cons (e_var 7 (pv 7)) a_nil))) hLam) (e_str [97, 110, 115, 119, 101, 114] rfl)) (w_or1 (t_cmp (o_ne (room_u hr)) (w_wrong T U (by rfl) rfl hr (e_lam 5 rfl rfl (.none rfl (fun _ => rfl) fun _ _ _ _ _ _ => rfl) rfl TB hm hu (lamS3_by (by kernel_rfl))) hLam) (e_str [110, 97, 109, 101] rfl)))).pt 
      (b_one (s_ret e_bl)) 
      b_nil) 
      (b_cons (s_set 5 sc.nd rfl (.inr rfl) (e_call c__law_pick hr (by rfl) (a_cons (e_var 1 (pv 1)) (a_cons (e_lst (a_cons e_non (a_cons (e_str [] rfl) (a_cons (e_str [79, 114, 100, 101, 114] rfl) (a_cons (e_tup (a_cons (e_str [111, 114, 100, 101, 114] rfl) a_nil)) (a_cons e_int (a_cons (e_lst (a_cons (e_str [111, 114, 100, 101, 114] rfl) a_nil)) (a_cons e_bl a_nil)))))))) a_nil)))) 
      (b_cons (s_if (t_cmp (o_ne (room_u hr)) (w_wrong T U (by rfl) rfl hr (e_call c__law_pick hr (by rfl) (a_cons (e_var 1 (pv 1)) (a_cons (e_lst (a_cons (e_lam 6 rfl rfl (.none rfl (fun _ => rfl) fun _ _ _ _ _ _ => rfl) rfl TB hm hu (lamS3_by (by kernel_rfl))) (a_cons (e_lam 7 rfl rfl (.one rfl rfl fun _ _ _ _ _ _ _ => ⟨_, rfl, fun _ => rfl⟩) rfl TB hm hu (lamS3_by (by kernel_rfl))) a_nil))) a_nil))) hLam) (e_str [112, 114, 111, 109, 105, 115, 101] rfl)) 
      (b_one (s_ret e_bl)) 
      b_nil) 
      (b_cons (s_set 5 sc.nd rfl (.inr rfl) (e_call c__law_pick hr (by rfl) (a_cons (e_var 1 (pv 1)) (a_cons (e_lst (a_cons e_non (a_cons (e_lst (a_cons (e_str [111, 114, 100, 101, 114] rfl) a_nil)) (a_cons (e_str [111, 114, 100, 101, 114] rfl) (a_cons (e_tup (a_cons (e_str [112, 97, 114, 116, 115] rfl) (a_cons (e_str [111, 114, 100, 101, 114] rfl) a_nil))) (a_cons (e_tup (a_cons (e_str [111, 114, 100, 101, 114] rfl) (a_cons (e_str [111, 114, 100, 101, 114] rfl) a_nil))) (a_cons (e_tup (a_cons (e_str [79, 114, 100, 101, 114] rfl) a_nil)) (a_cons (e_tup (a_cons e_non a_nil)) (a_cons e_int (a_cons (e_tup (a_cons (e_str [111, 114, 100, 101, 114] rfl) (a_cons (e_lst (a_cons (e_str [112, 97, 114, 116, 115] rfl) a_nil)) a_nil))) a_nil)))))))))) a_nil)))) 
      (b_cons (s_set 7 sc.nd rfl (.inl rfl) (e_lst (a_cons (e_lam 8 rfl rfl (.none rfl (fun _ => rfl) fun _ _ _ _ _ _ => rfl) rfl TB hm hu (lamS3_by (by kernel_rfl))) (a_cons (e_lam 9 rfl rfl (.one rfl rfl fun _ _ _ _ _ _ _ => ⟨_, rfl, fun _ => rfl⟩) rfl TB hm hu (lamS3_by (by kernel_rfl))) (a_cons (e_lam 10 rfl rfl (.one rfl rfl fun _ _ _ _ _ _ _ => ⟨_, rfl, fun _ => rfl⟩) rfl TB hm hu (lamS3_by (by kernel_rfl))) (a_cons (e_lam 11 rfl rfl (.one rfl rfl fun _ _ _ _ _ _ _ => ⟨_, rfl, fun _ => rfl⟩) rfl TB hm hu (lamS3_by (by kernel_rfl))) (a_cons (e_lam 12 rfl rfl (.one rfl rfl fun _ _ _ _ _ _ _ => ⟨_, rfl, fun _ => rfl⟩) rfl TB hm hu (lamS3_by (by kernel_rfl))) a_nil))))))) 
      (b_cons (s_if (t_cmp (o_ne (room_u hr)) (w_wrong T U (by rfl) rfl hr (e_call c__law_pick hr (by rfl) (a_cons (e_var 1 (pv 1)) (a_cons (e_var 7 (pv 7)) a_nil))) hLam) (e_str [112, 114, 111, 109, 105, 115, 101, 115] rfl)) 
      (b_one (s_ret e_bl)) 
      b_nil) 
      (b_cons (s_set 8 sc.nd rfl (.inl rfl) (e_str [97] rfl)) 
      (b_cons (s_for PassesOwn.never rfl (i_range (by rfl) T.b_range e_int) (g_name 9 sc.nd rfl (by first | exact .inl rfl | exact .inr rfl)) 
      (b_one (s_set 8 sc.nd rfl (.inl rfl) (e_tup (a_cons (e_str [110, 111, 116] rfl) (a_cons (e_var 8 (pv 8)) a_nil)))))) 
      (b_cons (s_set 10 sc.nd rfl (.inr rfl) (e_op o_mul (e_lst (a_cons (e_str [97] rfl) a_nil)) e_int)) 
      (b_cons (s_for PassesOwn.never rfl (i_seq_ (e_lst (a_cons e_int (a_cons e_int (a_cons e_int (a_cons e_int (a_cons e_int a_nil))))))) (g_name 11 sc.nd rfl (by first | exact .inl rfl | exact .inr rfl)) 
      (b_one (s_set 10 sc.nd rfl (.inr rfl) (e_lc (ts := [3]) (own := [("_law_at", 3)]) (by decide) rfl sc.nd (i_range (by rfl) T.b_range (e_var 11 (pv 11))) (show BlkOk ["_law_script", "_law_row", "_law_logic_here", "_law_at", "_law_torn", "_law_bad", "_law_due", "_law_works", "_law_deep", "_law_turn", "_law_wide", "_law_size", "_law_odd"] (defScope s_law) _ _ from blk_by (by decide +kernel)) (fun _ _ _ _ _ => (g_name 3 sc.nd rfl (by first | exact .inl rfl | exact .inr rfl))) (fun _ _ _ _ _ => ts_nil) (fun _ _ _ _ _ => (e_tup (a_cons (e_str [97, 110, 100] rfl) (a_cons (e_ix i_seq (e_var 10 (pv 10)) (e_op o_mul e_int (e_var 3 (pv 3)))) (a_cons (e_ix i_seq (e_var 10 (pv 10)) (e_op o_add (e_op o_mul e_int (e_var 3 (pv 3))) e_int)) a_nil))))))))) 
      (b_cons (s_set 12 sc.nd rfl (.inl rfl) (e_lst (a_cons e_non (a_cons (e_str [] rfl) (a_cons (e_str [103] rfl) (a_cons (e_str [65] rfl) (a_cons (e_str [97, 98] rfl) (a_cons (e_tup a_nil) (a_cons (e_tup (a_cons (e_str [97] rfl) a_nil)) (a_cons (e_tup (a_cons (e_str [110, 111, 116] rfl) a_nil)) (a_cons (e_tup (a_cons (e_str [110, 111, 116] rfl) (a_cons (e_str [97] rfl) (a_cons (e_str [98] rfl) a_nil)))) (a_cons (e_tup (a_cons (e_str [97, 110, 100] rfl) (a_cons (e_str [97] rfl) a_nil))) (a_cons (e_tup (a_cons (e_str [97, 110, 100] rfl) (a_cons (e_str [97] rfl) (a_cons (e_str [98] rfl) (a_cons (e_str [99] rfl) a_nil))))) (a_cons (e_lst (a_cons (e_str [110, 111, 116] rfl) (a_cons (e_str [97] rfl) a_nil))) (a_cons (e_tup (a_cons (e_str [120, 111, 114] rfl) (a_cons (e_str [97] rfl) (a_cons (e_str [98] rfl) a_nil)))) (a_cons (e_tup (a_cons (e_str [110, 111, 116] rfl) (a_cons e_non a_nil))) (a_cons (e_tup (a_cons (e_str [111, 114] rfl) (a_cons (e_str [97] rfl) (a_cons (e_lst (a_cons (e_str [98] rfl) a_nil)) a_nil)))) (a_cons e_int (a_cons e_bl a_nil))))))))))))))))))) 
      (b_cons (s_set 5 sc.nd rfl (.inr rfl) (e_call c__law_pick hr (by rfl) (a_cons (e_var 1 (pv 1)) (a_cons (e_op o_add (e_var 12 (pv 12)) (e_lst (a_cons (e_var 8 (pv 8)) (a_cons (e_ix i_seq (e_var 10 (pv 10)) e_int) (a_cons (e_tup (a_cons (e_str [97] rfl) (a_cons (e_str [110, 111, 116] rfl) a_nil))) (a_cons (e_tup (a_cons e_non (a_cons (e_str [97] rfl) a_nil))) (a_cons (e_tup (a_cons (e_lst (a_cons (e_str [110, 111, 116] rfl) a_nil)) (a_cons (e_str [97] rfl) a_nil))) a_nil))))))) a_nil)))) 
      (b_cons (s_if (w_or (t_cmp (o_ne (room_u hr)) (w_wrong__law_formula_works T U V M_law_formula_works hm_law_formula_works hu_law_formula_works c__law_pick (by rfl) (by rfl) (by rfl) hr (e_var 1 (pv 1)) (a_cons (e_var 2 (pv 2)) (a_cons (e_var 5 (pv 5)) a_nil))) (e_str [102, 111, 114, 109, 117, 108, 97] rfl)) (w_or1 (t_cmp o_isnt (e_call c_is_formula hr (by rfl) (a_cons (e_var 5 (pv 5)) a_nil)) e_bl))).pt 
      (b_one (s_ret e_bl)) 
      b_nil) 
      (b_cons (s_if (t_cmp (o_ne (room_u hr)) (w_wrong T U (by rfl) rfl hr (e_call c__law_pick hr (by rfl) (a_cons (e_var 1 (pv 1)) (a_cons (e_lst (a_cons (e_lam 13 rfl rfl (.none rfl (fun _ => rfl) fun _ _ _ _ _ _ => rfl) rfl TB hm hu (lamS3_by (by kernel_rfl))) (a_cons (e_lam 14 rfl rfl (.one rfl rfl fun _ _ _ _ _ _ _ => ⟨_, rfl, fun _ => rfl⟩) rfl TB hm hu (lamS3_by (by kernel_rfl))) (a_cons (e_lam 15 rfl rfl (.one rfl rfl fun _ _ _ _ _ _ _ => ⟨_, rfl, fun _ => rfl⟩) rfl TB hm hu (lamS3_by (by kernel_rfl))) a_nil)))) a_nil))) hLam) (e_str [102, 111, 114, 109, 117, 108, 97] rfl)) 
      (b_one (s_ret e_bl)) 
      b_nil) 
      (b_cons (s_set 5 sc.nd rfl (.inr rfl) (e_call c__law_pick hr (by rfl) (a_cons (e_var 1 (pv 1)) (a_cons (e_lst (a_cons e_non (a_cons (e_tup a_nil) (a_cons (e_tup (a_cons (e_str [116] rfl) a_nil)) (a_cons (e_tup (a_cons (e_str [116] rfl) (a_cons (e_str [102] rfl) (a_cons (e_str [117] rfl) a_nil)))) (a_cons (e_lst (a_cons (e_str [116] rfl) (a_cons (e_str [102] rfl) a_nil))) (a_cons (e_tup (a_cons (e_str [116] rfl) (a_cons (e_str [120] rfl) a_nil))) (a_cons (e_tup (a_cons (e_str [116] rfl) (a_cons e_non a_nil))) (a_cons (e_str [116, 102] rfl) (a_cons (e_tup (a_cons (e_str [116] rfl) (a_cons e_bl a_nil))) a_nil)))))))))) a_nil)))) 
      (b_one (s_ret (e_cmp (o_eq (room_u hr)) (w_wrong T U (by rfl) rfl hr (e_call c__law_pick hr (by rfl) (a_cons (e_var 1 (pv 1)) (a_cons (e_lst (a_cons (e_lam 16 rfl rfl (.none rfl (fun _ => rfl) fun _ _ _ _ _ _ => rfl) rfl TB hm hu (lamS3_by (by kernel_rfl))) (a_cons (e_lam 17 rfl rfl (.one rfl rfl fun _ _ _ _ _ _ _ => ⟨_, rfl, fun _ => rfl⟩) rfl TB hm hu (lamS3_by (by kernel_rfl))) a_nil))) a_nil))) hLam) (e_str [114, 111, 119] rfl)))))))))))))))))))))))))) hwp
end K10
set_option Elab.async false
set_option linter.all false
set_option maxRecDepth 100000
set_option maxHeartbeats 200000
namespace K10
open PySem PySem.Spec PyProof.Rows L2 Fw
def lg (a b c d e f g h i j k : List Nat) : Dt := .tup [.str a, .str b, .str c, .str d, .str e, .str f, .str g, .str h, .str i, .str j, .str k]
def Ans (x : List Nat) : Prop := x = [102] ∨ x = [116] ∨ x = [117]
def tbK : List (List (List Nat)) := [[[110, 111, 116], [102]], [[110, 111, 116], [116]], [[110, 111, 116], [117]], [[97, 110, 100], [102], [102]], [[111, 114], [102], [102]], [[97, 110, 100], [102], [116]], [[111, 114], [102], [116]], [[97, 110, 100], [116], [102]], [[111, 114], [116], [102]], [[97, 110, 100], [116], [116]], [[111, 114], [116], [116]], [[97, 110, 100], [102], [117]], [[111, 114], [102], [117]], [[97, 110, 100], [117], [102]], [[111, 114], [117], [102]], [[97, 110, 100], [116], [117]], [[111, 114], [116], [117]], [[97, 110, 100], [117], [116]], [[111, 114], [117], [116]], [[97, 110, 100], [117], [117]], [[111, 114], [117], [117]]]
def tbV (a b c d e f g h i j k : List Nat) : List Dt := [(.str [116]), (.str [102]), (.str k), (.str [102]), (.str [102]), (.str [102]), (.str [116]), (.str [102]), (.str [116]), (.str [116]), (.str [116]), (.str a), (.str f), (.str b), (.str g), (.str c), (.str h), (.str d), (.str i), (.str e), (.str j)]
variable {a b c d e f g h i j k : List Nat}
theorem ans_eq {x : List Nat} (hx : Ans x) : m_is_answer [.str x] = .ret (.bl true) := by rcases hx with rfl | rfl | rfl <;> kernel_rfl
end K10
namespace K10
open PySem PySem.Spec PyProof.Rows L2 Fw
variable {a b c d e f g h i j k : List Nat}
def andS (a b c d e : List Nat) : List Nat → List Nat → List Nat
  | [102], [117] => a
  | [117], [102] => b
  | [116], [117] => c
  | [117], [116] => d
  | [117], [117] => e
  | [116], [116] => [116]
  | _, _ => [102]
def orS (f g h i j : List Nat) : List Nat → List Nat → List Nat
  | [102], [117] => f
  | [117], [102] => g
  | [116], [117] => h
  | [117], [116] => i
  | [117], [117] => j
  | [102], [102] => [102]
  | _, _ => [116]
def notS (k : List Nat) : List Nat → List Nat
  | [102] => [116]
  | [116] => [102]
  | _ => k
variable {x y : List Nat}
theorem ne_same (hx : Ans x) : eqD true (.str x) (.str x) = some (.bl false) := by rcases hx with rfl | rfl | rfl <;> kernel_rfl
theorem andS_ans (ha : Ans a) (hb : Ans b) (hc : Ans c) (hd : Ans d) (he : Ans e) (hx : Ans x) (hy : Ans y) : Ans (andS a b c d e x y) := by
  rcases hx with rfl | rfl | rfl <;> rcases hy with rfl | rfl | rfl <;> first | assumption | exact .inl rfl | exact .inr (.inl rfl)
theorem orS_ans (ha : Ans a) (hb : Ans b) (hc : Ans c) (hd : Ans d) (he : Ans e) (hx : Ans x) (hy : Ans y) : Ans (orS a b c d e x y) := by
  rcases hx with rfl | rfl | rfl <;> rcases hy with rfl | rfl | rfl <;> first | assumption | exact .inl rfl | exact .inr (.inl rfl)
theorem notS_ans (hk : Ans k) (hx : Ans x) : Ans (notS k x) := by
  rcases hx with rfl | rfl | rfl <;> first | assumption | exact .inl rfl | exact .inr (.inl rfl)
theorem get_and (hx : Ans x) (hy : Ans y) : getD' (.dt tbK (tbV a b c d e f g h i j k)) (.tup [.str [97, 110, 100], .str x, .str y]) = some (.str (andS a b c d e x y)) := by
  rcases hx with rfl | rfl | rfl <;> rcases hy with rfl | rfl | rfl <;> kernel_rfl
theorem get_or (hx : Ans x) (hy : Ans y) : getD' (.dt tbK (tbV a b c d e f g h i j k)) (.tup [.str [111, 114], .str x, .str y]) = some (.str (orS f g h i j x y)) := by
  rcases hx with rfl | rfl | rfl <;> rcases hy with rfl | rfl | rfl <;> kernel_rfl
theorem get_not (hx : Ans x) : getD' (.dt tbK (tbV a b c d e f g h i j k)) (.tup [.str [110, 111, 116], .str x]) = some (.str (notS k x)) := by
  rcases hx with rfl | rfl | rfl <;> kernel_rfl
/-! ## the drawn logic -/
def AnsD (v : Dt) : Prop := ∃ s, v = .str s ∧ Ans s
def LgL (ds : List Dt) : Prop := ds.length = 11 ∧ ∀ v ∈ ds, AnsD v
def IsLg (v : Dt) : Prop := ∃ a b c d e f g h i j k, v = lg a b c d e f g h i j k ∧ Ans a ∧ Ans b ∧ Ans c ∧ Ans d ∧ Ans e ∧ Ans f ∧ Ans g ∧ Ans h ∧ Ans i ∧ Ans j ∧ Ans k
theorem LgL.lg {ds : List Dt} (h : LgL ds) : IsLg (.tup ds) := by
  obtain ⟨hl, hA⟩ := h
  match ds, hl, hA with
  | [x0, x1, x2, x3, x4, x5, x6, x7, x8, x9, x10], _, hA =>
    simp only [List.mem_cons, List.not_mem_nil, or_false, forall_eq_or_imp, forall_eq] at hA
    obtain ⟨⟨a, rfl, ha⟩, ⟨b, rfl, hb⟩, ⟨c, rfl, hc⟩, ⟨d, rfl, hd⟩, ⟨e, rfl, he⟩, ⟨f, rfl, hf⟩, ⟨g, rfl, hg⟩, ⟨h, rfl, hh⟩, ⟨i, rfl, hi⟩, ⟨j, rfl, hj⟩, ⟨k, rfl, hk⟩⟩ := hA
    exact ⟨a, b, c, d, e, f, g, h, i, j, k, rfl, ha, hb, hc, hd, he, hf, hg, hh, hi, hj, hk⟩
theorem taken_wp {m : Int} {R : Nat → Dt → Prop} (h : 0 < m ∧ m < 1073741824) : Wp (mTaken [.row, .int m]) (isDraw m) R := by
  have e : mTaken [.row, .int m] = if 0 < m ∧ m < 1073741824 then Mo.any (isDraw m) Mo.ret else Mo.err := rfl
  rw [e, if_pos h]
  exact wq_any fun d hd => wq_val hd
theorem pick_wp {xs : List Dt} {R : Nat → Dt → Prop} (h0 : 0 < xs.length) (h1 : xs.length < 1073741824) : Wp (m__law_pick [.row, .lst xs]) (fun v => v ∈ xs) R := by
  refine wq_run ?_
  refine wq_ret ?_
  refine wq_two ?_
  refine wq_eq (x := .lst xs) (by kernel_rfl) ?_
  refine wq_calE (ds := [.row, .int xs.length]) (by kernel_rfl) rfl ?_
  refine wq_go (taken_wp (by omega)) fun v hv => ?_
  obtain ⟨n, rfl, h2, h3⟩ := hv
  obtain ⟨n, rfl⟩ := Int.eq_ofNat_of_zero_le h2
  have hn : n < xs.length := by omega
  have e : ixD (.lst xs) (.int n) = some xs[n] := by
    show atI xs n = _
    unfold atI ixN
    simp [hn]
  exact wq_o e (List.getElem_mem hn)
abbrev ftu : List Dt := [.str [102], .str [116], .str [117]]
theorem ftu_ans {v : Dt} (h : v ∈ ftu) : AnsD v := by
  simp only [List.mem_cons, List.not_mem_nil, or_false] at h
  rcases h with rfl | rfl | rfl
  · exact ⟨_, rfl, .inl rfl⟩
  · exact ⟨_, rfl, .inr (.inl rfl)⟩
  · exact ⟨_, rfl, .inr (.inr rfl)⟩
/-- one pick of a sign -/
abbrev mFtu : En → Mo Dt := mCal 2 m__law_pick (mCons (mVar 0) (mCons (mLst (mCons (mC (.str [102])) (mCons (mC (.str [116])) (mCons (mC (.str [117])) mNil)))) mNil))
theorem ftu_wp {ρ : En} {R : Nat → Dt → Prop} : Wp (mFtu (.fz .row :: ρ)) AnsD R := by
  refine wq_calE (ds := [.row, .lst ftu]) (by kernel_rfl) rfl ?_
  exact wq_go (pick_wp (by decide) (by decide)) fun v h => ftu_ans h
theorem lc_wp {ρ : En} {R : Nat → Dt → Prop} : ∀ ds : List Dt, Wp (lcGo [4] (mgN 4) (fun _ => .ret true) mFtu (.fz .row :: ρ) ds) (fun ys => ys.length = ds.length ∧ ∀ v ∈ ys, AnsD v) R
  | [] => wq_lcN ⟨rfl, (fun _ h => nomatch h)⟩
  | d :: ds => by
    refine wq_lcT (ρ1 := .fz .row :: ((ρ.set 3 .un).set 3 (.fz d))) (by kernel_rfl) ?_
    refine wq_val ?_
    refine wq_go ftu_wp fun y hy => ?_
    refine wq_go (lc_wp ds) fun ys hys => ?_
    refine ⟨by rw [List.length_cons, List.length_cons, hys.1], fun v hv => ?_⟩
    rcases List.mem_cons.mp hv with rfl | hv
    · exact hy
    · exact hys.2 v hv
/-! the four kinds -/
theorem int_cases {m : Int} {v : Dt} {n : Nat} (h : isDraw m v) (e : m = n) : ∃ k : Nat, v = .int k ∧ k < n := by
  obtain ⟨i, rfl, h1, h2⟩ := h
  obtain ⟨k, rfl⟩ := Int.eq_ofNat_of_zero_le h1
  exact ⟨k, rfl, by omega⟩
def put1 : En → Mo Fl := mPutL 3 (mCal 2 m__law_taken (mCons (mVar 0) (mCons (mC (.int 11)) mNil))) mFtu
theorem put1_wp {ds : List Dt} {kd td : Slo} {ρ : En} {R : Nat → Dt → Prop} (h : LgL ds) : Wp (put1 (.fz .row :: kd :: td :: .ol ds :: ρ)) (fun f => ∃ ds', LgL ds' ∧ f = .nx (.fz .row :: kd :: td :: .ol ds' :: ρ)) R := by
  have e : put1 (.fz .row :: kd :: td :: .ol ds :: ρ) = (mFtu (.fz .row :: kd :: td :: .ol ds :: ρ)).bind fun d => (mCal 2 m__law_taken (mCons (mVar 0) (mCons (mC (.int 11)) mNil)) (.fz .row :: kd :: td :: .ol ds :: ρ)).bind fun ix => match ix with
    | .int k => (ofO (ixN ds.length k)).bind fun j => .ret (.nx (.fz .row :: kd :: td :: .ol (ds.set j d) :: ρ))
    | _ => .err := by kernel_rfl
  rw [e]
  refine wq_bind ?_
  refine wq_go ftu_wp fun y hy => ?_
  refine wq_bind ?_
  refine wq_calE (ds := [.row, .int 11]) (by kernel_rfl) rfl ?_
  refine wq_go (taken_wp (by decide)) fun ix hi => ?_
  obtain ⟨n, rfl, hn⟩ := int_cases (n := 11) hi rfl
  have e : ixN ds.length (n : Int) = some n := by
    unfold ixN
    rw [h.1, if_pos (by omega), if_pos (by omega)]
    rfl
  refine wq_bind ?_
  refine wq_o e ?_
  refine wq_val ?_
  refine ⟨ds.set n y, ⟨by rw [List.length_set, h.1], fun v hv => ?_⟩, rfl⟩
  rcases List.mem_or_eq_of_mem_set hv with hv | rfl
  · exact h.2 v hv
  · exact hy
def toldL : List Dt := [.str [102, 102, 102, 102, 102, 102, 102, 116, 116, 102, 116], .str [102, 102, 116, 116, 116, 116, 116, 116, 116, 116, 102], .str [102, 117, 117, 117, 117, 117, 117, 116, 117, 117, 117], .str [102, 102, 117, 117, 117, 117, 117, 116, 116, 117, 117], .str [117, 117, 117, 117, 117, 117, 117, 117, 117, 117, 117]]
def tailL : En → Mo Fl := (mSq (mIfS (mTst (m2 (eqD false) (mVar 1) (mC (.int 1)))) (mFor (mRng (m2 addD (mC (.int 1)) (mCal 2 m__law_taken (mCons (mVar 0) (mCons (mC (.int 2)) mNil))))) (mgN 4) (mPutL 3 (mCal 2 m__law_taken (mCons (mVar 0) (mCons (mC (.int 11)) mNil))) (mCal 2 m__law_pick (mCons (mVar 0) (mCons (mLst (mCons (mC (.str [102])) (mCons (mC (.str [116])) (mCons (mC (.str [117])) mNil)))) mNil))))) mNx) (mSq (mIfS (mTst (m2 (eqD false) (mVar 1) (mC (.int 2)))) (mSq (mAsg (mLc [4] (mRng (mC (.int 3))) (mgN 4) (fun _ => .ret true) (mCal 2 m__law_pick (mCons (mVar 0) (mCons (mLst (mCons (mC (.str [102])) (mCons (mC (.str [116])) (mCons (mC (.str [117])) mNil)))) mNil)))) (mgL [5, 6, 7])) (mSq (mAsg (mLc [4] (mRng (mC (.int 3))) (mgN 4) (fun _ => .ret true) (mCal 2 m__law_pick (mCons (mVar 0) (mCons (mLst (mCons (mC (.str [102])) (mCons (mC (.str [116])) (mCons (mC (.str [117])) mNil)))) mNil)))) (mgL [8, 9, 10])) (mOwn 3 (mCons (mC (.str [102])) (mCons (mC (.str [102])) (mCons (mVar 5) (mCons (mVar 5) (mCons (mVar 6) (mCons (mVar 8) (mCons (mVar 8) (mCons (mC (.str [116])) (mCons (mC (.str [116])) (mCons (mVar 9) (mCons (mIf (mTst (m2 (eqD true) (mVar 7) (mC (.str [117])))) (mVar 10) (mC (.str [117]))) mNil)))))))))))))) mNx) (mSq (mIfS (mTst (m2 (eqD false) (mVar 1) (mC (.int 3)))) (mSet 3 (mLc [4] (mRng (mC (.int 11))) (mgN 4) (fun _ => .ret true) (mCal 2 m__law_pick (mCons (mVar 0) (mCons (mLst (mCons (mC (.str [102])) (mCons (mC (.str [116])) (mCons (mC (.str [117])) mNil)))) mNil))))) mNx) (fun ρ => (mRet (mCall tupleD (mCons (mVar 3) mNil))) (frzE 3 ρ)))))
def gen1 : En → Mo Fl := mFor (mRng (m2 addD (mC (.int 1)) (mCal 2 m__law_taken (mCons (mVar 0) (mCons (mC (.int 2)) mNil))))) (mgN 4) put1
theorem gen1_wp {ds : List Dt} {R : Nat → Dt → Prop} {td : Slo} (h : LgL ds) : Wp (gen1 [.fz .row, .fz (.int 1), td, .ol ds, .un, .un, .un, .un, .un, .un, .un]) (fun f => ∃ ds' z, LgL ds' ∧ f = .nx [.fz .row, .fz (.int 1), td, .ol ds', z, .un, .un, .un, .un, .un, .un]) R := by
  have one : ∀ {ds : List Dt} {z : Slo} {x : Dt} {l : List Dt} {S : Fl → Prop}, LgL ds → (∀ ds' , LgL ds' → Wp (forGo (mgN 4) put1 l [.fz .row, .fz (.int 1), td, .ol ds', .fz x, .un, .un, .un, .un, .un, .un]) S R) →
      Wp (forGo (mgN 4) put1 (x :: l) [.fz .row, .fz (.int 1), td, .ol ds, z, .un, .un, .un, .un, .un, .un]) S R := fun {ds z x l S} h q => by
    refine wq_turn (ρ1 := [.fz .row, .fz (.int 1), td, .ol ds, .fz x, .un, .un, .un, .un, .un, .un]) (by kernel_rfl) ?_
    refine wq_go (put1_wp h) fun f hf => ?_
    obtain ⟨ds', h', rfl⟩ := hf
    exact q ds' h'
  have key : ∀ l : List Dt, ∀ ds z, LgL ds → Wp (forGo (mgN 4) put1 l [.fz .row, .fz (.int 1), td, .ol ds, z, .un, .un, .un, .un, .un, .un]) (fun f => ∃ ds' z, LgL ds' ∧ f = .nx [.fz .row, .fz (.int 1), td, .ol ds', z, .un, .un, .un, .un, .un, .un]) R := by
    intro l
    induction l with
    | nil => exact fun ds z h => wq_done ⟨ds, z, h, rfl⟩
    | cons x l ih => exact fun ds z h => one h fun ds' h' => ih ds' _ h'
  refine wq_for ?_
  have e : (mRng (m2 addD (mC (.int 1)) (mCal 2 m__law_taken (mCons (mVar 0) (mCons (mC (.int 2)) mNil))))) [.fz .row, .fz (.int 1), td, .ol ds, .un, .un, .un, .un, .un, .un, .un] =
      ((mTaken [.row, .int 2]).bind fun y => ofO (addD (.int 1) y)).bind fun d => match d with | .int n => if 0 ≤ n ∧ n ≤ 16777216 then .ret (rngD n) else .err | _ => .err := by kernel_rfl
  rw [e]
  refine wq_bind ?_
  refine wq_bind ?_
  refine wq_go (taken_wp (by decide)) fun ix hi => ?_
  obtain ⟨n, rfl, hn⟩ := int_cases (n := 2) hi rfl
  refine wq_o (x := .int (1 + n)) rfl ?_
  have hc : (0 : Int) ≤ 1 + n ∧ (1 : Int) + n ≤ 16777216 := by omega
  show Wp (if (0 : Int) ≤ 1 + n ∧ (1 : Int) + n ≤ 16777216 then Mo.ret (rngD (1 + n)) else Mo.err) _ _
  rw [if_pos hc]
  exact wq_val (key _ ds _ h)
def gen2c : En → Mo Fl := (mOwn 3 (mCons (mC (.str [102])) (mCons (mC (.str [102])) (mCons (mVar 5) (mCons (mVar 5) (mCons (mVar 6) (mCons (mVar 8) (mCons (mVar 8) (mCons (mC (.str [116])) (mCons (mC (.str [116])) (mCons (mVar 9) (mCons (mIf (mTst (m2 (eqD true) (mVar 7) (mC (.str [117])))) (mVar 10) (mC (.str [117]))) mNil))))))))))))
def gen2 : En → Mo Fl := (mSq (mAsg (mLc [4] (mRng (mC (.int 3))) (mgN 4) (fun _ => .ret true) (mCal 2 m__law_pick (mCons (mVar 0) (mCons (mLst (mCons (mC (.str [102])) (mCons (mC (.str [116])) (mCons (mC (.str [117])) mNil)))) mNil)))) (mgL [5, 6, 7])) (mSq (mAsg (mLc [4] (mRng (mC (.int 3))) (mgN 4) (fun _ => .ret true) (mCal 2 m__law_pick (mCons (mVar 0) (mCons (mLst (mCons (mC (.str [102])) (mCons (mC (.str [116])) (mCons (mC (.str [117])) mNil)))) mNil)))) (mgL [8, 9, 10])) gen2c))
theorem gen2_wp {ds : List Dt} {R : Nat → Dt → Prop} {td : Slo} (h : LgL ds) : Wp (gen2 [.fz .row, .fz (.int 2), td, .ol ds, .un, .un, .un, .un, .un, .un, .un]) (fun f => ∃ ds' z0 z1 z2 z3 z4 z5 z6, LgL ds' ∧ f = .nx [.fz .row, .fz (.int 2), td, .ol ds', z0, z1, z2, z3, z4, z5, z6]) R := by
  refine wq_sq ?_
  refine wq_asg ?_
  refine wq_lcE (ds := [.int 0, .int 1, .int 2]) (by kernel_rfl) ?_
  refine wq_go (lc_wp _) fun ys hys => ?_
  obtain ⟨hl, hy⟩ := hys
  match ys, hl, hy with
  | [y0, y1, y2], _, hy =>
  refine wq_eq (x := ([.fz .row, .fz (.int 2), td, .ol ds, .un, .fz y0, .fz y1, .fz y2, .un, .un, .un] : En)) (by kernel_rfl) ?_
  refine wq_sq ?_
  refine wq_asg ?_
  refine wq_lcE (ds := [.int 0, .int 1, .int 2]) (by kernel_rfl) ?_
  refine wq_go (lc_wp _) fun zs hzs => ?_
  obtain ⟨hl2, hz⟩ := hzs
  match zs, hl2, hz with
  | [z0, z1, z2], _, hz =>
  refine wq_eq (x := ([.fz .row, .fz (.int 2), td, .ol ds, .un, .fz y0, .fz y1, .fz y2, .fz z0, .fz z1, .fz z2] : En)) (by kernel_rfl) ?_
  simp only [List.mem_cons, List.not_mem_nil, or_false, forall_eq_or_imp, forall_eq] at hy hz
  obtain ⟨⟨a, rfl, ha⟩, ⟨b, rfl, hb⟩, ⟨c, rfl, hc⟩⟩ := hy
  obtain ⟨⟨x, rfl, hx⟩, ⟨y, rfl, hy⟩, ⟨z, rfl, hz⟩⟩ := hz
  have F : AnsD (.str [102]) := ⟨_, rfl, .inl rfl⟩
  have T : AnsD (.str [116]) := ⟨_, rfl, .inr (.inl rfl)⟩
  have A : AnsD (.str a) := ⟨_, rfl, ha⟩
  have B : AnsD (.str b) := ⟨_, rfl, hb⟩
  have X : AnsD (.str x) := ⟨_, rfl, hx⟩
  have Y : AnsD (.str y) := ⟨_, rfl, hy⟩
  have fin : ∀ w, AnsD w → LgL [.str [102], .str [102], .str a, .str a, .str b, .str x, .str x, .str [116], .str [116], .str y, w] := fun w hw => ⟨rfl, fun v hv => by
    simp only [List.mem_cons, List.not_mem_nil, or_false] at hv
    rcases hv with rfl | rfl | rfl | rfl | rfl | rfl | rfl | rfl | rfl | rfl | rfl <;> assumption⟩
  have hw : ∃ w, AnsD w ∧ gen2c [.fz .row, .fz (.int 2), td, .ol ds, .un, .fz (.str a), .fz (.str b), .fz (.str c), .fz (.str x), .fz (.str y), .fz (.str z)] = .ret (.nx [.fz .row, .fz (.int 2), td, .ol [.str [102], .str [102], .str a, .str a, .str b, .str x, .str x, .str [116], .str [116], .str y, w], .un, .fz (.str a), .fz (.str b), .fz (.str c), .fz (.str x), .fz (.str y), .fz (.str z)]) := by
    rcases hc with rfl | rfl | rfl
    · exact ⟨.str z, ⟨_, rfl, hz⟩, by kernel_rfl⟩
    · exact ⟨.str z, ⟨_, rfl, hz⟩, by kernel_rfl⟩
    · exact ⟨.str [117], ⟨_, rfl, .inr (.inr rfl)⟩, by kernel_rfl⟩
  obtain ⟨w, hw1, hw2⟩ := hw
  refine wq_eq hw2 ?_
  exact ⟨_, _, _, _, _, _, _, _, fin _ hw1, rfl⟩
theorem tail_wp {n : Nat} {ds : List Dt} {td : Slo} {R : Nat → Dt → Prop} (hn : n < 4) (h : LgL ds) : Wp (tailL [.fz .row, .fz (.int n), td, .ol ds, .un, .un, .un, .un, .un, .un, .un]) (fun f => ∃ v, f = .rt v ∧ IsLg v) R := by
  have fin : ∀ {ds : List Dt} {k z0 z1 z2 z3 z4 z5 z6 : Slo}, (mCall tupleD (mCons (mVar 3) mNil)) (frzE 3 [.fz .row, k, td, .ol ds, z0, z1, z2, z3, z4, z5, z6]) = .ret (.tup ds) := fun {ds k z0 z1 z2 z3 z4 z5 z6} => by kernel_rfl
  have fin' : ∀ {ds : List Dt} {k z0 z1 z2 z3 z4 z5 z6 : Slo}, (mCall tupleD (mCons (mVar 3) mNil)) (frzE 3 [.fz .row, k, td, .fz (.lst ds), z0, z1, z2, z3, z4, z5, z6]) = .ret (.tup ds) := fun {ds k z0 z1 z2 z3 z4 z5 z6} => by kernel_rfl
  match n, hn with
  | 0, _ =>
    refine wq_sq ?_
    refine wq_ifF (by kernel_rfl) ?_
    refine wq_nx ?_
    refine wq_sq ?_
    refine wq_ifF (by kernel_rfl) ?_
    refine wq_nx ?_
    refine wq_sq ?_
    refine wq_ifF (by kernel_rfl) ?_
    refine wq_nx ?_
    exact wq_retE fin ⟨_, rfl, h.lg⟩
  | 1, _ =>
    refine wq_sq ?_
    refine wq_ifT (by kernel_rfl) ?_
    refine wq_go (gen1_wp h) fun f hf => ?_
    obtain ⟨ds', z, h', rfl⟩ := hf
    refine wq_sq ?_
    refine wq_ifF (by kernel_rfl) ?_
    refine wq_nx ?_
    refine wq_sq ?_
    refine wq_ifF (by kernel_rfl) ?_
    refine wq_nx ?_
    exact wq_retE fin ⟨_, rfl, h'.lg⟩
  | 2, _ =>
    refine wq_sq ?_
    refine wq_ifF (by kernel_rfl) ?_
    refine wq_nx ?_
    refine wq_sq ?_
    refine wq_ifT (by kernel_rfl) ?_
    refine wq_go (gen2_wp h) fun f hf => ?_
    obtain ⟨ds', z0, z1, z2, z3, z4, z5, z6, h', rfl⟩ := hf
    refine wq_sq ?_
    refine wq_ifF (by kernel_rfl) ?_
    refine wq_nx ?_
    exact wq_retE fin ⟨_, rfl, h'.lg⟩
  | 3, _ =>
    refine wq_sq ?_
    refine wq_ifF (by kernel_rfl) ?_
    refine wq_nx ?_
    refine wq_sq ?_
    refine wq_ifF (by kernel_rfl) ?_
    refine wq_nx ?_
    refine wq_sq ?_
    refine wq_ifT (by kernel_rfl) ?_
    refine wq_set ?_
    refine wq_lcE (ds := [.int 0, .int 1, .int 2, .int 3, .int 4, .int 5, .int 6, .int 7, .int 8, .int 9, .int 10]) (by kernel_rfl) ?_
    refine wq_go (lc_wp _) fun ys hys => ?_
    have h' : LgL ys := ⟨hys.1, hys.2⟩
    exact wq_retE fin' ⟨_, rfl, h'.lg⟩
theorem logic_wp {R : Nat → Dt → Prop} : Wp (m__law_logic [.row]) IsLg R := by
  refine wq_run ?_
  refine wq_sq ?_
  refine wq_par2 ?_
  refine wq_calE (ds := [.row, .int 4]) (by kernel_rfl) rfl ?_
  refine wq_go (taken_wp (by decide)) fun kd hk => ?_
  obtain ⟨n, rfl, hn⟩ := int_cases (n := 4) hk rfl
  refine wq_eq (x := .lst toldL) (by kernel_rfl) ?_
  have q : ∀ ds, LgL ds → Wp (tailL [.fz .row, .fz (.int n), .fz (.lst toldL), .ol ds, .un, .un, .un, .un, .un, .un, .un]) (fun f => match f with | .rt d => IsLg d | .nx _ => IsLg .non | _ => False) R := fun ds h =>
    wq_go (tail_wp hn h) fun f hf => by
      obtain ⟨v, rfl, hv⟩ := hf
      exact hv
  have own : ∀ {a b : Slo} {p : List Dt → Prop}, (∀ d, d ∈ toldL → ∃ ds, LgL ds ∧ (∀ ρ : En, (match d with
      | .lst ds => .ret (.nx (ρ.set 3 (.ol ds)))
      | .tup ds => .ret (.nx (ρ.set 3 (.ol ds)))
      | .str x => if x.length ≤ 16777216 then .ret (.nx (ρ.set 3 (.ol (x.map fun c => .str [c])))) else .err
      | _ => .err : Mo Fl) = .ret (.nx (ρ.set 3 (.ol ds))))) := fun d hp => by
    have ans : ∀ l : List Nat, (∀ c ∈ l, c = 102 ∨ c = 116 ∨ c = 117) → ∀ v ∈ l.map (fun c => Dt.str [c]), AnsD v := fun l h v hv => by
      obtain ⟨c, hc, rfl⟩ := List.mem_map.mp hv
      rcases h c hc with rfl | rfl | rfl
      · exact ⟨_, rfl, .inl rfl⟩
      · exact ⟨_, rfl, .inr (.inl rfl)⟩
      · exact ⟨_, rfl, .inr (.inr rfl)⟩
    simp only [toldL, List.mem_cons, List.not_mem_nil, or_false] at hp
    rcases hp with rfl | rfl | rfl | rfl | rfl
    · exact ⟨_, ⟨rfl, ans [102, 102, 102, 102, 102, 102, 102, 116, 116, 102, 116] (by decide)⟩, fun ρ => by kernel_rfl⟩
    · exact ⟨_, ⟨rfl, ans [102, 102, 116, 116, 116, 116, 116, 116, 116, 116, 102] (by decide)⟩, fun ρ => by kernel_rfl⟩
    · exact ⟨_, ⟨rfl, ans [102, 117, 117, 117, 117, 117, 117, 116, 117, 117, 117] (by decide)⟩, fun ρ => by kernel_rfl⟩
    · exact ⟨_, ⟨rfl, ans [102, 102, 117, 117, 117, 117, 117, 116, 116, 117, 117] (by decide)⟩, fun ρ => by kernel_rfl⟩
    · exact ⟨_, ⟨rfl, ans [117, 117, 117, 117, 117, 117, 117, 117, 117, 117, 117] (by decide)⟩, fun ρ => by kernel_rfl⟩
  refine wq_sq ?_
  refine wq_bind ?_
  refine wq_calE (ds := [.row, .lst toldL]) (by kernel_rfl) rfl ?_
  refine wq_go (pick_wp (by decide) (by decide)) fun p hp => ?_
  obtain ⟨ds, h, e⟩ := own (a := .un) (b := .un) (p := fun _ => True) p hp
  exact wq_eq (e _) (q ds h)
end K10
set_option Elab.async false
set_option linter.all false
set_option maxRecDepth 100000
set_option maxHeartbeats 400000
namespace K10
open PySem PySem.Spec PyProof.Rows L2 Fw
/-! ## need_logic -/
abbrev nlX : En → Mo Fl := (mIfS (mNot (mTru (mCalN 1 m_is_answer (mCons (m2 ixD (mVar 0) (mVar 1)) mNil)))) (mRaiseB (mVar 1)) mNx)
theorem forGo_exc {mg : Dt → En → Mo En} {n : En → Mo Fl} {x d : Dt} {c : Nat} {ds : List Dt} {ρ ρ1 : En} (h1 : (mg x ρ).nox = .ret ρ1) (h2 : n ρ1 = .exc c d) : forGo mg n (x :: ds) ρ = .exc c d := by
  unfold forGo
  rw [h1]
  show ((n ρ1).bind _) = _
  rw [h2]
  rfl
theorem ix_at {xs : List Dt} {n : Nat} {v : Dt} (h : xs[n]? = some v) : ixD (.tup xs) (.int n) = some v := by
  obtain ⟨hn, e⟩ := List.getElem?_eq_some_iff.mp h
  show atI xs n = _
  unfold atI ixN
  simp [hn, e]
theorem nl_step {xs : List Dt} {n : Nat} {v : Dt} {b : Bool} (h : xs[n]? = some v) (hb : m_is_answer [v] = .ret (.bl b)) : nlX [.fz (.tup xs), .fz (.int n)] = if b then .ret (.nx [.fz (.tup xs), .fz (.int n)]) else .exc 1 (.int n) := by
  have e : mCalN 1 m_is_answer (mCons (m2 ixD (mVar 0) (mVar 1)) mNil) [.fz (.tup xs), .fz (.int n)] = .ret (.bl b) := by
    have e1 : mCons (m2 ixD (mVar 0) (mVar 1)) mNil [.fz (.tup xs), .fz (.int n)] = .ret [v] := by
      show ((ofO (ixD (.tup xs) (.int n))).bind _) = _
      rw [ix_at h]
      rfl
    show ((mCons (m2 ixD (mVar 0) (mVar 1)) mNil [.fz (.tup xs), .fz (.int n)]).bind _) = _
    rw [e1]
    show (m_is_answer [v]).nox = _
    rw [hb]
    rfl
  show ((mNot (mTru (mCalN 1 m_is_answer (mCons (m2 ixD (mVar 0) (mVar 1)) mNil))) [.fz (.tup xs), .fz (.int n)]).bind _) = _
  have e2 : mNot (mTru (mCalN 1 m_is_answer (mCons (m2 ixD (mVar 0) (mVar 1)) mNil))) [.fz (.tup xs), .fz (.int n)] = .ret (!b) := by
    unfold mNot mTru
    rw [e]
    rfl
  rw [e2]
  cases b <;> rfl
def i11 : List Dt := [.int 0, .int 1, .int 2, .int 3, .int 4, .int 5, .int 6, .int 7, .int 8, .int 9, .int 10]
theorem i11_at : ∀ n : Nat, n < 11 → i11[n]? = some (.int (n : Nat))
  | 0, _ => rfl
  | 1, _ => rfl
  | 2, _ => rfl
  | 3, _ => rfl
  | 4, _ => rfl
  | 5, _ => rfl
  | 6, _ => rfl
  | 7, _ => rfl
  | 8, _ => rfl
  | 9, _ => rfl
  | 10, _ => rfl
  | n + 11, h => by omega
theorem nl_go {xs : List Dt} {n : Nat} {v : Dt} (hn : n < 11) (hv : xs[n]? = some v) (hb : m_is_answer [v] = .ret (.bl false)) (hA : ∀ m, m < n → ∃ x, xs[m]? = some x ∧ m_is_answer [x] = .ret (.bl true)) :
    ∀ j m, m + j = n → ∀ z, forGo (mgN 1) nlX (i11.drop m) [.fz (.tup xs), z] = .exc 1 (.int n)
  | 0, m, e, z => by
    obtain rfl : m = n := by omega
    have h1 := List.getElem?_eq_some_iff.mp (i11_at m hn)
    rw [List.drop_eq_getElem_cons h1.1, h1.2]
    exact forGo_exc (ρ1 := [.fz (.tup xs), .fz (.int m)]) rfl (by have := nl_step hv hb; simpa using this)
  | j + 1, m, e, z => by
    have hm : m < n := by omega
    have h1 := List.getElem?_eq_some_iff.mp (i11_at m (by omega))
    obtain ⟨x, hx, hbx⟩ := hA m hm
    rw [List.drop_eq_getElem_cons h1.1, h1.2]
    rw [forGo_cons (ρ1 := [.fz (.tup xs), .fz (.int m)]) (ρ2 := [.fz (.tup xs), .fz (.int m)]) rfl (by have := nl_step hx hbx; simpa using this)]
    exact nl_go hn hv hb hA j (m + 1) (by omega) _
theorem nl_ok {xs : List Dt} (hA : ∀ m, m < 11 → ∃ x, xs[m]? = some x ∧ m_is_answer [x] = .ret (.bl true)) : ∀ j m, m + j = 11 → ∀ z, ∃ z', forGo (mgN 1) nlX (i11.drop m) [.fz (.tup xs), z] = .ret (.nx [.fz (.tup xs), z'])
  | 0, m, e, z => by
    obtain rfl : m = 11 := by omega
    exact ⟨z, rfl⟩
  | j + 1, m, e, z => by
    have hm : m < 11 := by omega
    have h1 := List.getElem?_eq_some_iff.mp (i11_at m hm)
    obtain ⟨x, hx, hbx⟩ := hA m hm
    rw [List.drop_eq_getElem_cons h1.1, h1.2]
    rw [forGo_cons (ρ1 := [.fz (.tup xs), .fz (.int m)]) (ρ2 := [.fz (.tup xs), .fz (.int m)]) rfl (by have := nl_step hx hbx; simpa using this)]
    exact nl_ok hA j (m + 1) (by omega) _
theorem len11 {xs : List Dt} (h : xs.length = 11) : eqD true (.int (xs.length : Nat)) (.int 11) = some (.bl false) := by rw [h]; rfl
theorem nl_main {xs : List Dt} (h : xs.length = 11) : mx_need_logic [.tup xs] = (forGo (mgN 1) nlX i11 [.fz (.tup xs), .un]).bind flo := by
  match xs, h with
  | [a, b, c, d, e, f, g, h, i, j, k], _ => kernel_rfl
theorem nl_good {xs : List Dt} (h : xs.length = 11) (hA : ∀ m, m < 11 → ∃ x, xs[m]? = some x ∧ m_is_answer [x] = .ret (.bl true)) : mx_need_logic [.tup xs] = .ret .non := by
  obtain ⟨z, e⟩ := nl_ok hA 11 0 rfl .un
  rw [nl_main h]
  rw [List.drop_zero] at e
  rw [e]
  rfl
theorem nl_bad {xs : List Dt} {n : Nat} {v : Dt} (h : xs.length = 11) (hn : n < 11) (hv : xs[n]? = some v) (hb : m_is_answer [v] = .ret (.bl false)) (hA : ∀ m, m < n → ∃ x, xs[m]? = some x ∧ m_is_answer [x] = .ret (.bl true)) : mx_need_logic [.tup xs] = .exc 1 (.int n) := by
  have e := nl_go hn hv hb hA n 0 (by omega) .un
  rw [nl_main h]
  rw [List.drop_zero] at e
  rw [e]
  rfl
/-! ## the first call raises -/
theorem sq_exc {m n : En → Mo Fl} {ρ : En} {c : Nat} {d : Dt} (h : m ρ = .exc c d) : mSq m n ρ = .exc c d := by
  unfold mSq
  rw [h]
  rfl
theorem drop_exc {m : En → Mo Dt} {ρ : En} {c : Nat} {d : Dt} (h : m ρ = .exc c d) : mDrop m ρ = .exc c d := by
  unfold mDrop
  rw [h]
  rfl
theorem run_exc {n c : Nat} {m : En → Mo Fl} {ds : List Dt} {d : Dt} (h : m (ds.map .fz ++ List.replicate (n - ds.length) .un) = .exc c d) : Fw.run n m ds = .exc c d := by
  unfold Fw.run
  rw [h]
  rfl
/-- a call whose callee raises -/
theorem cal_exc {j c : Nat} {F : List Dt → Mo Dt} {ms : En → Mo (List Dt)} {ρ : En} {ds : List Dt} {d : Dt} (h : ms ρ = .ret ds) (hl : ds.length = j) (hF : F ds = .exc c d) : mCal j F ms ρ = .exc c d := (cal_eq h hl).trans hF
/-- the word of what is raised -/
theorem wrong_exc {m : En → Mo Dt} {ρ : En} {c : Nat} {d w : Dt} {Q : Dt → Prop} {R : Nat → Dt → Prop} (h : m ρ = .exc c d) (hw : wordW c d = some w) (q : Q w) : Wp (mWrong1 wordW m ρ) Q R := by
  have e : mWrong1 wordW m ρ = .ret w := by
    unfold mWrong1
    rw [h]
    show (match wordW c d with | some w => Mo.ret w | none => Mo.err) = _
    rw [hw]
  rw [e]
  exact wq_val q
section
variable {L q x y : Dt} {c : Nat}
theorem conjL (h : mx_need_logic [L] = .exc c q) : mx_conj [L, x, y] = .exc c q := run_exc (sq_exc (drop_exc (cal_exc (ds := [L]) rfl rfl h)))
theorem disjL (h : mx_need_logic [L] = .exc c q) : mx_disj [L, x, y] = .exc c q := run_exc (sq_exc (drop_exc (cal_exc (ds := [L]) rfl rfl h)))
theorem negL (h : mx_need_logic [L] = .exc c q) : mx_neg [L, x] = .exc c q := run_exc (sq_exc (drop_exc (cal_exc (ds := [L]) rfl rfl h)))
theorem keepsL (h : mx_need_logic [L] = .exc c q) : mx_keeps [L, x] = .exc c q := run_exc (sq_exc (drop_exc (cal_exc (ds := [L]) rfl rfl h)))
theorem counterL (h : mx_need_logic [L] = .exc c q) : mx_counterexample [L, x] = .exc c q := run_exc (sq_exc (drop_exc (cal_exc (ds := [L]) rfl rfl h)))
theorem profileL (h : mx_need_logic [L] = .exc c q) : mx_profile [L] = .exc c q := run_exc (sq_exc (drop_exc (cal_exc (ds := [L]) rfl rfl h)))
theorem valueL (h : mx_need_logic [L] = .exc c q) : mx_value [L, x, y] = .exc c q := run_exc (sq_exc (drop_exc (cal_exc (ds := [L]) rfl rfl h)))
theorem tableL (h : mx_need_logic [L] = .exc c q) : mx_table [L, x] = .exc c q := run_exc (sq_exc (drop_exc (cal_exc (ds := [L]) rfl rfl h)))
theorem partingL (h : mx_need_logic [L] = .exc c q) : mx_parting [L, x, y] = .exc c q := run_exc (sq_exc (drop_exc (cal_exc (ds := [L]) rfl rfl h)))
theorem rowsL (h : mx_need_logic [L] = .exc c q) : mx_rows_where [L, x, y] = .exc c q := run_exc (sq_exc (drop_exc (cal_exc (ds := [L]) rfl rfl h)))
theorem writeL (h : mx_need_logic [L] = .exc c q) : mx_write_logic [L] = .exc c q := run_exc (sq_exc (drop_exc (cal_exc (ds := [L]) rfl rfl h)))
end
end K10
set_option Elab.async false
set_option linter.all false
set_option maxRecDepth 100000
set_option maxHeartbeats 400000
namespace K10
open PySem PySem.Spec PyProof.Rows L2 Fw
theorem nox_of {α : Type} {Q : α → Prop} {R : Nat → Dt → Prop} : ∀ {m : Mo α}, m.wp Q (fun _ _ => False) → (Mo.nox m).wp Q R
  | .ret _, h => h
  | .any _ _, h => fun d p => nox_of (h d p)
  | .exc _ _, h => h.elim
  | .err, h => h
section
variable {B q x : Dt} {ρ : En}
theorem sureL (h : mx_need_logic [B] = .exc 1 q) : mx_is_sure [B, x] = .exc 1 q := by
  have e : mCal 2 mx_table (mCons (mVar 0) (mCons (mVar 1) mNil)) [.fz B, .fz x, .un] = .exc 1 q := cal_exc (ds := [B, x]) rfl rfl (tableL h)
  refine run_exc ?_
  show bx_is_sure [.fz B, .fz x, .un] = _
  unfold bx_is_sure
  generalize mCal 2 mx_table (mCons (mVar 0) (mCons (mVar 1) mNil)) = C at e ⊢
  unfold mRet mCall mLc mSeq mCons
  dsimp only
  rw [e]
  rfl
theorem alikeL {y : Dt} (h : mx_need_logic [B] = .exc 1 q) : mx_alike [B, x, y] = .exc 1 q := by
  have e : mCal 3 mx_parting (mCons (mVar 0) (mCons (mVar 1) (mCons (mVar 2) mNil))) [.fz B, .fz x, .fz y] = .exc 1 q := cal_exc (ds := [B, x, y]) rfl rfl (partingL h)
  refine run_exc ?_
  show bx_alike [.fz B, .fz x, .fz y] = _
  unfold bx_alike mRet m2
  rw [e]
  rfl
theorem gapsL (h : mx_need_logic [B] = .exc 1 q) : mx_gaps [B, x] = .exc 1 q := by
  have e : mCal 3 mx_rows_where (mCons (mVar 0) (mCons (mVar 1) (mCons (mC (.bl true)) mNil))) [.fz B, .fz x] = .exc 1 q := cal_exc (ds := [B, x, .bl true]) rfl rfl (rowsL h)
  refine run_exc ?_
  show bx_gaps [.fz B, .fz x] = _
  unfold bx_gaps mRet
  rw [e]
  rfl
theorem slipsL (h : mx_need_logic [B] = .exc 1 q) : mx_slips [B, x] = .exc 1 q := by
  have e : mCal 3 mx_rows_where (mCons (mVar 0) (mCons (mVar 1) (mCons (mC (.bl false)) mNil))) [.fz B, .fz x] = .exc 1 q := cal_exc (ds := [B, x, .bl false]) rfl rfl (rowsL h)
  refine run_exc ?_
  show bx_slips [.fz B, .fz x] = _
  unfold bx_slips mRet
  rw [e]
  rfl
def LA : List Dt := [.lam 0, .lam 1, .lam 2, .lam 3, .lam 4, .lam 5, .lam 6, .lam 7, .lam 8, .lam 9, .lam 10, .lam 11, .lam 12, .lam 13, .lam 14]
theorem mk1 : mr__law_logic_works [.fz B, .un] = .ret (.lst LA, [.fz B, .fz (.lst (LA.take 10))]) := by kernel_rfl
theorem la_word {w : Dt} (h : mx_need_logic [B] = .exc 1 q) (z : Slo) {Q : Dt → Prop} {R : Nat → Dt → Prop} (hQ : Q (.tup [.str [108, 111, 103, 105, 99], q])) : ∀ v ∈ LA, ∃ i m, v = .lam i ∧ ml__law_logic_works[i]? = some m ∧ Wp (mWrong1 wordW m [.fz B, z]) Q R := by
  unfold LA
  simp only [List.mem_cons, List.not_mem_nil, or_false, forall_eq_or_imp, forall_eq]
  refine ⟨⟨_, _, rfl, rfl, wrong_exc (cal_exc (ds := [B, .non, .non]) rfl rfl (conjL h)) rfl hQ⟩, ⟨_, _, rfl, rfl, wrong_exc (cal_exc (ds := [B, .non, .non]) rfl rfl (disjL h)) rfl hQ⟩,
    ⟨_, _, rfl, rfl, wrong_exc (cal_exc (ds := [B, .non]) rfl rfl (negL h)) rfl hQ⟩, ⟨_, _, rfl, rfl, wrong_exc (cal_exc (ds := [B, .non]) rfl rfl (keepsL h)) rfl hQ⟩,
    ⟨_, _, rfl, rfl, wrong_exc (cal_exc (ds := [B, .non]) rfl rfl (counterL h)) rfl hQ⟩, ⟨_, _, rfl, rfl, wrong_exc (cal_exc (ds := [B]) rfl rfl (profileL h)) rfl hQ⟩,
    ⟨_, _, rfl, rfl, wrong_exc (cal_exc (ds := [B, .non, .non]) rfl rfl (valueL h)) rfl hQ⟩, ⟨_, _, rfl, rfl, wrong_exc (cal_exc (ds := [B, .non]) rfl rfl (tableL h)) rfl hQ⟩,
    ⟨_, _, rfl, rfl, wrong_exc (cal_exc (ds := [B, .non]) rfl rfl (sureL h)) rfl hQ⟩, ⟨_, _, rfl, rfl, wrong_exc (cal_exc (ds := [B, .non, .non]) rfl rfl (partingL h)) rfl hQ⟩,
    ⟨_, _, rfl, rfl, wrong_exc (cal_exc (ds := [B, .non, .non]) rfl rfl (alikeL h)) rfl hQ⟩, ⟨_, _, rfl, rfl, wrong_exc (cal_exc (ds := [B, .non]) rfl rfl (gapsL h)) rfl hQ⟩,
    ⟨_, _, rfl, rfl, wrong_exc (cal_exc (ds := [B, .non]) rfl rfl (slipsL h)) rfl hQ⟩, ⟨_, _, rfl, rfl, wrong_exc (cal_exc (ds := [B]) rfl rfl (writeL h)) rfl hQ⟩, ⟨_, _, rfl, rfl, wrong_exc (c := 1) (d := q) ?_ rfl hQ⟩⟩
  show ((mx_need_logic [B]).bind _) = _
  rw [h]
  rfl
theorem la_wp {row : En → Mo Dt} {mas : En → Mo (List Dt)} (h : mx_need_logic [B] = .exc 1 q) (hn : noLam B = true) (hr : row ρ = .ret .row) (ha : mas ρ = .ret [B]) {Q : Dt → Prop} {R : Nat → Dt → Prop} (hQ : Q (.tup [.str [108, 111, 103, 105, 99], q])) :
    Wp (mWrongMk wordW (fun i => ml__law_logic_works[i]?) (mPickMk mr__law_logic_works 2 1 m__law_pick row mas) ρ) Q R := by
  refine wq_of ?_
  unfold mWrongMk mPickMk
  rw [hr, ret_bind, ha, ret_bind, if_pos ⟨rfl, by unfold noLams noLams; rw [hn]; rfl, rfl⟩]
  show Mo.wp (((((mr__law_logic_works [.fz B, .un]).nox.bind _)).bind _)) Q R
  rw [mk1]
  show Mo.wp (((((m__law_pick [.row, .lst LA]).nox.bind _)).bind _)) Q R
  rw [Mo.bind_assoc]
  refine Mo.wp_bind.mpr (nox_of ((pick_wp (xs := LA) (R := fun _ _ => False) (by decide) (by decide)).out.mono (fun v hv => ?_) fun _ _ x => x))
  obtain ⟨i, m, rfl, hm, hw⟩ := la_word (w := .non) (R := R) h (.fz (.lst (LA.take 10))) hQ v hv
  show Mo.wp (match ml__law_logic_works[i]? with | some m => mWrong1 wordW m _ | none => .err) Q R
  rw [hm]
  exact hw.out
end
end K10
set_option Elab.async false
set_option linter.all false
set_option maxRecDepth 100000
set_option maxHeartbeats 400000
namespace K10
open PySem PySem.Spec PyProof.Rows L2 Fw
theorem two_exc {F1 F2 : List Dt → Mo Dt} {m1 m2 : En → Mo (List Dt)} {j1 j2 c : Nat} {d1 d : Dt} {rest : En → Mo Fl} {ρ : En} (h1 : mCal j1 F1 m1 ρ = .ret d1) (h2 : mCal j2 F2 m2 ρ = .exc c d) : mSq (mDrop (mCal j1 F1 m1)) (mSq (mDrop (mCal j2 F2 m2)) rest) ρ = .exc c d := by
  rw [sq_eq (drop_eq h1)]
  exact sq_exc (drop_exc h2)
section
variable {L B x y : Dt}
/-! ## a bad formula -/
theorem valueF (hL : mx_need_logic [L] = .ret .non) (hB : mx_need_formula [B] = .exc 6 .non) : mx_value [L, B, y] = .exc 6 .non := run_exc (two_exc ((cal_eq (j := 1) (ds := [L]) rfl rfl).trans hL) (cal_exc (ds := [B]) rfl rfl hB))
theorem tableF (hL : mx_need_logic [L] = .ret .non) (hB : mx_need_formula [B] = .exc 6 .non) : mx_table [L, B] = .exc 6 .non := run_exc (two_exc ((cal_eq (j := 1) (ds := [L]) rfl rfl).trans hL) (cal_exc (ds := [B]) rfl rfl hB))
theorem sureF (hL : mx_need_logic [L] = .ret .non) (hB : mx_need_formula [B] = .exc 6 .non) : mx_is_sure [L, B] = .exc 6 .non := by
  have e : mCal 2 mx_table (mCons (mVar 0) (mCons (mVar 1) mNil)) [.fz L, .fz B, .un] = .exc 6 .non := cal_exc (ds := [L, B]) rfl rfl (tableF hL hB)
  refine run_exc ?_
  show bx_is_sure [.fz L, .fz B, .un] = _
  unfold bx_is_sure
  generalize mCal 2 mx_table (mCons (mVar 0) (mCons (mVar 1) mNil)) = C at e ⊢
  unfold mRet mCall mLc mSeq mCons
  dsimp only
  rw [e]
  rfl
theorem partF (hL : mx_need_logic [L] = .ret .non) (hB : mx_need_formula [B] = .exc 6 .non) : mx_parting [L, B, y] = .exc 6 .non := run_exc (two_exc ((cal_eq (j := 1) (ds := [L]) rfl rfl).trans hL) (cal_exc (ds := [B]) rfl rfl hB))
theorem nf_a : mx_need_formula [.str [97]] = .ret .non := by kernel_rfl
theorem partF2 (hL : mx_need_logic [L] = .ret .non) (hB : mx_need_formula [B] = .exc 6 .non) : mx_parting [L, .str [97], B] = .exc 6 .non := by
  refine run_exc ?_
  show bx_parting [.fz L, .fz (.str [97]), .fz B, .un, .un, .un] = _
  unfold bx_parting
  rw [sq_eq (drop_eq (d := .non) ((cal_eq (j := 1) (ds := [L]) rfl rfl).trans hL))]
  exact two_exc ((cal_eq (j := 1) (ds := [.str [97]]) rfl rfl).trans nf_a) (cal_exc (ds := [B]) rfl rfl hB)
theorem alikeF (hL : mx_need_logic [L] = .ret .non) (hB : mx_need_formula [B] = .exc 6 .non) : mx_alike [L, B, y] = .exc 6 .non := by
  have e : mCal 3 mx_parting (mCons (mVar 0) (mCons (mVar 1) (mCons (mVar 2) mNil))) [.fz L, .fz B, .fz y] = .exc 6 .non := cal_exc (ds := [L, B, y]) rfl rfl (partF hL hB)
  refine run_exc ?_
  show bx_alike [.fz L, .fz B, .fz y] = _
  unfold bx_alike mRet m2
  rw [e]
  rfl
theorem lettersF (hB : mx_need_formula [B] = .exc 6 .non) : mx_letters_of [B] = .exc 6 .non := run_exc (sq_exc (drop_exc (cal_exc (ds := [B]) rfl rfl hB)))
theorem onceF (hB : mx_need_formula [B] = .exc 6 .non) : mx_is_once [B] = .exc 6 .non := run_exc (sq_exc (drop_exc (cal_exc (ds := [B]) rfl rfl hB)))
theorem writeF (hB : mx_need_formula [B] = .exc 6 .non) : mx_write_formula [B] = .exc 6 .non := run_exc (sq_exc (drop_exc (cal_exc (ds := [B]) rfl rfl hB)))
theorem knownF (hB : mx_need_formula [B] = .exc 6 .non) : mx_need_known [B] = .exc 6 .non := run_exc (sq_exc (drop_exc (cal_exc (ds := [B]) rfl rfl hB)))
theorem filledF (hK : mx_need_known [B] = .exc 6 .non) : mx_filled [B, y] = .exc 6 .non := run_exc (sq_exc (drop_exc (cal_exc (ds := [B]) rfl rfl hK)))
theorem rowsF (hL : mx_need_logic [L] = .ret .non) (hK : mx_need_known [B] = .exc 6 .non) : mx_rows_where [L, B, y] = .exc 6 .non := run_exc (two_exc ((cal_eq (j := 1) (ds := [L]) rfl rfl).trans hL) (cal_exc (ds := [B]) rfl rfl hK))
theorem gapsF (hL : mx_need_logic [L] = .ret .non) (hK : mx_need_known [B] = .exc 6 .non) : mx_gaps [L, B] = .exc 6 .non := by
  have e : mCal 3 mx_rows_where (mCons (mVar 0) (mCons (mVar 1) (mCons (mC (.bl true)) mNil))) [.fz L, .fz B] = .exc 6 .non := cal_exc (ds := [L, B, .bl true]) rfl rfl (rowsF hL hK)
  refine run_exc ?_
  show bx_gaps [.fz L, .fz B] = _
  unfold bx_gaps mRet
  rw [e]
  rfl
theorem slipsF (hL : mx_need_logic [L] = .ret .non) (hK : mx_need_known [B] = .exc 6 .non) : mx_slips [L, B] = .exc 6 .non := by
  have e : mCal 3 mx_rows_where (mCons (mVar 0) (mCons (mVar 1) (mCons (mC (.bl false)) mNil))) [.fz L, .fz B] = .exc 6 .non := cal_exc (ds := [L, B, .bl false]) rfl rfl (rowsF hL hK)
  refine run_exc ?_
  show bx_slips [.fz L, .fz B] = _
  unfold bx_slips mRet
  rw [e]
  rfl
def LF : List Dt := [.lam 0, .lam 1, .lam 2, .lam 3, .lam 4, .lam 5, .lam 6, .lam 7, .lam 8, .lam 9, .lam 10, .lam 11]
theorem mk2 : mr__law_formula_works [.fz L, .fz B, .un] = .ret (.lst LF, [.fz L, .fz B, .fz (.lst (LF.take 10))]) := by kernel_rfl
theorem lf_word (hL : mx_need_logic [L] = .ret .non) (h : mx_need_formula [B] = .exc 6 .non) (z : Slo) {Q : Dt → Prop} {R : Nat → Dt → Prop} (hQ : Q (.str [102, 111, 114, 109, 117, 108, 97])) : ∀ v ∈ LF, ∃ i m, v = .lam i ∧ ml__law_formula_works[i]? = some m ∧ Wp (mWrong1 wordW m [.fz L, .fz B, z]) Q R := by
  unfold LF
  simp only [List.mem_cons, List.not_mem_nil, or_false, forall_eq_or_imp, forall_eq]
  have hK := knownF h
  exact ⟨⟨_, _, rfl, rfl, wrong_exc (cal_exc (ds := [L, B, .non]) rfl rfl (valueF hL h)) rfl hQ⟩, ⟨_, _, rfl, rfl, wrong_exc (cal_exc (ds := [L, B]) rfl rfl (tableF hL h)) rfl hQ⟩,
    ⟨_, _, rfl, rfl, wrong_exc (cal_exc (ds := [L, B]) rfl rfl (sureF hL h)) rfl hQ⟩, ⟨_, _, rfl, rfl, wrong_exc (cal_exc (ds := [L, B, .non]) rfl rfl (partF hL h)) rfl hQ⟩,
    ⟨_, _, rfl, rfl, wrong_exc (cal_exc (ds := [L, .str [97], B]) rfl rfl (partF2 hL h)) rfl hQ⟩, ⟨_, _, rfl, rfl, wrong_exc (cal_exc (ds := [L, B, .non]) rfl rfl (alikeF hL h)) rfl hQ⟩,
    ⟨_, _, rfl, rfl, wrong_exc (cal_exc (ds := [B]) rfl rfl (lettersF h)) rfl hQ⟩, ⟨_, _, rfl, rfl, wrong_exc (cal_exc (ds := [B, .non]) rfl rfl (filledF hK)) rfl hQ⟩,
    ⟨_, _, rfl, rfl, wrong_exc (cal_exc (ds := [L, B]) rfl rfl (gapsF hL hK)) rfl hQ⟩, ⟨_, _, rfl, rfl, wrong_exc (cal_exc (ds := [L, B]) rfl rfl (slipsF hL hK)) rfl hQ⟩,
    ⟨_, _, rfl, rfl, wrong_exc (cal_exc (ds := [B]) rfl rfl (onceF h)) rfl hQ⟩, ⟨_, _, rfl, rfl, wrong_exc (cal_exc (ds := [B]) rfl rfl (writeF h)) rfl hQ⟩⟩
theorem lf_wp {ρ : En} {row : En → Mo Dt} {mas : En → Mo (List Dt)} (hL : mx_need_logic [L] = .ret .non) (h : mx_need_formula [B] = .exc 6 .non) (hn : noLam L = true) (hn2 : noLam B = true) (hr : row ρ = .ret .row) (ha : mas ρ = .ret [L, B]) {Q : Dt → Prop} {R : Nat → Dt → Prop} (hQ : Q (.str [102, 111, 114, 109, 117, 108, 97])) :
    Wp (mWrongMk wordW (fun i => ml__law_formula_works[i]?) (mPickMk mr__law_formula_works 3 2 m__law_pick row mas) ρ) Q R := by
  refine wq_of ?_
  unfold mWrongMk mPickMk
  rw [hr, ret_bind, ha, ret_bind, if_pos ⟨rfl, by unfold noLams noLams noLams; rw [hn, hn2]; rfl, rfl⟩]
  show Mo.wp (((((mr__law_formula_works [.fz L, .fz B, .un]).nox.bind _)).bind _)) Q R
  rw [mk2]
  show Mo.wp (((((m__law_pick [.row, .lst LF]).nox.bind _)).bind _)) Q R
  rw [Mo.bind_assoc]
  refine Mo.wp_bind.mpr (nox_of ((pick_wp (xs := LF) (R := fun _ _ => False) (by decide) (by decide)).out.mono (fun v hv => ?_) fun _ _ x => x))
  obtain ⟨i, m, rfl, hm, hw⟩ := lf_word (R := R) hL h (.fz (.lst (LF.take 10))) hQ v hv
  show Mo.wp (match ml__law_formula_works[i]? with | some m => mWrong1 wordW m _ | none => .err) Q R
  rw [hm]
  exact hw.out
/-! ## a bad answer, promise, row -/
theorem conjA (hL : mx_need_logic [L] = .ret .non) (h : mx_need_answers [.tup [x, y]] = .exc 2 .non) : mx_conj [L, x, y] = .exc 2 .non := run_exc (two_exc ((cal_eq (j := 1) (ds := [L]) rfl rfl).trans hL) (cal_exc (ds := [.tup [x, y]]) rfl rfl h))
theorem disjA (hL : mx_need_logic [L] = .ret .non) (h : mx_need_answers [.tup [x, y]] = .exc 2 .non) : mx_disj [L, x, y] = .exc 2 .non := run_exc (two_exc ((cal_eq (j := 1) (ds := [L]) rfl rfl).trans hL) (cal_exc (ds := [.tup [x, y]]) rfl rfl h))
theorem negA (hL : mx_need_logic [L] = .ret .non) (h : mx_need_answers [.tup [x]] = .exc 2 .non) : mx_neg [L, x] = .exc 2 .non := run_exc (two_exc ((cal_eq (j := 1) (ds := [L]) rfl rfl).trans hL) (cal_exc (ds := [.tup [x]]) rfl rfl h))
theorem keepsP (hL : mx_need_logic [L] = .ret .non) (h : mx_need_promise [x] = .exc 4 .non) : mx_keeps [L, x] = .exc 4 .non := run_exc (two_exc ((cal_eq (j := 1) (ds := [L]) rfl rfl).trans hL) (cal_exc (ds := [x]) rfl rfl h))
theorem counterP (hL : mx_need_logic [L] = .ret .non) (h : mx_need_promise [x] = .exc 4 .non) : mx_counterexample [L, x] = .exc 4 .non := run_exc (two_exc ((cal_eq (j := 1) (ds := [L]) rfl rfl).trans hL) (cal_exc (ds := [x]) rfl rfl h))
abbrev fAC : Dt := .tup [.str [97, 110, 100], .str [97], .str [99]]
theorem nf_ac : mx_need_formula [fAC] = .ret .non := by kernel_rfl
theorem lt_ac : m_letters_in [fAC] = .ret (.tup [.str [97], .str [99]]) := by kernel_rfl
theorem valueR (hL : mx_need_logic [L] = .ret .non) (h : mx_need_row [.tup [.str [97], .str [99]], y] = .exc 7 .non) : mx_value [L, fAC, y] = .exc 7 .non := by
  refine run_exc ?_
  show bx_value [.fz L, .fz fAC, .fz y, .un] = _
  unfold bx_value
  rw [sq_eq (drop_eq (d := .non) ((cal_eq (j := 1) (ds := [L]) rfl rfl).trans hL))]
  rw [sq_eq (drop_eq (d := .non) ((cal_eq (j := 1) (ds := [fAC]) rfl rfl).trans nf_ac))]
  rw [sq_eq (set_eq (d := .tup [.str [97], .str [99]]) (by kernel_rfl))]
  exact sq_exc (drop_exc (cal_exc (ds := [.tup [.str [97], .str [99]], y]) rfl rfl h))
end
end K10
set_option Elab.async false
set_option linter.all false
set_option maxRecDepth 100000
set_option maxHeartbeats 400000
namespace K10
open PySem PySem.Spec PyProof.Rows L2 Fw
/-! ## the bad values -/
def BA : List Dt := [.non, .str [], .str [84], .str [116, 102], .bl true, .int 1, .lst [.str [116]], .tup [.str [116]]]
def BN : List Dt := [.non, .str [], .str [83, 116, 114, 111, 110, 103], .str [115, 116, 114, 111, 110, 103, 32], .lst [.str [119, 101, 97, 107]], .int 5, .bl true]
def BP : List Dt := [.non, .str [], .str [79, 114, 100, 101, 114], .tup [.str [111, 114, 100, 101, 114]], .int 5, .lst [.str [111, 114, 100, 101, 114]], .bl true]
def BS : List Dt := [.non, .lst [.str [111, 114, 100, 101, 114]], .str [111, 114, 100, 101, 114], .tup [.str [112, 97, 114, 116, 115], .str [111, 114, 100, 101, 114]], .tup [.str [111, 114, 100, 101, 114], .str [111, 114, 100, 101, 114]], .tup [.str [79, 114, 100, 101, 114]], .tup [.non], .int 5, .tup [.str [111, 114, 100, 101, 114], .lst [.str [112, 97, 114, 116, 115]]]]
def BR : List Dt := [.non, .tup [], .tup [.str [116]], .tup [.str [116], .str [102], .str [117]], .lst [.str [116], .str [102]], .tup [.str [116], .str [120]], .tup [.str [116], .non], .str [116, 102], .tup [.str [116], .bl true]]
def fDeep : Dt := .tup [.str [110, 111, 116], .tup [.str [110, 111, 116], .tup [.str [110, 111, 116], .tup [.str [110, 111, 116], .tup [.str [110, 111, 116], .tup [.str [110, 111, 116], .tup [.str [110, 111, 116], .tup [.str [110, 111, 116], .tup [.str [110, 111, 116], .str [97]]]]]]]]]]
def fWide : Dt := .tup [.str [97, 110, 100], .tup [.str [97, 110, 100], .tup [.str [97, 110, 100], .tup [.str [97, 110, 100], .tup [.str [97, 110, 100], .str [97], .str [97]], .tup [.str [97, 110, 100], .str [97], .str [97]]], .tup [.str [97, 110, 100], .tup [.str [97, 110, 100], .str [97], .str [97]], .tup [.str [97, 110, 100], .str [97], .str [97]]]], .tup [.str [97, 110, 100], .tup [.str [97, 110, 100], .tup [.str [97, 110, 100], .str [97], .str [97]], .tup [.str [97, 110, 100], .str [97], .str [97]]], .tup [.str [97, 110, 100], .tup [.str [97, 110, 100], .str [97], .str [97]], .tup [.str [97, 110, 100], .str [97], .str [97]]]]], .tup [.str [97, 110, 100], .tup [.str [97, 110, 100], .tup [.str [97, 110, 100], .tup [.str [97, 110, 100], .str [97], .str [97]], .tup [.str [97, 110, 100], .str [97], .str [97]]], .tup [.str [97, 110, 100], .tup [.str [97, 110, 100], .str [97], .str [97]], .tup [.str [97, 110, 100], .str [97], .str [97]]]], .tup [.str [97, 110, 100], .tup [.str [97, 110, 100], .tup [.str [97, 110, 100], .str [97], .str [97]], .tup [.str [97, 110, 100], .str [97], .str [97]]], .tup [.str [97, 110, 100], .tup [.str [97, 110, 100], .str [97], .str [97]], .tup [.str [97, 110, 100], .str [97], .str [97]]]]]]
def ODD : List Dt := [.non, .str [], .str [103], .str [65], .str [97, 98], .tup [], .tup [.str [97]], .tup [.str [110, 111, 116]], .tup [.str [110, 111, 116], .str [97], .str [98]], .tup [.str [97, 110, 100], .str [97]], .tup [.str [97, 110, 100], .str [97], .str [98], .str [99]], .lst [.str [110, 111, 116], .str [97]], .tup [.str [120, 111, 114], .str [97], .str [98]], .tup [.str [110, 111, 116], .non], .tup [.str [111, 114], .str [97], .lst [.str [98]]], .int 5, .bl true]
def OFT : List Dt := [fDeep, fWide, .tup [.str [97], .str [110, 111, 116]], .tup [.non, .str [97]], .tup [.lst [.str [110, 111, 116]], .str [97]]]
theorem ba_x : ∀ v ∈ BA, mx_need_answers [.tup [v, .str [116]]] = .exc 2 .non ∧ mx_need_answers [.tup [.str [116], v]] = .exc 2 .non ∧ mx_need_answers [.tup [v, .non]] = .exc 2 .non ∧ mx_need_answers [.tup [.str [117], v]] = .exc 2 .non ∧ mx_need_answers [.tup [v]] = .exc 2 .non := by
  unfold BA
  simp only [List.mem_cons, List.not_mem_nil, or_false, forall_eq_or_imp, forall_eq]
  refine ⟨?_, ?_, ?_, ?_, ?_, ?_, ?_, ?_⟩ <;> exact ⟨by kernel_rfl, by kernel_rfl, by kernel_rfl, by kernel_rfl, by kernel_rfl⟩
theorem bn_x : ∀ v ∈ BN, mx_told_logic [v] = .exc 3 .non := by
  unfold BN
  simp only [List.mem_cons, List.not_mem_nil, or_false, forall_eq_or_imp, forall_eq]
  refine ⟨?_, ?_, ?_, ?_, ?_, ?_, ?_⟩ <;> kernel_rfl
theorem bp_x : ∀ v ∈ BP, mx_need_promise [v] = .exc 4 .non := by
  unfold BP
  simp only [List.mem_cons, List.not_mem_nil, or_false, forall_eq_or_imp, forall_eq]
  refine ⟨?_, ?_, ?_, ?_, ?_, ?_, ?_⟩ <;> kernel_rfl
theorem bs_x : ∀ v ∈ BS, mx_can_hold [v] = .exc 5 .non ∧ mx_clashes [v] = .exc 5 .non ∧ mx_can_add [v] = .exc 5 .non ∧ mx_count_logics [v] = .exc 5 .non ∧ mx_least_logic [v] = .exc 5 .non := by
  unfold BS
  simp only [List.mem_cons, List.not_mem_nil, or_false, forall_eq_or_imp, forall_eq]
  refine ⟨?_, ?_, ?_, ?_, ?_, ?_, ?_, ?_, ?_⟩ <;> exact ⟨by kernel_rfl, by kernel_rfl, by kernel_rfl, by kernel_rfl, by kernel_rfl⟩
theorem br_x : ∀ v ∈ BR, mx_need_row [.tup [.str [97], .str [99]], v] = .exc 7 .non ∧ mx_filled [.tup [.str [111, 114], .str [97], .tup [.str [110, 111, 116], .str [99]]], v] = .exc 7 .non := by
  unfold BR
  simp only [List.mem_cons, List.not_mem_nil, or_false, forall_eq_or_imp, forall_eq]
  refine ⟨?_, ?_, ?_, ?_, ?_, ?_, ?_, ?_, ?_⟩ <;> exact ⟨by kernel_rfl, by kernel_rfl⟩
theorem od_x : ∀ v ∈ ODD, mx_need_formula [v] = .exc 6 .non ∧ m_is_formula [v] = .ret (.bl false) ∧ noLam v = true := by
  unfold ODD
  simp only [List.mem_cons, List.not_mem_nil, or_false, forall_eq_or_imp, forall_eq]
  refine ⟨?_, ?_, ?_, ?_, ?_, ?_, ?_, ?_, ?_, ?_, ?_, ?_, ?_, ?_, ?_, ?_, ?_⟩ <;> exact ⟨by kernel_rfl, by kernel_rfl, by kernel_rfl⟩
theorem of_x : ∀ v ∈ OFT, mx_need_formula [v] = .exc 6 .non ∧ m_is_formula [v] = .ret (.bl false) ∧ noLam v = true := by
  unfold OFT
  simp only [List.mem_cons, List.not_mem_nil, or_false, forall_eq_or_imp, forall_eq]
  refine ⟨?_, ?_, ?_, ?_, ?_⟩ <;> exact ⟨by kernel_rfl, by kernel_rfl, by kernel_rfl⟩
theorem fu_x : mx_filled [.str [117], .tup []] = .exc 6 .non := by kernel_rfl
theorem ka_x : mx_need_known [.tup [.str [97, 110, 100], .str [97], .str [117]]] = .exc 6 .non := by kernel_rfl
theorem kb_x : mx_need_known [.tup [.str [110, 111, 116], .str [117]]] = .exc 6 .non := by kernel_rfl
end K10
set_option Elab.async false
set_option linter.all false
set_option maxRecDepth 100000
set_option maxHeartbeats 400000
namespace K10
open PySem PySem.Spec PyProof.Rows L2 Fw
def Tl (c : Nat) : Prop := c = 102 ∨ c = 116 ∨ c = 117
theorem Ans.tl {x : List Nat} (h : Ans x) : ∃ c, x = [c] ∧ Tl c := by
  rcases h with rfl | rfl | rfl
  · exact ⟨_, rfl, .inl rfl⟩
  · exact ⟨_, rfl, .inr (.inl rfl)⟩
  · exact ⟨_, rfl, .inr (.inr rfl)⟩
abbrev LX (a b c d e f g h i j k : Nat) : List Dt := [.str [a], .str [b], .str [c], .str [d], .str [e], .str [f], .str [g], .str [h], .str [i], .str [j], .str [k]]
def AllA (xs : List Dt) : Prop := ∀ m, m < 11 → ∃ x, xs[m]? = some x ∧ m_is_answer [x] = .ret (.bl true)
theorem tl_ans {c : Nat} (h : Tl c) : m_is_answer [.str [c]] = .ret (.bl true) := by rcases h with rfl | rfl | rfl <;> kernel_rfl
def TV : List Dt := [.non, .str [120], .str [84], .str [], .bl true, .lst [.str [116]], .str [116, 116]]
theorem tv_x : ∀ v ∈ TV, m_is_answer [v] = .ret (.bl false) ∧ noLam v = true := by
  unfold TV
  simp only [List.mem_cons, List.not_mem_nil, or_false, forall_eq_or_imp, forall_eq]
  refine ⟨?_, ?_, ?_, ?_, ?_, ?_, ?_⟩ <;> exact ⟨by kernel_rfl, by kernel_rfl⟩
section
variable {a b c d e f g h i j k : Nat}
theorem sl_a {ρ : En} : ∀ n : Nat, n < 11 → (mSl (mVar 2) mNo (mSome (mVar 3))) (.un :: .fz .row :: .fz (.tup (LX a b c d e f g h i j k)) :: .fz (.int n) :: ρ) = .ret (.tup ((LX a b c d e f g h i j k).take n))
  | 0, _ => by kernel_rfl
  | 1, _ => by kernel_rfl
  | 2, _ => by kernel_rfl
  | 3, _ => by kernel_rfl
  | 4, _ => by kernel_rfl
  | 5, _ => by kernel_rfl
  | 6, _ => by kernel_rfl
  | 7, _ => by kernel_rfl
  | 8, _ => by kernel_rfl
  | 9, _ => by kernel_rfl
  | 10, _ => by kernel_rfl
  | n + 11, q => by omega
theorem sl_b {ρ : En} : ∀ n : Nat, n < 11 → (mSl (mVar 2) (mSome (m2 addD (mVar 3) (mC (.int 1)))) mNo) (.un :: .fz .row :: .fz (.tup (LX a b c d e f g h i j k)) :: .fz (.int n) :: ρ) = .ret (.tup ((LX a b c d e f g h i j k).drop (n + 1)))
  | 0, _ => by kernel_rfl
  | 1, _ => by kernel_rfl
  | 2, _ => by kernel_rfl
  | 3, _ => by kernel_rfl
  | 4, _ => by kernel_rfl
  | 5, _ => by kernel_rfl
  | 6, _ => by kernel_rfl
  | 7, _ => by kernel_rfl
  | 8, _ => by kernel_rfl
  | 9, _ => by kernel_rfl
  | 10, _ => by kernel_rfl
  | n + 11, q => by omega
abbrev mTorn : En → Mo Dt := (m2 addD (m2 addD (mSl (mVar 2) mNo (mSome (mVar 3))) (mTup (mCons (mCal 2 m__law_pick (mCons (mVar 1) (mCons (mLst (mCons (mC .non) (mCons (mC (.str [120])) (mCons (mC (.str [84])) (mCons (mC (.str [])) (mCons (mC (.bl true)) (mCons (mLst (mCons (mC (.str [116])) mNil)) (mCons (mC (.str [116, 116])) mNil)))))))) mNil))) mNil))) (mSl (mVar 2) (mSome (m2 addD (mVar 3) (mC (.int 1)))) mNo))
def TornOk (n : Nat) (v : Dt) : Prop := mx_need_logic [v] = .exc 1 (.int n) ∧ noLam v = true
theorem noLams_app : ∀ {xs ys : List Dt}, noLams xs = true → noLams ys = true → noLams (xs ++ ys) = true
  | [], ys, _, h => h
  | x :: xs, ys, h1, h2 => by
    unfold noLams at h1
    rw [Bool.and_eq_true] at h1
    show (noLam x && noLams (xs ++ ys)) = true
    rw [h1.1, noLams_app h1.2 h2]
    rfl
theorem torn_wp {ρ : En} {n : Nat} {R : Nat → Dt → Prop} (hn : n < 11) (hA : AllA (LX a b c d e f g h i j k)) : Wp (mTorn (.un :: .fz .row :: .fz (.tup (LX a b c d e f g h i j k)) :: .fz (.int n) :: ρ)) (TornOk n) R := by
  refine wq_two (wq_two (wq_eq (sl_a n hn) ?_))
  refine wq_tup (wq_cons ?_)
  refine wq_calE (ds := [.row, .lst TV]) (by kernel_rfl) rfl ?_
  refine wq_go (pick_wp (by decide) (by decide)) fun v hv => ?_
  refine wq_nil ⟨by show 1 ≤ 16777216; decide, ?_⟩
  have l1 : ((LX a b c d e f g h i j k).take n).length = n := by rw [List.length_take]; show min n 11 = n; omega
  refine wq_o (x := .tup ((LX a b c d e f g h i j k).take n ++ [v])) (if_pos (by rw [l1]; show n + 1 ≤ 16777216; omega)) ?_
  refine wq_eq (sl_b n hn) ?_
  have l2 : ((LX a b c d e f g h i j k).drop (n + 1)).length = 10 - n := by rw [List.length_drop]; show 11 - (n + 1) = 10 - n; omega
  refine wq_o (x := .tup ((LX a b c d e f g h i j k).take n ++ [v] ++ (LX a b c d e f g h i j k).drop (n + 1))) (if_pos (by rw [List.length_append, l1, l2]; show n + 1 + (10 - n) ≤ 16777216; omega)) ?_
  obtain ⟨hv1, hv2⟩ := tv_x v hv
  refine ⟨nl_bad (n := n) (v := v) ?_ hn ?_ hv1 (fun m hm => ?_), ?_⟩
  · rw [List.length_append, List.length_append, l1, l2]; show n + 1 + (10 - n) = 11; omega
  · rw [List.append_assoc, List.getElem?_append_right (by omega), l1, Nat.sub_self]; rfl
  · obtain ⟨x, hx, hb⟩ := hA m (by omega)
    refine ⟨x, ?_, hb⟩
    rw [List.append_assoc, List.getElem?_append_left (by omega), List.getElem?_take, if_pos hm]
    exact hx
  · have key : ∀ n : Nat, n < 11 → noLams ((LX a b c d e f g h i j k).take n) = true ∧ noLams ((LX a b c d e f g h i j k).drop (n + 1)) = true := fun n hn => by
      match n, hn with
      | 0, _ => exact ⟨rfl, rfl⟩
      | 1, _ => exact ⟨rfl, rfl⟩
      | 2, _ => exact ⟨rfl, rfl⟩
      | 3, _ => exact ⟨rfl, rfl⟩
      | 4, _ => exact ⟨rfl, rfl⟩
      | 5, _ => exact ⟨rfl, rfl⟩
      | 6, _ => exact ⟨rfl, rfl⟩
      | 7, _ => exact ⟨rfl, rfl⟩
      | 8, _ => exact ⟨rfl, rfl⟩
      | 9, _ => exact ⟨rfl, rfl⟩
      | 10, _ => exact ⟨rfl, rfl⟩
      | n + 11, q => omega
    show noLams _ = true
    refine noLams_app (noLams_app (key n hn).1 ?_) (key n hn).2
    show (noLam v && noLams []) = true
    rw [hv2]
    rfl
end
end K10
set_option Elab.async false
set_option linter.all false
set_option maxRecDepth 100000
set_option maxHeartbeats 4000000
namespace K10
open PySem PySem.Spec PyProof.Rows L2 Fw
theorem wq_wrong {me : En → Mo Dt} {ρ : En} {Q : Dt → Prop} {R : Nat → Dt → Prop} (h : Wp (me ρ) (fun v => ∃ i m, v = .lam i ∧ ml_law[i]? = some m ∧ Wp (mWrong1 wordW m ρ) Q R) R) : Wp (mWrong wordW (fun i => ml_law[i]?) me ρ) Q R := wq_bind (wq_go h fun v ⟨i, m, e, hm, hw⟩ => by
  subst e
  show Wp (match ml_law[i]? with | some m => mWrong1 wordW m ρ | none => .err) Q R
  rw [hm]
  exact hw)
theorem wq_exc {α : Type} {m : Mo α} {Q : α → Prop} {R : Nat → Dt → Prop} {c : Nat} {d : Dt} (e : m = .exc c d) (h : R c d) : Wp m Q R := by rw [e]; exact wq_of h
theorem wrong1_wp {m : En → Mo Dt} {ρ : En} {QD : Dt → Prop} {R : Nat → Dt → Prop} (h : Wp (m ρ) (fun _ => QD (.str [])) (fun c d => ∃ w, wordW c d = some w ∧ QD w)) : Wp (mWrong1 wordW m ρ) QD R := by
  refine wq_of (Mo.wp_catch.mpr (Mo.wp_bind.mpr (h.out.mono (fun _ q => q) fun c d ⟨w, e, q⟩ => ?_)))
  show Mo.wp (match wordW c d with | some w => Mo.ret w | none => Mo.err) QD R
  rw [e]
  exact q
theorem pick_word {ρ : En} {Q : Dt → Prop} {R : Nat → Dt → Prop} {us : List Dt} {w : Dt} {ms : En → Mo (List Dt)} (he : ms ρ = .ret [.row, .lst us]) (h0 : 0 < us.length) (h1 : us.length < 1073741824) (hQ : Q w)
    (h : ∀ u ∈ us, ∃ i m c d, u = .lam i ∧ ml_law[i]? = some m ∧ m ρ = .exc c d ∧ wordW c d = some w) : Wp (mWrong wordW (fun i => ml_law[i]?) (mCal 2 m__law_pick ms) ρ) Q R := by
  refine wq_wrong ?_
  refine wq_calE he rfl ?_
  refine wq_go (pick_wp h0 h1) fun u hu => ?_
  obtain ⟨i, m, c, d, e1, e2, e3, e4⟩ := h u hu
  exact ⟨i, m, e1, e2, wrong_exc e3 e4 hQ⟩
abbrev sLogic : Dt := .str [108, 111, 103, 105, 99]
theorem eq_lg : ∀ n : Nat, n < 11 → eqD true (.tup [sLogic, .int n]) (.tup [sLogic, .int n]) = some (.bl false)
  | 0, _ => by kernel_rfl
  | 1, _ => by kernel_rfl
  | 2, _ => by kernel_rfl
  | 3, _ => by kernel_rfl
  | 4, _ => by kernel_rfl
  | 5, _ => by kernel_rfl
  | 6, _ => by kernel_rfl
  | 7, _ => by kernel_rfl
  | 8, _ => by kernel_rfl
  | 9, _ => by kernel_rfl
  | 10, _ => by kernel_rfl
  | n + 11, q => by omega
structure BadL (B q : Dt) : Prop where
  x : mx_need_logic [B] = .exc 1 q
  n : noLam B = true
  e : eqD true (.tup [sLogic, q]) (.tup [sLogic, q]) = some (.bl false)
theorem law_wp {R : Nat → Dt → Prop} : Wp ((b_law (.un :: .fz .row :: List.replicate 11 .un)).bind flo) (fun d => d = .bl true) R := by
  refine wq_flo ?_
  refine wq_sq ?_
  refine wq_asg ?_
  refine wq_tup (wq_cons ?_)
  refine wq_calE (ds := [.row]) (by kernel_rfl) rfl ?_
  refine wq_go logic_wp fun L hL => ?_
  obtain ⟨a, b, c, d, e, f, g, h, i, j, k, rfl, ha, hb, hc, hd, he, hf, hg, hh, hi, hj, hk⟩ := hL
  obtain ⟨a, rfl, ta⟩ := ha.tl
  obtain ⟨b, rfl, tb⟩ := hb.tl
  obtain ⟨c, rfl, tc⟩ := hc.tl
  obtain ⟨d, rfl, td⟩ := hd.tl
  obtain ⟨e, rfl, te⟩ := he.tl
  obtain ⟨f, rfl, tf⟩ := hf.tl
  obtain ⟨g, rfl, tg⟩ := hg.tl
  obtain ⟨h, rfl, th⟩ := hh.tl
  obtain ⟨i, rfl, ti⟩ := hi.tl
  obtain ⟨j, rfl, tj⟩ := hj.tl
  obtain ⟨k, rfl, tk⟩ := hk.tl
  have hA : AllA (LX a b c d e f g h i j k) := fun m hm => by
    match m, hm with
    | 0, _ => exact ⟨_, rfl, tl_ans ta⟩
    | 1, _ => exact ⟨_, rfl, tl_ans tb⟩
    | 2, _ => exact ⟨_, rfl, tl_ans tc⟩
    | 3, _ => exact ⟨_, rfl, tl_ans td⟩
    | 4, _ => exact ⟨_, rfl, tl_ans te⟩
    | 5, _ => exact ⟨_, rfl, tl_ans tf⟩
    | 6, _ => exact ⟨_, rfl, tl_ans tg⟩
    | 7, _ => exact ⟨_, rfl, tl_ans th⟩
    | 8, _ => exact ⟨_, rfl, tl_ans ti⟩
    | 9, _ => exact ⟨_, rfl, tl_ans tj⟩
    | 10, _ => exact ⟨_, rfl, tl_ans tk⟩
    | n + 11, q => omega
  have gL : mx_need_logic [.tup (LX a b c d e f g h i j k)] = .ret .non := nl_good rfl hA
  have nL : noLam (.tup (LX a b c d e f g h i j k)) = true := rfl
  refine wq_cons ?_
  refine wq_calE (ds := [.row, .int 11]) (by kernel_rfl) rfl ?_
  refine wq_go (taken_wp (by decide)) fun v hv => ?_
  obtain ⟨n, rfl, h2, h3⟩ := hv
  obtain ⟨n, rfl⟩ := Int.eq_ofNat_of_zero_le h2
  have hn : n < 11 := by omega
  refine wq_nil ⟨by show 2 ≤ 16777216; decide, ?_⟩
  refine wq_eq (x := .un :: .fz .row :: .fz (.tup (LX a b c d e f g h i j k)) :: .fz (.int n) :: List.replicate 9 .un) (by rfl) ?_
  refine wq_sq (wq_set ?_)
  refine wq_go (torn_wp hn hA) fun B0 hB0 => ?_
  refine wq_sq (wq_asg ?_)
  refine wq_calE (ds := [.row, .lst [.tup [B0, .int n], .tup [.lst (LX a b c d e f g h i j k), .non], .tup [.non, .non], .tup [.tup [.str [b], .str [c], .str [d], .str [e], .str [f], .str [g], .str [h], .str [i], .str [j], .str [k]], .non],
    .tup [.tup [.str [a], .str [b], .str [c], .str [d], .str [e], .str [f], .str [g], .str [h], .str [i], .str [j], .str [k], .str [116]], .non], .tup [.str [a, b, c, d, e, f, g, h, i, j, k], .non]]]) (by kernel_rfl) rfl ?_
  refine wq_go (pick_wp (by show 0 < 6; decide) (by show 6 < 1073741824; decide)) fun v hv => ?_
  have key : ∃ B q, v = .tup [B, q] ∧ BadL B q := by
    have e0 : eqD true (.tup [sLogic, .non]) (.tup [sLogic, .non]) = some (.bl false) := by kernel_rfl
    simp only [List.mem_cons, List.not_mem_nil, or_false] at hv
    rcases hv with rfl | rfl | rfl | rfl | rfl | rfl
    · exact ⟨_, _, rfl, hB0.1, hB0.2, eq_lg n hn⟩
    · exact ⟨_, _, rfl, by kernel_rfl, rfl, e0⟩
    · exact ⟨_, _, rfl, by kernel_rfl, rfl, e0⟩
    · exact ⟨_, _, rfl, by kernel_rfl, rfl, e0⟩
    · exact ⟨_, _, rfl, by kernel_rfl, rfl, e0⟩
    · exact ⟨_, _, rfl, by kernel_rfl, rfl, e0⟩
  obtain ⟨B, q, rfl, hB⟩ := key
  clear hv
  generalize LX a b c d e f g h i j k = xs at gL nL ⊢
  refine wq_eq (x := [.un, .fz .row, .fz (.tup xs), .fz (.int n), .fz B0, .fz B, .fz q, .un, .un, .un, .un, .un, .un]) (by rfl) ?_
  refine wq_sq (wq_if (wq_tst (wq_two ?_)))
  refine la_wp (B := B) (q := q) hB.x hB.n rfl rfl ?_
  refine wq_eq (x := .tup [sLogic, q]) (by rfl) ?_
  refine wq_o hB.e (wq_o (x := false) rfl ?_)
  refine wq_nx ?_
  -- answers
  refine wq_sq (wq_set ?_)
  refine wq_calE (ds := [.row, .lst BA]) (by kernel_rfl) rfl ?_
  refine wq_go (pick_wp (by decide) (by decide)) fun v hv => ?_
  obtain ⟨x1, x2, x3, x4, x5⟩ := ba_x v hv
  refine wq_sqE (ρ1 := [.un, .fz .row, .fz (.tup xs), .fz (.int n), .fz B0, .fz v, .fz q, .fz (.lst [.lam 0, .lam 1, .lam 2, .lam 3, .lam 4]), .un, .un, .un, .un, .un]) (by rfl) ?_
  refine wq_sq (wq_if (wq_or (wq_tst (wq_two (wq_wrong ?_)))))
  refine wq_calE (ds := [.row, .lst [.lam 0, .lam 1, .lam 2, .lam 3, .lam 4]]) (by rfl) rfl ?_
  refine wq_go (pick_wp (by decide) (by decide)) fun u hu => ?_
  have kA : ∀ {Q : Dt → Prop} {R : Nat → Dt → Prop}, Q (.str [97, 110, 115, 119, 101, 114]) → ∃ i m, u = .lam i ∧ ml_law[i]? = some m ∧ Wp (mWrong1 wordW m [.un, .fz .row, .fz (.tup xs), .fz (.int n), .fz B0, .fz v, .fz q, .fz (.lst [.lam 0, .lam 1, .lam 2, .lam 3, .lam 4]), .un, .un, .un, .un, .un]) Q R := fun {Q R} hQ => by
    simp only [List.mem_cons, List.not_mem_nil, or_false] at hu
    rcases hu with rfl | rfl | rfl | rfl | rfl
    · exact ⟨_, _, rfl, rfl, wrong_exc (cal_exc (ds := [.tup xs, v, .str [116]]) rfl rfl (conjA gL x1)) rfl hQ⟩
    · exact ⟨_, _, rfl, rfl, wrong_exc (cal_exc (ds := [.tup xs, .str [116], v]) rfl rfl (conjA gL x2)) rfl hQ⟩
    · exact ⟨_, _, rfl, rfl, wrong_exc (cal_exc (ds := [.tup xs, v, .non]) rfl rfl (disjA gL x3)) rfl hQ⟩
    · exact ⟨_, _, rfl, rfl, wrong_exc (cal_exc (ds := [.tup xs, .str [117], v]) rfl rfl (disjA gL x4)) rfl hQ⟩
    · exact ⟨_, _, rfl, rfl, wrong_exc (cal_exc (ds := [.tup xs, v]) rfl rfl (negA gL x5)) rfl hQ⟩
  refine kA ?_
  refine wq_eq (x := .str [97, 110, 115, 119, 101, 114]) (by rfl) ?_
  refine wq_o (x := .bl false) (by rfl) (wq_o (x := false) rfl ?_)
  -- names
  refine wq_tst (wq_two (wq_wrong ?_))
  refine wq_eq (x := .lam 5) (by rfl) ⟨_, _, rfl, rfl, ?_⟩
  refine wrong1_wp ?_
  refine wq_cal (wq_cons ?_)
  refine wq_calE (F := fun ds => (m__law_pick ds).nox) (ds := [.row, .lst BN]) (by kernel_rfl) rfl ?_
  refine to_nox (wq_go (pick_wp (by decide) (by decide)) fun u hu => ?_)
  refine wq_nil ⟨rfl, ?_⟩
  refine wq_exc (bn_x u hu) ⟨_, rfl, ?_⟩
  refine wq_eq (x := .str [110, 97, 109, 101]) (by rfl) ?_
  refine wq_o (x := .bl false) (by rfl) (wq_o (x := false) rfl ?_)
  refine wq_nx ?_
  clear hu kA x1 x2 x3 x4 x5 hv
  -- promise
  refine wq_sq (wq_set ?_)
  refine wq_calE (ds := [.row, .lst BP]) (by kernel_rfl) rfl ?_
  refine wq_go (pick_wp (by decide) (by decide)) fun v hv => ?_
  have hp := bp_x v hv
  refine wq_sq (wq_if (wq_tst (wq_two (pick_word (us := [.lam 6, .lam 7]) (w := .str [112, 114, 111, 109, 105, 115, 101]) (by rfl) (by decide) (by decide) ?_ ?_))))
  rotate_left
  · simp only [List.mem_cons, List.not_mem_nil, or_false, forall_eq_or_imp, forall_eq]
    exact ⟨⟨_, _, _, _, rfl, rfl, cal_exc (ds := [.tup xs, v]) rfl rfl (keepsP gL hp), rfl⟩, ⟨_, _, _, _, rfl, rfl, cal_exc (ds := [.tup xs, v]) rfl rfl (counterP gL hp), rfl⟩⟩
  refine wq_eq (x := .str [112, 114, 111, 109, 105, 115, 101]) (by rfl) ?_
  refine wq_o (x := .bl false) (by rfl) (wq_o (x := false) rfl ?_)
  refine wq_nx ?_
  clear hp hv
  -- promises
  refine wq_sq (wq_set ?_)
  refine wq_calE (ds := [.row, .lst BS]) (by kernel_rfl) rfl ?_
  refine wq_go (pick_wp (by decide) (by decide)) fun v hv => ?_
  obtain ⟨x1, x2, x3, x4, x5⟩ := bs_x v hv
  refine wq_sqE (ρ1 := [.un, .fz .row, .fz (.tup xs), .fz (.int n), .fz B0, .fz v, .fz q, .fz (.lst [.lam 8, .lam 9, .lam 10, .lam 11, .lam 12]), .un, .un, .un, .un, .un]) (by rfl) ?_
  refine wq_sq (wq_if (wq_tst (wq_two (pick_word (us := [.lam 8, .lam 9, .lam 10, .lam 11, .lam 12]) (w := .str [112, 114, 111, 109, 105, 115, 101, 115]) (by rfl) (by decide) (by decide) ?_ ?_))))
  rotate_left
  · simp only [List.mem_cons, List.not_mem_nil, or_false, forall_eq_or_imp, forall_eq]
    exact ⟨⟨_, _, _, _, rfl, rfl, cal_exc (ds := [v]) rfl rfl x1, rfl⟩, ⟨_, _, _, _, rfl, rfl, cal_exc (ds := [v]) rfl rfl x2, rfl⟩, ⟨_, _, _, _, rfl, rfl, cal_exc (ds := [v]) rfl rfl x3, rfl⟩, ⟨_, _, _, _, rfl, rfl, cal_exc (ds := [v]) rfl rfl x4, rfl⟩, ⟨_, _, _, _, rfl, rfl, cal_exc (ds := [v]) rfl rfl x5, rfl⟩⟩
  refine wq_eq (x := .str [112, 114, 111, 109, 105, 115, 101, 115]) (by rfl) ?_
  refine wq_o (x := .bl false) (by rfl) (wq_o (x := false) rfl ?_)
  refine wq_nx ?_
  clear x1 x2 x3 x4 x5 hv
  -- formulas
  refine wq_sqE (ρ1 := [.un, .fz .row, .fz (.tup xs), .fz (.int n), .fz B0, .fz v, .fz q, .fz (.lst [.lam 8, .lam 9, .lam 10, .lam 11, .lam 12]), .fz (.str [97]), .un, .un, .un, .un]) (by rfl) ?_
  refine wq_sqE (ρ1 := [.un, .fz .row, .fz (.tup xs), .fz (.int n), .fz B0, .fz v, .fz q, .fz (.lst [.lam 8, .lam 9, .lam 10, .lam 11, .lam 12]), .fz fDeep, .fz (.int 8), .un, .un, .un]) (by kernel_rfl) ?_
  refine wq_sqE (ρ1 := [.un, .fz .row, .fz (.tup xs), .fz (.int n), .fz B0, .fz v, .fz q, .fz (.lst [.lam 8, .lam 9, .lam 10, .lam 11, .lam 12]), .fz fDeep, .fz (.int 8), .fz (.lst (List.replicate 32 (.str [97]))), .un, .un]) (by kernel_rfl) ?_
  refine wq_sqE (ρ1 := [.un, .fz .row, .fz (.tup xs), .fz (.int n), .fz B0, .fz v, .fz q, .fz (.lst [.lam 8, .lam 9, .lam 10, .lam 11, .lam 12]), .fz fDeep, .fz (.int 8), .fz (.lst [fWide]), .fz (.int 1), .un]) (by kernel_rfl) ?_
  refine wq_sqE (ρ1 := [.un, .fz .row, .fz (.tup xs), .fz (.int n), .fz B0, .fz v, .fz q, .fz (.lst [.lam 8, .lam 9, .lam 10, .lam 11, .lam 12]), .fz fDeep, .fz (.int 8), .fz (.lst [fWide]), .fz (.int 1), .fz (.lst ODD)]) (by kernel_rfl) ?_
  refine wq_sq (wq_set ?_)
  refine wq_calE (ds := [.row, .lst (ODD ++ OFT)]) (by kernel_rfl) rfl ?_
  refine wq_go (pick_wp (by decide) (by decide)) fun v hv => ?_
  have hf : mx_need_formula [v] = .exc 6 .non ∧ m_is_formula [v] = .ret (.bl false) ∧ noLam v = true := (List.mem_append.mp hv).elim (od_x v) (of_x v)
  refine wq_sq (wq_if (wq_or (wq_tst (wq_two ?_))))
  refine lf_wp (L := .tup xs) (B := v) gL hf.1 nL hf.2.2 rfl rfl ?_
  refine wq_eq (x := .str [102, 111, 114, 109, 117, 108, 97]) (by rfl) ?_
  refine wq_o (x := .bl false) (by rfl) (wq_o (x := false) rfl ?_)
  refine wq_tst (wq_two (wq_eq (x := .bl false) ((cal_eq (j := 1) (ds := [v]) rfl rfl).trans hf.2.1) ?_))
  refine wq_eq (x := .bl false) (by rfl) ?_
  refine wq_o (x := .bl false) (by rfl) (wq_o (x := false) rfl ?_)
  refine wq_nx ?_
  refine wq_sq (wq_if (wq_tst (wq_two (pick_word (us := [.lam 13, .lam 14, .lam 15]) (w := .str [102, 111, 114, 109, 117, 108, 97]) (by rfl) (by decide) (by decide) ?_ ?_))))
  rotate_left
  · simp only [List.mem_cons, List.not_mem_nil, or_false, forall_eq_or_imp, forall_eq]
    exact ⟨⟨_, _, _, _, rfl, rfl, cal_exc (ds := [.str [117], .tup []]) rfl rfl fu_x, rfl⟩, ⟨_, _, _, _, rfl, rfl, cal_exc (ds := [.tup xs, .tup [.str [97, 110, 100], .str [97], .str [117]]]) rfl rfl (gapsF gL ka_x), rfl⟩, ⟨_, _, _, _, rfl, rfl, cal_exc (ds := [.tup xs, .tup [.str [110, 111, 116], .str [117]]]) rfl rfl (slipsF gL kb_x), rfl⟩⟩
  refine wq_eq (x := .str [102, 111, 114, 109, 117, 108, 97]) (by rfl) ?_
  refine wq_o (x := .bl false) (by rfl) (wq_o (x := false) rfl ?_)
  refine wq_nx ?_
  clear hf hv
  -- rows
  refine wq_sq (wq_set ?_)
  refine wq_calE (ds := [.row, .lst BR]) (by kernel_rfl) rfl ?_
  refine wq_go (pick_wp (by decide) (by decide)) fun v hv => ?_
  obtain ⟨x1, x2⟩ := br_x v hv
  refine wq_ret (wq_two (pick_word (us := [.lam 16, .lam 17]) (w := .str [114, 111, 119]) (by rfl) (by decide) (by decide) ?_ ?_))
  rotate_left
  · simp only [List.mem_cons, List.not_mem_nil, or_false, forall_eq_or_imp, forall_eq]
    exact ⟨⟨_, _, _, _, rfl, rfl, cal_exc (ds := [.tup xs, fAC, v]) rfl rfl (valueR gL x1), rfl⟩, ⟨_, _, _, _, rfl, rfl, cal_exc (ds := [.tup [.str [111, 114], .str [97], .tup [.str [110, 111, 116], .str [99]]], v]) rfl rfl x2, rfl⟩⟩
  refine wq_eq (x := .str [114, 111, 119]) (by rfl) ?_
  exact wq_o (x := .bl true) (by rfl) rfl
end K10
set_option Elab.async false
set_option linter.all false
set_option maxRecDepth 100000
set_option maxHeartbeats 4000000
namespace K10
open PySem PySem.Spec PyProof.Rows L2 Fw
theorem all_mk {l : PySem.W.OpenLaw} {w : World} {K : PySem.W.Frag} {h : Heap} {mg : Str → Option Value} {fa : Addr} {q : Program} (X : K.In h) (G : h.Ns mainGlobals mg) (hfa : mg "law" = some (.ref fa)) (own : ∀ (y : Str) (f : Addr), ((recsOf q).any fun e => e.name == y) = true → mg y = some (.ref f) → LamX.OwnTab K f h)
    {f0 : Addr} {od0 an0 : Option Addr} {sl0 : Array (Option Value)} {oc0 kV0 dc0 pm0 ct0 : Value}
    {cd0 : Value}
    {f1 : Addr} {od1 an1 : Option Addr} {sl1 : Array (Option Value)} {oc1 kV1 dc1 pm1 ct1 : Value}
    {cd1 : Value}
    {f2 : Addr} {od2 an2 : Option Addr} {sl2 : Array (Option Value)} {oc2 kV2 dc2 pm2 ct2 : Value}
    {cd2 : Value}
    {f3 : Addr} {od3 an3 : Option Addr} {sl3 : Array (Option Value)} {oc3 kV3 dc3 pm3 ct3 : Value}
    {cd3 : Value}
    {f4 : Addr} {od4 an4 : Option Addr} {sl4 : Array (Option Value)} {oc4 kV4 dc4 pm4 ct4 : Value}
    {cd4 : Value}
    {f5 : Addr} {od5 an5 : Option Addr} {sl5 : Array (Option Value)} {oc5 kV5 dc5 pm5 ct5 : Value}
    {cd5 : Value}
    {f6 : Addr} {od6 an6 : Option Addr} {sl6 : Array (Option Value)} {oc6 kV6 dc6 pm6 ct6 : Value}
    {cd6 : Value}
    {f7 : Addr} {od7 an7 : Option Addr} {sl7 : Array (Option Value)} {oc7 kV7 dc7 pm7 ct7 : Value}
    {cd7 : Value}
    {f8 : Addr} {od8 an8 : Option Addr} {sl8 : Array (Option Value)} {oc8 kV8 dc8 pm8 ct8 : Value}
    {cd8 : Value}
    {f9 : Addr} {od9 an9 : Option Addr} {sl9 : Array (Option Value)} {oc9 kV9 dc9 pm9 ct9 : Value}
    {cd9 : Value}
    {f10 : Addr} {od10 an10 : Option Addr} {sl10 : Array (Option Value)} {oc10 kV10 dc10 pm10 ct10 : Value}
    {cd10 : Value}
    {f11 : Addr} {od11 an11 : Option Addr} {sl11 : Array (Option Value)} {oc11 kV11 dc11 pm11 ct11 : Value}
    {cd11 : Value}
    {f12 : Addr} {od12 an12 : Option Addr} {sl12 : Array (Option Value)} {oc12 kV12 dc12 pm12 ct12 : Value}
    {cd12 : Value}
    {f13 : Addr} {od13 an13 : Option Addr} {sl13 : Array (Option Value)} {oc13 kV13 dc13 pm13 ct13 : Value}
    {cd13 : Value}
    {f14 : Addr} {od14 an14 : Option Addr} {sl14 : Array (Option Value)} {oc14 kV14 dc14 pm14 ct14 : Value}
    {cd14 : Value}
    {f15 : Addr} {od15 an15 : Option Addr} {sl15 : Array (Option Value)} {oc15 kV15 dc15 pm15 ct15 : Value}
    {cd15 : Value}
    {f16 : Addr} {od16 an16 : Option Addr} {sl16 : Array (Option Value)} {oc16 kV16 dc16 pm16 ct16 : Value}
    {cd16 : Value}
    {f17 : Addr} {od17 an17 : Option Addr} {sl17 : Array (Option Value)} {oc17 kV17 dc17 pm17 ct17 : Value}
    {cd17 : Value}
    {f18 : Addr} {od18 an18 : Option Addr} {sl18 : Array (Option Value)} {oc18 kV18 dc18 pm18 ct18 : Value}
    {cd18 : Value}
    {f19 : Addr} {od19 an19 : Option Addr} {sl19 : Array (Option Value)} {oc19 kV19 dc19 pm19 ct19 : Value}
    {cd19 : Value}
    {f20 : Addr} {od20 an20 : Option Addr} {sl20 : Array (Option Value)} {oc20 kV20 dc20 pm20 ct20 : Value}
    {cd20 : Value}
    {f21 : Addr} {od21 an21 : Option Addr} {sl21 : Array (Option Value)} {oc21 kV21 dc21 pm21 ct21 : Value}
    {cd21 : Value}
    {f22 : Addr} {od22 an22 : Option Addr} {sl22 : Array (Option Value)} {oc22 kV22 dc22 pm22 ct22 : Value}
    {cd22 : Value}
    {f23 : Addr} {od23 an23 : Option Addr} {sl23 : Array (Option Value)} {oc23 kV23 dc23 pm23 ct23 : Value}
    {cd23 : Value}
    {f24 : Addr} {od24 an24 : Option Addr} {sl24 : Array (Option Value)} {oc24 kV24 dc24 pm24 ct24 : Value}
    {cd24 : Value}
    {f25 : Addr} {od25 an25 : Option Addr} {sl25 : Array (Option Value)} {oc25 kV25 dc25 pm25 ct25 : Value}
    {cd25 : Value}
    {f26 : Addr} {od26 an26 : Option Addr} {sl26 : Array (Option Value)} {oc26 kV26 dc26 pm26 ct26 : Value}
    {cd26 : Value}
    {f27 : Addr} {od27 an27 : Option Addr} {sl27 : Array (Option Value)} {oc27 kV27 dc27 pm27 ct27 : Value}
    {cd27 : Value}
    {f28 : Addr} {od28 an28 : Option Addr} {sl28 : Array (Option Value)} {oc28 kV28 dc28 pm28 ct28 : Value}
    {cd28 : Value}
    {f29 : Addr} {od29 an29 : Option Addr} {sl29 : Array (Option Value)} {oc29 kV29 dc29 pm29 ct29 : Value}
    {cd29 : Value}
    {f30 : Addr} {od30 an30 : Option Addr} {sl30 : Array (Option Value)} {oc30 kV30 dc30 pm30 ct30 : Value}
    {cd30 : Value}
    {f31 : Addr} {od31 an31 : Option Addr} {sl31 : Array (Option Value)} {oc31 kV31 dc31 pm31 ct31 : Value}
    {cd31 : Value}
    {f32 : Addr} {od32 an32 : Option Addr} {sl32 : Array (Option Value)} {oc32 kV32 dc32 pm32 ct32 : Value}
    {cd32 : Value}
    {f33 : Addr} {od33 an33 : Option Addr} {sl33 : Array (Option Value)} {oc33 kV33 dc33 pm33 ct33 : Value}
    {cd33 : Value}
    {f34 : Addr} {od34 an34 : Option Addr} {sl34 : Array (Option Value)} {oc34 kV34 dc34 pm34 ct34 : Value}
    {cd34 : Value}
    {f35 : Addr} {od35 an35 : Option Addr} {sl35 : Array (Option Value)} {oc35 kV35 dc35 pm35 ct35 : Value}
    {cd35 : Value}
    {f36 : Addr} {od36 an36 : Option Addr} {sl36 : Array (Option Value)} {oc36 kV36 dc36 pm36 ct36 : Value}
    {cd36 : Value}
    {f37 : Addr} {od37 an37 : Option Addr} {sl37 : Array (Option Value)} {oc37 kV37 dc37 pm37 ct37 : Value}
    {cd37 : Value}
    {f38 : Addr} {od38 an38 : Option Addr} {sl38 : Array (Option Value)} {oc38 kV38 dc38 pm38 ct38 : Value}
    {cd38 : Value}
    {f39 : Addr} {od39 an39 : Option Addr} {sl39 : Array (Option Value)} {oc39 kV39 dc39 pm39 ct39 : Value}
    {cd39 : Value}
    {f40 : Addr} {od40 an40 : Option Addr} {sl40 : Array (Option Value)} {oc40 kV40 dc40 pm40 ct40 : Value}
    {cd40 : Value}
    {f41 : Addr} {od41 an41 : Option Addr} {sl41 : Array (Option Value)} {oc41 kV41 dc41 pm41 ct41 : Value}
    {cd41 : Value}
    {f42 : Addr} {od42 an42 : Option Addr} {sl42 : Array (Option Value)} {oc42 kV42 dc42 pm42 ct42 : Value}
    {cdl0 Pa0 : Addr} {el0 : Value} {dl0 : Option Addr} {vl0 : Array Value} {sll0 : Array (Option Value)}
    {f43 : Addr} {od43 an43 : Option Addr} {sl43 : Array (Option Value)} {oc43 kV43 dc43 pm43 ct43 : Value}
    {cdl1 Pa1 : Addr} {el1 : Value} {dl1 : Option Addr} {vl1 : Array Value} {sll1 : Array (Option Value)}
    {f44 : Addr} {od44 an44 : Option Addr} {sl44 : Array (Option Value)} {oc44 kV44 dc44 pm44 ct44 : Value}
    {cdl2 Pa2 : Addr} {el2 : Value} {dl2 : Option Addr} {vl2 : Array Value} {sll2 : Array (Option Value)}
    {t1 : Tok}
    {t2 : Tok}
    {t3 : Tok}
    {p0 : Addr} {n0 : Nat} {w0 : Array (Option Value)}
    {t5 : Tok}
    {t6 : Tok}
    {t7 : Tok}
    {t8 : Tok}
    {t9 : Tok}
    {p4 : Addr} {n4 : Nat} {w4 : Array (Option Value)}
    {t10 : Tok}
    {t11 : Tok}
    {t12 : Tok}
    {t14 : Tok}
    {t15 : Tok}
    {t16 : Tok}
    {t17 : Tok}
    {t18 : Tok}
    {t19 : Tok}
    {t20 : Tok}
    {t21 : Tok}
    {t22 : Tok}
    {t23 : Tok}
    {p13 : Addr} {n13 : Nat}
    {t25 : Tok}
    {t26 : Tok}
    {t27 : Tok}
    {t28 : Tok}
    {t29 : Tok}
    {t30 : Tok}
    {t31 : Tok}
    {t32 : Tok}
    {t33 : Tok}
    {t34 : Tok}
    {t35 : Tok}
    {t36 : Tok}
    {t37 : Tok}
    {t38 : Tok}
    {p24 : Addr} {n24 : Nat} {w24 : Array (Option Value)}
    {C0 : Addr}
    {fB cdB ccB NB : Addr} {nmB qB cnB cqB : Str} {pB : Arguments} {scB : Scope} {dVB kVB dcB pmB ctB ocB cclB clB : Value} {anB odB cddB cldB ddB : Option Addr} {oslB ccsB cslB : Array (Option Value)} {b0 b1 b2 b3 b4 b5 b6 b7 b8 b9 : Pos} {arB : Arg} {vsB : Array Value} {fileB : Str} {tfB : Tok} {cdDB : ClassData} {bsB bmB subB : List Value} {snB : List Str} {abB : Bool} {colB : Option Bool} {ks0 ks1 ks2 ks3 ks5 : Option Value}
    {C1 : Addr}
    {C2 : Addr}
    {C3 : Addr}
    {C4 : Addr}
    {C5 : Addr}
    {C6 : Addr}
    {C7 : Addr}
    {C8 : Addr}
    {fI : Addr} {odI anI : Option Addr} {slI : Array (Option Value)} {ocI kVI dcI pmI ctI cdI : Value}
    (a0 : PySem.W.nsIn K mainGlobals "_law_taken" = some (some (.ref f0)))
    (l0 : K.lookup f0 = some ⟨oc0, od0, .func (PySem.W.fnOf "_law_taken" "_law_taken" (defArgs s__law_taken) (defBody s__law_taken) (defScope s__law_taken) .none kV0 dc0 pm0 an0 cd0 ct0), sl0⟩)
    (c0 : PySem.W.codeIn K cd0 "_law_taken" = true)
    (k0 : PySem.W.keepIn K (.ref f0) = true)
    (a1 : PySem.W.nsIn K mainGlobals "is_answer" = some (some (.ref f1)))
    (l1 : K.lookup f1 = some ⟨oc1, od1, .func (PySem.W.fnOf "is_answer" "is_answer" (defArgs s_is_answer) (defBody s_is_answer) (defScope s_is_answer) .none kV1 dc1 pm1 an1 cd1 ct1), sl1⟩)
    (c1 : PySem.W.codeIn K cd1 "is_answer" = true)
    (k1 : PySem.W.keepIn K (.ref f1) = true)
    (a2 : PySem.W.nsIn K mainGlobals "leaves" = some (some (.ref f2)))
    (l2 : K.lookup f2 = some ⟨oc2, od2, .func (PySem.W.fnOf "leaves" "leaves" (defArgs s_leaves) (defBody s_leaves) (defScope s_leaves) .none kV2 dc2 pm2 an2 cd2 ct2), sl2⟩)
    (c2 : PySem.W.codeIn K cd2 "leaves" = true)
    (k2 : PySem.W.keepIn K (.ref f2) = true)
    (a3 : PySem.W.nsIn K mainGlobals "is_formula" = some (some (.ref f3)))
    (l3 : K.lookup f3 = some ⟨oc3, od3, .func (PySem.W.fnOf "is_formula" "is_formula" (defArgs s_is_formula) (defBody s_is_formula) (defScope s_is_formula) .none kV3 dc3 pm3 an3 cd3 ct3), sl3⟩)
    (c3 : PySem.W.codeIn K cd3 "is_formula" = true)
    (k3 : PySem.W.keepIn K (.ref f3) = true)
    (a4 : PySem.W.nsIn K mainGlobals "leaves_of" = some (some (.ref f4)))
    (l4 : K.lookup f4 = some ⟨oc4, od4, .func (PySem.W.fnOf "leaves_of" "leaves_of" (defArgs s_leaves_of) (defBody s_leaves_of) (defScope s_leaves_of) .none kV4 dc4 pm4 an4 cd4 ct4), sl4⟩)
    (c4 : PySem.W.codeIn K cd4 "leaves_of" = true)
    (k4 : PySem.W.keepIn K (.ref f4) = true)
    (a5 : PySem.W.nsIn K mainGlobals "letters_in" = some (some (.ref f5)))
    (l5 : K.lookup f5 = some ⟨oc5, od5, .func (PySem.W.fnOf "letters_in" "letters_in" (defArgs s_letters_in) (defBody s_letters_in) (defScope s_letters_in) .none kV5 dc5 pm5 an5 cd5 ct5), sl5⟩)
    (c5 : PySem.W.codeIn K cd5 "letters_in" = true)
    (k5 : PySem.W.keepIn K (.ref f5) = true)
    (a6 : PySem.W.nsIn K mainGlobals "_law_pick" = some (some (.ref f6)))
    (l6 : K.lookup f6 = some ⟨oc6, od6, .func (PySem.W.fnOf "_law_pick" "_law_pick" (defArgs s__law_pick) (defBody s__law_pick) (defScope s__law_pick) .none kV6 dc6 pm6 an6 cd6 ct6), sl6⟩)
    (c6 : PySem.W.codeIn K cd6 "_law_pick" = true)
    (k6 : PySem.W.keepIn K (.ref f6) = true)
    (a7 : PySem.W.nsIn K mainGlobals "_law_told" = some (some (.ref f7)))
    (l7 : K.lookup f7 = some ⟨oc7, od7, .func (PySem.W.fnOf "_law_told" "_law_told" (defArgs s__law_told) (defBody s__law_told) (defScope s__law_told) .none kV7 dc7 pm7 an7 cd7 ct7), sl7⟩)
    (c7 : PySem.W.codeIn K cd7 "_law_told" = true)
    (k7 : PySem.W.keepIn K (.ref f7) = true)
    (a8 : PySem.W.nsIn K mainGlobals "_law_logic" = some (some (.ref f8)))
    (l8 : K.lookup f8 = some ⟨oc8, od8, .func (PySem.W.fnOf "_law_logic" "_law_logic" (defArgs s__law_logic) (defBody s__law_logic) (defScope s__law_logic) .none kV8 dc8 pm8 an8 cd8 ct8), sl8⟩)
    (c8 : PySem.W.codeIn K cd8 "_law_logic" = true)
    (k8 : PySem.W.keepIn K (.ref f8) = true)
    (a9 : PySem.W.nsIn K mainGlobals "need_answers" = some (some (.ref f9)))
    (l9 : K.lookup f9 = some ⟨oc9, od9, .func (PySem.W.fnOf "need_answers" "need_answers" (defArgs s_need_answers) (defBody s_need_answers) (defScope s_need_answers) .none kV9 dc9 pm9 an9 cd9 ct9), sl9⟩)
    (c9 : PySem.W.codeIn K cd9 "need_answers" = true)
    (k9 : PySem.W.keepIn K (.ref f9) = true)
    (a10 : PySem.W.nsIn K mainGlobals "need_logic" = some (some (.ref f10)))
    (l10 : K.lookup f10 = some ⟨oc10, od10, .func (PySem.W.fnOf "need_logic" "need_logic" (defArgs s_need_logic) (defBody s_need_logic) (defScope s_need_logic) .none kV10 dc10 pm10 an10 cd10 ct10), sl10⟩)
    (c10 : PySem.W.codeIn K cd10 "need_logic" = true)
    (k10 : PySem.W.keepIn K (.ref f10) = true)
    (a11 : PySem.W.nsIn K mainGlobals "conj" = some (some (.ref f11)))
    (l11 : K.lookup f11 = some ⟨oc11, od11, .func (PySem.W.fnOf "conj" "conj" (defArgs s_conj) (defBody s_conj) (defScope s_conj) .none kV11 dc11 pm11 an11 cd11 ct11), sl11⟩)
    (c11 : PySem.W.codeIn K cd11 "conj" = true)
    (k11 : PySem.W.keepIn K (.ref f11) = true)
    (a12 : PySem.W.nsIn K mainGlobals "disj" = some (some (.ref f12)))
    (l12 : K.lookup f12 = some ⟨oc12, od12, .func (PySem.W.fnOf "disj" "disj" (defArgs s_disj) (defBody s_disj) (defScope s_disj) .none kV12 dc12 pm12 an12 cd12 ct12), sl12⟩)
    (c12 : PySem.W.codeIn K cd12 "disj" = true)
    (k12 : PySem.W.keepIn K (.ref f12) = true)
    (a13 : PySem.W.nsIn K mainGlobals "neg" = some (some (.ref f13)))
    (l13 : K.lookup f13 = some ⟨oc13, od13, .func (PySem.W.fnOf "neg" "neg" (defArgs s_neg) (defBody s_neg) (defScope s_neg) .none kV13 dc13 pm13 an13 cd13 ct13), sl13⟩)
    (c13 : PySem.W.codeIn K cd13 "neg" = true)
    (k13 : PySem.W.keepIn K (.ref f13) = true)
    (a14 : PySem.W.nsIn K mainGlobals "told_logic" = some (some (.ref f14)))
    (l14 : K.lookup f14 = some ⟨oc14, od14, .func (PySem.W.fnOf "told_logic" "told_logic" (defArgs s_told_logic) (defBody s_told_logic) (defScope s_told_logic) .none kV14 dc14 pm14 an14 cd14 ct14), sl14⟩)
    (c14 : PySem.W.codeIn K cd14 "told_logic" = true)
    (k14 : PySem.W.keepIn K (.ref f14) = true)
    (a15 : PySem.W.nsIn K mainGlobals "need_promise" = some (some (.ref f15)))
    (l15 : K.lookup f15 = some ⟨oc15, od15, .func (PySem.W.fnOf "need_promise" "need_promise" (defArgs s_need_promise) (defBody s_need_promise) (defScope s_need_promise) .none kV15 dc15 pm15 an15 cd15 ct15), sl15⟩)
    (c15 : PySem.W.codeIn K cd15 "need_promise" = true)
    (k15 : PySem.W.keepIn K (.ref f15) = true)
    (a16 : PySem.W.nsIn K mainGlobals "need_promises" = some (some (.ref f16)))
    (l16 : K.lookup f16 = some ⟨oc16, od16, .func (PySem.W.fnOf "need_promises" "need_promises" (defArgs s_need_promises) (defBody s_need_promises) (defScope s_need_promises) .none kV16 dc16 pm16 an16 cd16 ct16), sl16⟩)
    (c16 : PySem.W.codeIn K cd16 "need_promises" = true)
    (k16 : PySem.W.keepIn K (.ref f16) = true)
    (a17 : PySem.W.nsIn K mainGlobals "keeps" = some (some (.ref f17)))
    (l17 : K.lookup f17 = some ⟨oc17, od17, .func (PySem.W.fnOf "keeps" "keeps" (defArgs s_keeps) (defBody s_keeps) (defScope s_keeps) .none kV17 dc17 pm17 an17 cd17 ct17), sl17⟩)
    (c17 : PySem.W.codeIn K cd17 "keeps" = true)
    (k17 : PySem.W.keepIn K (.ref f17) = true)
    (a18 : PySem.W.nsIn K mainGlobals "counterexample" = some (some (.ref f18)))
    (l18 : K.lookup f18 = some ⟨oc18, od18, .func (PySem.W.fnOf "counterexample" "counterexample" (defArgs s_counterexample) (defBody s_counterexample) (defScope s_counterexample) .none kV18 dc18 pm18 an18 cd18 ct18), sl18⟩)
    (c18 : PySem.W.codeIn K cd18 "counterexample" = true)
    (k18 : PySem.W.keepIn K (.ref f18) = true)
    (a19 : PySem.W.nsIn K mainGlobals "profile" = some (some (.ref f19)))
    (l19 : K.lookup f19 = some ⟨oc19, od19, .func (PySem.W.fnOf "profile" "profile" (defArgs s_profile) (defBody s_profile) (defScope s_profile) .none kV19 dc19 pm19 an19 cd19 ct19), sl19⟩)
    (c19 : PySem.W.codeIn K cd19 "profile" = true)
    (k19 : PySem.W.keepIn K (.ref f19) = true)
    (a20 : PySem.W.nsIn K mainGlobals "need_formula" = some (some (.ref f20)))
    (l20 : K.lookup f20 = some ⟨oc20, od20, .func (PySem.W.fnOf "need_formula" "need_formula" (defArgs s_need_formula) (defBody s_need_formula) (defScope s_need_formula) .none kV20 dc20 pm20 an20 cd20 ct20), sl20⟩)
    (c20 : PySem.W.codeIn K cd20 "need_formula" = true)
    (k20 : PySem.W.keepIn K (.ref f20) = true)
    (a21 : PySem.W.nsIn K mainGlobals "letters_of" = some (some (.ref f21)))
    (l21 : K.lookup f21 = some ⟨oc21, od21, .func (PySem.W.fnOf "letters_of" "letters_of" (defArgs s_letters_of) (defBody s_letters_of) (defScope s_letters_of) .none kV21 dc21 pm21 an21 cd21 ct21), sl21⟩)
    (c21 : PySem.W.codeIn K cd21 "letters_of" = true)
    (k21 : PySem.W.keepIn K (.ref f21) = true)
    (a22 : PySem.W.nsIn K mainGlobals "need_row" = some (some (.ref f22)))
    (l22 : K.lookup f22 = some ⟨oc22, od22, .func (PySem.W.fnOf "need_row" "need_row" (defArgs s_need_row) (defBody s_need_row) (defScope s_need_row) .none kV22 dc22 pm22 an22 cd22 ct22), sl22⟩)
    (c22 : PySem.W.codeIn K cd22 "need_row" = true)
    (k22 : PySem.W.keepIn K (.ref f22) = true)
    (a23 : PySem.W.nsIn K mainGlobals "value" = some (some (.ref f23)))
    (l23 : K.lookup f23 = some ⟨oc23, od23, .func (PySem.W.fnOf "value" "value" (defArgs s_value) (defBody s_value) (defScope s_value) .none kV23 dc23 pm23 an23 cd23 ct23), sl23⟩)
    (c23 : PySem.W.codeIn K cd23 "value" = true)
    (k23 : PySem.W.keepIn K (.ref f23) = true)
    (a24 : PySem.W.nsIn K mainGlobals "table" = some (some (.ref f24)))
    (l24 : K.lookup f24 = some ⟨oc24, od24, .func (PySem.W.fnOf "table" "table" (defArgs s_table) (defBody s_table) (defScope s_table) .none kV24 dc24 pm24 an24 cd24 ct24), sl24⟩)
    (c24 : PySem.W.codeIn K cd24 "table" = true)
    (k24 : PySem.W.keepIn K (.ref f24) = true)
    (a25 : PySem.W.nsIn K mainGlobals "is_sure" = some (some (.ref f25)))
    (l25 : K.lookup f25 = some ⟨oc25, od25, .func (PySem.W.fnOf "is_sure" "is_sure" (defArgs s_is_sure) (defBody s_is_sure) (defScope s_is_sure) .none kV25 dc25 pm25 an25 cd25 ct25), sl25⟩)
    (c25 : PySem.W.codeIn K cd25 "is_sure" = true)
    (k25 : PySem.W.keepIn K (.ref f25) = true)
    (a26 : PySem.W.nsIn K mainGlobals "parting" = some (some (.ref f26)))
    (l26 : K.lookup f26 = some ⟨oc26, od26, .func (PySem.W.fnOf "parting" "parting" (defArgs s_parting) (defBody s_parting) (defScope s_parting) .none kV26 dc26 pm26 an26 cd26 ct26), sl26⟩)
    (c26 : PySem.W.codeIn K cd26 "parting" = true)
    (k26 : PySem.W.keepIn K (.ref f26) = true)
    (a27 : PySem.W.nsIn K mainGlobals "alike" = some (some (.ref f27)))
    (l27 : K.lookup f27 = some ⟨oc27, od27, .func (PySem.W.fnOf "alike" "alike" (defArgs s_alike) (defBody s_alike) (defScope s_alike) .none kV27 dc27 pm27 an27 cd27 ct27), sl27⟩)
    (c27 : PySem.W.codeIn K cd27 "alike" = true)
    (k27 : PySem.W.keepIn K (.ref f27) = true)
    (a28 : PySem.W.nsIn K mainGlobals "need_known" = some (some (.ref f28)))
    (l28 : K.lookup f28 = some ⟨oc28, od28, .func (PySem.W.fnOf "need_known" "need_known" (defArgs s_need_known) (defBody s_need_known) (defScope s_need_known) .none kV28 dc28 pm28 an28 cd28 ct28), sl28⟩)
    (c28 : PySem.W.codeIn K cd28 "need_known" = true)
    (k28 : PySem.W.keepIn K (.ref f28) = true)
    (a29 : PySem.W.nsIn K mainGlobals "filled" = some (some (.ref f29)))
    (l29 : K.lookup f29 = some ⟨oc29, od29, .func (PySem.W.fnOf "filled" "filled" (defArgs s_filled) (defBody s_filled) (defScope s_filled) .none kV29 dc29 pm29 an29 cd29 ct29), sl29⟩)
    (c29 : PySem.W.codeIn K cd29 "filled" = true)
    (k29 : PySem.W.keepIn K (.ref f29) = true)
    (a30 : PySem.W.nsIn K mainGlobals "rows_where" = some (some (.ref f30)))
    (l30 : K.lookup f30 = some ⟨oc30, od30, .func (PySem.W.fnOf "rows_where" "rows_where" (defArgs s_rows_where) (defBody s_rows_where) (defScope s_rows_where) .none kV30 dc30 pm30 an30 cd30 ct30), sl30⟩)
    (c30 : PySem.W.codeIn K cd30 "rows_where" = true)
    (k30 : PySem.W.keepIn K (.ref f30) = true)
    (a31 : PySem.W.nsIn K mainGlobals "gaps" = some (some (.ref f31)))
    (l31 : K.lookup f31 = some ⟨oc31, od31, .func (PySem.W.fnOf "gaps" "gaps" (defArgs s_gaps) (defBody s_gaps) (defScope s_gaps) .none kV31 dc31 pm31 an31 cd31 ct31), sl31⟩)
    (c31 : PySem.W.codeIn K cd31 "gaps" = true)
    (k31 : PySem.W.keepIn K (.ref f31) = true)
    (a32 : PySem.W.nsIn K mainGlobals "slips" = some (some (.ref f32)))
    (l32 : K.lookup f32 = some ⟨oc32, od32, .func (PySem.W.fnOf "slips" "slips" (defArgs s_slips) (defBody s_slips) (defScope s_slips) .none kV32 dc32 pm32 an32 cd32 ct32), sl32⟩)
    (c32 : PySem.W.codeIn K cd32 "slips" = true)
    (k32 : PySem.W.keepIn K (.ref f32) = true)
    (a33 : PySem.W.nsIn K mainGlobals "is_once" = some (some (.ref f33)))
    (l33 : K.lookup f33 = some ⟨oc33, od33, .func (PySem.W.fnOf "is_once" "is_once" (defArgs s_is_once) (defBody s_is_once) (defScope s_is_once) .none kV33 dc33 pm33 an33 cd33 ct33), sl33⟩)
    (c33 : PySem.W.codeIn K cd33 "is_once" = true)
    (k33 : PySem.W.keepIn K (.ref f33) = true)
    (a34 : PySem.W.nsIn K mainGlobals "write_logic" = some (some (.ref f34)))
    (l34 : K.lookup f34 = some ⟨oc34, od34, .func (PySem.W.fnOf "write_logic" "write_logic" (defArgs s_write_logic) (defBody s_write_logic) (defScope s_write_logic) .none kV34 dc34 pm34 an34 cd34 ct34), sl34⟩)
    (c34 : PySem.W.codeIn K cd34 "write_logic" = true)
    (k34 : PySem.W.keepIn K (.ref f34) = true)
    (a35 : PySem.W.nsIn K mainGlobals "write_formula" = some (some (.ref f35)))
    (l35 : K.lookup f35 = some ⟨oc35, od35, .func (PySem.W.fnOf "write_formula" "write_formula" (defArgs s_write_formula) (defBody s_write_formula) (defScope s_write_formula) .none kV35 dc35 pm35 an35 cd35 ct35), sl35⟩)
    (c35 : PySem.W.codeIn K cd35 "write_formula" = true)
    (k35 : PySem.W.keepIn K (.ref f35) = true)
    (a36 : PySem.W.nsIn K mainGlobals "can_hold" = some (some (.ref f36)))
    (l36 : K.lookup f36 = some ⟨oc36, od36, .func (PySem.W.fnOf "can_hold" "can_hold" (defArgs s_can_hold) (defBody s_can_hold) (defScope s_can_hold) .none kV36 dc36 pm36 an36 cd36 ct36), sl36⟩)
    (c36 : PySem.W.codeIn K cd36 "can_hold" = true)
    (k36 : PySem.W.keepIn K (.ref f36) = true)
    (a37 : PySem.W.nsIn K mainGlobals "clashes" = some (some (.ref f37)))
    (l37 : K.lookup f37 = some ⟨oc37, od37, .func (PySem.W.fnOf "clashes" "clashes" (defArgs s_clashes) (defBody s_clashes) (defScope s_clashes) .none kV37 dc37 pm37 an37 cd37 ct37), sl37⟩)
    (c37 : PySem.W.codeIn K cd37 "clashes" = true)
    (k37 : PySem.W.keepIn K (.ref f37) = true)
    (a38 : PySem.W.nsIn K mainGlobals "can_add" = some (some (.ref f38)))
    (l38 : K.lookup f38 = some ⟨oc38, od38, .func (PySem.W.fnOf "can_add" "can_add" (defArgs s_can_add) (defBody s_can_add) (defScope s_can_add) .none kV38 dc38 pm38 an38 cd38 ct38), sl38⟩)
    (c38 : PySem.W.codeIn K cd38 "can_add" = true)
    (k38 : PySem.W.keepIn K (.ref f38) = true)
    (a39 : PySem.W.nsIn K mainGlobals "count_logics" = some (some (.ref f39)))
    (l39 : K.lookup f39 = some ⟨oc39, od39, .func (PySem.W.fnOf "count_logics" "count_logics" (defArgs s_count_logics) (defBody s_count_logics) (defScope s_count_logics) .none kV39 dc39 pm39 an39 cd39 ct39), sl39⟩)
    (c39 : PySem.W.codeIn K cd39 "count_logics" = true)
    (k39 : PySem.W.keepIn K (.ref f39) = true)
    (a40 : PySem.W.nsIn K mainGlobals "least_logic" = some (some (.ref f40)))
    (l40 : K.lookup f40 = some ⟨oc40, od40, .func (PySem.W.fnOf "least_logic" "least_logic" (defArgs s_least_logic) (defBody s_least_logic) (defScope s_least_logic) .none kV40 dc40 pm40 an40 cd40 ct40), sl40⟩)
    (c40 : PySem.W.codeIn K cd40 "least_logic" = true)
    (k40 : PySem.W.keepIn K (.ref f40) = true)
    (a41 : PySem.W.nsIn K mainGlobals "_law_wrong" = some (some (.ref f41)))
    (l41 : K.lookup f41 = some ⟨oc41, od41, .func (PySem.W.fnOf "_law_wrong" "_law_wrong" (defArgs s__law_wrong) (defBody s__law_wrong) (defScope s__law_wrong) .none kV41 dc41 pm41 an41 cd41 ct41), sl41⟩)
    (c41 : PySem.W.codeIn K cd41 "_law_wrong" = true)
    (k41 : PySem.W.keepIn K (.ref f41) = true)
    (a42 : PySem.W.nsIn K mainGlobals "_law_logic_works" = some (some (.ref f42)))
    (l42 : K.lookup f42 = some ⟨oc42, od42, .func (PySem.W.fnOf "_law_logic_works" "_law_logic_works" (defArgs s__law_logic_works) (defBody s__law_logic_works) (defScope s__law_logic_works) .none kV42 dc42 pm42 an42 (.ref cdl0) ct42), sl42⟩)
    (c42 : PySem.W.codeIn K (.ref cdl0) "_law_logic_works" = true)
    (k42 : PySem.W.keepIn K (.ref f42) = true)
    (lc0 : K.lookup cdl0 = some ⟨el0, dl0, .fields vl0, sll0⟩)
    (lp0 : vl0[11]? = some (.ref Pa0))
    (lh0 : PySem.W.codeHdIn K cdl0 Pa0 = true)
    (ln0 : K.lookup Pa0 = none)
    (lg0 : mainGlobals ≠ Pa0)
    (lr0 : ((recsOf q).any fun e => e.name == ("_law_logic_works" : Str)) = true)
    (a43 : PySem.W.nsIn K mainGlobals "_law_formula_works" = some (some (.ref f43)))
    (l43 : K.lookup f43 = some ⟨oc43, od43, .func (PySem.W.fnOf "_law_formula_works" "_law_formula_works" (defArgs s__law_formula_works) (defBody s__law_formula_works) (defScope s__law_formula_works) .none kV43 dc43 pm43 an43 (.ref cdl1) ct43), sl43⟩)
    (c43 : PySem.W.codeIn K (.ref cdl1) "_law_formula_works" = true)
    (k43 : PySem.W.keepIn K (.ref f43) = true)
    (lc1 : K.lookup cdl1 = some ⟨el1, dl1, .fields vl1, sll1⟩)
    (lp1 : vl1[11]? = some (.ref Pa1))
    (lh1 : PySem.W.codeHdIn K cdl1 Pa1 = true)
    (ln1 : K.lookup Pa1 = none)
    (lg1 : mainGlobals ≠ Pa1)
    (lr1 : ((recsOf q).any fun e => e.name == ("_law_formula_works" : Str)) = true)
    (a44 : PySem.W.nsIn K mainGlobals "law" = some (some (.ref f44)))
    (l44 : K.lookup f44 = some ⟨oc44, od44, .func (PySem.W.fnOf "law" "law" (defArgs s_law) (defBody s_law) (defScope s_law) .none kV44 dc44 pm44 an44 (.ref cdl2) ct44), sl44⟩)
    (c44 : PySem.W.codeIn K (.ref cdl2) "law" = true)
    (k44 : PySem.W.keepIn K (.ref f44) = true)
    (lc2 : K.lookup cdl2 = some ⟨el2, dl2, .fields vl2, sll2⟩)
    (lp2 : vl2[11]? = some (.ref Pa2))
    (lh2 : PySem.W.codeHdIn K cdl2 Pa2 = true)
    (ln2 : K.lookup Pa2 = none)
    (lg2 : mainGlobals ≠ Pa2)
    (lr2 : ((recsOf q).any fun e => e.name == ("law" : Str)) = true)
    (lq20 : Pa2 ≠ Pa0)
    (lq21 : Pa2 ≠ Pa1)
    (lq01 : Pa0 ≠ Pa1)
    (z_all : PySem.W.nsIn K mainGlobals "all" = some none)
    (z_any : PySem.W.nsIn K mainGlobals "any" = some none)
    (z_dict : PySem.W.nsIn K mainGlobals "dict" = some none)
    (z_int : PySem.W.nsIn K mainGlobals "int" = some none)
    (z_isinstance : PySem.W.nsIn K mainGlobals "isinstance" = some none)
    (z_len : PySem.W.nsIn K mainGlobals "len" = some none)
    (z_list : PySem.W.nsIn K mainGlobals "list" = some none)
    (z_range : PySem.W.nsIn K mainGlobals "range" = some none)
    (z_set : PySem.W.nsIn K mainGlobals "set" = some none)
    (z_sorted : PySem.W.nsIn K mainGlobals "sorted" = some none)
    (z_str : PySem.W.nsIn K mainGlobals "str" = some none)
    (z_sum : PySem.W.nsIn K mainGlobals "sum" = some none)
    (z_tuple : PySem.W.nsIn K mainGlobals "tuple" = some none)
    (z_zip : PySem.W.nsIn K mainGlobals "zip" = some none)
    (g_ANSWERS' : PySem.W.nsIn K mainGlobals "ANSWERS" = some (some (.ref p0)))
    (q0 : K.lookup p0 = some ⟨.type "tuple", none, .seq [.str (Str.ofString "f") t1, .str (Str.ofString "t") t2, .str (Str.ofString "u") t3].toArray n0, w0⟩)
    (g_LETTERS' : PySem.W.nsIn K mainGlobals "LETTERS" = some (some (.ref p4)))
    (q4 : K.lookup p4 = some ⟨.type "tuple", none, .seq [.str (Str.ofString "a") t5, .str (Str.ofString "b") t6, .str (Str.ofString "c") t7, .str (Str.ofString "d") t8, .str (Str.ofString "e") t9].toArray n4, w4⟩)
    (g_MOST_LEAVES' : PySem.W.nsIn K mainGlobals "MOST_LEAVES" = some (some (.int 20 t10)))
    (g_MOST_DEEP' : PySem.W.nsIn K mainGlobals "MOST_DEEP" = some (some (.int 8 t11)))
    (g_SIZE' : PySem.W.nsIn K mainGlobals "SIZE" = some (some (.int 11 t12)))
    (g_TOLD' : PySem.W.nsIn K mainGlobals "TOLD" = some (some (.ref p13)))
    (q13 : K.lookup p13 = some ⟨.type "dict", none, .dict [{ hash := PyData.keyHash w.params (Str.ofString "as false"), key := .str (Str.ofString "as false") t14, val := .str (Str.ofString "fffffffttft") t15 }, { hash := PyData.keyHash w.params (Str.ofString "as true"), key := .str (Str.ofString "as true") t16, val := .str (Str.ofString "ffttttttttf") t17 }, { hash := PyData.keyHash w.params (Str.ofString "lazy"), key := .str (Str.ofString "lazy") t18, val := .str (Str.ofString "fuuuuuutuuu") t19 }, { hash := PyData.keyHash w.params (Str.ofString "strong"), key := .str (Str.ofString "strong") t20, val := .str (Str.ofString "ffuuuuuttuu") t21 }, { hash := PyData.keyHash w.params (Str.ofString "weak"), key := .str (Str.ofString "weak") t22, val := .str (Str.ofString "uuuuuuuuuuu") t23 }].toArray n13, #[]⟩)
    (s13 : (p13 == sysModules) = false)
    (g_PROMISES' : PySem.W.nsIn K mainGlobals "PROMISES" = some (some (.ref p24)))
    (q24 : K.lookup p24 = some ⟨.type "tuple", none, .seq [.str (Str.ofString "absorb") t25, .str (Str.ofString "apart") t26, .str (Str.ofString "growing") t27, .str (Str.ofString "middle") t28, .str (Str.ofString "mirror") t29, .str (Str.ofString "open") t30, .str (Str.ofString "order") t31, .str (Str.ofString "parts") t32, .str (Str.ofString "repeat") t33, .str (Str.ofString "spread") t34, .str (Str.ofString "told") t35, .str (Str.ofString "turn") t36, .str (Str.ofString "units") t37, .str (Str.ofString "zeros") t38].toArray n24, w24⟩)
    (ca0 : PySem.W.nsIn K mainGlobals "BadLogic" = some (some (.ref C0)))
    (bl0 : K.lookup C0 = some (excClassObj cnB cqB C0 NB bsB bmB true snB subB abB colB ddB ks0 ks1 ks2 ks3 ks5 "ValueError.__new__"))
    (bl1 : PySem.HandSPX.refsVE bmB = true)
    (bl2 : PySem.W.findIn K (.ref C0) "__setattr__" = some (some (.builtin "object.__setattr__")))
    (bl3 : PySem.W.subIn K (.ref C0) (.type "BaseException") = some true)
    (bl4 : PySem.W.typeIn K (.ref C0) = some (.type "type"))
    (bl5 : PySem.W.keepIn K (.ref C0) = true)
    (bl6 : PySem.W.findIn K (.ref C0) "index" = some none)
    (bl7 : PySem.W.findIn K (.ref C0) "__init__" = some (some (.ref fB)))
    (bl8 : PySem.W.typeIn K (.ref fB) = some (.type "function"))
    (bl9 : K.lookup fB = some ⟨ocB, odB, .func (PySem.W.ksFn nmB qB pB (blBody b0 b1 b2 b3 b4 b5 b6 b7 b8 b9) scB dVB kVB dcB pmB anB (.ref cdB) ctB ccB), oslB⟩)
    (bm0 : PySem.W.codeIn K (.ref cdB) qB = true)
    (bm1 : (b2.endLine == b4.line) = true)
    (bm2 : (pB.posonlyargs ++ pB.args).head? = some arB)
    (bm3 : arB.arg = ("self" : Str))
    (bm4 : K.lookup cdB = some ⟨cclB, cddB, .fields vsB, ccsB⟩)
    (bm5 : vsB[2]? = some (.str fileB tfB))
    (bm6 : ((l.prog.main.file : Str) == fileB) = true)
    (bm7 : K.lookup ccB = some ⟨clB, cldB, .cell (some (.ref C0)), cslB⟩)
    (bm8 : PySem.W.clsIn K C0 = some cdDB)
    (bm9 : PySem.W.mroIn K C0 (.ref C0) = some true)
    (bn0 : PySem.W.nsIn K mainGlobals "super" = some none)
    (bn1 : PySem.W.nsIn K cStatics "thirdparty.any" = some none)
    (bn2 : PySem.W.ks_superIn K C0 C0 "__init__" = some (some (.builtin "ValueError.__init__")))
    (bn3 : PySem.W.subIn K (.ref C0) (.type "ValueError") = some true)
    (bn4 : (l.prog.main.scope.names.lookup ("super" : Str)).isSome = false)
    (bn5 : scB.names.lookup ("super" : Str) = some .globalImplicit)
    (bn6 : scB.names.lookup ("__class__" : Str) = some .free)
    (bn7 : scB.names.lookup ("self" : Str) = some .local)
    (bn8 : scB.names.lookup ("index" : Str) = some .local)
    (bn9 : ∀ x ∈ scB.names, x.2 ≠ .cell)
    (bo0 : scB.isCoroutine = false)
    (bo1 : scB.isGenerator = false)
    (bo2 : scB.kind = .function)
    (bo3 : ∀ a b : Value, bindArgs (PySem.W.ksFn nmB qB pB (blBody b0 b1 b2 b3 b4 b5 b6 b7 b8 b9) scB dVB kVB dcB pmB anB (.ref cdB) ctB ccB) ⟨[a, b], []⟩ = pure [(("self" : Str), a), (("index" : Str), b)])
    (ca1 : PySem.W.nsIn K mainGlobals "BadAnswer" = some (some (.ref C1)))
    (cx1 : PySem.W.excIn K C1 [.type "ValueError", .type "Exception", .type "BaseException", .type "object"] "ValueError.__new__" = true)
    (ck1 : PySem.W.keepIn K (.ref C1) = true)
    (cs1 : PySem.W.subIn K (.ref C1) (.type "BaseException") = some true)
    (ct_1 : PySem.W.typeIn K (.ref C1) = some (.type "type"))
    (ca2 : PySem.W.nsIn K mainGlobals "BadName" = some (some (.ref C2)))
    (cx2 : PySem.W.excIn K C2 [.type "ValueError", .type "Exception", .type "BaseException", .type "object"] "ValueError.__new__" = true)
    (ck2 : PySem.W.keepIn K (.ref C2) = true)
    (cs2 : PySem.W.subIn K (.ref C2) (.type "BaseException") = some true)
    (ct_2 : PySem.W.typeIn K (.ref C2) = some (.type "type"))
    (ca3 : PySem.W.nsIn K mainGlobals "BadPromise" = some (some (.ref C3)))
    (cx3 : PySem.W.excIn K C3 [.type "ValueError", .type "Exception", .type "BaseException", .type "object"] "ValueError.__new__" = true)
    (ck3 : PySem.W.keepIn K (.ref C3) = true)
    (cs3 : PySem.W.subIn K (.ref C3) (.type "BaseException") = some true)
    (ct_3 : PySem.W.typeIn K (.ref C3) = some (.type "type"))
    (ca4 : PySem.W.nsIn K mainGlobals "BadPromises" = some (some (.ref C4)))
    (cx4 : PySem.W.excIn K C4 [.type "ValueError", .type "Exception", .type "BaseException", .type "object"] "ValueError.__new__" = true)
    (ck4 : PySem.W.keepIn K (.ref C4) = true)
    (cs4 : PySem.W.subIn K (.ref C4) (.type "BaseException") = some true)
    (ct_4 : PySem.W.typeIn K (.ref C4) = some (.type "type"))
    (ca5 : PySem.W.nsIn K mainGlobals "BadFormula" = some (some (.ref C5)))
    (cx5 : PySem.W.excIn K C5 [.type "ValueError", .type "Exception", .type "BaseException", .type "object"] "ValueError.__new__" = true)
    (ck5 : PySem.W.keepIn K (.ref C5) = true)
    (cs5 : PySem.W.subIn K (.ref C5) (.type "BaseException") = some true)
    (ct_5 : PySem.W.typeIn K (.ref C5) = some (.type "type"))
    (ca6 : PySem.W.nsIn K mainGlobals "BadRow" = some (some (.ref C6)))
    (cx6 : PySem.W.excIn K C6 [.type "ValueError", .type "Exception", .type "BaseException", .type "object"] "ValueError.__new__" = true)
    (ck6 : PySem.W.keepIn K (.ref C6) = true)
    (cs6 : PySem.W.subIn K (.ref C6) (.type "BaseException") = some true)
    (ct_6 : PySem.W.typeIn K (.ref C6) = some (.type "type"))
    (ca7 : PySem.W.nsIn K mainGlobals "LogicError" = some (some (.ref C7)))
    (xn_7_0 : PySem.W.exmOne K (.ref C0) (.ref C7) = some true)
    (xn_7_1 : PySem.W.exmOne K (.ref C1) (.ref C7) = some true)
    (xn_7_2 : PySem.W.exmOne K (.ref C2) (.ref C7) = some true)
    (xn_7_3 : PySem.W.exmOne K (.ref C3) (.ref C7) = some true)
    (xn_7_4 : PySem.W.exmOne K (.ref C4) (.ref C7) = some true)
    (xn_7_5 : PySem.W.exmOne K (.ref C5) (.ref C7) = some true)
    (xn_7_6 : PySem.W.exmOne K (.ref C6) (.ref C7) = some true)
    (ec0hg : PySem.W.findIn K (.ref C0) "__getattribute__" = some (some (.builtin "BaseException.__getattribute__")))
    (ec0hk : PySem.W.findIn K (.ref C0) "__getattr__" = some none)
    (ec0hs : PySem.W.subIn K (.ref C0) (.type "BaseException") = some true)
    (ec0hd : PySem.W.hasDictIn K C0 = true)
    (ec0ha : PySem.W.findIn K (.ref C0) "__class__" = some (some (.builtin "object.__class__")))
    (ec0hm : PySem.W.mroIn K C0 (.type "object") = some true)
    (echn : PySem.W.specialIn K (.builtin "object.__class__") "__get__" = some (some (.builtin "getset_descriptor.__get__")))
    (echt : PySem.W.takesIn K (.builtin "object.__class__") = some true)
    (xi_0_0 : PySem.W.kitOne K (.ref C0) (.ref C0) = some true)
    (ec1hg : PySem.W.findIn K (.ref C1) "__getattribute__" = some (some (.builtin "BaseException.__getattribute__")))
    (ec1hk : PySem.W.findIn K (.ref C1) "__getattr__" = some none)
    (ec1hs : PySem.W.subIn K (.ref C1) (.type "BaseException") = some true)
    (ec1hd : PySem.W.hasDictIn K C1 = true)
    (ec1ha : PySem.W.findIn K (.ref C1) "__class__" = some (some (.builtin "object.__class__")))
    (ec1hm : PySem.W.mroIn K C1 (.type "object") = some true)
    (xi_1_0 : PySem.W.kitOne K (.ref C1) (.ref C0) = some false)
    (xi_1_1 : PySem.W.kitOne K (.ref C1) (.ref C1) = some true)
    (xi_1_2 : PySem.W.kitOne K (.ref C1) (.ref C2) = some false)
    (xi_1_3 : PySem.W.kitOne K (.ref C1) (.ref C3) = some false)
    (xi_1_4 : PySem.W.kitOne K (.ref C1) (.ref C4) = some false)
    (xi_1_5 : PySem.W.kitOne K (.ref C1) (.ref C5) = some false)
    (xi_1_6 : PySem.W.kitOne K (.ref C1) (.ref C6) = some false)
    (ec2hg : PySem.W.findIn K (.ref C2) "__getattribute__" = some (some (.builtin "BaseException.__getattribute__")))
    (ec2hk : PySem.W.findIn K (.ref C2) "__getattr__" = some none)
    (ec2hs : PySem.W.subIn K (.ref C2) (.type "BaseException") = some true)
    (ec2hd : PySem.W.hasDictIn K C2 = true)
    (ec2ha : PySem.W.findIn K (.ref C2) "__class__" = some (some (.builtin "object.__class__")))
    (ec2hm : PySem.W.mroIn K C2 (.type "object") = some true)
    (xi_2_0 : PySem.W.kitOne K (.ref C2) (.ref C0) = some false)
    (xi_2_1 : PySem.W.kitOne K (.ref C2) (.ref C1) = some false)
    (xi_2_2 : PySem.W.kitOne K (.ref C2) (.ref C2) = some true)
    (xi_2_3 : PySem.W.kitOne K (.ref C2) (.ref C3) = some false)
    (xi_2_4 : PySem.W.kitOne K (.ref C2) (.ref C4) = some false)
    (xi_2_5 : PySem.W.kitOne K (.ref C2) (.ref C5) = some false)
    (xi_2_6 : PySem.W.kitOne K (.ref C2) (.ref C6) = some false)
    (ec3hg : PySem.W.findIn K (.ref C3) "__getattribute__" = some (some (.builtin "BaseException.__getattribute__")))
    (ec3hk : PySem.W.findIn K (.ref C3) "__getattr__" = some none)
    (ec3hs : PySem.W.subIn K (.ref C3) (.type "BaseException") = some true)
    (ec3hd : PySem.W.hasDictIn K C3 = true)
    (ec3ha : PySem.W.findIn K (.ref C3) "__class__" = some (some (.builtin "object.__class__")))
    (ec3hm : PySem.W.mroIn K C3 (.type "object") = some true)
    (xi_3_0 : PySem.W.kitOne K (.ref C3) (.ref C0) = some false)
    (xi_3_1 : PySem.W.kitOne K (.ref C3) (.ref C1) = some false)
    (xi_3_2 : PySem.W.kitOne K (.ref C3) (.ref C2) = some false)
    (xi_3_3 : PySem.W.kitOne K (.ref C3) (.ref C3) = some true)
    (xi_3_4 : PySem.W.kitOne K (.ref C3) (.ref C4) = some false)
    (xi_3_5 : PySem.W.kitOne K (.ref C3) (.ref C5) = some false)
    (xi_3_6 : PySem.W.kitOne K (.ref C3) (.ref C6) = some false)
    (ec4hg : PySem.W.findIn K (.ref C4) "__getattribute__" = some (some (.builtin "BaseException.__getattribute__")))
    (ec4hk : PySem.W.findIn K (.ref C4) "__getattr__" = some none)
    (ec4hs : PySem.W.subIn K (.ref C4) (.type "BaseException") = some true)
    (ec4hd : PySem.W.hasDictIn K C4 = true)
    (ec4ha : PySem.W.findIn K (.ref C4) "__class__" = some (some (.builtin "object.__class__")))
    (ec4hm : PySem.W.mroIn K C4 (.type "object") = some true)
    (xi_4_0 : PySem.W.kitOne K (.ref C4) (.ref C0) = some false)
    (xi_4_1 : PySem.W.kitOne K (.ref C4) (.ref C1) = some false)
    (xi_4_2 : PySem.W.kitOne K (.ref C4) (.ref C2) = some false)
    (xi_4_3 : PySem.W.kitOne K (.ref C4) (.ref C3) = some false)
    (xi_4_4 : PySem.W.kitOne K (.ref C4) (.ref C4) = some true)
    (xi_4_5 : PySem.W.kitOne K (.ref C4) (.ref C5) = some false)
    (xi_4_6 : PySem.W.kitOne K (.ref C4) (.ref C6) = some false)
    (ec5hg : PySem.W.findIn K (.ref C5) "__getattribute__" = some (some (.builtin "BaseException.__getattribute__")))
    (ec5hk : PySem.W.findIn K (.ref C5) "__getattr__" = some none)
    (ec5hs : PySem.W.subIn K (.ref C5) (.type "BaseException") = some true)
    (ec5hd : PySem.W.hasDictIn K C5 = true)
    (ec5ha : PySem.W.findIn K (.ref C5) "__class__" = some (some (.builtin "object.__class__")))
    (ec5hm : PySem.W.mroIn K C5 (.type "object") = some true)
    (xi_5_0 : PySem.W.kitOne K (.ref C5) (.ref C0) = some false)
    (xi_5_1 : PySem.W.kitOne K (.ref C5) (.ref C1) = some false)
    (xi_5_2 : PySem.W.kitOne K (.ref C5) (.ref C2) = some false)
    (xi_5_3 : PySem.W.kitOne K (.ref C5) (.ref C3) = some false)
    (xi_5_4 : PySem.W.kitOne K (.ref C5) (.ref C4) = some false)
    (xi_5_5 : PySem.W.kitOne K (.ref C5) (.ref C5) = some true)
    (xi_5_6 : PySem.W.kitOne K (.ref C5) (.ref C6) = some false)
    (ec6hg : PySem.W.findIn K (.ref C6) "__getattribute__" = some (some (.builtin "BaseException.__getattribute__")))
    (ec6hk : PySem.W.findIn K (.ref C6) "__getattr__" = some none)
    (ec6hs : PySem.W.subIn K (.ref C6) (.type "BaseException") = some true)
    (ec6hd : PySem.W.hasDictIn K C6 = true)
    (ec6ha : PySem.W.findIn K (.ref C6) "__class__" = some (some (.builtin "object.__class__")))
    (ec6hm : PySem.W.mroIn K C6 (.type "object") = some true)
    (xi_6_0 : PySem.W.kitOne K (.ref C6) (.ref C0) = some false)
    (xi_6_1 : PySem.W.kitOne K (.ref C6) (.ref C1) = some false)
    (xi_6_2 : PySem.W.kitOne K (.ref C6) (.ref C2) = some false)
    (xi_6_3 : PySem.W.kitOne K (.ref C6) (.ref C3) = some false)
    (xi_6_4 : PySem.W.kitOne K (.ref C6) (.ref C4) = some false)
    (xi_6_5 : PySem.W.kitOne K (.ref C6) (.ref C5) = some false)
    (xi_6_6 : PySem.W.kitOne K (.ref C6) (.ref C6) = some true)
    (ca8 : PySem.W.nsIn K mainGlobals "Desk" = some (some (.ref C8)))
    (dk0 : PySem.W.makesIn K C8 = true)
    (dk1 : PySem.W.findIn K (.ref C8) "__init__" = some (some (.ref fI)))
    (dk2 : PySem.W.isFn K (.ref fI) = true)
    (dk3 : PySem.W.keepIn K (.ref C8) = true)
    (dk4 : K.lookup fI = some ⟨ocI, odI, .func (PySem.W.fnOf "__init__" "Desk.__init__" (defArgs s_Desk) (defBody s_Desk) (defScope s_Desk) .none kVI dcI pmI anI cdI ctI), slI⟩)
    (dk5 : PySem.W.codeIn K cdI "Desk.__init__" = true)
    (dk6 : PySem.W.keepIn K (.ref fI) = true) :
    LamX.LawAtS l w K CX0 19 63 "_law_script" mg fa h := by
  have e := hfa.symm.trans (PySem.W.mg_of X G a44)
  cases e
  have F0 := fun_mk (st := s__law_taken) l0 c0 k0
  have D0 : Df K mg "_law_taken" s__law_taken ["_law_row", "_law_many"] := ⟨_, _, F0, PySem.W.mg_of X G a0, F0.binds (ps := ["_law_row", "_law_many"]) fun _ _ _ _ _ _ us hl => match us, hl with | [_, _], _ => rfl⟩
  have F1 := fun_mk (st := s_is_answer) l1 c1 k1
  have D1 : Df K mg "is_answer" s_is_answer ["value"] := ⟨_, _, F1, PySem.W.mg_of X G a1, F1.binds (ps := ["value"]) fun _ _ _ _ _ _ us hl => match us, hl with | [_], _ => rfl⟩
  have F2 := fun_mk (st := s_leaves) l2 c2 k2
  have D2 : Df K mg "leaves" s_leaves ["value", "deep"] := ⟨_, _, F2, PySem.W.mg_of X G a2, F2.binds (ps := ["value", "deep"]) fun _ _ _ _ _ _ us hl => match us, hl with | [_, _], _ => rfl⟩
  have F3 := fun_mk (st := s_is_formula) l3 c3 k3
  have D3 : Df K mg "is_formula" s_is_formula ["value"] := ⟨_, _, F3, PySem.W.mg_of X G a3, F3.binds (ps := ["value"]) fun _ _ _ _ _ _ us hl => match us, hl with | [_], _ => rfl⟩
  have F4 := fun_mk (st := s_leaves_of) l4 c4 k4
  have D4 : Df K mg "leaves_of" s_leaves_of ["formula"] := ⟨_, _, F4, PySem.W.mg_of X G a4, F4.binds (ps := ["formula"]) fun _ _ _ _ _ _ us hl => match us, hl with | [_], _ => rfl⟩
  have F5 := fun_mk (st := s_letters_in) l5 c5 k5
  have D5 : Df K mg "letters_in" s_letters_in ["formula"] := ⟨_, _, F5, PySem.W.mg_of X G a5, F5.binds (ps := ["formula"]) fun _ _ _ _ _ _ us hl => match us, hl with | [_], _ => rfl⟩
  have F6 := fun_mk (st := s__law_pick) l6 c6 k6
  have D6 : Df K mg "_law_pick" s__law_pick ["_law_row", "_law_kinds"] := ⟨_, _, F6, PySem.W.mg_of X G a6, F6.binds (ps := ["_law_row", "_law_kinds"]) fun _ _ _ _ _ _ us hl => match us, hl with | [_, _], _ => rfl⟩
  have F7 := fun_mk (st := s__law_told) l7 c7 k7
  have D7 : Df K mg "_law_told" s__law_told [] := ⟨_, _, F7, PySem.W.mg_of X G a7, F7.binds (ps := []) fun _ _ _ _ _ _ us hl => match us, hl with | [], _ => rfl⟩
  have F8 := fun_mk (st := s__law_logic) l8 c8 k8
  have D8 : Df K mg "_law_logic" s__law_logic ["_law_row"] := ⟨_, _, F8, PySem.W.mg_of X G a8, F8.binds (ps := ["_law_row"]) fun _ _ _ _ _ _ us hl => match us, hl with | [_], _ => rfl⟩
  have F9 := fun_mk (st := s_need_answers) l9 c9 k9
  have D9 : Df K mg "need_answers" s_need_answers ["values"] := ⟨_, _, F9, PySem.W.mg_of X G a9, F9.binds (ps := ["values"]) fun _ _ _ _ _ _ us hl => match us, hl with | [_], _ => rfl⟩
  have F10 := fun_mk (st := s_need_logic) l10 c10 k10
  have D10 : Df K mg "need_logic" s_need_logic ["logic"] := ⟨_, _, F10, PySem.W.mg_of X G a10, F10.binds (ps := ["logic"]) fun _ _ _ _ _ _ us hl => match us, hl with | [_], _ => rfl⟩
  have F11 := fun_mk (st := s_conj) l11 c11 k11
  have D11 : Df K mg "conj" s_conj ["logic", "one", "other"] := ⟨_, _, F11, PySem.W.mg_of X G a11, F11.binds (ps := ["logic", "one", "other"]) fun _ _ _ _ _ _ us hl => match us, hl with | [_, _, _], _ => rfl⟩
  have F12 := fun_mk (st := s_disj) l12 c12 k12
  have D12 : Df K mg "disj" s_disj ["logic", "one", "other"] := ⟨_, _, F12, PySem.W.mg_of X G a12, F12.binds (ps := ["logic", "one", "other"]) fun _ _ _ _ _ _ us hl => match us, hl with | [_, _, _], _ => rfl⟩
  have F13 := fun_mk (st := s_neg) l13 c13 k13
  have D13 : Df K mg "neg" s_neg ["logic", "one"] := ⟨_, _, F13, PySem.W.mg_of X G a13, F13.binds (ps := ["logic", "one"]) fun _ _ _ _ _ _ us hl => match us, hl with | [_, _], _ => rfl⟩
  have F14 := fun_mk (st := s_told_logic) l14 c14 k14
  have D14 : Df K mg "told_logic" s_told_logic ["name"] := ⟨_, _, F14, PySem.W.mg_of X G a14, F14.binds (ps := ["name"]) fun _ _ _ _ _ _ us hl => match us, hl with | [_], _ => rfl⟩
  have F15 := fun_mk (st := s_need_promise) l15 c15 k15
  have D15 : Df K mg "need_promise" s_need_promise ["promise"] := ⟨_, _, F15, PySem.W.mg_of X G a15, F15.binds (ps := ["promise"]) fun _ _ _ _ _ _ us hl => match us, hl with | [_], _ => rfl⟩
  have F16 := fun_mk (st := s_need_promises) l16 c16 k16
  have D16 : Df K mg "need_promises" s_need_promises ["wanted"] := ⟨_, _, F16, PySem.W.mg_of X G a16, F16.binds (ps := ["wanted"]) fun _ _ _ _ _ _ us hl => match us, hl with | [_], _ => rfl⟩
  have F17 := fun_mk (st := s_keeps) l17 c17 k17
  have D17 : Df K mg "keeps" s_keeps ["logic", "promise"] := ⟨_, _, F17, PySem.W.mg_of X G a17, F17.binds (ps := ["logic", "promise"]) fun _ _ _ _ _ _ us hl => match us, hl with | [_, _], _ => rfl⟩
  have F18 := fun_mk (st := s_counterexample) l18 c18 k18
  have D18 : Df K mg "counterexample" s_counterexample ["logic", "promise"] := ⟨_, _, F18, PySem.W.mg_of X G a18, F18.binds (ps := ["logic", "promise"]) fun _ _ _ _ _ _ us hl => match us, hl with | [_, _], _ => rfl⟩
  have F19 := fun_mk (st := s_profile) l19 c19 k19
  have D19 : Df K mg "profile" s_profile ["logic"] := ⟨_, _, F19, PySem.W.mg_of X G a19, F19.binds (ps := ["logic"]) fun _ _ _ _ _ _ us hl => match us, hl with | [_], _ => rfl⟩
  have F20 := fun_mk (st := s_need_formula) l20 c20 k20
  have D20 : Df K mg "need_formula" s_need_formula ["formula"] := ⟨_, _, F20, PySem.W.mg_of X G a20, F20.binds (ps := ["formula"]) fun _ _ _ _ _ _ us hl => match us, hl with | [_], _ => rfl⟩
  have F21 := fun_mk (st := s_letters_of) l21 c21 k21
  have D21 : Df K mg "letters_of" s_letters_of ["formula"] := ⟨_, _, F21, PySem.W.mg_of X G a21, F21.binds (ps := ["formula"]) fun _ _ _ _ _ _ us hl => match us, hl with | [_], _ => rfl⟩
  have F22 := fun_mk (st := s_need_row) l22 c22 k22
  have D22 : Df K mg "need_row" s_need_row ["letters", "row"] := ⟨_, _, F22, PySem.W.mg_of X G a22, F22.binds (ps := ["letters", "row"]) fun _ _ _ _ _ _ us hl => match us, hl with | [_, _], _ => rfl⟩
  have F23 := fun_mk (st := s_value) l23 c23 k23
  have D23 : Df K mg "value" s_value ["logic", "formula", "row"] := ⟨_, _, F23, PySem.W.mg_of X G a23, F23.binds (ps := ["logic", "formula", "row"]) fun _ _ _ _ _ _ us hl => match us, hl with | [_, _, _], _ => rfl⟩
  have F24 := fun_mk (st := s_table) l24 c24 k24
  have D24 : Df K mg "table" s_table ["logic", "formula"] := ⟨_, _, F24, PySem.W.mg_of X G a24, F24.binds (ps := ["logic", "formula"]) fun _ _ _ _ _ _ us hl => match us, hl with | [_, _], _ => rfl⟩
  have F25 := fun_mk (st := s_is_sure) l25 c25 k25
  have D25 : Df K mg "is_sure" s_is_sure ["logic", "formula"] := ⟨_, _, F25, PySem.W.mg_of X G a25, F25.binds (ps := ["logic", "formula"]) fun _ _ _ _ _ _ us hl => match us, hl with | [_, _], _ => rfl⟩
  have F26 := fun_mk (st := s_parting) l26 c26 k26
  have D26 : Df K mg "parting" s_parting ["logic", "one", "other"] := ⟨_, _, F26, PySem.W.mg_of X G a26, F26.binds (ps := ["logic", "one", "other"]) fun _ _ _ _ _ _ us hl => match us, hl with | [_, _, _], _ => rfl⟩
  have F27 := fun_mk (st := s_alike) l27 c27 k27
  have D27 : Df K mg "alike" s_alike ["logic", "one", "other"] := ⟨_, _, F27, PySem.W.mg_of X G a27, F27.binds (ps := ["logic", "one", "other"]) fun _ _ _ _ _ _ us hl => match us, hl with | [_, _, _], _ => rfl⟩
  have F28 := fun_mk (st := s_need_known) l28 c28 k28
  have D28 : Df K mg "need_known" s_need_known ["formula"] := ⟨_, _, F28, PySem.W.mg_of X G a28, F28.binds (ps := ["formula"]) fun _ _ _ _ _ _ us hl => match us, hl with | [_], _ => rfl⟩
  have F29 := fun_mk (st := s_filled) l29 c29 k29
  have D29 : Df K mg "filled" s_filled ["formula", "row"] := ⟨_, _, F29, PySem.W.mg_of X G a29, F29.binds (ps := ["formula", "row"]) fun _ _ _ _ _ _ us hl => match us, hl with | [_, _], _ => rfl⟩
  have F30 := fun_mk (st := s_rows_where) l30 c30 k30
  have D30 : Df K mg "rows_where" s_rows_where ["logic", "formula", "is_gap"] := ⟨_, _, F30, PySem.W.mg_of X G a30, F30.binds (ps := ["logic", "formula", "is_gap"]) fun _ _ _ _ _ _ us hl => match us, hl with | [_, _, _], _ => rfl⟩
  have F31 := fun_mk (st := s_gaps) l31 c31 k31
  have D31 : Df K mg "gaps" s_gaps ["logic", "formula"] := ⟨_, _, F31, PySem.W.mg_of X G a31, F31.binds (ps := ["logic", "formula"]) fun _ _ _ _ _ _ us hl => match us, hl with | [_, _], _ => rfl⟩
  have F32 := fun_mk (st := s_slips) l32 c32 k32
  have D32 : Df K mg "slips" s_slips ["logic", "formula"] := ⟨_, _, F32, PySem.W.mg_of X G a32, F32.binds (ps := ["logic", "formula"]) fun _ _ _ _ _ _ us hl => match us, hl with | [_, _], _ => rfl⟩
  have F33 := fun_mk (st := s_is_once) l33 c33 k33
  have D33 : Df K mg "is_once" s_is_once ["formula"] := ⟨_, _, F33, PySem.W.mg_of X G a33, F33.binds (ps := ["formula"]) fun _ _ _ _ _ _ us hl => match us, hl with | [_], _ => rfl⟩
  have F34 := fun_mk (st := s_write_logic) l34 c34 k34
  have D34 : Df K mg "write_logic" s_write_logic ["logic"] := ⟨_, _, F34, PySem.W.mg_of X G a34, F34.binds (ps := ["logic"]) fun _ _ _ _ _ _ us hl => match us, hl with | [_], _ => rfl⟩
  have F35 := fun_mk (st := s_write_formula) l35 c35 k35
  have D35 : Df K mg "write_formula" s_write_formula ["formula"] := ⟨_, _, F35, PySem.W.mg_of X G a35, F35.binds (ps := ["formula"]) fun _ _ _ _ _ _ us hl => match us, hl with | [_], _ => rfl⟩
  have F36 := fun_mk (st := s_can_hold) l36 c36 k36
  have D36 : Df K mg "can_hold" s_can_hold ["wanted"] := ⟨_, _, F36, PySem.W.mg_of X G a36, F36.binds (ps := ["wanted"]) fun _ _ _ _ _ _ us hl => match us, hl with | [_], _ => rfl⟩
  have F37 := fun_mk (st := s_clashes) l37 c37 k37
  have D37 : Df K mg "clashes" s_clashes ["wanted"] := ⟨_, _, F37, PySem.W.mg_of X G a37, F37.binds (ps := ["wanted"]) fun _ _ _ _ _ _ us hl => match us, hl with | [_], _ => rfl⟩
  have F38 := fun_mk (st := s_can_add) l38 c38 k38
  have D38 : Df K mg "can_add" s_can_add ["wanted"] := ⟨_, _, F38, PySem.W.mg_of X G a38, F38.binds (ps := ["wanted"]) fun _ _ _ _ _ _ us hl => match us, hl with | [_], _ => rfl⟩
  have F39 := fun_mk (st := s_count_logics) l39 c39 k39
  have D39 : Df K mg "count_logics" s_count_logics ["wanted"] := ⟨_, _, F39, PySem.W.mg_of X G a39, F39.binds (ps := ["wanted"]) fun _ _ _ _ _ _ us hl => match us, hl with | [_], _ => rfl⟩
  have F40 := fun_mk (st := s_least_logic) l40 c40 k40
  have D40 : Df K mg "least_logic" s_least_logic ["wanted"] := ⟨_, _, F40, PySem.W.mg_of X G a40, F40.binds (ps := ["wanted"]) fun _ _ _ _ _ _ us hl => match us, hl with | [_], _ => rfl⟩
  have F41 := fun_mk (st := s__law_wrong) l41 c41 k41
  have D41 : Df K mg "_law_wrong" s__law_wrong ["_law_work"] := ⟨_, _, F41, PySem.W.mg_of X G a41, F41.binds (ps := ["_law_work"]) fun _ _ _ _ _ _ us hl => match us, hl with | [_], _ => rfl⟩
  have F42 := fun_mk (st := s__law_logic_works) l42 c42 k42
  have D42 : Df K mg "_law_logic_works" s__law_logic_works ["_law_bad"] := ⟨_, _, F42, PySem.W.mg_of X G a42, F42.binds (ps := ["_law_bad"]) fun _ _ _ _ _ _ us hl => match us, hl with | [_], _ => rfl⟩
  have F43 := fun_mk (st := s__law_formula_works) l43 c43 k43
  have D43 : Df K mg "_law_formula_works" s__law_formula_works ["_law_logic_here", "_law_bad"] := ⟨_, _, F43, PySem.W.mg_of X G a43, F43.binds (ps := ["_law_logic_here", "_law_bad"]) fun _ _ _ _ _ _ us hl => match us, hl with | [_, _], _ => rfl⟩
  have T : Tp K w.params mg := { d__law_taken := D0, d_is_answer := D1, d_leaves := D2, d_is_formula := D3, d_leaves_of := D4, d_letters_in := D5, d__law_pick := D6, d__law_told := D7, d__law_logic := D8, d_need_answers := D9, d_need_logic := D10, d_conj := D11, d_disj := D12, d_neg := D13, d_told_logic := D14, d_need_promise := D15, d_need_promises := D16, d_keeps := D17, d_counterexample := D18, d_profile := D19, d_need_formula := D20, d_letters_of := D21, d_need_row := D22, d_value := D23, d_table := D24, d_is_sure := D25, d_parting := D26, d_alike := D27, d_need_known := D28, d_filled := D29, d_rows_where := D30, d_gaps := D31, d_slips := D32, d_is_once := D33, d_write_logic := D34, d_write_formula := D35, d_can_hold := D36, d_clashes := D37, d_can_add := D38, d_count_logics := D39, d_least_logic := D40, d__law_wrong := D41, b_all := PySem.W.mg_none_of X G z_all, b_any := PySem.W.mg_none_of X G z_any, b_dict := PySem.W.mg_none_of X G z_dict, b_int := PySem.W.mg_none_of X G z_int, b_isinstance := PySem.W.mg_none_of X G z_isinstance, b_len := PySem.W.mg_none_of X G z_len, b_list := PySem.W.mg_none_of X G z_list, b_range := PySem.W.mg_none_of X G z_range, b_set := PySem.W.mg_none_of X G z_set, b_sorted := PySem.W.mg_none_of X G z_sorted, b_str := PySem.W.mg_none_of X G z_str, b_sum := PySem.W.mg_none_of X G z_sum, b_tuple := PySem.W.mg_none_of X G z_tuple, b_zip := PySem.W.mg_none_of X G z_zip, g_ANSWERS := (gv_mk (PySem.W.mg_of X G g_ANSWERS') (Wr.tup q0 (Wrs.cons (Wr.str [102]) (Wrs.cons (Wr.str [116]) (Wrs.cons (Wr.str [117]) Wrs.nil))))), g_LETTERS := (gv_mk (PySem.W.mg_of X G g_LETTERS') (Wr.tup q4 (Wrs.cons (Wr.str [97]) (Wrs.cons (Wr.str [98]) (Wrs.cons (Wr.str [99]) (Wrs.cons (Wr.str [100]) (Wrs.cons (Wr.str [101]) Wrs.nil))))))), g_MOST_LEAVES := (gv_mk (PySem.W.mg_of X G g_MOST_LEAVES') Wr.int), g_MOST_DEEP := (gv_mk (PySem.W.mg_of X G g_MOST_DEEP') Wr.int), g_SIZE := (gv_mk (PySem.W.mg_of X G g_SIZE') Wr.int), g_TOLD := (gv_mk (PySem.W.mg_of X G g_TOLD') (Wr.dk q13 s13 (Wre.cons rfl (Wr.str [102, 102, 102, 102, 102, 102, 102, 116, 116, 102, 116]) (Wre.cons rfl (Wr.str [102, 102, 116, 116, 116, 116, 116, 116, 116, 116, 102]) (Wre.cons rfl (Wr.str [102, 117, 117, 117, 117, 117, 117, 116, 117, 117, 117]) (Wre.cons rfl (Wr.str [102, 102, 117, 117, 117, 117, 117, 116, 116, 117, 117]) (Wre.cons rfl (Wr.str [117, 117, 117, 117, 117, 117, 117, 117, 117, 117, 117]) Wre.nil))))))), g_PROMISES := (gv_mk (PySem.W.mg_of X G g_PROMISES') (Wr.tup q24 (Wrs.cons (Wr.str [97, 98, 115, 111, 114, 98]) (Wrs.cons (Wr.str [97, 112, 97, 114, 116]) (Wrs.cons (Wr.str [103, 114, 111, 119, 105, 110, 103]) (Wrs.cons (Wr.str [109, 105, 100, 100, 108, 101]) (Wrs.cons (Wr.str [109, 105, 114, 114, 111, 114]) (Wrs.cons (Wr.str [111, 112, 101, 110]) (Wrs.cons (Wr.str [111, 114, 100, 101, 114]) (Wrs.cons (Wr.str [112, 97, 114, 116, 115]) (Wrs.cons (Wr.str [114, 101, 112, 101, 97, 116]) (Wrs.cons (Wr.str [115, 112, 114, 101, 97, 100]) (Wrs.cons (Wr.str [116, 111, 108, 100]) (Wrs.cons (Wr.str [116, 117, 114, 110]) (Wrs.cons (Wr.str [117, 110, 105, 116, 115]) (Wrs.cons (Wr.str [122, 101, 114, 111, 115]) Wrs.nil)))))))))))))))) }
  have U : Tx l.prog K mg := { xb := ⟨C0, fB, _, PySem.W.mg_of X G ca0, ⟨⟨_, _, _, _, _, _, _, _, _, _, _, _, _, _, _, _, _, _, _, _, _, _, _, _, _, _, _, _, _, _, _, _, _, _, _, _, rfl, bl9, bm0, bm1, bm2, bm3, bm4, bm5, bm6, bm7, bm8, bm9, PySem.W.mg_none_of X G bn0, bn1, bn2, bn3, bn4, bn5, bn6, bn7, bn8, bn9, bo0, bo1, bo2⟩, ⟨⟨_, _, _, _, _, _, _, _, _, _, _, _, _, _, _, bl0, bl1⟩, bl2, bl3, bl4, bl5⟩, bl6⟩, bl7, bl8, Binds.all fun us hl => match us, hl with | [a, b], _ => bo3 a b⟩, x_BadAnswer := ⟨C1, PySem.W.mg_of X G ca1, cx1, ck1, cs1, ct_1⟩, x_BadName := ⟨C2, PySem.W.mg_of X G ca2, cx2, ck2, cs2, ct_2⟩, x_BadPromise := ⟨C3, PySem.W.mg_of X G ca3, cx3, ck3, cs3, ct_3⟩, x_BadPromises := ⟨C4, PySem.W.mg_of X G ca4, cx4, ck4, cs4, ct_4⟩, x_BadFormula := ⟨C5, PySem.W.mg_of X G ca5, cx5, ck5, cs5, ct_5⟩, x_BadRow := ⟨C6, PySem.W.mg_of X G ca6, cx6, ck6, cs6, ct_6⟩, gL := ⟨C7, PySem.W.mg_of X G ca7⟩, xn_1 := ⟨fun C D e1 e2 => by cases e1.symm.trans (PySem.W.mg_of X G ca7); cases e2.symm.trans (PySem.W.mg_of X G ca0); exact xn_7_0⟩, xn_2 := ⟨fun C D e1 e2 => by cases e1.symm.trans (PySem.W.mg_of X G ca7); cases e2.symm.trans (PySem.W.mg_of X G ca1); exact xn_7_1⟩, xn_3 := ⟨fun C D e1 e2 => by cases e1.symm.trans (PySem.W.mg_of X G ca7); cases e2.symm.trans (PySem.W.mg_of X G ca2); exact xn_7_2⟩, xn_4 := ⟨fun C D e1 e2 => by cases e1.symm.trans (PySem.W.mg_of X G ca7); cases e2.symm.trans (PySem.W.mg_of X G ca3); exact xn_7_3⟩, xn_5 := ⟨fun C D e1 e2 => by cases e1.symm.trans (PySem.W.mg_of X G ca7); cases e2.symm.trans (PySem.W.mg_of X G ca4); exact xn_7_4⟩, xn_6 := ⟨fun C D e1 e2 => by cases e1.symm.trans (PySem.W.mg_of X G ca7); cases e2.symm.trans (PySem.W.mg_of X G ca5); exact xn_7_5⟩, xn_7 := ⟨fun C D e1 e2 => by cases e1.symm.trans (PySem.W.mg_of X G ca7); cases e2.symm.trans (PySem.W.mg_of X G ca6); exact xn_7_6⟩, xi_1_1 := ⟨C0, C0, PySem.W.mg_of X G ca0, PySem.W.mg_of X G ca0, ⟨ec0hg, ec0hk, ec0hs, ec0hd, ec0ha, echn, echt, ec0hm⟩, xi_0_0⟩, xi_2_1 := ⟨C1, C0, PySem.W.mg_of X G ca1, PySem.W.mg_of X G ca0, ⟨ec1hg, ec1hk, ec1hs, ec1hd, ec1ha, echn, echt, ec1hm⟩, xi_1_0⟩, xi_2_2 := ⟨C1, C1, PySem.W.mg_of X G ca1, PySem.W.mg_of X G ca1, ⟨ec1hg, ec1hk, ec1hs, ec1hd, ec1ha, echn, echt, ec1hm⟩, xi_1_1⟩, xi_2_3 := ⟨C1, C2, PySem.W.mg_of X G ca1, PySem.W.mg_of X G ca2, ⟨ec1hg, ec1hk, ec1hs, ec1hd, ec1ha, echn, echt, ec1hm⟩, xi_1_2⟩, xi_2_4 := ⟨C1, C3, PySem.W.mg_of X G ca1, PySem.W.mg_of X G ca3, ⟨ec1hg, ec1hk, ec1hs, ec1hd, ec1ha, echn, echt, ec1hm⟩, xi_1_3⟩, xi_2_5 := ⟨C1, C4, PySem.W.mg_of X G ca1, PySem.W.mg_of X G ca4, ⟨ec1hg, ec1hk, ec1hs, ec1hd, ec1ha, echn, echt, ec1hm⟩, xi_1_4⟩, xi_2_6 := ⟨C1, C5, PySem.W.mg_of X G ca1, PySem.W.mg_of X G ca5, ⟨ec1hg, ec1hk, ec1hs, ec1hd, ec1ha, echn, echt, ec1hm⟩, xi_1_5⟩, xi_2_7 := ⟨C1, C6, PySem.W.mg_of X G ca1, PySem.W.mg_of X G ca6, ⟨ec1hg, ec1hk, ec1hs, ec1hd, ec1ha, echn, echt, ec1hm⟩, xi_1_6⟩, xi_3_1 := ⟨C2, C0, PySem.W.mg_of X G ca2, PySem.W.mg_of X G ca0, ⟨ec2hg, ec2hk, ec2hs, ec2hd, ec2ha, echn, echt, ec2hm⟩, xi_2_0⟩, xi_3_2 := ⟨C2, C1, PySem.W.mg_of X G ca2, PySem.W.mg_of X G ca1, ⟨ec2hg, ec2hk, ec2hs, ec2hd, ec2ha, echn, echt, ec2hm⟩, xi_2_1⟩, xi_3_3 := ⟨C2, C2, PySem.W.mg_of X G ca2, PySem.W.mg_of X G ca2, ⟨ec2hg, ec2hk, ec2hs, ec2hd, ec2ha, echn, echt, ec2hm⟩, xi_2_2⟩, xi_3_4 := ⟨C2, C3, PySem.W.mg_of X G ca2, PySem.W.mg_of X G ca3, ⟨ec2hg, ec2hk, ec2hs, ec2hd, ec2ha, echn, echt, ec2hm⟩, xi_2_3⟩, xi_3_5 := ⟨C2, C4, PySem.W.mg_of X G ca2, PySem.W.mg_of X G ca4, ⟨ec2hg, ec2hk, ec2hs, ec2hd, ec2ha, echn, echt, ec2hm⟩, xi_2_4⟩, xi_3_6 := ⟨C2, C5, PySem.W.mg_of X G ca2, PySem.W.mg_of X G ca5, ⟨ec2hg, ec2hk, ec2hs, ec2hd, ec2ha, echn, echt, ec2hm⟩, xi_2_5⟩, xi_3_7 := ⟨C2, C6, PySem.W.mg_of X G ca2, PySem.W.mg_of X G ca6, ⟨ec2hg, ec2hk, ec2hs, ec2hd, ec2ha, echn, echt, ec2hm⟩, xi_2_6⟩, xi_4_1 := ⟨C3, C0, PySem.W.mg_of X G ca3, PySem.W.mg_of X G ca0, ⟨ec3hg, ec3hk, ec3hs, ec3hd, ec3ha, echn, echt, ec3hm⟩, xi_3_0⟩, xi_4_2 := ⟨C3, C1, PySem.W.mg_of X G ca3, PySem.W.mg_of X G ca1, ⟨ec3hg, ec3hk, ec3hs, ec3hd, ec3ha, echn, echt, ec3hm⟩, xi_3_1⟩, xi_4_3 := ⟨C3, C2, PySem.W.mg_of X G ca3, PySem.W.mg_of X G ca2, ⟨ec3hg, ec3hk, ec3hs, ec3hd, ec3ha, echn, echt, ec3hm⟩, xi_3_2⟩, xi_4_4 := ⟨C3, C3, PySem.W.mg_of X G ca3, PySem.W.mg_of X G ca3, ⟨ec3hg, ec3hk, ec3hs, ec3hd, ec3ha, echn, echt, ec3hm⟩, xi_3_3⟩, xi_4_5 := ⟨C3, C4, PySem.W.mg_of X G ca3, PySem.W.mg_of X G ca4, ⟨ec3hg, ec3hk, ec3hs, ec3hd, ec3ha, echn, echt, ec3hm⟩, xi_3_4⟩, xi_4_6 := ⟨C3, C5, PySem.W.mg_of X G ca3, PySem.W.mg_of X G ca5, ⟨ec3hg, ec3hk, ec3hs, ec3hd, ec3ha, echn, echt, ec3hm⟩, xi_3_5⟩, xi_4_7 := ⟨C3, C6, PySem.W.mg_of X G ca3, PySem.W.mg_of X G ca6, ⟨ec3hg, ec3hk, ec3hs, ec3hd, ec3ha, echn, echt, ec3hm⟩, xi_3_6⟩, xi_5_1 := ⟨C4, C0, PySem.W.mg_of X G ca4, PySem.W.mg_of X G ca0, ⟨ec4hg, ec4hk, ec4hs, ec4hd, ec4ha, echn, echt, ec4hm⟩, xi_4_0⟩, xi_5_2 := ⟨C4, C1, PySem.W.mg_of X G ca4, PySem.W.mg_of X G ca1, ⟨ec4hg, ec4hk, ec4hs, ec4hd, ec4ha, echn, echt, ec4hm⟩, xi_4_1⟩, xi_5_3 := ⟨C4, C2, PySem.W.mg_of X G ca4, PySem.W.mg_of X G ca2, ⟨ec4hg, ec4hk, ec4hs, ec4hd, ec4ha, echn, echt, ec4hm⟩, xi_4_2⟩, xi_5_4 := ⟨C4, C3, PySem.W.mg_of X G ca4, PySem.W.mg_of X G ca3, ⟨ec4hg, ec4hk, ec4hs, ec4hd, ec4ha, echn, echt, ec4hm⟩, xi_4_3⟩, xi_5_5 := ⟨C4, C4, PySem.W.mg_of X G ca4, PySem.W.mg_of X G ca4, ⟨ec4hg, ec4hk, ec4hs, ec4hd, ec4ha, echn, echt, ec4hm⟩, xi_4_4⟩, xi_5_6 := ⟨C4, C5, PySem.W.mg_of X G ca4, PySem.W.mg_of X G ca5, ⟨ec4hg, ec4hk, ec4hs, ec4hd, ec4ha, echn, echt, ec4hm⟩, xi_4_5⟩, xi_5_7 := ⟨C4, C6, PySem.W.mg_of X G ca4, PySem.W.mg_of X G ca6, ⟨ec4hg, ec4hk, ec4hs, ec4hd, ec4ha, echn, echt, ec4hm⟩, xi_4_6⟩, xi_6_1 := ⟨C5, C0, PySem.W.mg_of X G ca5, PySem.W.mg_of X G ca0, ⟨ec5hg, ec5hk, ec5hs, ec5hd, ec5ha, echn, echt, ec5hm⟩, xi_5_0⟩, xi_6_2 := ⟨C5, C1, PySem.W.mg_of X G ca5, PySem.W.mg_of X G ca1, ⟨ec5hg, ec5hk, ec5hs, ec5hd, ec5ha, echn, echt, ec5hm⟩, xi_5_1⟩, xi_6_3 := ⟨C5, C2, PySem.W.mg_of X G ca5, PySem.W.mg_of X G ca2, ⟨ec5hg, ec5hk, ec5hs, ec5hd, ec5ha, echn, echt, ec5hm⟩, xi_5_2⟩, xi_6_4 := ⟨C5, C3, PySem.W.mg_of X G ca5, PySem.W.mg_of X G ca3, ⟨ec5hg, ec5hk, ec5hs, ec5hd, ec5ha, echn, echt, ec5hm⟩, xi_5_3⟩, xi_6_5 := ⟨C5, C4, PySem.W.mg_of X G ca5, PySem.W.mg_of X G ca4, ⟨ec5hg, ec5hk, ec5hs, ec5hd, ec5ha, echn, echt, ec5hm⟩, xi_5_4⟩, xi_6_6 := ⟨C5, C5, PySem.W.mg_of X G ca5, PySem.W.mg_of X G ca5, ⟨ec5hg, ec5hk, ec5hs, ec5hd, ec5ha, echn, echt, ec5hm⟩, xi_5_5⟩, xi_6_7 := ⟨C5, C6, PySem.W.mg_of X G ca5, PySem.W.mg_of X G ca6, ⟨ec5hg, ec5hk, ec5hs, ec5hd, ec5ha, echn, echt, ec5hm⟩, xi_5_6⟩, xi_7_1 := ⟨C6, C0, PySem.W.mg_of X G ca6, PySem.W.mg_of X G ca0, ⟨ec6hg, ec6hk, ec6hs, ec6hd, ec6ha, echn, echt, ec6hm⟩, xi_6_0⟩, xi_7_2 := ⟨C6, C1, PySem.W.mg_of X G ca6, PySem.W.mg_of X G ca1, ⟨ec6hg, ec6hk, ec6hs, ec6hd, ec6ha, echn, echt, ec6hm⟩, xi_6_1⟩, xi_7_3 := ⟨C6, C2, PySem.W.mg_of X G ca6, PySem.W.mg_of X G ca2, ⟨ec6hg, ec6hk, ec6hs, ec6hd, ec6ha, echn, echt, ec6hm⟩, xi_6_2⟩, xi_7_4 := ⟨C6, C3, PySem.W.mg_of X G ca6, PySem.W.mg_of X G ca3, ⟨ec6hg, ec6hk, ec6hs, ec6hd, ec6ha, echn, echt, ec6hm⟩, xi_6_3⟩, xi_7_5 := ⟨C6, C4, PySem.W.mg_of X G ca6, PySem.W.mg_of X G ca4, ⟨ec6hg, ec6hk, ec6hs, ec6hd, ec6ha, echn, echt, ec6hm⟩, xi_6_4⟩, xi_7_6 := ⟨C6, C5, PySem.W.mg_of X G ca6, PySem.W.mg_of X G ca5, ⟨ec6hg, ec6hk, ec6hs, ec6hd, ec6ha, echn, echt, ec6hm⟩, xi_6_5⟩, xi_7_7 := ⟨C6, C6, PySem.W.mg_of X G ca6, PySem.W.mg_of X G ca6, ⟨ec6hg, ec6hk, ec6hs, ec6hd, ec6ha, echn, echt, ec6hm⟩, xi_6_6⟩, xfi := ⟨C0, PySem.W.mg_of X G ca0, ⟨ec0hg, ec0hk, ec0hs, ec0hd⟩, bl6⟩ }
  have FI : L2.Fun K "__init__" "Desk.__init__" s_Desk fI _ := ⟨⟨_, _, _, _, _, _, _, _, _, rfl, dk4, dk5⟩, dk6⟩
  have V : Td K mg := ⟨C8, fI, _, PySem.W.mg_of X G ca8, ⟨dk0, dk1, dk2, dk3⟩, FI, FI.binds (ps := ["self", "logic"]) fun _ _ _ _ _ _ us hl => match us, hl with | [_, _], _ => rfl⟩
  refine ⟨_, [(cdl2, Pa2), (cdl0, Pa0), (cdl1, Pa1)], spLawL K [(Pa2, (("law" : Str) ++ ".<locals>." ++ "<lambda>")), (Pa0, (("_law_logic_works" : Str) ++ ".<locals>." ++ "<lambda>")), (Pa1, (("_law_formula_works" : Str) ++ ".<locals>." ++ "<lambda>"))], fun p hp => ?_, fun p hp => ?_, fun p hp => ?_, fun s v => .of_eq rfl, fun H a nums hl _ hH hS => ⟨a, nums, rfl, fun t ht => ?_, hS, hl, fun _ => rfl⟩, fun base _ _ TB => ok_law T U V l44 c44 (TB (cdl2, Pa2) (by simp)) ⟨⟨_, _, _, _, _, _, _, _, _, l42, c42, PySem.W.mg_of X G a42, k42, F42.binds (ps := ["_law_bad"]) fun _ _ _ _ _ _ us hl => match us, hl with | [_], _ => rfl⟩, TB (cdl0, Pa0) (by simp)⟩ ⟨⟨_, _, _, _, _, _, _, _, _, l43, c43, PySem.W.mg_of X G a43, k43, F43.binds (ps := ["_law_logic_here", "_law_bad"]) fun _ _ _ _ _ _ us hl => match us, hl with | [_, _], _ => rfl⟩, TB (cdl1, Pa1) (by simp)⟩ lq20 lq21 lq01 law_wp.out⟩
  · simp only [List.mem_cons, List.not_mem_nil, or_false] at hp
    rcases hp with rfl | rfl | rfl
    · exact own _ _ lr2 (PySem.W.mg_of X G a44) cdl2 Pa2 _ _ el2 dl2 vl2 sll2 l44 rfl rfl lc2 lp2
    · exact own _ _ lr0 (PySem.W.mg_of X G a42) cdl0 Pa0 _ _ el0 dl0 vl0 sll0 l42 rfl rfl lc0 lp0
    · exact own _ _ lr1 (PySem.W.mg_of X G a43) cdl1 Pa1 _ _ el1 dl1 vl1 sll1 l43 rfl rfl lc1 lp1
  · simp only [List.mem_cons, List.not_mem_nil, or_false] at hp
    rcases hp with rfl | rfl | rfl
    · exact ln2
    · exact ln0
    · exact ln1
  · simp only [List.mem_cons, List.not_mem_nil, or_false] at hp
    rcases hp with rfl | rfl | rfl
    · exact PySem.W.codeHd_of_K X lh2
    · exact PySem.W.codeHd_of_K X lh0
    · exact PySem.W.codeHd_of_K X lh1
  · simp only [List.mem_cons, List.not_mem_nil, or_false] at ht
    rcases ht with rfl | rfl | rfl
    · exact hH (cdl2, Pa2) (by simp)
    · exact hH (cdl0, Pa0) (by simp)
    · exact hH (cdl1, Pa1) (by simp)
end K10
open PySem PySem.W PyProof.Rows
set_option maxHeartbeats 0 in
theorem PySem.Challenge.cw_unknowntables_k10_whole_refused_holds : PySem.Challenge.rw_unknowntables_k10_whole_refused.Holds := by
  w_on; o_law; k_head; (case hw => w_witness2)
  k_fill
  refine Fw.walk_ofOwns (l := PySem.Challenge.rw_unknowntables_k10_whole_refused) (n := 63) (k := 19) (x := "_law_script") (CX := fun _ => L2.CX0) rfl (by decide) rfl ⟨rfl, by decide, by decide⟩ (fun w h Y => PySem.W.km_in_of Y) ?F (fun _ _ _ _ _ h => h)
  case F =>
    intro w mg fa h Y KX G hmg own
    refine' K10.all_mk KX G hmg own ?a0 ?l0 ?c0 ?k0 ?a1 ?l1 ?c1 ?k1 ?a2 ?l2 ?c2 ?k2 ?a3 ?l3 ?c3 ?k3 ?a4 ?l4 ?c4 ?k4 ?a5 ?l5 ?c5 ?k5 ?a6 ?l6 ?c6 ?k6 ?a7 ?l7 ?c7 ?k7 ?a8 ?l8 ?c8 ?k8 ?a9 ?l9 ?c9 ?k9 ?a10 ?l10 ?c10 ?k10 ?a11 ?l11 ?c11 ?k11 ?a12 ?l12 ?c12 ?k12 ?a13 ?l13 ?c13 ?k13 ?a14 ?l14 ?c14 ?k14 ?a15 ?l15 ?c15 ?k15 ?a16 ?l16 ?c16 ?k16 ?a17 ?l17 ?c17 ?k17 ?a18 ?l18 ?c18 ?k18 ?a19 ?l19 ?c19 ?k19 ?a20 ?l20 ?c20 ?k20 ?a21 ?l21 ?c21 ?k21 ?a22 ?l22 ?c22 ?k22 ?a23 ?l23 ?c23 ?k23 ?a24 ?l24 ?c24 ?k24 ?a25 ?l25 ?c25 ?k25 ?a26 ?l26 ?c26 ?k26 ?a27 ?l27 ?c27 ?k27 ?a28 ?l28 ?c28 ?k28 ?a29 ?l29 ?c29 ?k29 ?a30 ?l30 ?c30 ?k30 ?a31 ?l31 ?c31 ?k31 ?a32 ?l32 ?c32 ?k32 ?a33 ?l33 ?c33 ?k33 ?a34 ?l34 ?c34 ?k34 ?a35 ?l35 ?c35 ?k35 ?a36 ?l36 ?c36 ?k36 ?a37 ?l37 ?c37 ?k37 ?a38 ?l38 ?c38 ?k38 ?a39 ?l39 ?c39 ?k39 ?a40 ?l40 ?c40 ?k40 ?a41 ?l41 ?c41 ?k41 ?a42 ?l42 ?c42 ?k42 ?lc0 ?lp0 ?lh0 ?ln0 ?lg0 ?lr0 ?a43 ?l43 ?c43 ?k43 ?lc1 ?lp1 ?lh1 ?ln1 ?lg1 ?lr1 ?a44 ?l44 ?c44 ?k44 ?lc2 ?lp2 ?lh2 ?ln2 ?lg2 ?lr2 ?lq20 ?lq21 ?lq01 ?z_all ?z_any ?z_dict ?z_int ?z_isinstance ?z_len ?z_list ?z_range ?z_set ?z_sorted ?z_str ?z_sum ?z_tuple ?z_zip ?g_ANSWERS' ?q0 ?g_LETTERS' ?q4 ?g_MOST_LEAVES' ?g_MOST_DEEP' ?g_SIZE' ?g_TOLD' ?q13 ?s13 ?g_PROMISES' ?q24 ?ca0 ?bl0 ?bl1 ?bl2 ?bl3 ?bl4 ?bl5 ?bl6 ?bl7 ?bl8 ?bl9 ?bm0 ?bm1 ?bm2 ?bm3 ?bm4 ?bm5 ?bm6 ?bm7 ?bm8 ?bm9 ?bn0 ?bn1 ?bn2 ?bn3 ?bn4 ?bn5 ?bn6 ?bn7 ?bn8 ?bn9 ?bo0 ?bo1 ?bo2 ?bo3 ?ca1 ?cx1 ?ck1 ?cs1 ?ct_1 ?ca2 ?cx2 ?ck2 ?cs2 ?ct_2 ?ca3 ?cx3 ?ck3 ?cs3 ?ct_3 ?ca4 ?cx4 ?ck4 ?cs4 ?ct_4 ?ca5 ?cx5 ?ck5 ?cs5 ?ct_5 ?ca6 ?cx6 ?ck6 ?cs6 ?ct_6 ?ca7 ?xn_7_0 ?xn_7_1 ?xn_7_2 ?xn_7_3 ?xn_7_4 ?xn_7_5 ?xn_7_6 ?ec0hg ?ec0hk ?ec0hs ?ec0hd ?ec0ha ?ec0hm ?echn ?echt ?xi_0_0 ?ec1hg ?ec1hk ?ec1hs ?ec1hd ?ec1ha ?ec1hm ?xi_1_0 ?xi_1_1 ?xi_1_2 ?xi_1_3 ?xi_1_4 ?xi_1_5 ?xi_1_6 ?ec2hg ?ec2hk ?ec2hs ?ec2hd ?ec2ha ?ec2hm ?xi_2_0 ?xi_2_1 ?xi_2_2 ?xi_2_3 ?xi_2_4 ?xi_2_5 ?xi_2_6 ?ec3hg ?ec3hk ?ec3hs ?ec3hd ?ec3ha ?ec3hm ?xi_3_0 ?xi_3_1 ?xi_3_2 ?xi_3_3 ?xi_3_4 ?xi_3_5 ?xi_3_6 ?ec4hg ?ec4hk ?ec4hs ?ec4hd ?ec4ha ?ec4hm ?xi_4_0 ?xi_4_1 ?xi_4_2 ?xi_4_3 ?xi_4_4 ?xi_4_5 ?xi_4_6 ?ec5hg ?ec5hk ?ec5hs ?ec5hd ?ec5ha ?ec5hm ?xi_5_0 ?xi_5_1 ?xi_5_2 ?xi_5_3 ?xi_5_4 ?xi_5_5 ?xi_5_6 ?ec6hg ?ec6hk ?ec6hs ?ec6hd ?ec6ha ?ec6hm ?xi_6_0 ?xi_6_1 ?xi_6_2 ?xi_6_3 ?xi_6_4 ?xi_6_5 ?xi_6_6 ?ca8 ?dk0 ?dk1 ?dk2 ?dk3 ?dk4 ?dk5 ?dk6
    (case a0 => k_is)
    (case l0 => k_is)
    (case c0 => k_is)
    (case k0 => k_is)
    (case a1 => k_is)
    (case l1 => k_is)
    (case c1 => k_is)
    (case k1 => k_is)
    (case a2 => k_is)
    (case l2 => k_is)
    (case c2 => k_is)
    (case k2 => k_is)
    (case a3 => k_is)
    (case l3 => k_is)
    (case c3 => k_is)
    (case k3 => k_is)
    (case a4 => k_is)
    (case l4 => k_is)
    (case c4 => k_is)
    (case k4 => k_is)
    (case a5 => k_is)
    (case l5 => k_is)
    (case c5 => k_is)
    (case k5 => k_is)
    (case a6 => k_is)
    (case l6 => k_is)
    (case c6 => k_is)
    (case k6 => k_is)
    (case a7 => k_is)
    (case l7 => k_is)
    (case c7 => k_is)
    (case k7 => k_is)
    (case a8 => k_is)
    (case l8 => k_is)
    (case c8 => k_is)
    (case k8 => k_is)
    (case a9 => k_is)
    (case l9 => k_is)
    (case c9 => k_is)
    (case k9 => k_is)
    (case a10 => k_is)
    (case l10 => k_is)
    (case c10 => k_is)
    (case k10 => k_is)
    (case a11 => k_is)
    (case l11 => k_is)
    (case c11 => k_is)
    (case k11 => k_is)
    (case a12 => k_is)
    (case l12 => k_is)
    (case c12 => k_is)
    (case k12 => k_is)
    (case a13 => k_is)
    (case l13 => k_is)
    (case c13 => k_is)
    (case k13 => k_is)
    (case a14 => k_is)
    (case l14 => k_is)
    (case c14 => k_is)
    (case k14 => k_is)
    (case a15 => k_is)
    (case l15 => k_is)
    (case c15 => k_is)
    (case k15 => k_is)
    (case a16 => k_is)
    (case l16 => k_is)
    (case c16 => k_is)
    (case k16 => k_is)
    (case a17 => k_is)
    (case l17 => k_is)
    (case c17 => k_is)
    (case k17 => k_is)
    (case a18 => k_is)
    (case l18 => k_is)
    (case c18 => k_is)
    (case k18 => k_is)
    (case a19 => k_is)
    (case l19 => k_is)
    (case c19 => k_is)
    (case k19 => k_is)
    (case a20 => k_is)
    (case l20 => k_is)
    (case c20 => k_is)
    (case k20 => k_is)
    (case a21 => k_is)
    (case l21 => k_is)
    (case c21 => k_is)
    (case k21 => k_is)
    (case a22 => k_is)
    (case l22 => k_is)
    (case c22 => k_is)
    (case k22 => k_is)
    (case a23 => k_is)
    (case l23 => k_is)
    (case c23 => k_is)
    (case k23 => k_is)
    (case a24 => k_is)
    (case l24 => k_is)
    (case c24 => k_is)
    (case k24 => k_is)
    (case a25 => k_is)
    (case l25 => k_is)
    (case c25 => k_is)
    (case k25 => k_is)
    (case a26 => k_is)
    (case l26 => k_is)
    (case c26 => k_is)
    (case k26 => k_is)
    (case a27 => k_is)
    (case l27 => k_is)
    (case c27 => k_is)
    (case k27 => k_is)
    (case a28 => k_is)
    (case l28 => k_is)
    (case c28 => k_is)
    (case k28 => k_is)
    (case a29 => k_is)
    (case l29 => k_is)
    (case c29 => k_is)
    (case k29 => k_is)
    (case a30 => k_is)
    (case l30 => k_is)
    (case c30 => k_is)
    (case k30 => k_is)
    (case a31 => k_is)
    (case l31 => k_is)
    (case c31 => k_is)
    (case k31 => k_is)
    (case a32 => k_is)
    (case l32 => k_is)
    (case c32 => k_is)
    (case k32 => k_is)
    (case a33 => k_is)
    (case l33 => k_is)
    (case c33 => k_is)
    (case k33 => k_is)
    (case a34 => k_is)
    (case l34 => k_is)
    (case c34 => k_is)
    (case k34 => k_is)
    (case a35 => k_is)
    (case l35 => k_is)
    (case c35 => k_is)
    (case k35 => k_is)
    (case a36 => k_is)
    (case l36 => k_is)
    (case c36 => k_is)
    (case k36 => k_is)
    (case a37 => k_is)
    (case l37 => k_is)
    (case c37 => k_is)
    (case k37 => k_is)
    (case a38 => k_is)
    (case l38 => k_is)
    (case c38 => k_is)
    (case k38 => k_is)
    (case a39 => k_is)
    (case l39 => k_is)
    (case c39 => k_is)
    (case k39 => k_is)
    (case a40 => k_is)
    (case l40 => k_is)
    (case c40 => k_is)
    (case k40 => k_is)
    (case a41 => k_is)
    (case l41 => k_is)
    (case c41 => k_is)
    (case k41 => k_is)
    (case a42 => k_is)
    (case l42 => k_is)
    (case c42 => k_is)
    (case k42 => k_is)
    (case lc0 => k_is)
    (case lp0 => rfl)
    (case lh0 => kernel_rfl)
    (case ln0 => kernel_rfl)
    (case lg0 => decide)
    (case lr0 => kernel_rfl)
    (case a43 => k_is)
    (case l43 => k_is)
    (case c43 => k_is)
    (case k43 => k_is)
    (case lc1 => k_is)
    (case lp1 => rfl)
    (case lh1 => kernel_rfl)
    (case ln1 => kernel_rfl)
    (case lg1 => decide)
    (case lr1 => kernel_rfl)
    (case a44 => k_is)
    (case l44 => k_is)
    (case c44 => k_is)
    (case k44 => k_is)
    (case lc2 => k_is)
    (case lp2 => rfl)
    (case lh2 => kernel_rfl)
    (case ln2 => kernel_rfl)
    (case lg2 => decide)
    (case lr2 => kernel_rfl)
    (case lq20 => decide)
    (case lq21 => decide)
    (case lq01 => decide)
    (case z_all => k_is)
    (case z_any => k_is)
    (case z_dict => k_is)
    (case z_int => k_is)
    (case z_isinstance => k_is)
    (case z_len => k_is)
    (case z_list => k_is)
    (case z_range => k_is)
    (case z_set => k_is)
    (case z_sorted => k_is)
    (case z_str => k_is)
    (case z_sum => k_is)
    (case z_tuple => k_is)
    (case z_zip => k_is)
    (case g_ANSWERS' => k_is)
    (case q0 => k_is)
    (case g_LETTERS' => k_is)
    (case q4 => k_is)
    (case g_MOST_LEAVES' => k_is)
    (case g_MOST_DEEP' => k_is)
    (case g_SIZE' => k_is)
    (case g_TOLD' => k_is)
    (case q13 => k_is)
    (case s13 => rfl)
    (case g_PROMISES' => k_is)
    (case q24 => k_is)
    (case ca0 => k_is)
    (case bl0 => k_is)
    (case bl1 => rfl)
    (case bl2 => k_is)
    (case bl3 => k_is)
    (case bl4 => k_is)
    (case bl5 => k_is)
    (case bl6 => k_is)
    (case bl7 => k_is)
    (case bl8 => k_is)
    (case bl9 => k_is)
    (case bm0 => k_is)
    (case bm1 => rfl)
    (case bm2 => rfl)
    (case bm3 => rfl)
    (case bm4 => k_is)
    (case bm5 => rfl)
    (case bm6 => kernel_rfl)
    (case bm7 => k_is)
    (case bm8 => k_is)
    (case bm9 => k_is)
    (case bn0 => k_is)
    (case bn1 => k_is)
    (case bn2 => kernel_rfl)
    (case bn3 => k_is)
    (case bn4 => kernel_rfl)
    (case bn5 => rfl)
    (case bn6 => rfl)
    (case bn7 => rfl)
    (case bn8 => rfl)
    (case bn9 => decide)
    (case bo0 => rfl)
    (case bo1 => rfl)
    (case bo2 => rfl)
    (case bo3 => exact fun _ _ => rfl)
    (case ca1 => k_is)
    (case cx1 => kernel_rfl)
    (case ck1 => k_is)
    (case cs1 => k_is)
    (case ct_1 => k_is)
    (case ca2 => k_is)
    (case cx2 => kernel_rfl)
    (case ck2 => k_is)
    (case cs2 => k_is)
    (case ct_2 => k_is)
    (case ca3 => k_is)
    (case cx3 => kernel_rfl)
    (case ck3 => k_is)
    (case cs3 => k_is)
    (case ct_3 => k_is)
    (case ca4 => k_is)
    (case cx4 => kernel_rfl)
    (case ck4 => k_is)
    (case cs4 => k_is)
    (case ct_4 => k_is)
    (case ca5 => k_is)
    (case cx5 => kernel_rfl)
    (case ck5 => k_is)
    (case cs5 => k_is)
    (case ct_5 => k_is)
    (case ca6 => k_is)
    (case cx6 => kernel_rfl)
    (case ck6 => k_is)
    (case cs6 => k_is)
    (case ct_6 => k_is)
    (case ca7 => k_is)
    (case xn_7_0 => kernel_rfl)
    (case xn_7_1 => kernel_rfl)
    (case xn_7_2 => kernel_rfl)
    (case xn_7_3 => kernel_rfl)
    (case xn_7_4 => kernel_rfl)
    (case xn_7_5 => kernel_rfl)
    (case xn_7_6 => kernel_rfl)
    (case ec0hg => k_is)
    (case ec0hk => k_is)
    (case ec0hs => k_is)
    (case ec0hd => k_is)
    (case ec0ha => k_is)
    (case ec0hm => k_is)
    (case echn => k_is)
    (case echt => k_is)
    (case xi_0_0 => kernel_rfl)
    (case ec1hg => k_is)
    (case ec1hk => k_is)
    (case ec1hs => k_is)
    (case ec1hd => k_is)
    (case ec1ha => k_is)
    (case ec1hm => k_is)
    (case xi_1_0 => kernel_rfl)
    (case xi_1_1 => kernel_rfl)
    (case xi_1_2 => kernel_rfl)
    (case xi_1_3 => kernel_rfl)
    (case xi_1_4 => kernel_rfl)
    (case xi_1_5 => kernel_rfl)
    (case xi_1_6 => kernel_rfl)
    (case ec2hg => k_is)
    (case ec2hk => k_is)
    (case ec2hs => k_is)
    (case ec2hd => k_is)
    (case ec2ha => k_is)
    (case ec2hm => k_is)
    (case xi_2_0 => kernel_rfl)
    (case xi_2_1 => kernel_rfl)
    (case xi_2_2 => kernel_rfl)
    (case xi_2_3 => kernel_rfl)
    (case xi_2_4 => kernel_rfl)
    (case xi_2_5 => kernel_rfl)
    (case xi_2_6 => kernel_rfl)
    (case ec3hg => k_is)
    (case ec3hk => k_is)
    (case ec3hs => k_is)
    (case ec3hd => k_is)
    (case ec3ha => k_is)
    (case ec3hm => k_is)
    (case xi_3_0 => kernel_rfl)
    (case xi_3_1 => kernel_rfl)
    (case xi_3_2 => kernel_rfl)
    (case xi_3_3 => kernel_rfl)
    (case xi_3_4 => kernel_rfl)
    (case xi_3_5 => kernel_rfl)
    (case xi_3_6 => kernel_rfl)
    (case ec4hg => k_is)
    (case ec4hk => k_is)
    (case ec4hs => k_is)
    (case ec4hd => k_is)
    (case ec4ha => k_is)
    (case ec4hm => k_is)
    (case xi_4_0 => kernel_rfl)
    (case xi_4_1 => kernel_rfl)
    (case xi_4_2 => kernel_rfl)
    (case xi_4_3 => kernel_rfl)
    (case xi_4_4 => kernel_rfl)
    (case xi_4_5 => kernel_rfl)
    (case xi_4_6 => kernel_rfl)
    (case ec5hg => k_is)
    (case ec5hk => k_is)
    (case ec5hs => k_is)
    (case ec5hd => k_is)
    (case ec5ha => k_is)
    (case ec5hm => k_is)
    (case xi_5_0 => kernel_rfl)
    (case xi_5_1 => kernel_rfl)
    (case xi_5_2 => kernel_rfl)
    (case xi_5_3 => kernel_rfl)
    (case xi_5_4 => kernel_rfl)
    (case xi_5_5 => kernel_rfl)
    (case xi_5_6 => kernel_rfl)
    (case ec6hg => k_is)
    (case ec6hk => k_is)
    (case ec6hs => k_is)
    (case ec6hd => k_is)
    (case ec6ha => k_is)
    (case ec6hm => k_is)
    (case xi_6_0 => kernel_rfl)
    (case xi_6_1 => kernel_rfl)
    (case xi_6_2 => kernel_rfl)
    (case xi_6_3 => kernel_rfl)
    (case xi_6_4 => kernel_rfl)
    (case xi_6_5 => kernel_rfl)
    (case xi_6_6 => kernel_rfl)
    (case ca8 => k_is)
    (case dk0 => kernel_rfl)
    (case dk1 => k_is)
    (case dk2 => kernel_rfl)
    (case dk3 => k_is)
    (case dk4 => k_is)
    (case dk5 => k_is)
    (case dk6 => k_is)
