import PyProof.Rows.All
import Wide.All
import OpenK.AllK
import Wide.FinOn
import HandS.ForMost
import HandS.Lambda
import KE.DataCmp
import KE.DataEq
import HandS.TupAny
import HandS.TupMul
import HandS.Wide
import HandS.Gcd
import HandS.IsInst
import HandS.Style
import KE.SortData
import KE.DataAny
import KE.DataMinMax
import PyProof.ListStr
import HandS.Strs
import KE.GoesNew
import KE.GoesMore
import KE.GoesEnum
import HandS.Defaults
import HandS.Text
import PyProof.SeqIndex
import HandS.ExcIs
import HandS.ExcOwn
import KE.KExcIs
import KE.KDictDisplayH
import KE.KRevSl
import PyProof.DictTable
import PyProof.FactsAll.dict
import HandS.SetTxt0
import HandS.Set
import HandS.TupSets
import HandS.SetFor
import KE.IntBitsLaws
import HandS.ExcInit
import HandS.ExcField
import KE.KExcSuper
import HandS.HeadHook4
import HandS.More
import HandS.Head0
import HandS.Head1
import HandS.Head2
import HandS.Head3
import HandS.Head4
import HandS.HeadEnd
import HandS.HeadHook1
import HandS.HeadHook2
import HandS.HeadHook3
import HandS.EndTab
import HandS.HeadWalk
import PySem.Challenge.RW_tiesmade_k57_whole_reached_or_a_lot_that
set_option Elab.async false
set_option linter.all false
set_option maxRecDepth 100000
set_option maxHeartbeats 0
set_option autoImplicit false
/-! DL1 -/
/-! DL1: pure data, how it stands in the abstract heap, states, judgements with lifted readings. -/
namespace DL
open PySem PySem.Spec PyProof.Rows L2

/-- a lambda's text -/
structure LamT where
  params : Arguments
  body : Expr
  scope : Scope
  qual : Str
/-- exc: an error of the class at c with attributes; clo: a lambda made by the frame with the cells cl; dct: a dict -/
inductive D where
  | non | bl (b : Bool) | int (i : Int) | str (x : Str) | tup (xs : List D) | lst (xs : List D) | ref (a : Addr) | ty (n : String)
  | exc (c : Addr) (ns : List Str) (vs : List D) | clo (T : LamT) (cl : List (Str × Addr)) | dct (ks vs : List D)

def Sub (F F' : Hp) : Prop := ∀ b o, F b = some o → F' b = some o
theorem Sub.refl (F : Hp) : Sub F F := fun _ _ h => h
theorem Sub.trans {F G H : Hp} (a : Sub F G) (b : Sub G H) : Sub F H := fun c o h => b c o (a c o h)
theorem Sub.rd {F G : Hp} (s : Sub F G) {a : Addr} {u : HO} (h : Rd F a u) : Rd G a u := by
  rcases h with h | ⟨o, h⟩
  · exact .inl (s _ _ h)
  · exact .inr ⟨o, s _ _ h⟩
theorem Sub.seqT {F G : Hp} (s : Sub F G) {K : PySem.W.Frag} {a : Addr} {xs : List V} (h : SqT K F a xs) : SqT K G a xs := by
  rcases h with h | h
  · exact .inl (s.rd h)
  · exact .inr h
theorem Sub.seqL {F G : Hp} (s : Sub F G) {K : PySem.W.Frag} {a : Addr} {xs : List V} (h : SqL K F a xs) : SqL K G a xs := by
  rcases h with h | h
  · exact .inl (s.rd h)
  · exact .inr h

/-- a tuple that stands frozen, or a constant of the module; its object has no dict of its own -/
def TupAt (K : PySem.W.Frag) (F : Hp) (a : Addr) (xs : List V) : Prop :=
  (∃ o : Obj, F a = some (.frz o (.tup xs)) ∧ o.dict = none) ∨
    ∃ (o : Obj) (its : Array Value) (n : Nat), K.lookup a = some o ∧ o.cls = .type "tuple" ∧ o.dict = none ∧ o.data = .seq its n ∧ its.size ≤ sizeLine ∧ Vals xs its.toList
theorem TupAt.sq {K : PySem.W.Frag} {F : Hp} {a : Addr} {xs : List V} (h : TupAt K F a xs) : SqT K F a xs := by
  rcases h with ⟨o, h, _⟩ | ⟨o, its, n, h1, h2, _, h3, h4, h5⟩
  · exact .inl (.inr ⟨o, h⟩)
  · exact .inr ⟨o, its, n, h1, h2, h3, h4, h5⟩
theorem Sub.tupAt {F G : Hp} (s : Sub F G) {K : PySem.W.Frag} {a : Addr} {xs : List V} (h : TupAt K F a xs) : TupAt K G a xs := by
  rcases h with ⟨o, h, d⟩ | h
  · exact .inl ⟨o, s _ _ h, d⟩
  · exact .inr h
abbrev cloObj (T : LamT) (cl : List (Str × Addr)) (pm ctv : Value) (c : Addr) : Obj := PySem.W.kla_obj "<lambda>" T.qual T.params T.body T.scope (cloFrom cl T.scope.names []) pm c ctv
def keyD : Key → D
  | .inl i => .int i
  | .inr x => .str x
mutual
inductive Rp (K : PySem.W.Frag) (F : Hp) : V → D → Prop
  | non : Rp K F .non .non
  | bl (b : Bool) : Rp K F (.bl b) (.bl b)
  | int (i : Int) : Rp K F (.int i) (.int i)
  | str (x : Str) : Rp K F (.str x) (.str x)
  | ty (n : String) : Rp K F (.ty n) (.ty n)
  | ref (a : Addr) : Rp K F (.ref a) (.ref a)
  | tup {a : Addr} {vs : List V} {ds : List D} : TupAt K F a vs → vs.length ≤ sizeLine → RpAll K F vs ds → Rp K F (.ref a) (.tup ds)
  | lst {a : Addr} {vs : List V} {ds : List D} : SqL K F a vs → vs.length ≤ sizeLine → RpAll K F vs ds → Rp K F (.ref a) (.lst ds)
  | exc0 {a c : Addr} {o : Obj} {u : HO} : F a = some (.frz o u) → o.cls = .ref c → (∃ ws, o.data = .fields ws) → o.dict = none → Rp K F (.ref a) (.exc c [] [])
  | exc1 {a c d : Addr} {o : Obj} {u : HO} {n : Str} {v : V} {x : D} : F a = some (.frz o u) → o.cls = .ref c → (∃ ws, o.data = .fields ws) → o.dict = some d → F d = some (.xd [(n, v)]) → Rp K F v x → Rp K F (.ref a) (.exc c [n] [x])
  | clo {f c : Addr} {T : LamT} {cl : List (Str × Addr)} {pm ctv : Value} {u : HO} : F f = some (.frz (cloObj T cl pm ctv c) u) → F c = some (LamX.CodeO c T.qual) → Rp K F (.ref f) (.clo T cl)
  | dctK {a : Addr} {kvs : List (Key × V)} {ds : List D} : F a = some (.dK kvs) → RpAll K F (kvs.map (·.2)) ds → Rp K F (.ref a) (.dct (kvs.map fun p => keyD p.1) ds)
  /-- a dict of other keys: no more is told of it -/
  | dctT {a : Addr} {kvs : List (List Key × V)} : F a = some (.dT kvs) → Rp K F (.ref a) (.dct [.non] [])
inductive RpAll (K : PySem.W.Frag) (F : Hp) : List V → List D → Prop
  | nil : RpAll K F [] []
  | cons {v : V} {vs : List V} {d : D} {ds : List D} : Rp K F v d → RpAll K F vs ds → RpAll K F (v :: vs) (d :: ds)
end
mutual
theorem Rp.mono {K : PySem.W.Frag} {F F' : Hp} (s : Sub F F') : ∀ {d : D} {v : V}, Rp K F v d → Rp K F' v d
  | _, _, .non => .non
  | _, _, .bl b => .bl b
  | _, _, .int b => .int b
  | _, _, .str b => .str b
  | _, _, .ty b => .ty b
  | _, _, .ref b => .ref b
  | .tup ds, _, .tup h l a => .tup (s.tupAt h) l (RpAll.mono s a)
  | .lst ds, _, .lst h l a => .lst (s.seqL h) l (RpAll.mono s a)
  | _, _, .exc0 a b c d => .exc0 (s _ _ a) b c d
  | _, _, .exc1 a b x c d e => .exc1 (s _ _ a) b x c (s _ _ d) (Rp.mono s e)
  | _, _, .clo a b => .clo (s _ _ a) (s _ _ b)
  | .dct _ ds, _, .dctK a b => .dctK (s _ _ a) (RpAll.mono s b)
  | _, _, .dctT a => .dctT (s _ _ a)
theorem RpAll.mono {K : PySem.W.Frag} {F F' : Hp} (s : Sub F F') : ∀ {ds : List D} {vs : List V}, RpAll K F vs ds → RpAll K F' vs ds
  | _, _, .nil => .nil
  | _ :: _, _, .cons h t => .cons (Rp.mono s h) (RpAll.mono s t)
end
section
variable {K : PySem.W.Frag} {F : Hp}
theorem RpAll.length : ∀ {vs : List V} {ds : List D}, RpAll K F vs ds → vs.length = ds.length
  | _, _, .nil => rfl
  | _, _, .cons _ t => by rw [List.length_cons, List.length_cons, RpAll.length t]
theorem RpAll.append : ∀ {vs ws : List V} {ds es : List D}, RpAll K F vs ds → RpAll K F ws es → RpAll K F (vs ++ ws) (ds ++ es)
  | _, _, _, _, .nil, h => h
  | _, _, _, _, .cons r t, h => .cons r (RpAll.append t h)
theorem RpAll.get : ∀ {vs : List V} {ds : List D} {i : Nat} {d : D}, RpAll K F vs ds → ds[i]? = some d → ∃ v, vs[i]? = some v ∧ Rp K F v d
  | _, _, _, _, .nil, e => by simp at e
  | _, _, 0, _, .cons r _, e => by simp at e; subst e; exact ⟨_, rfl, r⟩
  | _, _, i + 1, _, .cons _ t, e => by
    obtain ⟨u, h1, h2⟩ := RpAll.get (i := i) t (by simpa using e)
    exact ⟨u, by simpa using h1, h2⟩
theorem RpAll.getV : ∀ {vs : List V} {ds : List D} {i : Nat} {v : V}, RpAll K F vs ds → vs[i]? = some v → ∃ d, ds[i]? = some d ∧ Rp K F v d
  | _, _, _, _, .nil, e => by simp at e
  | _, _, 0, _, .cons r _, e => by simp at e; subst e; exact ⟨_, rfl, r⟩
  | _, _, i + 1, _, .cons _ t, e => by
    obtain ⟨u, h1, h2⟩ := RpAll.getV (i := i) t (by simpa using e)
    exact ⟨u, by simpa using h1, h2⟩
theorem RpAll.take : ∀ {vs : List V} {ds : List D} (n : Nat), RpAll K F vs ds → RpAll K F (vs.take n) (ds.take n)
  | _, _, 0, _ => .nil
  | _, _, _ + 1, .nil => .nil
  | _, _, n + 1, .cons r t => .cons r (RpAll.take n t)
theorem RpAll.drop : ∀ {vs : List V} {ds : List D} (n : Nat), RpAll K F vs ds → RpAll K F (vs.drop n) (ds.drop n)
  | _, _, 0, r => r
  | _, _, _ + 1, .nil => .nil
  | _, _, n + 1, .cons _ t => RpAll.drop n t
theorem RpAll.rev : ∀ {vs : List V} {ds : List D}, RpAll K F vs ds → RpAll K F vs.reverse ds.reverse
  | _, _, .nil => .nil
  | _, _, .cons r t => by
    rw [List.reverse_cons, List.reverse_cons]
    exact (RpAll.rev t).append (.cons r .nil)
theorem RpAll.ints : ∀ (ns : List Int), RpAll K F (ns.map V.int) (ns.map D.int)
  | [] => .nil
  | n :: r => .cons (.int n) (RpAll.ints r)
theorem RpAll.set : ∀ {vs : List V} {ds : List D} {v : V} {d : D} (i : Nat), RpAll K F vs ds → Rp K F v d → RpAll K F (vs.set i v) (ds.set i d)
  | _, _, _, _, _, .nil, _ => .nil
  | _, _, _, _, 0, .cons _ t, q => .cons q t
  | _, _, _, _, i + 1, .cons r t, q => .cons r (RpAll.set i t q)
theorem Rp.int_inv {v : V} {i : Int} (h : Rp K F v (.int i)) : v = .int i := by cases h; rfl
theorem Rp.str_inv {v : V} {x : Str} (h : Rp K F v (.str x)) : v = .str x := by cases h; rfl
theorem Rp.bl_inv {v : V} {b : Bool} (h : Rp K F v (.bl b)) : v = .bl b := by cases h; rfl
theorem Rp.non_inv {v : V} (h : Rp K F v .non) : v = .non := by cases h; rfl
theorem Rp.tup_inv {v : V} {ds : List D} (h : Rp K F v (.tup ds)) : ∃ a vs, v = .ref a ∧ TupAt K F a vs ∧ vs.length ≤ sizeLine ∧ RpAll K F vs ds := by cases h with | tup a b c => exact ⟨_, _, rfl, a, b, c⟩
theorem Rp.lst_inv {v : V} {ds : List D} (h : Rp K F v (.lst ds)) : ∃ a vs, v = .ref a ∧ SqL K F a vs ∧ vs.length ≤ sizeLine ∧ RpAll K F vs ds := by cases h with | lst a b c => exact ⟨_, _, rfl, a, b, c⟩
end

/-! ### the draws' state: one dict and two lists that calls may change -/
structure JS where
  gs : List Int
  r : Int
  t : Int
/-- tbs: tables of code objects, each with the name that its lambdas bear; xk: what is wanted of an error; fa: where the defs stand; cl: the frame's cells; ej, eF, eH: the entry -/
structure Jst where
  js : JS
  cs : List Int
  bd : Int
  on : Bool
  ad : Addr
  lg : Addr
  lc : Addr
  tbs : List (Addr × Str) := []
  xk : Addr → List Str → List D → JS → Prop := fun _ _ _ _ => False
  fa : Str → Addr := fun _ => 0
  cl : List (Str × Addr) := []
  ej : JS := ⟨[], 0, 0⟩
  eF : Hp := fun _ => none
  eH : Hp := fun _ => none
/-- without the tables -/
def Jst.hd (J : Jst) (b : Addr) : Bool := J.on && (b == J.ad || b == J.lg || b == J.lc)
def Jst.has (J : Jst) (b : Addr) : Bool := J.hd b || J.tbs.any fun p => b == p.1
/-- the table at P: each code object that it tells stands frozen and bears the name q -/
def TabF (F H : Hp) (P : Addr) (q : Str) : Prop := ∃ ps : Array Value, H P = some (.tbl ps) ∧ TriplesOk ps.toList ∧ ∀ (pos : Pos) (cv : Value), codeAmong pos ps.toList = some cv → ∃ c, cv = .ref c ∧ F c = some (LamX.CodeO c q)
def sKey (x : String) : Key := .inr (Str.ofString x)
def jTab (J : Jst) : List (Key × V) := [(sKey "great", .ref J.lg), (sKey "cells", .ref J.lc), (sKey "rest", .int J.js.r), (sKey "turn", .int J.js.t)]
def JHas (J : Jst) (H : Hp) : Prop :=
  J.ad ≠ J.lg ∧ J.ad ≠ J.lc ∧ J.lg ≠ J.lc ∧ H J.ad = some (.dK (jTab J)) ∧ H J.lg = some (.lst (J.js.gs.map V.int)) ∧ H J.lc = some (.lst (J.cs.map V.int)) ∧
  J.js.gs.length ≤ 63 ∧ J.cs.length ≤ 63 ∧ (∀ g ∈ J.js.gs, 0 ≤ g) ∧ (∀ c ∈ J.cs, 0 ≤ c) ∧ 0 ≤ J.js.r ∧ 0 ≤ J.js.t
def Jst.ok (J : Jst) (H : Hp) : Prop := J.on = true → JHas J H
/-- the same state's object, with other contents -/
abbrev Jst.at (J : Jst) (j : JS) : Jst := { J with js := j }
theorem Jst.hd_has {J : Jst} {b : Addr} (h : J.hd b = true) : J.has b = true := by unfold Jst.has; rw [h]; rfl
theorem Jst.hd_no {J : Jst} {b : Addr} (h : J.has b = false) : J.hd b = false := by
  unfold Jst.has at h
  exact (Bool.or_eq_false_iff.mp h).1
theorem Jst.hd_ad {J : Jst} (on : J.on = true) : J.hd J.ad = true := by unfold Jst.hd; rw [on]; simp
theorem Jst.hd_lg {J : Jst} (on : J.on = true) : J.hd J.lg = true := by unfold Jst.hd; rw [on]; simp
theorem Jst.hd_lc {J : Jst} (on : J.on = true) : J.hd J.lc = true := by unfold Jst.hd; rw [on]; simp
theorem Jst.tb_has {J : Jst} {p : Addr × Str} (h : p ∈ J.tbs) : J.has p.1 = true := by
  unfold Jst.has
  rw [show (J.tbs.any fun q => p.1 == q.1) = true from List.any_eq_true.mpr ⟨p, h, by simp⟩, Bool.or_true]
theorem Jst.someH {J : Jst} {H : Hp} (h : J.ok H) {b : Addr} (hb : J.hd b = true) : ∃ o, H b = Option.some o := by
  unfold Jst.hd at hb
  simp only [Bool.and_eq_true, Bool.or_eq_true, beq_iff_eq] at hb
  obtain ⟨h1, h2⟩ := hb
  obtain ⟨_, _, _, e1, e2, e3, _⟩ := h h1
  rcases h2 with (h2 | h2) | h2 <;> subst h2
  · exact ⟨_, e1⟩
  · exact ⟨_, e2⟩
  · exact ⟨_, e3⟩
theorem Jst.ok_of {J : Jst} {H H' : Hp} (h : J.ok H) (k : ∀ b, J.has b = true → H' b = H b) : J.ok H' := fun on => by
  obtain ⟨a1, a2, a3, e1, e2, e3, q⟩ := h on
  exact ⟨a1, a2, a3, (k _ (Jst.hd_has (Jst.hd_ad on))).trans e1, (k _ (Jst.hd_has (Jst.hd_lg on))).trans e2, (k _ (Jst.hd_has (Jst.hd_lc on))).trans e3, q⟩

structure BaseOk (J : Jst) (F H : Hp) : Prop where
  fh : Sub F H
  nj : ∀ b, J.has b = true → F b = none
  jk : J.ok H
  tb : ∀ p ∈ J.tbs, TabF F H p.1 p.2
theorem BaseOk.some {J : Jst} {F H : Hp} (h : BaseOk J F H) {b : Addr} (hb : J.has b = true) : ∃ o, H b = Option.some o := by
  unfold Jst.has at hb
  rcases Bool.or_eq_true_iff.mp hb with q | q
  · exact Jst.someH h.jk q
  · obtain ⟨p, hp, e⟩ := List.any_eq_true.mp q
    obtain ⟨ps, e1, _⟩ := h.tb p hp
    rw [beq_iff_eq.mp e]
    exact ⟨_, e1⟩
theorem tb_keep {J : Jst} {F F' H H' : Hp} (t : ∀ p ∈ J.tbs, TabF F H p.1 p.2) (f : Sub F F') (k : ∀ b, J.has b = true → H' b = H b) : ∀ p ∈ J.tbs, TabF F' H' p.1 p.2 := fun p hp => by
  obtain ⟨ps, e1, e2, e3⟩ := t p hp
  refine ⟨ps, (k _ (Jst.tb_has hp)).trans e1, e2, fun pos cv hc => ?_⟩
  obtain ⟨c, q1, q2⟩ := e3 pos cv hc
  exact ⟨c, q1, f _ _ q2⟩
structure Gr (J : Jst) (F H F' H' : Hp) : Prop where
  ff : Sub F F'
  hh : ∀ b o, H b = some o → J.has b = false → H' b = some o
  nw : ∀ b o, F' b = some o → F b = some o ∨ H b = none
  base : BaseOk J F' H'
theorem Gr.refl {J : Jst} {F H : Hp} (b : BaseOk J F H) : Gr J F H F H := ⟨Sub.refl _, fun _ _ h _ => h, fun _ _ h => .inl h, b⟩
theorem Gr.trans {J : Jst} {F H F1 H1 F2 H2 : Hp} (a : Gr J F H F1 H1) (b : Gr J F1 H1 F2 H2) : Gr J F H F2 H2 := by
  refine ⟨a.ff.trans b.ff, fun c o h n => b.hh c o (a.hh c o h n) n, fun c o h => ?_, b.base⟩
  rcases b.nw c o h with q | q
  · exact a.nw c o q
  · cases n : J.has c with
    | true => rw [b.base.nj c n] at h; cases h
    | false =>
      cases e : H c with
      | none => exact .inr rfl
      | some u => rw [a.hh c u e n] at q; cases q
/-- .. the draws' state may have changed -/
structure Gt (J : Jst) (F H : Hp) (j' : JS) (F' H' : Hp) : Prop where
  ff : Sub F F'
  hh : ∀ b o, H b = some o → J.has b = false → H' b = some o
  nw : ∀ b o, F' b = some o → F b = some o ∨ H b = none
  base : BaseOk (J.at j') F' H'
theorem Gr.gt {J : Jst} {j : JS} {F H F' H' : Hp} (g : Gr (J.at j) F H F' H') : Gt (J.at j) F H j F' H' := ⟨g.ff, g.hh, g.nw, g.base⟩
theorem Gt.refl {J : Jst} {j : JS} {F H : Hp} (b : BaseOk (J.at j) F H) : Gt (J.at j) F H j F H := (Gr.refl b).gt
theorem Gt.trans {J : Jst} {j j1 j2 : JS} {F H F1 H1 F2 H2 : Hp} (a : Gt (J.at j) F H j1 F1 H1) (b : Gt (J.at j1) F1 H1 j2 F2 H2) : Gt (J.at j) F H j2 F2 H2 := by
  refine ⟨a.ff.trans b.ff, fun c o h n => b.hh c o (a.hh c o h n) n, fun c o h => ?_, b.base⟩
  rcases b.nw c o h with q | q
  · exact a.nw c o q
  · cases n : (J.at j).has c with
    | true => rw [b.base.nj c n] at h; cases h
    | false =>
      cases e : H c with
      | none => exact .inr rfl
      | some u => rw [a.hh c u e n] at q; cases q
theorem Gt.pure {J : Jst} {j j1 : JS} {F H F1 H1 F2 H2 : Hp} (a : Gt (J.at j) F H j1 F1 H1) (b : Gr (J.at j1) F1 H1 F2 H2) : Gt (J.at j) F H j1 F2 H2 := a.trans b.gt
theorem BaseOk.new {J : Jst} {F H : Hp} (b : BaseOk J F H) {p : Addr} (hp : H p = none) : J.has p = false := by
  cases n : J.has p with
  | false => rfl
  | true =>
    obtain ⟨o, e⟩ := b.some n
    rw [hp] at e; cases e
theorem BaseOk.fnew {J : Jst} {F H : Hp} (b : BaseOk J F H) {p : Addr} (hp : H p = none) : F p = none := by
  cases e : F p with
  | none => rfl
  | some u => rw [b.fh p u e] at hp; cases hp
/-- a new object, frozen -/
theorem Gr.laid {J : Jst} {F H : Hp} (b : BaseOk J F H) {p : Addr} (hp : H p = none) (o : HO) : Gr J F H (upd F p o) (upd H p o) := by
  have nj := b.new hp
  have nf := b.fnew hp
  refine ⟨fun c u h => ?_, fun c u h _ => ?_, fun c u h => ?_, fun c u h => ?_, fun c h => ?_, ?_, ?_⟩
  · rw [upd_ne (ne_of_none h nf)]; exact h
  · rw [upd_ne (ne_of_none h hp)]; exact h
  · by_cases e : c = p
    · subst e; exact .inr hp
    · rw [upd_ne e] at h; exact .inl h
  · by_cases e : c = p
    · subst e; rw [upd_same] at h ⊢; exact h
    · rw [upd_ne e] at h ⊢; exact b.fh c u h
  · have e : c ≠ p := by rintro rfl; rw [nj] at h; cases h
    rw [upd_ne e]; exact b.nj c h
  · exact Jst.ok_of b.jk fun c h => upd_ne (by rintro rfl; rw [nj] at h; cases h)
  · exact tb_keep b.tb (fun c u h => by rw [upd_ne (ne_of_none h nf)]; exact h) fun c h => upd_ne (by rintro rfl; rw [nj] at h; cases h)
/-- a new object, not frozen -/
theorem Gr.own {J : Jst} {F H : Hp} (b : BaseOk J F H) {p : Addr} (hp : H p = none) (o : HO) : Gr J F H F (upd H p o) := by
  have nj := b.new hp
  have nf := b.fnew hp
  refine ⟨Sub.refl _, fun c u h _ => ?_, fun c u h => .inl h, fun c u h => ?_, b.nj, ?_, ?_⟩
  · rw [upd_ne (ne_of_none h hp)]; exact h
  · rw [upd_ne (ne_of_none h nf)]; exact b.fh c u h
  · exact Jst.ok_of b.jk fun c h => upd_ne (by rintro rfl; rw [nj] at h; cases h)
  · exact tb_keep b.tb (Sub.refl _) fun c h => upd_ne (by rintro rfl; rw [nj] at h; cases h)
/-- an object that is not frozen is changed -/
theorem BaseOk.write {J : Jst} {F H : Hp} (b : BaseOk J F H) {p : Addr} (hp : F p = none) (nj : J.has p = false) (o : HO) : BaseOk J F (upd H p o) := by
  refine ⟨fun c u h => ?_, b.nj, ?_, ?_⟩
  · rw [upd_ne (ne_of_none h hp)]; exact b.fh c u h
  · exact Jst.ok_of b.jk fun c h => upd_ne (by rintro rfl; rw [nj] at h; cases h)
  · exact tb_keep b.tb (Sub.refl _) fun c h => upd_ne (by rintro rfl; rw [nj] at h; cases h)
/-- an object is frozen -/
theorem sub_same {F : Hp} {p : Addr} {o : HO} (h : F p = none ∨ F p = some o) : Sub F (upd F p o) := fun c u q => by
  by_cases e : c = p
  · subst e
    rw [upd_same]
    rcases h with h | h
    · rw [h] at q; cases q
    · rw [← h]; exact q
  · rw [upd_ne e]; exact q
theorem Gr.freeze {J : Jst} {F H F' H' : Hp} (g : Gr J F H F' H') {p : Addr} {o : HO} (h0 : H p = none) (h1 : H' p = some o) (b : BaseOk J F H) : Gr J F H (upd F' p o) H' := by
  have nj := b.new h0
  have f0 := b.fnew h0
  have fp : F' p = none ∨ F' p = some o := by
    cases e : F' p with
    | none => exact .inl rfl
    | some u => exact .inr (by have := g.base.fh p u e; rw [h1] at this; rw [this])
  refine ⟨fun c u h => ?_, g.hh, fun c u h => ?_, fun c u h => ?_, fun c h => ?_, g.base.jk, tb_keep g.base.tb (sub_same fp) fun _ _ => rfl⟩
  · rw [upd_ne (ne_of_none h f0)]; exact g.ff c u h
  · by_cases e : c = p
    · subst e; exact .inr h0
    · rw [upd_ne e] at h; exact g.nw c u h
  · by_cases e : c = p
    · subst e; rw [upd_same] at h; rw [h1]; exact h
    · rw [upd_ne e] at h; exact g.base.fh c u h
  · have e : c ≠ p := by rintro rfl; rw [nj] at h; cases h
    rw [upd_ne e]; exact g.base.nj c h
theorem Gt.freeze {J : Jst} {j j' : JS} {F H F' H' : Hp} (g : Gt (J.at j) F H j' F' H') {p : Addr} {o : HO} (h0 : H p = none) (h1 : H' p = some o) (b : BaseOk (J.at j) F H) : Gt (J.at j) F H j' (upd F' p o) H' := by
  have nj := b.new h0
  have f0 := b.fnew h0
  have fp : F' p = none ∨ F' p = some o := by
    cases e : F' p with
    | none => exact .inl rfl
    | some u => exact .inr (by have := g.base.fh p u e; rw [h1] at this; rw [this])
  refine ⟨fun c u h => ?_, g.hh, fun c u h => ?_, fun c u h => ?_, fun c h => ?_, g.base.jk, tb_keep g.base.tb (sub_same fp) fun _ _ => rfl⟩
  · rw [upd_ne (ne_of_none h f0)]; exact g.ff c u h
  · by_cases e : c = p
    · subst e; exact .inr h0
    · rw [upd_ne e] at h; exact g.nw c u h
  · by_cases e : c = p
    · subst e; rw [upd_same] at h; rw [h1]; exact h
    · rw [upd_ne e] at h; exact g.base.fh c u h
  · have e : c ≠ p := by
      rintro rfl
      rw [show (J.at j').has c = (J.at j).has c from rfl, nj] at h
      cases h
    rw [upd_ne e]; exact g.base.nj c h
/-- the same draws and tables, another frame, another wish of errors -/
abbrev Jst.re (J : Jst) (xk : Addr → List Str → List D → JS → Prop) (fa : Str → Addr) (cl : List (Str × Addr)) (ej : JS) (eF eH : Hp) : Jst := { J with xk := xk, fa := fa, cl := cl, ej := ej, eF := eF, eH := eH }
section
variable {J : Jst} {xk : Addr → List Str → List D → JS → Prop} {fa : Str → Addr} {cl : List (Str × Addr)} {ej : JS} {eF eH : Hp} {F H F' H' : Hp} {j j' : JS}
theorem BaseOk.re (h : BaseOk (J.at j) F H) : BaseOk ((J.re xk fa cl ej eF eH).at j) F H := ⟨h.fh, h.nj, h.jk, h.tb⟩
theorem BaseOk.er (h : BaseOk ((J.re xk fa cl ej eF eH).at j) F H) : BaseOk (J.at j) F H := ⟨h.fh, h.nj, h.jk, h.tb⟩
theorem Gt.re (g : Gt (J.at j) F H j' F' H') : Gt ((J.re xk fa cl ej eF eH).at j) F H j' F' H' := ⟨g.ff, g.hh, g.nw, BaseOk.re (J := J) (j := j') g.base⟩
theorem Gt.er (g : Gt ((J.re xk fa cl ej eF eH).at j) F H j' F' H') : Gt (J.at j) F H j' F' H' := ⟨g.ff, g.hh, g.nw, BaseOk.er (J := J) (j := j') g.base⟩
end
theorem sub_upd {F : Hp} {p : Addr} {o : HO} (h : F p = none) : Sub F (upd F p o) := fun c u q => by rw [upd_ne (ne_of_none q h)]; exact q

/-! ### slots -/
inductive SD where
  | no | val (d : D) | own (ds : List D)
@[simp] def slot : List SD → Nat → SD
  | [], _ => .no
  | x :: _, 0 => x
  | _ :: r, n + 1 => slot r n
@[simp] def put : List SD → Nat → SD → List SD
  | [], _, _ => []
  | _ :: r, 0, y => y :: r
  | x :: r, n + 1, y => x :: put r n y
theorem put_length : ∀ (ρ : List SD) (i : Nat) (y : SD), (put ρ i y).length = ρ.length
  | [], _, _ => rfl
  | _ :: _, 0, _ => rfl
  | _ :: r, n + 1, y => by show (put r n y).length + 1 = r.length + 1; rw [put_length r n y]
theorem slot_put_ne : ∀ (ρ : List SD) (i j : Nat) (y : SD), i ≠ j → slot (put ρ i y) j = slot ρ j
  | [], _, _, _, _ => rfl
  | _ :: _, 0, 0, _, h => absurd rfl h
  | _ :: _, 0, _ + 1, _, _ => rfl
  | _ :: _, _ + 1, 0, _, _ => rfl
  | _ :: r, i + 1, j + 1, y, h => slot_put_ne r i j y (fun e => h (by rw [e]))
theorem slot_put_same : ∀ (ρ : List SD) (i : Nat) (y : SD), i < ρ.length → slot (put ρ i y) i = y
  | [], _, _, h => absurd h (Nat.not_lt_zero _)
  | _ :: _, 0, _, _ => rfl
  | _ :: r, i + 1, y, h => slot_put_same r i y (Nat.lt_of_succ_lt_succ h)
theorem slot_big : ∀ (ρ : List SD) (i : Nat), ρ.length ≤ i → slot ρ i = .no
  | [], _, _ => rfl
  | _ :: _, 0, h => absurd h (Nat.not_succ_le_zero _)
  | _ :: r, i + 1, h => slot_big r i (Nat.le_of_succ_le_succ h)
theorem put_big : ∀ (ρ : List SD) (i : Nat) (y : SD), ρ.length ≤ i → put ρ i y = ρ
  | [], _, _, _ => rfl
  | _ :: _, 0, _, h => absurd h (Nat.not_succ_le_zero _)
  | x :: r, i + 1, y, h => by show x :: put r i y = x :: r; rw [put_big r i y (Nat.le_of_succ_le_succ h)]

def OwnAt (K : PySem.W.Frag) (J : Jst) (F H : Hp) (a : Addr) (ds : List D) : Prop :=
  F a = none ∧ J.has a = false ∧ ∃ vs, H a = some (.lst vs) ∧ vs.length ≤ sizeLine ∧ RpAll K F vs ds
structure SR (K : PySem.W.Frag) (J : Jst) (F H : Hp) (σ : L2.St) (ρ : List SD) : Prop where
  base : BaseOk J F H
  ent : Gt (J.at J.ej) J.eF J.eH J.js F H
  len : σ.length = ρ.length
  vals : ∀ i d, slot ρ i = .val d → ∃ v, σ[i]? = some (some v) ∧ Rp K F v d
  owns : ∀ i ds, slot ρ i = .own ds → ∃ a, σ[i]? = some (some (.ref a)) ∧ OwnAt K J F H a ds
  dist : ∀ i j ds es a, i ≠ j → slot ρ i = .own ds → slot ρ j = .own es → σ[i]? = some (some (.ref a)) → σ[j]? ≠ some (some (.ref a))
  own0 : ∀ i ds a, slot ρ i = .own ds → σ[i]? = some (some (.ref a)) → J.eH a = none
section
variable {K : PySem.W.Frag} {J : Jst} {F H F' H' : Hp} {σ : L2.St} {ρ : List SD}
theorem OwnAt.grow {a : Addr} {ds : List D} {j j' : JS} (o : OwnAt K (J.at j) F H a ds) (g : Gt (J.at j) F H j' F' H') : OwnAt K (J.at j') F' H' a ds := by
  obtain ⟨h1, h2, vs, h3, h4, h5⟩ := o
  refine ⟨?_, h2, vs, g.hh _ _ h3 h2, h4, h5.mono g.ff⟩
  cases e : F' a with
  | none => rfl
  | some u =>
    rcases g.nw a u e with q | q
    · rw [h1] at q; cases q
    · rw [h3] at q; cases q
theorem SR.grow {j j' : JS} (s : SR K (J.at j) F H σ ρ) (g : Gt (J.at j) F H j' F' H') : SR K (J.at j') F' H' σ ρ := by
  refine ⟨g.base, s.ent.trans g, s.len, fun i d e => ?_, fun i ds e => ?_, s.dist, s.own0⟩
  · obtain ⟨v, h1, h2⟩ := s.vals i d e
    exact ⟨v, h1, h2.mono g.ff⟩
  · obtain ⟨a, h1, h2⟩ := s.owns i ds e
    exact ⟨a, h1, h2.grow g⟩
theorem get_set_ne {σ : L2.St} {i j : Nat} {v : Option V} (h : i ≠ j) : (σ.set i v)[j]? = σ[j]? := List.getElem?_set_ne h
theorem SR.setVal {v : V} {d : D} {i : Nat} (s : SR K J F H σ ρ) (r : Rp K F v d) : SR K J F H (σ.set i (some v)) (put ρ i (.val d)) := by
  by_cases hi : i < ρ.length
  · have hσ : i < σ.length := by rw [s.len]; exact hi
    refine ⟨s.base, s.ent, by rw [List.length_set, put_length, s.len], fun j e h => ?_, fun j ds h => ?_, fun j k ds es a hjk h1 h2 h3 => ?_, fun j ds a h e => ?_⟩
    · by_cases hj : i = j
      · subst hj
        rw [slot_put_same _ _ _ hi] at h
        cases h
        exact ⟨v, List.getElem?_set_self hσ, r⟩
      · rw [slot_put_ne _ _ _ _ hj] at h
        rw [get_set_ne hj]
        exact s.vals j e h
    · by_cases hj : i = j
      · subst hj; rw [slot_put_same _ _ _ hi] at h; cases h
      · rw [slot_put_ne _ _ _ _ hj] at h
        rw [get_set_ne hj]
        exact s.owns j ds h
    · by_cases hj : i = j
      · subst hj; rw [slot_put_same _ _ _ hi] at h1; cases h1
      · by_cases hk : i = k
        · subst hk; rw [slot_put_same _ _ _ hi] at h2; cases h2
        · rw [slot_put_ne _ _ _ _ hj] at h1
          rw [slot_put_ne _ _ _ _ hk] at h2
          rw [get_set_ne hj] at h3
          rw [get_set_ne hk]
          exact s.dist j k ds es a hjk h1 h2 h3
    · by_cases hj : i = j
      · subst hj; rw [slot_put_same _ _ _ hi] at h; cases h
      · rw [slot_put_ne _ _ _ _ hj] at h
        rw [get_set_ne hj] at e
        exact s.own0 j ds a h e
  · have hi := Nat.le_of_not_lt hi
    rw [put_big _ _ _ hi, List.set_eq_of_length_le (by rw [s.len]; exact hi)]
    exact s
theorem SR.setOwn {a : Addr} {ds : List D} {i : Nat} (s : SR K J F H σ ρ) (o : OwnAt K J F H a ds) (n0 : J.eH a = none) (n : ∀ j es, j ≠ i → slot ρ j = .own es → σ[j]? ≠ some (some (.ref a))) : SR K J F H (σ.set i (some (.ref a))) (put ρ i (.own ds)) := by
  by_cases hi : i < ρ.length
  · have hσ : i < σ.length := by rw [s.len]; exact hi
    refine ⟨s.base, s.ent, by rw [List.length_set, put_length, s.len], fun j e h => ?_, fun j es h => ?_, fun j k es fs b hjk h1 h2 h3 => ?_, fun j es b h e => ?_⟩
    · by_cases hj : i = j
      · subst hj; rw [slot_put_same _ _ _ hi] at h; cases h
      · rw [slot_put_ne _ _ _ _ hj] at h
        rw [get_set_ne hj]
        exact s.vals j e h
    · by_cases hj : i = j
      · subst hj
        rw [slot_put_same _ _ _ hi] at h
        cases h
        exact ⟨a, List.getElem?_set_self hσ, o⟩
      · rw [slot_put_ne _ _ _ _ hj] at h
        rw [get_set_ne hj]
        exact s.owns j es h
    · by_cases hj : i = j
      · subst hj
        rw [List.getElem?_set_self hσ] at h3
        cases h3
        rw [get_set_ne hjk]
        rw [slot_put_ne _ _ _ _ hjk] at h2
        exact n k fs hjk.symm h2
      · rw [slot_put_ne _ _ _ _ hj] at h1
        rw [get_set_ne hj] at h3
        by_cases hk : i = k
        · subst hk
          rw [List.getElem?_set_self hσ]
          intro q
          cases q
          exact n j es (Ne.symm hj) h1 h3
        · rw [slot_put_ne _ _ _ _ hk] at h2
          rw [get_set_ne hk]
          exact s.dist j k es fs b hjk h1 h2 h3
    · by_cases hj : i = j
      · subst hj
        rw [List.getElem?_set_self hσ] at e
        cases e
        exact n0
      · rw [slot_put_ne _ _ _ _ hj] at h
        rw [get_set_ne hj] at e
        exact s.own0 j es b h e
  · have hi := Nat.le_of_not_lt hi
    rw [put_big _ _ _ hi, List.set_eq_of_length_le (by rw [s.len]; exact hi)]
    exact s
/-- a name is forgotten -/
theorem SR.weak {ρ' : List SD} (s : SR K J F H σ ρ) (hl : ρ'.length = ρ.length) (w : ∀ i, slot ρ' i = slot ρ i ∨ slot ρ' i = .no) : SR K J F H σ ρ' := by
  refine ⟨s.base, s.ent, s.len.trans hl.symm, fun i d e => ?_, fun i d e => ?_, fun i j ds es a n e1 e2 e3 => ?_, fun i ds a h e => ?_⟩
  · rcases w i with q | q
    · exact s.vals i d (q ▸ e)
    · rw [q] at e; cases e
  · rcases w i with q | q
    · exact s.owns i d (q ▸ e)
    · rw [q] at e; cases e
  · rcases w i with q | q
    · rcases w j with z | z
      · exact s.dist i j ds es a n (q ▸ e1) (z ▸ e2) e3
      · rw [z] at e2; cases e2
    · rw [q] at e1; cases e1
  · rcases w i with q | q
    · exact s.own0 i ds a (q ▸ h) e
    · rw [q] at h; cases h
end

/-! ### what is read: it stands frozen, or it is an owned list -/
def RpR (K : PySem.W.Frag) (J : Jst) (F H : Hp) (v : V) (d : D) : Prop := Rp K F v d ∨ ∃ a ds, v = .ref a ∧ d = .lst ds ∧ OwnAt K J F H a ds
section
variable {K : PySem.W.Frag} {J : Jst} {F H F' H' : Hp}
theorem RpR.grow {v : V} {d : D} {j j' : JS} (o : RpR K (J.at j) F H v d) (g : Gt (J.at j) F H j' F' H') : RpR K (J.at j') F' H' v d := by
  rcases o with o | ⟨a, ds, e1, e2, o⟩
  · exact .inl (o.mono g.ff)
  · exact .inr ⟨a, ds, e1, e2, o.grow g⟩
theorem RpR.lst_inv {v : V} {ds : List D} (b : BaseOk J F H) (h : RpR K J F H v (.lst ds)) : ∃ a vs, v = .ref a ∧ SqL K H a vs ∧ vs.length ≤ sizeLine ∧ RpAll K F vs ds := by
  rcases h with h | ⟨a, es, e1, e2, _, _, vs, h1, h2, h3⟩
  · obtain ⟨a, vs, e, h1, h2, h3⟩ := h.lst_inv
    exact ⟨a, vs, e, b.fh.seqL h1, h2, h3⟩
  · cases e2
    exact ⟨a, vs, e1, .inl (.inl h1), h2, h3⟩
theorem RpR.tup_inv {v : V} {ds : List D} (b : BaseOk J F H) (h : RpR K J F H v (.tup ds)) : ∃ a vs, v = .ref a ∧ TupAt K H a vs ∧ vs.length ≤ sizeLine ∧ RpAll K F vs ds := by
  rcases h with h | ⟨a, es, e1, e2, _, _, vs, h1, h2, h3⟩
  · obtain ⟨a, vs, e, h1, h2, h3⟩ := h.tup_inv
    exact ⟨a, vs, e, b.fh.tupAt h1, h2, h3⟩
  · cases e2
theorem RpR.flat {v : V} {d : D} (h : RpR K J F H v d) (hd : ∀ ds, d ≠ .lst ds) : Rp K F v d := by
  rcases h with h | ⟨a, es, e1, e2, _⟩
  · exact h
  · exact absurd e2 (hd _)
end

/-! ### lifted readings -/
abbrev DE := JS → List SD → (D → JS → Prop) → Prop
abbrev DL' := JS → List SD → (List D → JS → Prop) → Prop
abbrev DT := JS → List SD → (Bool → JS → Prop) → Prop
/-- a value that stands frozen -/
def dE (K : PySem.W.Frag) (J : Jst) (t : DE) : TE := fun σ H Q => ∃ j F ρ P, SR K (J.at j) F H σ ρ ∧ t j ρ P ∧ ∀ d j', P d j' → ∀ v F' H', Gt (J.at j) F H j' F' H' → Rp K F' v d → Q v H'
/-- a value to be read -/
def dR (K : PySem.W.Frag) (J : Jst) (t : DE) : TE := fun σ H Q => ∃ j F ρ P, SR K (J.at j) F H σ ρ ∧ t j ρ P ∧ ∀ d j', P d j' → ∀ v F' H', Gt (J.at j) F H j' F' H' → RpR K (J.at j') F' H' v d → Q v H'
/-- a new list -/
def dF (K : PySem.W.Frag) (J : Jst) (t : DL') : TE := fun σ H Q => ∃ j F ρ P, SR K (J.at j) F H σ ρ ∧ t j ρ P ∧ ∀ ds j', P ds j' → ∀ a F' H', Gt (J.at j) F H j' F' H' → H a = none → OwnAt K (J.at j') F' H' a ds → Q (.ref a) H'
def dT (K : PySem.W.Frag) (J : Jst) (t : DT) : TT := fun σ H Q => ∃ j F ρ P, SR K (J.at j) F H σ ρ ∧ t j ρ P ∧ ∀ b j', P b j' → ∀ F' H', Gt (J.at j) F H j' F' H' → Q b H'
/-- n arguments -/
def dA (K : PySem.W.Frag) (J : Jst) (n : Nat) (t : DL') : TA := fun σ H Q => ∃ j F ρ P, SR K (J.at j) F H σ ρ ∧ t j ρ P ∧ ∀ ds j', ds.length = n → P ds j' → ∀ vs F' H', Gt (J.at j) F H j' F' H' → RpAll K F' vs ds → Q vs H'
theorem _root_.L2.PE.imp {X : Cx} {e : Expr} {t t' : TE} (h : PE X e t) (i : ∀ σ H Q, t' σ H Q → t σ H Q) : PE X e t' := ⟨fun pins s σ H Q I q => h.run pins s σ H Q I (i σ H Q q)⟩
theorem _root_.L2.PT.imp {X : Cx} {e : Expr} {t t' : TT} (h : PT X e t) (i : ∀ σ H Q, t' σ H Q → t σ H Q) : PT X e t' := ⟨fun pins s σ H Q I q => h.run pins s σ H Q I (i σ H Q q)⟩
theorem _root_.L2.PW.imp {X : Cx} {e : Expr} {t t' : TT} (h : PW X e t) (i : ∀ σ H Q, t' σ H Q → t σ H Q) : PW X e t' := ⟨fun w pins s σ H Q I q => h.run w pins s σ H Q I (i σ H Q q)⟩
theorem _root_.L2.PA.imp {X : Cx} {e : List Expr} {t t' : TA} (h : PA X e t) (i : ∀ σ H Q, t' σ H Q → t σ H Q) : PA X e t' := ⟨fun w pins s σ H Q I q => h.run w pins s σ H Q I (i σ H Q q)⟩
theorem _root_.L2.PS.imp {X : Cx} {e : Stmt} {t t' : TS} (h : PS X e t) (i : ∀ D σ H, t' D σ H → t D σ H) : PS X e t' := ⟨fun pins s σ H D I q => h.run pins s σ H D I (i D σ H q)⟩
theorem _root_.L2.PSs.imp {X : Cx} {e : List Stmt} {t t' : TS} (h : PSs X e t) (i : ∀ D σ H, t' D σ H → t D σ H) : PSs X e t' := ⟨fun pins s σ H D I q => h.run pins s σ H D I (i D σ H q)⟩
theorem _root_.L2.PG.imp {X : Cx} {e : Expr} {t t' : TG} (h : PG X e t) (i : ∀ v σ H Q, t' v σ H Q → t v σ H Q) : PG X e t' := ⟨fun pins s σ H v u Q I r q => h.run pins s σ H v u Q I r (i v σ H Q q)⟩
section
variable {X : Cx} {J : Jst} {e : Expr}
theorem dr_of_de {t : DE} (h : PE X e (dE X.K J t)) : PE X e (dR X.K J t) :=
  h.imp fun σ H Q ⟨j, F, ρ, P, s, q, k⟩ => ⟨j, F, ρ, P, s, q, fun d j' p v F' H' g r => k d j' p v F' H' g (.inl r)⟩
theorem dr_of_df {t : DL'} (h : PE X e (dF X.K J t)) : PE X e (dR X.K J fun j ρ P => t j ρ fun ds => P (.lst ds)) :=
  h.imp fun σ H Q ⟨j, F, ρ, P, s, q, k⟩ => ⟨j, F, ρ, _, s, q, fun ds j' p a F' H' g _ o => k (.lst ds) j' p (.ref a) F' H' g (.inr ⟨a, ds, rfl, rfl, o⟩)⟩
theorem de_of_df {t : DL'} (h : PE X e (dF X.K J t)) : PE X e (dE X.K J fun j ρ P => t j ρ fun ds => P (.lst ds)) :=
  h.imp fun σ H Q ⟨j, F, ρ, P, s, q, k⟩ => ⟨j, F, ρ, _, s, q, fun ds j' p a F' H' g n o => by
    obtain ⟨f, _, vs, h1, h2, h3⟩ := o
    exact k (.lst ds) j' p (.ref a) _ H' (g.freeze n h1 s.base) (.lst (.inl (.inl upd_same)) h2 (h3.mono (sub_upd f)))⟩
/-! names, constants -/
@[simp] def dVar (i : Nat) : DE := fun j ρ P => match slot ρ i with
  | .val d => P d j
  | _ => False
@[simp] def dVarR (i : Nat) : DE := fun j ρ P => match slot ρ i with
  | .val d => P d j
  | .own ds => P (.lst ds) j
  | .no => False
theorem de_var {i : Nat} (h : PE X e (tVar i)) : PE X e (dE X.K J (dVar i)) :=
  h.imp fun σ H Q ⟨j, F, ρ, P, s, q, k⟩ => by
    unfold dVar at q
    cases hs : slot ρ i with
    | val d =>
      rw [hs] at q
      obtain ⟨v, e, r⟩ := s.vals i d hs
      exact ⟨v, e, k d j q v F H (Gt.refl s.base) r⟩
    | no => rw [hs] at q; exact q.elim
    | own ds => rw [hs] at q; exact q.elim
theorem dr_var {i : Nat} (h : PE X e (tVar i)) : PE X e (dR X.K J (dVarR i)) :=
  h.imp fun σ H Q ⟨j, F, ρ, P, s, q, k⟩ => by
    unfold dVarR at q
    cases hs : slot ρ i with
    | val d =>
      rw [hs] at q
      obtain ⟨v, e, r⟩ := s.vals i d hs
      exact ⟨v, e, k d j q v F H (Gt.refl s.base) (.inl r)⟩
    | no => rw [hs] at q; exact q.elim
    | own ds =>
      rw [hs] at q
      obtain ⟨a, e, o⟩ := s.owns i ds hs
      exact ⟨.ref a, e, k _ j q _ F H (Gt.refl s.base) (.inr ⟨a, ds, rfl, rfl, o⟩)⟩
@[simp] def dC (d : D) : DE := fun j _ P => P d j
theorem de_c {v : V} {d : D} (h : PE X e (tC v)) (r : ∀ F, Rp X.K F v d) : PE X e (dE X.K J (dC d)) :=
  h.imp fun σ H Q ⟨j, F, ρ, P, s, q, k⟩ => k d j q v F H (Gt.refl s.base) (r F)
theorem de_int {i : Int} (h : PE X e (tC (.int i))) : PE X e (dE X.K J (dC (.int i))) := de_c h fun _ => .int i
theorem de_str {i : Str} (h : PE X e (tC (.str i))) : PE X e (dE X.K J (dC (.str i))) := de_c h fun _ => .str i
theorem de_bl {i : Bool} (h : PE X e (tC (.bl i))) : PE X e (dE X.K J (dC (.bl i))) := de_c h fun _ => .bl i
theorem de_non (h : PE X e (tC .non)) : PE X e (dE X.K J (dC .non)) := de_c h fun _ => .non
theorem de_ref {a : Addr} (h : PE X e (tC (.ref a))) : PE X e (dE X.K J (dC (.ref a))) := de_c h fun _ => .ref a
theorem de_ty {a : String} (h : PE X e (tC (.ty a))) : PE X e (dE X.K J (dC (.ty a))) := de_c h fun _ => .ty a
/-! arguments -/
@[simp] def dNil : DL' := fun j _ P => P [] j
@[simp] def dCons (ta : DE) (tr : DL') : DL' := fun j ρ P => ta j ρ fun x j1 => tr j1 ρ fun xs => P (x :: xs)
theorem da_nil : PA X [] (dA X.K J 0 dNil) := pa_nil.imp fun σ H Q ⟨j, F, ρ, P, s, q, k⟩ => k [] j rfl q [] F H (Gt.refl s.base) .nil
theorem da_cons {es : List Expr} {ta : DE} {tr : DL'} {n : Nat} (ha : PE X e (dE X.K J ta)) (hr : PA X es (dA X.K J n tr)) (hs : starEach (e :: es) X.env = (false, eval e X.env) :: starEach es X.env := by rfl) : PA X (e :: es) (dA X.K J (n + 1) (dCons ta tr)) :=
  (pa_cons ha hr hs).imp fun σ H Q ⟨j, F, ρ, P, s, q, k⟩ => ⟨j, F, ρ, _, s, q, fun d j1 p v F1 H1 g r => ⟨j1, F1, ρ, _, s.grow g, p, fun ds j2 l p vs F2 H2 g2 rs =>
    k (d :: ds) j2 (by rw [List.length_cons, l]) p (v :: vs) F2 H2 (g.trans g2) (.cons (r.mono g2.ff) rs)⟩⟩
/-! displays -/
/-- a new tuple -/
def newT (vs : List V) : Hp → VK → Prop := fun H Q => ∀ (p : Addr) (o : Obj), H p = none → o.dict = none → Q (.ref p) (upd H p (.frz o (.tup vs)))
theorem newT_at {pins : List (Addr × Obj)} {σ : L2.St} {H : Hp} {s : Shared} {Q : VK} {vs : List V} {us : List Value} (I : Inv X pins σ H s) (r : Vals vs us) (hz : vs.length ≤ sizeLine) (q : newT vs H Q) :
    EP X pins σ Q (.ref s.heap.objs.size) { s with heap := s.heap.push { cls := .type "tuple", data := .seq us.toArray } } := by
  refine ⟨.ref s.heap.objs.size, upd H s.heap.objs.size (.frz { cls := .type "tuple", data := .seq us.toArray } (.tup vs)), I.laid (t' := s.toks) (fun b u e => Heap.get?_push_of_some _ e) (Nat.le_refl _) ?_, rfl, q _ _ (I.hok.fresh (Nat.le_refl _)) rfl⟩
  exact ⟨Heap.get?_push_size _ rfl, hz, us, r, IsTup.new _ _⟩
theorem newT_go {K : PySem.W.Frag} {F H F1 H1 : Hp} {vs : List V} {ds : List D} {P : D → Prop} {Q : VK} (g : Gr J F H F1 H1) (hl : vs.length ≤ sizeLine) (r : RpAll K F1 vs ds) (p : P (.tup ds)) (k : ∀ d, P d → ∀ v F' H', Gr J F H F' H' → Rp K F' v d → Q v H') : newT vs H1 Q := fun a o ha ho =>
  k _ p _ _ _ (g.trans (Gr.laid g.base ha _)) (.tup (.inl ⟨o, upd_same, ho⟩) hl (r.mono (sub_upd (g.base.fnew ha))))
theorem pe_tupZ {es : List Expr} {k : Nat} {pos : Pos} {t : TA} (h : PA X es t) : PE X (.Tuple es k pos) (fun σ H Q => t σ H fun vs H1 => vs.length ≤ sizeLine ∧ newT vs H1 Q) := by
  refine ⟨fun pins s σ H Q I hq => ?_⟩
  exact wpAny_Tuple_spliced (thn (h.run pos pins s σ H _ I hq) fun us s1 ⟨xs, H1, I1, r, z, q⟩ => ⟨by rw [← r.length]; exact z, newT_at I1 r z q⟩)
theorem de_tup {es : List Expr} {k : Nat} {pos : Pos} {n : Nat} {t : DL'} (h : PA X es (dA X.K J n t)) (hn : n ≤ sizeLine := by decide) : PE X (.Tuple es k pos) (dE X.K J fun j ρ P => t j ρ fun ds => P (.tup ds)) :=
  (pe_tupZ h).imp fun σ H Q ⟨j, F, ρ, P, s, q, k⟩ => ⟨j, F, ρ, _, s, q, fun ds j1 l p vs F1 H1 g r => by
    have hl : vs.length ≤ sizeLine := by rw [r.length, l]; exact hn
    exact ⟨hl, newT_go (J := J.at j1) (P := fun d => P d j1) (Gr.refl g.base) hl r p fun d pd v F' H' g' r' => k d j1 pd v F' H' (g.pure g') r'⟩⟩
theorem df_lst {es : List Expr} {pos : Pos} {n : Nat} {t : DL'} (h : PA X es (dA X.K J n t)) (hn : n ≤ sizeLine := by decide) : PE X (.List es pos) (dF X.K J t) :=
  (pe_lst h).imp fun σ H Q ⟨j, F, ρ, P, s, q, k⟩ => ⟨j, F, ρ, _, s, q, fun ds j1 l p vs F1 H1 g r => by
    have hl : vs.length ≤ sizeLine := by rw [r.length, l]; exact hn
    refine ⟨hl, fun a ha => ?_⟩
    refine k ds j1 p a F1 _ (g.pure (Gr.own g.base ha _)) ?_ ⟨g.base.fnew ha, g.base.new ha, vs, upd_same, hl, r⟩
    cases e : H a with
    | none => rfl
    | some u =>
      have nj := g.base.new ha
      rw [g.hh a u e nj] at ha; cases ha⟩
end
end DL

/-! DL2 -/
/-! DL2: data as the library has it, operators, comparisons, tests, subscripts, built-in functions. -/
namespace DL
open PySem PySem.Spec PyProof.Rows L2

/-! ### data -/
mutual
def enc : D → PyData
  | .non => .none
  | .bl b => .bool b
  | .int i => .int i
  | .str x => .str x
  | .tup xs => .tuple (encAll xs)
  | .lst xs => .list (encAll xs)
  | .ref _ => .none
  | .ty _ => .none
  | .exc _ _ _ => .none
  | .clo _ _ => .none
  | .dct _ _ => .none
def encAll : List D → List PyData
  | [] => []
  | x :: r => enc x :: encAll r
end
/-- data without objects, at most so deep -/
def lv : Nat → D → Bool
  | _, .non => true
  | _, .bl _ => true
  | _, .int _ => true
  | _, .str _ => true
  | n + 1, .tup xs => xs.all fun d => lv n d
  | n + 1, .lst xs => xs.all fun d => lv n d
  | 0, .tup _ => false
  | 0, .lst _ => false
  | _, .ref _ => false
  | _, .ty _ => false
  | _, .exc _ _ _ => false
  | _, .clo _ _ => false
  | _, .dct _ _ => false
theorem lv_tup (n : Nat) (xs : List D) : lv (n + 1) (.tup xs) = xs.all fun d => lv n d := rfl
theorem lv_lst (n : Nat) (xs : List D) : lv (n + 1) (.lst xs) = xs.all fun d => lv n d := rfl
theorem lv_int (n : Nat) (i : Int) : lv n (.int i) = true := by cases n <;> rfl
theorem lv_str (n : Nat) (i : Str) : lv n (.str i) = true := by cases n <;> rfl
theorem lv_bl (n : Nat) (i : Bool) : lv n (.bl i) = true := by cases n <;> rfl
theorem lv_non (n : Nat) : lv n .non = true := by cases n <;> rfl
theorem lv_ref (n : Nat) (a : Addr) : lv n (.ref a) = false := by cases n <;> rfl
theorem lv_ty (n : Nat) (a : String) : lv n (.ty a) = false := by cases n <;> rfl
theorem lv_exc (n : Nat) (a : Addr) (ns : List Str) (vs : List D) : lv n (.exc a ns vs) = false := by cases n <;> rfl
theorem lv_clo (n : Nat) (T : LamT) (cl : List (Str × Addr)) : lv n (.clo T cl) = false := by cases n <;> rfl
theorem lv_dct (n : Nat) (ks vs : List D) : lv n (.dct ks vs) = false := by cases n <;> rfl
theorem lv_mono : ∀ {n m : Nat} {d : D}, lv n d = true → n ≤ m → lv m d = true
  | _, m, .non, _, _ => lv_non m
  | _, m, .bl _, _, _ => lv_bl m _
  | _, m, .int _, _, _ => lv_int m _
  | _, m, .str _, _, _ => lv_str m _
  | n, _, .ref _, h, _ => by rw [lv_ref] at h; cases h
  | n, _, .ty _, h, _ => by rw [lv_ty] at h; cases h
  | n, _, .exc _ _ _, h, _ => by rw [lv_exc] at h; cases h
  | n, _, .clo _ _, h, _ => by rw [lv_clo] at h; cases h
  | n, _, .dct _ _, h, _ => by rw [lv_dct] at h; cases h
  | 0, _, .tup _, h, _ => by cases h
  | 0, _, .lst _, h, _ => by cases h
  | n + 1, 0, .tup _, _, hm => absurd hm (Nat.not_succ_le_zero _)
  | n + 1, 0, .lst _, _, hm => absurd hm (Nat.not_succ_le_zero _)
  | n + 1, m + 1, .tup xs, h, hm => by
    rw [lv_tup, List.all_eq_true] at h ⊢
    exact fun x hx => lv_mono (h x hx) (Nat.le_of_succ_le_succ hm)
  | n + 1, m + 1, .lst xs, h, hm => by
    rw [lv_lst, List.all_eq_true] at h ⊢
    exact fun x hx => lv_mono (h x hx) (Nat.le_of_succ_le_succ hm)
theorem plainAll_of {ds : List D} (h : ∀ d ∈ ds, (enc d).plain = true) : PyData.plainAll (encAll ds) = true := by
  induction ds with
  | nil => rfl
  | cons d r ih =>
    show ((enc d).plain && PyData.plainAll (encAll r)) = true
    rw [h d List.mem_cons_self, ih fun x hx => h x (List.mem_cons_of_mem _ hx)]
    rfl
theorem depthAll_of {ds : List D} {n : Nat} (h : ∀ d ∈ ds, (enc d).depth ≤ n) : PyData.depthAll (encAll ds) ≤ n := by
  induction ds with
  | nil => exact Nat.zero_le _
  | cons d r ih =>
    show max (enc d).depth (PyData.depthAll (encAll r)) ≤ n
    exact Nat.max_le.mpr ⟨h d List.mem_cons_self, ih fun x hx => h x (List.mem_cons_of_mem _ hx)⟩
theorem enc_lv : ∀ {n : Nat} {d : D}, lv n d = true → (enc d).plain = true ∧ (enc d).depth ≤ n
  | n, .non, _ => ⟨rfl, Nat.zero_le _⟩
  | n, .bl _, _ => ⟨rfl, Nat.zero_le _⟩
  | n, .int _, _ => ⟨rfl, Nat.zero_le _⟩
  | n, .str _, _ => ⟨rfl, Nat.zero_le _⟩
  | n, .ref _, h => by rw [lv_ref] at h; cases h
  | n, .ty _, h => by rw [lv_ty] at h; cases h
  | n, .exc _ _ _, h => by rw [lv_exc] at h; cases h
  | n, .clo _ _, h => by rw [lv_clo] at h; cases h
  | n, .dct _ _, h => by rw [lv_dct] at h; cases h
  | 0, .tup _, h => by cases h
  | 0, .lst _, h => by cases h
  | n + 1, .tup xs, h => by
    rw [lv_tup, List.all_eq_true] at h
    refine ⟨plainAll_of fun d hd => (enc_lv (h d hd)).1, ?_⟩
    show PyData.depthAll (encAll xs) + 1 ≤ n + 1
    exact Nat.succ_le_succ (depthAll_of fun d hd => (enc_lv (h d hd)).2)
  | n + 1, .lst xs, h => by
    rw [lv_lst, List.all_eq_true] at h
    refine ⟨plainAll_of fun d hd => (enc_lv (h d hd)).1, ?_⟩
    show PyData.depthAll (encAll xs) + 1 ≤ n + 1
    exact Nat.succ_le_succ (depthAll_of fun d hd => (enc_lv (h d hd)).2)
mutual
theorem Rp.dp {K : PySem.W.Frag} {F : Hp} : ∀ {d : D} {v : V} {n : Nat}, Rp K F v d → lv n d = true → Dp K F v (enc d)
  | _, _, _, .non, _ => .non
  | _, _, _, .bl b, _ => .bl b
  | _, _, _, .int b, _ => .int b
  | _, _, _, .str b, _ => .str b
  | _, _, _, .ty b, h => by rw [lv_ty] at h; cases h
  | _, _, _, .ref b, h => by rw [lv_ref] at h; cases h
  | _, _, _, .exc0 _ _ _ _, h => by rw [lv_exc] at h; cases h
  | _, _, _, .exc1 _ _ _ _ _ _, h => by rw [lv_exc] at h; cases h
  | _, _, _, .clo _ _, h => by rw [lv_clo] at h; cases h
  | _, _, _, .dctK _ _, h => by rw [lv_dct] at h; cases h
  | _, _, _, .dctT _, h => by rw [lv_dct] at h; cases h
  | .tup ds, _, 0, _, h => by cases h
  | .lst ds, _, 0, _, h => by cases h
  | .tup ds, _, n + 1, .tup s _ a, h => .tup s.sq (RpAll.dp a (by rw [lv_tup, List.all_eq_true] at h; exact h))
  | .lst ds, _, n + 1, .lst s _ a, h => .lst s (RpAll.dp a (by rw [lv_lst, List.all_eq_true] at h; exact h))
theorem RpAll.dp {K : PySem.W.Frag} {F : Hp} : ∀ {ds : List D} {vs : List V} {n : Nat}, RpAll K F vs ds → (∀ d ∈ ds, lv n d = true) → DpAll K F vs (encAll ds)
  | _, _, _, .nil, _ => .nil
  | _ :: _, _, _, .cons r t, h => .cons (Rp.dp r (h _ List.mem_cons_self)) (RpAll.dp t fun d hd => h d (List.mem_cons_of_mem _ hd))
end
theorem RpR.dp {K : PySem.W.Frag} {J : Jst} {F H : Hp} (b : BaseOk J F H) {v : V} {d : D} {n : Nat} (r : RpR K J F H v d) (h : lv n d = true) : Dp K H v (enc d) := by
  rcases r with r | ⟨a, ds, rfl, rfl, _, _, vs, h1, h2, h3⟩
  · exact (r.mono b.fh).dp h
  · cases n with
    | zero => cases h
    | succ n => exact .lst (.inl (.inl h1)) ((h3.mono b.fh).dp (by rw [lv_lst, List.all_eq_true] at h; exact h))
/-- x == y -/
def deqv (x y : D) : Bool := PyData.eqv (enc x) (enc y)
theorem deqv_int (i j : Int) : deqv (.int i) (.int j) = (i == j) := by simp only [deqv, enc, PyData.eqv]
theorem deqv_str (i j : Str) : deqv (.str i) (.str j) = (i == j) := by simp only [deqv, enc, PyData.eqv]
theorem encAll_map (xs : List D) : encAll xs = xs.map enc := by
  induction xs with
  | nil => rfl
  | cons x r ih => show enc x :: encAll r = _; rw [ih]; rfl
/-- data without truth values -/
def nb : Nat → D → Bool
  | _, .non => true
  | _, .int _ => true
  | _, .str _ => true
  | n + 1, .tup xs => xs.all fun d => nb n d
  | n + 1, .lst xs => xs.all fun d => nb n d
  | _, _ => false
theorem nb_tup (n : Nat) (xs : List D) : nb (n + 1) (.tup xs) = xs.all fun d => nb n d := rfl
theorem nb_lst (n : Nat) (xs : List D) : nb (n + 1) (.lst xs) = xs.all fun d => nb n d := rfl
theorem nb_int (n : Nat) (i : Int) : nb n (.int i) = true := by cases n <;> rfl
theorem nb_str (n : Nat) (i : Str) : nb n (.str i) = true := by cases n <;> rfl
theorem nb_non (n : Nat) : nb n .non = true := by cases n <;> rfl
theorem eqvAll_iff {xs ys : List D} (h : ∀ x ∈ xs, ∀ y ∈ ys, (PyData.eqv (enc x) (enc y) = true ↔ x = y)) : PyData.eqvAll (encAll xs) (encAll ys) = true ↔ xs = ys := by
  induction xs generalizing ys with
  | nil => cases ys with
    | nil => simp [encAll, PyData.eqvAll]
    | cons y r => simp [encAll, PyData.eqvAll]
  | cons x r ih => cases ys with
    | nil => simp [encAll, PyData.eqvAll]
    | cons y s =>
      have h1 := h x List.mem_cons_self y List.mem_cons_self
      have h2 := ih (ys := s) fun a ha b hb => h a (List.mem_cons_of_mem _ ha) b (List.mem_cons_of_mem _ hb)
      simp only [encAll, PyData.eqvAll, Bool.and_eq_true, h1, h2, List.cons.injEq]
theorem eqv_iff : ∀ {n : Nat} {x y : D}, nb n x = true → nb n y = true → (PyData.eqv (enc x) (enc y) = true ↔ x = y) := by
  intro n
  induction n with
  | zero =>
    intro x y hx hy
    cases x <;> cases y <;> first | (cases hx; done) | (cases hy; done) | simp [enc, PyData.eqv]
  | succ n ih =>
    intro x y hx hy
    cases x with
    | tup xs => cases y with
      | tup ys =>
        rw [nb_tup, List.all_eq_true] at hx hy
        simp only [enc, PyData.eqv, D.tup.injEq]
        exact eqvAll_iff fun a ha b hb => ih (hx a ha) (hy b hb)
      | _ => first | (cases hy; done) | simp [enc, PyData.eqv]
    | lst xs => cases y with
      | lst ys =>
        rw [nb_lst, List.all_eq_true] at hx hy
        simp only [enc, PyData.eqv, D.lst.injEq]
        exact eqvAll_iff fun a ha b hb => ih (hx a ha) (hy b hb)
      | _ => first | (cases hy; done) | simp [enc, PyData.eqv]
    | _ => cases y <;> first | (cases hx; done) | (cases hy; done) | simp [enc, PyData.eqv]
theorem deqv_iff {n : Nat} {x y : D} (hx : nb n x = true) (hy : nb n y = true) : deqv x y = true ↔ x = y := eqv_iff hx hy
theorem nb_lv : ∀ {n : Nat} {d : D}, nb n d = true → lv n d = true := by
  intro n
  induction n with
  | zero => intro d h; cases d <;> first | rfl | cases h
  | succ n ih =>
    intro d h
    cases d with
    | tup xs => rw [nb_tup, List.all_eq_true] at h; rw [lv_tup, List.all_eq_true]; exact fun x hx => ih (h x hx)
    | lst xs => rw [nb_lst, List.all_eq_true] at h; rw [lv_lst, List.all_eq_true]; exact fun x hx => ih (h x hx)
    | _ => first | rfl | cases h

/-! ### operators by values -/
def OpAt (X : Cx) (f : Value → Value → Sem Value) : R2 := fun x y H Q =>
  ∀ (pins : List (Addr × Obj)) (s : Shared) (σ : L2.St) (v u : Value), Inv X pins σ H s → RelV x v → RelV y u → wpAny (model X.prog X.w) X.A (f v u) (EP X pins σ Q) X.xe s
theorem opR_at {X : Cx} {f : Value → Value → Sem Value} : OpR X f (OpAt X f) := fun pins s σ H x y v u Q I rx ry h => h pins s σ v u I rx ry
theorem opAt {X : Cx} {f : Value → Value → Sem Value} {r : R2} (ho : OpR X f r) {x y : V} {H : Hp} {Q : VK} (h : r x y H Q) : OpAt X f x y H Q := fun pins s σ v u I rx ry => ho pins s σ H x y v u Q I rx ry h
abbrev DO := D → D → (D → Prop) → Prop
def OpD (X : Cx) (J : Jst) (f : Value → Value → Sem Value) (o : DO) : Prop :=
  ∀ (j : JS) (F H : Hp) (x y : V) (dx dy : D) (P : D → Prop) (Q : VK), BaseOk (J.at j) F H → RpR X.K (J.at j) F H x dx → RpR X.K (J.at j) F H y dy → o dx dy P → (∀ d, P d → ∀ v F' H', Gr (J.at j) F H F' H' → Rp X.K F' v d → Q v H') → OpAt X f x y H Q
@[simp] def dOp (o : DO) (ta tb : DE) : DE := fun j ρ P => ta j ρ fun x j1 => tb j1 ρ fun y j2 => o x y fun d => P d j2
section
variable {X : Cx} {J : Jst} {a b c : Expr} {ta tb tc : DE} {pos : Pos}
theorem de_bin {op : Operator} {o : DO} (ho : OpD X J (binaryOp op) o) (ha : PE X a (dR X.K J ta)) (hb : PE X b (dR X.K J tb)) : PE X (.BinOp a op b pos) (dE X.K J (dOp o ta tb)) :=
  (pe_op opR_at ha hb).imp fun σ H Q ⟨j, F, ρ, P, s, q, k⟩ => ⟨j, F, ρ, _, s, q, fun dx j1 px x F1 H1 g1 r1 => ⟨j1, F1, ρ, _, s.grow g1, px, fun dy j2 py y F2 H2 g2 r2 =>
    ho j2 F2 H2 x y dx dy _ Q g2.base (r1.grow g2) r2 py fun d pd v F3 H3 g3 r3 => k d j2 pd v F3 H3 ((g1.trans g2).pure g3) r3⟩⟩
theorem de_cmp {op : CmpOp} {o : DO} (ho : OpD X J (compareOp op) o) (ha : PE X a (dR X.K J ta)) (hb : PE X b (dR X.K J tb)) (hm : behindInMarks op b = false) : PE X (.Compare a [op] [b] pos) (dE X.K J (dOp o ta tb)) :=
  (pe_cmpR opR_at ha hb hm).imp fun σ H Q ⟨j, F, ρ, P, s, q, k⟩ => ⟨j, F, ρ, _, s, q, fun dx j1 px x F1 H1 g1 r1 => ⟨j1, F1, ρ, _, s.grow g1, px, fun dy j2 py y F2 H2 g2 r2 =>
    ho j2 F2 H2 x y dx dy _ Q g2.base (r1.grow g2) r2 py fun d pd v F3 H3 g3 r3 => k d j2 pd v F3 H3 ((g1.trans g2).pure g3) r3⟩⟩
/-- a value as a test -/
@[simp] def isB (P : Bool → Prop) : D → Prop
  | .bl b => P b
  | _ => False
@[simp] def isBJ (P : Bool → JS → Prop) : D → JS → Prop := fun d j => isB (fun b => P b j) d
theorem isB_bl {P : Bool → Prop} {d : D} (h : isB P d) : ∃ b, d = .bl b ∧ P b := by
  cases d with
  | bl b => exact ⟨b, rfl, h⟩
  | _ => exact h.elim
@[simp] def dTest (t : DE) : DT := fun j ρ P => t j ρ (isBJ P)
theorem dt_cmp {op : CmpOp} {o : DO} (ho : OpD X J (compareOp op) o) (ha : PE X a (dR X.K J ta)) (hb : PE X b (dR X.K J tb)) (hm : behindInMarks op b = false) : PT X (.Compare a [op] [b] pos) (dT X.K J (dTest (dOp o ta tb))) :=
  (pt_cmpR opR_at ha hb hm).imp fun σ H Q ⟨j, F, ρ, P, s, q, k⟩ => ⟨j, F, ρ, _, s, q, fun dx j1 px x F1 H1 g1 r1 => ⟨j1, F1, ρ, _, s.grow g1, px, fun dy j2 py y F2 H2 g2 r2 =>
    ho j2 F2 H2 x y dx dy _ _ g2.base (r1.grow g2) r2 py fun d pd v F3 H3 g3 r3 => by
      obtain ⟨b, rfl, pb⟩ := isB_bl pd
      exact ⟨b, r3.bl_inv, k b j2 pb F3 H3 ((g1.trans g2).pure g3)⟩⟩⟩
theorem dt_val {e : Expr} {t : DE} (h : PE X e (dE X.K J t)) (he : ∀ whole, isTrue e X.env whole = (do let v ← whole; standAt e.pos; holding [v] (truthy v)) := by intro _; rfl) : PT X e (dT X.K J (dTest t)) :=
  (pt_val h he).imp fun σ H Q ⟨j, F, ρ, P, s, q, k⟩ => ⟨j, F, ρ, _, s, q, fun d j1 pd v F1 H1 g r => by
    obtain ⟨b, rfl, pb⟩ := isB_bl pd
    exact ⟨b, r.bl_inv, k b j1 pb F1 H1 g⟩⟩
/-! a op b op c -/
@[simp] def dChain (o o' : DO) (ta tb tc : DE) : DE := fun j ρ P => ta j ρ fun x j1 => tb j1 ρ fun y j2 => o x y (isB fun k => if k = true then tc j2 ρ fun z j3 => o' y z fun d => P d j3 else P (.bl false) j2)
theorem de_chain {op op' : CmpOp} {o o' : DO} (ho : OpD X J (compareOp op) o) (ho' : OpD X J (compareOp op') o') (ha : PE X a (dR X.K J ta)) (hb : PE X b (dR X.K J tb)) (hc : PE X c (dR X.K J tc))
    (hm : lastMarks [op, op'] [b, c] = false := by with_unfolding_all rfl) : PE X (.Compare a [op, op'] [b, c] pos) (dE X.K J (dChain o o' ta tb tc)) :=
  (pe_chain opR_at opR_at ha hb hc hm).imp fun σ H Q ⟨j, F, ρ, P, s, q, k⟩ => ⟨j, F, ρ, _, s, q, fun dx j1 px x F1 H1 g1 r1 => ⟨j1, F1, ρ, _, s.grow g1, px, fun dy j2 py y F2 H2 g2 r2 =>
    ho j2 F2 H2 x y dx dy _ _ g2.base (r1.grow g2) r2 py fun d pd v F3 H3 g3 r3 => by
      obtain ⟨b, rfl, pb⟩ := isB_bl pd
      refine ⟨b, r3.bl_inv, ?_⟩
      have gg := (g1.trans g2).pure g3
      cases b with
      | false =>
        rw [if_neg Bool.false_ne_true] at pb ⊢
        exact k _ j2 pb _ F3 H3 gg (.bl false)
      | true =>
        rw [if_pos rfl] at pb ⊢
        exact ⟨j2, F3, ρ, _, s.grow gg, pb, fun dz j3 pz z F4 H4 g4 r4 => ho' j3 F4 H4 y z dy dz _ Q g4.base (r2.grow (g3.gt.trans g4)) r4 pz fun d pd v F5 H5 g5 r5 => k d j3 pd v F5 H5 ((gg.trans g4).pure g5) r5⟩⟩⟩
theorem dt_chain {op op' : CmpOp} {o o' : DO} (ho : OpD X J (compareOp op) o) (ho' : OpD X J (compareOp op') o') (ha : PE X a (dR X.K J ta)) (hb : PE X b (dR X.K J tb)) (hc : PE X c (dR X.K J tc))
    (hm : lastMarks [op, op'] [b, c] = false := by with_unfolding_all rfl) : PT X (.Compare a [op, op'] [b, c] pos) (dT X.K J (dTest (dChain o o' ta tb tc))) :=
  (pt_chain opR_at opR_at ha hb hc hm).imp fun σ H Q ⟨j, F, ρ, P, s, q, k⟩ => ⟨j, F, ρ, _, s, q, fun dx j1 px x F1 H1 g1 r1 => ⟨j1, F1, ρ, _, s.grow g1, px, fun dy j2 py y F2 H2 g2 r2 =>
    ho j2 F2 H2 x y dx dy _ _ g2.base (r1.grow g2) r2 py fun d pd v F3 H3 g3 r3 => by
      obtain ⟨b, rfl, pb⟩ := isB_bl pd
      refine ⟨b, r3.bl_inv, ?_⟩
      have gg := (g1.trans g2).pure g3
      cases b with
      | false =>
        rw [if_neg Bool.false_ne_true] at pb ⊢
        exact ⟨false, rfl, k false j2 pb F3 H3 gg⟩
      | true =>
        rw [if_pos rfl] at pb ⊢
        exact ⟨j2, F3, ρ, _, s.grow gg, pb, fun dz j3 pz z F4 H4 g4 r4 => ho' j3 F4 H4 y z dy dz _ _ g4.base (r2.grow (g3.gt.trans g4)) r4 pz fun d pd v F5 H5 g5 r5 => by
          obtain ⟨b, rfl, pb⟩ := isB_bl pd
          exact ⟨b, r5.bl_inv, k b j3 pb F5 H5 ((gg.trans g4).pure g5)⟩⟩⟩⟩
/-! and, or, not, if -/
@[simp] def dNotT (t : DT) : DT := fun j ρ P => t j ρ fun b => P (!b)
@[simp] def dAndT (t u : DT) : DT := fun j ρ P => t j ρ fun b j1 => if b = true then u j1 ρ P else P false j1
@[simp] def dOrT (t u : DT) : DT := fun j ρ P => t j ρ fun b j1 => if b = true then P true j1 else u j1 ρ P
theorem dt_not {t : DT} (h : PT X a (dT X.K J t)) : PT X (.UnaryOp .Not a pos) (dT X.K J (dNotT t)) :=
  (pt_not h).imp fun σ H Q ⟨j, F, ρ, P, s, q, k⟩ => ⟨j, F, ρ, _, s, q, fun b j1 pb F1 H1 g => k (!b) j1 pb F1 H1 g⟩
theorem dw_and1 {t : DT} (h : PT X a (dT X.K J t)) : PW X (.BoolOp .And [a] pos) (dT X.K J t) := pw_and1 h
theorem dw_or1 {t : DT} (h : PT X a (dT X.K J t)) : PW X (.BoolOp .Or [a] pos) (dT X.K J t) := pw_or1 h
theorem dw_and {t u : DT} {rest : List Expr} (h : PT X a (dT X.K J t)) (h2 : PW X (.BoolOp .And (b :: rest) pos) (dT X.K J u)) : PW X (.BoolOp .And (a :: b :: rest) pos) (dT X.K J (dAndT t u)) :=
  (pw_and h h2).imp fun σ H Q ⟨j, F, ρ, P, s, q, k⟩ => ⟨j, F, ρ, _, s, q, fun b j1 pb F1 H1 g => by
    cases b with
    | true => rw [if_pos rfl] at pb ⊢; exact ⟨j1, F1, ρ, P, s.grow g, pb, fun b j2 p F2 H2 g2 => k b j2 p F2 H2 (g.trans g2)⟩
    | false => rw [if_neg Bool.false_ne_true] at pb ⊢; exact k _ j1 pb F1 H1 g⟩
theorem dw_or {t u : DT} {rest : List Expr} (h : PT X a (dT X.K J t)) (h2 : PW X (.BoolOp .Or (b :: rest) pos) (dT X.K J u)) : PW X (.BoolOp .Or (a :: b :: rest) pos) (dT X.K J (dOrT t u)) :=
  (pw_or h h2).imp fun σ H Q ⟨j, F, ρ, P, s, q, k⟩ => ⟨j, F, ρ, _, s, q, fun b j1 pb F1 H1 g => by
    cases b with
    | true => rw [if_pos rfl] at pb ⊢; exact k _ j1 pb F1 H1 g
    | false => rw [if_neg Bool.false_ne_true] at pb ⊢; exact ⟨j1, F1, ρ, P, s.grow g, pb, fun b j2 p F2 H2 g2 => k b j2 p F2 H2 (g.trans g2)⟩⟩
@[simp] def dAnd (ta tb : DE) : DE := fun j ρ P => ta j ρ (isBJ fun b j1 => if b = true then tb j1 ρ P else P (.bl false) j1)
@[simp] def dOr (ta tb : DE) : DE := fun j ρ P => ta j ρ (isBJ fun b j1 => if b = true then P (.bl true) j1 else tb j1 ρ P)
@[simp] def dNot (ta : DE) : DE := fun j ρ P => ta j ρ (isBJ fun b => P (.bl (!b)))
theorem de_one {op} {t : DE} (h : PE X a (dE X.K J t)) : PE X (.BoolOp op [a] pos) (dE X.K J t) := pe_one h
theorem de_and {rest : List Expr} (h : PE X a (dE X.K J ta)) (h2 : PE X (.BoolOp .And (b :: rest) pos) (dE X.K J tb)) : PE X (.BoolOp .And (a :: b :: rest) pos) (dE X.K J (dAnd ta tb)) :=
  (pe_and h h2).imp fun σ H Q ⟨j, F, ρ, P, s, q, k⟩ => ⟨j, F, ρ, _, s, q, fun d j1 pd v F1 H1 g r => by
    obtain ⟨b, rfl, pb⟩ := isB_bl pd
    refine ⟨b, r.bl_inv, ?_⟩
    cases b with
    | true => rw [if_pos rfl] at pb ⊢; exact ⟨j1, F1, ρ, P, s.grow g, pb, fun d j2 p v F2 H2 g2 => k d j2 p v F2 H2 (g.trans g2)⟩
    | false => rw [if_neg Bool.false_ne_true] at pb ⊢; exact k _ j1 pb _ F1 H1 g (.bl _)⟩
theorem de_or {rest : List Expr} (h : PE X a (dE X.K J ta)) (h2 : PE X (.BoolOp .Or (b :: rest) pos) (dE X.K J tb)) : PE X (.BoolOp .Or (a :: b :: rest) pos) (dE X.K J (dOr ta tb)) :=
  (pe_or h h2).imp fun σ H Q ⟨j, F, ρ, P, s, q, k⟩ => ⟨j, F, ρ, _, s, q, fun d j1 pd v F1 H1 g r => by
    obtain ⟨b, rfl, pb⟩ := isB_bl pd
    refine ⟨b, r.bl_inv, ?_⟩
    cases b with
    | true => rw [if_pos rfl] at pb ⊢; exact k _ j1 pb _ F1 H1 g (.bl _)
    | false => rw [if_neg Bool.false_ne_true] at pb ⊢; exact ⟨j1, F1, ρ, P, s.grow g, pb, fun d j2 p v F2 H2 g2 => k d j2 p v F2 H2 (g.trans g2)⟩⟩
theorem de_not (h : PE X a (dE X.K J ta)) : PE X (.UnaryOp .Not a pos) (dE X.K J (dNot ta)) :=
  (pe_not h).imp fun σ H Q ⟨j, F, ρ, P, s, q, k⟩ => ⟨j, F, ρ, _, s, q, fun d j1 pd v F1 H1 g r => by
    obtain ⟨b, rfl, pb⟩ := isB_bl pd
    exact ⟨b, r.bl_inv, k _ j1 pb _ F1 H1 g (.bl _)⟩⟩
@[simp] def dIf (t : DT) (ta tb : DE) : DE := fun j ρ P => t j ρ fun b j1 => if b = true then ta j1 ρ P else tb j1 ρ P
theorem de_if {t : DT} (hc : PT X c (dT X.K J t)) (ha : PE X a (dE X.K J ta)) (hb : PE X b (dE X.K J tb)) : PE X (.IfExp c a b pos) (dE X.K J (dIf t ta tb)) :=
  (pe_ifExp hc ha hb).imp fun σ H Q ⟨j, F, ρ, P, s, q, k⟩ => ⟨j, F, ρ, _, s, q, fun b j1 pb F1 H1 g => by
    cases b with
    | true => rw [if_pos rfl] at pb ⊢; exact ⟨j1, F1, ρ, P, s.grow g, pb, fun d j2 p v F2 H2 g2 => k d j2 p v F2 H2 (g.trans g2)⟩
    | false => rw [if_neg Bool.false_ne_true] at pb ⊢; exact ⟨j1, F1, ρ, P, s.grow g, pb, fun d j2 p v F2 H2 g2 => k d j2 p v F2 H2 (g.trans g2)⟩⟩
theorem dr_if {t : DT} (hc : PT X c (dT X.K J t)) (ha : PE X a (dR X.K J ta)) (hb : PE X b (dR X.K J tb)) : PE X (.IfExp c a b pos) (dR X.K J (dIf t ta tb)) :=
  (pe_ifExp hc ha hb).imp fun σ H Q ⟨j, F, ρ, P, s, q, k⟩ => ⟨j, F, ρ, _, s, q, fun b j1 pb F1 H1 g => by
    cases b with
    | true => rw [if_pos rfl] at pb ⊢; exact ⟨j1, F1, ρ, P, s.grow g, pb, fun d j2 p v F2 H2 g2 => k d j2 p v F2 H2 (g.trans g2)⟩
    | false => rw [if_neg Bool.false_ne_true] at pb ⊢; exact ⟨j1, F1, ρ, P, s.grow g, pb, fun d j2 p v F2 H2 g2 => k d j2 p v F2 H2 (g.trans g2)⟩⟩
end
end DL

/-! DL3 -/
/-! DL3: operators on data. -/
namespace DL
open PySem PySem.Spec PyProof.Rows L2
section
variable {X : Cx} {J : Jst}
theorem RpR.int_inv {K : PySem.W.Frag} {F H : Hp} {v : V} {i : Int} (h : RpR K J F H v (.int i)) : v = .int i := (h.flat fun _ e => nomatch e).int_inv
theorem RpR.str_inv {K : PySem.W.Frag} {F H : Hp} {v : V} {i : Str} (h : RpR K J F H v (.str i)) : v = .str i := (h.flat fun _ e => nomatch e).str_inv
theorem RpR.bl_inv {K : PySem.W.Frag} {F H : Hp} {v : V} {i : Bool} (h : RpR K J F H v (.bl i)) : v = .bl i := (h.flat fun _ e => nomatch e).bl_inv
theorem RpR.non_inv {K : PySem.W.Frag} {F H : Hp} {v : V} (h : RpR K J F H v .non) : v = .non := (h.flat fun _ e => nomatch e).non_inv
theorem RpR.tup' {K : PySem.W.Frag} {F H : Hp} {v : V} {ds : List D} (h : RpR K J F H v (.tup ds)) : ∃ a vs, v = .ref a ∧ TupAt K F a vs ∧ vs.length ≤ sizeLine ∧ RpAll K F vs ds := (h.flat fun _ e => nomatch e).tup_inv

/-! t + u of tuples, with the object told -/
def rCatZ (K : PySem.W.Frag) : R2 := fun x y H Q => ∃ a b xs ys, x = .ref a ∧ y = .ref b ∧ SqT K H a xs ∧ SqT K H b ys ∧ xs.length + ys.length ≤ sizeLine ∧
  (xs = [] → Q (.ref b) H) ∧ (xs ≠ [] → ys = [] → Q (.ref a) H) ∧ (xs ≠ [] → ys ≠ [] → newT (xs ++ ys) H Q)
theorem op_catZ : OpR X (binaryOp .Add) (rCatZ X.K) := by
  intro pins s σ H x y v u Q I rx ry h
  obtain ⟨a, b, xs, ys, rfl, rfl, ha, hb, hz, q0, q1, q2⟩ := h
  cases rx
  cases ry
  obtain ⟨its, r1, p1, _⟩ := I.tuple ha
  obtain ⟨its2, r2, p2, _⟩ := I.tuple hb
  by_cases hx : xs = []
  · subst hx
    cases r1
    exact cat_tup0 p1 p2 ⟨.ref b, H, I, rfl, q0 rfl⟩
  · refine HT.cat_tup p1 p2 (fun z => hx (r1.nil_iff.mp z)) (fun z => ⟨.ref a, H, I, rfl, q1 hx (r2.nil_iff.mp z)⟩) (fun z => ?_) (by rw [← r1.length, ← r2.length]; exact hz)
    exact newT_at I (r1.append r2) (by rw [List.length_append]; exact hz) (q2 hx fun w => z (r2.nil_iff.mpr w))
/-- xs + ys of lists -/
theorem op_catL : OpR X (binaryOp .Add) (fun x y H Q => ∃ l b xs zs, x = .ref l ∧ y = .ref b ∧ SqL X.K H l xs ∧ SqL X.K H b zs ∧ xs.length + zs.length ≤ sizeLine ∧ ∀ p, H p = none → Q (.ref p) (upd H p (.lst (xs ++ zs)))) := by
  intro pins s σ H x y v u Q I rx ry h
  obtain ⟨l, b, xs, zs, rfl, rfl, hl, hb, hz, q⟩ := h
  cases rx
  cases ry
  obtain ⟨its, r1, p1, _⟩ := I.list hl
  obtain ⟨its2, r2, p2, _⟩ := I.list hb
  obtain ⟨⟨cls, dd, data, sl⟩, n, ho, hc, _, hd⟩ := p1
  obtain ⟨⟨cls2, dd2, data2, sl2⟩, n2, ho2, hc2, _, hd2⟩ := p2
  simp only at hc hd hc2 hd2
  subst hc hd hc2 hd2
  have e : its.toArray ++ its2.toArray = (its ++ its2).toArray := by simp
  refine concat_meets ⟨_, ho, rfl⟩ ⟨_, ho2, rfl⟩ noFill_list_add seq_list_add PySem.F.slot_list_add PySem.F.entry_list_add (PySem.F.args_list_add_2 _ _) (list_addW l b its.toArray its2.toArray n n2 dd dd2 sl sl2 (by simp only [List.size_toArray]; rw [← r1.length, ← r2.length]; exact hz)) ⟨ho, ho2, ?_⟩
  rw [e]
  exact ⟨.ref _, _, I.lnew (t' := s.toks) (r1.append r2) (by rw [List.length_append]; exact hz), rfl, q _ I.fresh⟩
/-- a tuple times a number from 1 on -/
theorem tuple_mul1 (l : Addr) (items : Array Value) (n : Nat) (dd : Option Addr) (sl : Array (Option Value)) (u : Tok) :
    Meets (Builtin.«tuple.__mul__» ⟨[.ref l, .int 1 u], []⟩) (fun _ R s => s.heap.get? l = some { cls := .type "tuple", dict := dd, data := .seq items n, slots := sl } ∧ R (.ok (.ret (.ref l))) s) :=
  .of_wp fun prog w A R s h => by
    obtain ⟨hp, g, d, tk, os⟩ := s
    obtain ⟨hl, h⟩ := h
    have f1 := AutoSeq1.idx_int
    wp_walk using wpAny_loadPart' hl
    repeat (first
      | (refine wpAny_ite_false (by decide) ?_; wp_walk using wpAny_loadPart' hl)
      | (refine wpAny_ite_true (by first | decide | simp) ?_; wp_walk using wpAny_loadPart' hl))
    all_goals first
      | exact h
      | exact ⟨_, rfl, h⟩
def rRep1 (K : PySem.W.Frag) : R2 := fun x y H Q => ∃ l k xs, x = .ref l ∧ y = .int k ∧ SqT K H l xs ∧ xs ≠ [] ∧ 1 ≤ k ∧ k ≤ 1000 ∧ xs.length ≤ 1000 ∧ (k = 1 → Q (.ref l) H) ∧ (2 ≤ k → newT (List.replicate k.toNat xs).flatten H Q)
theorem op_rep1 : OpR X (binaryOp .Mult) (rRep1 X.K) := by
  intro pins s σ H x y v u Q I rx ry h
  obtain ⟨l, k, xs, rfl, rfl, hT, hne, h1, h2, hz, q0, q⟩ := h
  cases rx
  obtain ⟨t, rfl⟩ := ry
  obtain ⟨its, r, ⟨⟨cls, dd, data, sl⟩, ho, hc, n, hd⟩, hs⟩ := I.tuple hT
  simp only at hc hd
  subst hc hd
  have hle : its.length = xs.length := r.length.symm
  have hn : its ≠ [] := fun e => hne (by
    rw [e] at hle
    exact List.eq_nil_of_length_eq_zero hle.symm)
  have hi : its.toArray.isEmpty = false := by
    cases its with
    | nil => exact absurd rfl hn
    | cons a b => rfl
  have hsz0 : its.toArray.size = xs.length := by rw [List.size_toArray, hle]
  have hm : ((its.toArray.size : Nat) : Int) * k ≤ 1000000 := by
    rw [hsz0]
    have a1 : ((xs.length : Nat) : Int) * k ≤ 1000 * k := Int.mul_le_mul_of_nonneg_right (by omega) (by omega)
    omega
  by_cases hk : k = 1
  · subst hk
    refine wpAny_binaryOp_repeat_ref (T := "tuple") (U := "int") (by decide) ⟨_, ho, rfl⟩ (fun s' => typeIs_int s' 1 t) noFill_tuple_mul F.fills_int_mul F.slot_int_rmul repeat_tuple F.slot_int_index.lookup
      (call_meets F.slot_int_rmul (typeIs_int s 1 t) F.entry_int_rmul (F.args_int_rmul_2 _ _) (int_rmul_tuple 1 t l its.toArray n dd sl)
        ⟨ho, rfl, ⟨_, ho, rfl⟩, call_meets F.slot_tuple_mul ⟨_, ho, rfl⟩ F.entry_tuple_mul (F.args_tuple_mul_2 _ _) (tuple_mul1 l its.toArray n dd sl t) ⟨ho, ?_⟩⟩)
    exact ⟨.ref l, H, I, rfl, q0 rfl⟩
  · have flen : (List.replicate k.toNat its).flatten.length ≤ sizeLine := by
      rw [PyProof.Rows.lm_len_rep_flat, hle, sizeLine_eq]
      have a1 : k.toNat * xs.length ≤ 1000 * 1000 := Nat.mul_le_mul (by omega) hz
      omega
    have c0 : (decide (k < -(2 ^ 63)) || decide (k ≥ 2 ^ 63)) = false := by
      rw [decide_eq_false (by omega), decide_eq_false (by omega)] <;> rfl
    have c1 : (its.toArray.isEmpty || k == 1) = false := by
      rw [hi, Bool.false_or]
      exact beq_eq_false_iff_ne.mpr (by omega)
    have c2 : (decide (k ≤ 0) || its.toArray.isEmpty) = false := by
      rw [hi, Bool.or_false]
      exact decide_eq_false (by omega)
    have c4 : Builtin.Tuple.tupleTooMany (((its.toArray.size : Nat) : Int) * k) = false := by
      unfold Builtin.Tuple.tupleTooMany
      rw [sizeLine_eq]
      exact decide_eq_false (by omega)
    refine wpAny_binaryOp_repeat_ref (T := "tuple") (U := "int") (by decide) ⟨_, ho, rfl⟩ (fun s' => typeIs_int s' k t) noFill_tuple_mul F.fills_int_mul F.slot_int_rmul repeat_tuple F.slot_int_index.lookup
      (call_meets F.slot_int_rmul (typeIs_int s k t) F.entry_int_rmul (F.args_int_rmul_2 _ _) (int_rmul_tuple k t l its.toArray n dd sl)
        ⟨ho, rfl, ⟨_, ho, rfl⟩, call_meets F.slot_tuple_mul ⟨_, ho, rfl⟩ F.entry_tuple_mul (F.args_tuple_mul_2 _ _) (tuple_mulW l its.toArray n dd sl k t c0 c1 c2 (by omega) c4 (by rw [size_rep, List.size_toArray]; exact flen)) ⟨ho, ?_⟩⟩)
    rw [size_rep]
    exact newT_at I (r.rep k.toNat) (by rw [PyProof.Rows.lm_len_rep_flat, sizeLine_eq]; have a1 : k.toNat * xs.length ≤ 1000 * 1000 := Nat.mul_le_mul (by omega) hz; omega) (q (by omega))

/-! ### the operators -/
theorem okk {F H : Hp} {P : D → Prop} {Q : VK} (b : BaseOk J F H) {d : D} {v : V} (p : P d) (k : ∀ d, P d → ∀ v F' H', Gr J F H F' H' → Rp X.K F' v d → Q v H') (r : Rp X.K F v d) : Q v H := k d p v F H (Gr.refl b) r
def dAdd : DO
  | .int i, .int j => fun P => P (.int (i + j))
  | .str i, .str j => fun P => i.length + j.length ≤ sizeLine ∧ P (.str (i ++ j))
  | .tup i, .tup j => fun P => i.length + j.length ≤ sizeLine ∧ P (.tup (i ++ j))
  | .lst i, .lst j => fun P => i.length + j.length ≤ sizeLine ∧ P (.lst (i ++ j))
  | _, _ => fun _ => False
theorem o_add : OpD X J (binaryOp .Add) dAdd := by
  intro j F H x y dx dy P Q b rx ry h k
  cases dx with
  | int i => cases dy with
    | int j =>
      cases rx.int_inv; cases ry.int_inv
      exact opAt op_add ⟨i, j, rfl, rfl, okk b h k (.int _)⟩
    | _ => exact h.elim
  | str i => cases dy with
    | str j =>
      cases rx.str_inv; cases ry.str_inv
      exact opAt op_add_str ⟨i, j, rfl, rfl, h.1, okk b h.2 k (.str _)⟩
    | _ => exact h.elim
  | tup i => cases dy with
    | tup j =>
      obtain ⟨a, vs, rfl, t1, l1, r1⟩ := rx.tup'
      obtain ⟨c, ws, rfl, t2, l2, r2⟩ := ry.tup'
      have e1 := r1.length
      have e2 := r2.length
      refine opAt op_catZ ⟨a, c, vs, ws, rfl, rfl, b.fh.seqT t1.sq, b.fh.seqT t2.sq, by rw [e1, e2]; exact h.1, fun z => ?_, fun z z2 => ?_, fun z z2 => ?_⟩
      · subst z
        have : i = [] := List.eq_nil_of_length_eq_zero e1.symm
        subst this
        exact okk b h.2 k (.tup t2 l2 r2)
      · subst z2
        have : j = [] := List.eq_nil_of_length_eq_zero e2.symm
        subst this
        have h2 := h.2
        rw [List.append_nil] at h2
        exact okk b h2 k (.tup t1 l1 r1)
      · exact newT_go (Gr.refl b) (by rw [List.length_append, e1, e2]; exact h.1) (r1.append r2) h.2 k
    | _ => exact h.elim
  | lst i => cases dy with
    | lst j =>
      obtain ⟨a, vs, rfl, t1, l1, r1⟩ := rx.lst_inv b
      obtain ⟨c, ws, rfl, t2, l2, r2⟩ := ry.lst_inv b
      have hl : vs.length + ws.length ≤ sizeLine := by rw [r1.length, r2.length]; exact h.1
      refine opAt op_catL ⟨a, c, vs, ws, rfl, rfl, t1, t2, hl, fun p hp => ?_⟩
      exact k _ h.2 _ _ _ (Gr.laid b hp _) (.lst (.inl (.inl upd_same)) (by rw [List.length_append]; exact hl) ((r1.append r2).mono (sub_upd (b.fnew hp))))
    | _ => exact h.elim
  | _ => exact h.elim
def dSub : DO
  | .int i, .int j => fun P => P (.int (i - j))
  | _, _ => fun _ => False
theorem o_sub : OpD X J (binaryOp .Sub) dSub := by
  intro j F H x y dx dy P Q b rx ry h k
  cases dx with
  | int i => cases dy with
    | int j =>
      cases rx.int_inv; cases ry.int_inv
      exact opAt op_sub ⟨i, j, rfl, rfl, okk b h k (.int _)⟩
    | _ => exact h.elim
  | _ => exact h.elim
def dMul : DO
  | .int i, .int j => fun P => IntMulOk i j ∧ P (.int (i * j))
  | .str x, .int j => fun P => PySem.MulOk x j ∧ P (.str (Txt.mul x j))
  | .tup xs, .int j => fun P => xs ≠ [] ∧ 1 ≤ j ∧ j ≤ 1000 ∧ xs.length ≤ 1000 ∧ P (.tup (List.replicate j.toNat xs).flatten)
  | _, _ => fun _ => False
theorem RpAll.rep {K : PySem.W.Frag} {F : Hp} {vs : List V} {ds : List D} (r : RpAll K F vs ds) : ∀ n : Nat, RpAll K F (List.replicate n vs).flatten (List.replicate n ds).flatten
  | 0 => .nil
  | n + 1 => by
    rw [List.replicate_succ, List.replicate_succ, List.flatten_cons, List.flatten_cons]
    exact r.append (RpAll.rep r n)
theorem o_mul : OpD X J (binaryOp .Mult) dMul := by
  intro j F H x y dx dy P Q b rx ry h k
  cases dx with
  | int i => cases dy with
    | int j =>
      cases rx.int_inv; cases ry.int_inv
      intro pins s σ v u I rx ry
      obtain ⟨t, rfl⟩ := rx
      obtain ⟨t', rfl⟩ := ry
      exact mul_int ⟨.int _, H, I.tok _, ⟨_, rfl⟩, okk b h.2 k (.int _)⟩ h.1
    | _ => exact h.elim
  | str i => cases dy with
    | int j =>
      cases rx.str_inv; cases ry.int_inv
      intro pins s σ v u I rx ry
      obtain ⟨t, rfl⟩ := rx
      obtain ⟨t', rfl⟩ := ry
      exact PySem.SB.mul h.1 fun t' tk => ⟨.str _, H, I.tok _, ⟨_, rfl⟩, okk b h.2 k (.str _)⟩
    | _ => exact h.elim
  | tup i => cases dy with
    | int j =>
      obtain ⟨a, vs, rfl, t1, l1, r1⟩ := rx.tup'
      cases ry.int_inv
      obtain ⟨h1, h2, h3, h4, h5⟩ := h
      have e1 := r1.length
      refine opAt op_rep1 ⟨a, j, vs, rfl, rfl, b.fh.seqT t1.sq, fun e => ?_, h2, h3, by omega, fun e => ?_, fun e => ?_⟩
      · subst e
        exact h1 (List.eq_nil_of_length_eq_zero e1.symm)
      · subst e
        have e2 : (List.replicate (Int.toNat 1) i).flatten = i := by
          show (List.replicate 1 i).flatten = i
          simp
        rw [e2] at h5
        exact okk b h5 k (.tup t1 l1 r1)
      · refine newT_go (Gr.refl b) ?_ (r1.rep _) h5 k
        rw [PyProof.Rows.lm_len_rep_flat, sizeLine_eq]
        have a1 : j.toNat * vs.length ≤ 1000 * 1000 := Nat.mul_le_mul (by omega) (by omega)
        omega
    | _ => exact h.elim
  | _ => exact h.elim
def dFdiv : DO
  | .int i, .int j => fun P => (j ≠ 0 ∧ j.natAbs.log2 < 9000) ∧ P (.int (i.fdiv j))
  | _, _ => fun _ => False
theorem o_fdiv : OpD X J (binaryOp .FloorDiv) dFdiv := by
  intro j F H x y dx dy P Q b rx ry h k
  cases dx with
  | int i => cases dy with
    | int j =>
      cases rx.int_inv; cases ry.int_inv
      intro pins s σ v u I rx ry
      obtain ⟨t, rfl⟩ := rx
      obtain ⟨t', rfl⟩ := ry
      exact floordiv_int h.1.1 ⟨.int _, H, I.tok _, ⟨_, rfl⟩, okk b h.2 k (.int _)⟩ (.inl (PyProof.noPylong_of_log2 h.1.2))
    | _ => exact h.elim
  | _ => exact h.elim
def dMod : DO
  | .int i, .int j => fun P => j ≠ 0 ∧ P (.int (i.fmod j))
  | _, _ => fun _ => False
theorem o_mod : OpD X J (binaryOp .Mod) dMod := by
  intro j F H x y dx dy P Q b rx ry h k
  cases dx with
  | int i => cases dy with
    | int j =>
      cases rx.int_inv; cases ry.int_inv
      exact opAt op_modN ⟨i, j, rfl, rfl, h.1, okk b h.2 k (.int _)⟩
    | _ => exact h.elim
  | _ => exact h.elim
def dPow : DO
  | .int i, .int j => fun P => CPow i j ∧ P (.int (i ^ j.toNat))
  | _, _ => fun _ => False
theorem o_pow : OpD X J (binaryOp .Pow) dPow := by
  intro j F H x y dx dy P Q b rx ry h k
  cases dx with
  | int i => cases dy with
    | int j =>
      cases rx.int_inv; cases ry.int_inv
      exact opAt op_pow ⟨i, j, rfl, rfl, h.1, okk b h.2 k (.int _)⟩
    | _ => exact h.elim
  | _ => exact h.elim
/-! ### comparisons -/
def dEq : DO
  | .int i, .int j => fun P => P (.bl (decide (i = j)))
  | .str i, .str j => fun P => P (.bl (decide (i = j)))
  | .bl i, .bl j => fun P => P (.bl (decide (i = j)))
  | x, y => fun P => lv 20 x = true ∧ lv 20 y = true ∧ P (.bl (deqv x y))
def dNe : DO
  | .int i, .int j => fun P => P (.bl (!decide (i = j)))
  | .str i, .str j => fun P => P (.bl (!decide (i = j)))
  | .bl i, .bl j => fun P => P (.bl (!decide (i = j)))
  | x, y => fun P => lv 20 x = true ∧ lv 20 y = true ∧ P (.bl (!deqv x y))
theorem beqd {α : Type} [BEq α] [LawfulBEq α] [DecidableEq α] (a b : α) : (a == b) = decide (a = b) := by
  rw [Bool.eq_iff_iff, beq_iff_eq, decide_eq_true_eq]
theorem dEq_gen {x y : D} {P : D → Prop} (h : dEq x y P) : lv 20 x = true ∧ lv 20 y = true ∧ P (.bl (deqv x y)) := by
  cases x <;> cases y <;> first
    | exact h
    | (refine ⟨rfl, rfl, ?_⟩; simp only [deqv, enc, PyData.eqv, beqd]; exact h)
theorem dNe_gen {x y : D} {P : D → Prop} (h : dNe x y P) : lv 20 x = true ∧ lv 20 y = true ∧ P (.bl (!deqv x y)) := by
  cases x <;> cases y <;> first
    | exact h
    | (refine ⟨rfl, rfl, ?_⟩; simp only [deqv, enc, PyData.eqv, beqd]; exact h)
theorem o_eq (hu : X.A.units + 100 < cLine) : OpD X J (compareOp .Eq) dEq := by
  intro j F H x y dx dy P Q b rx ry h k pins s σ v u I qx qy
  obtain ⟨h1, h2, h3⟩ := dEq_gen h
  obtain ⟨as, r1⟩ := Dp.reads I _ x v (rx.dp b h1) qx
  obtain ⟨bs, r2⟩ := Dp.reads I _ y u (ry.dp b h2) qy
  have e1 := enc_lv h1
  have e2 := enc_lv h2
  exact PySem.SeqAt.eq_plain r1 r2 e1.1 e2.1 (by omega) ⟨.bl _, H, I, rfl, okk b h3 k (.bl _)⟩
theorem o_ne (hu : X.A.units + 100 < cLine) : OpD X J (compareOp .NotEq) dNe := by
  intro j F H x y dx dy P Q b rx ry h k pins s σ v u I qx qy
  obtain ⟨h1, h2, h3⟩ := dNe_gen h
  obtain ⟨as, r1⟩ := Dp.reads I _ x v (rx.dp b h1) qx
  obtain ⟨bs, r2⟩ := Dp.reads I _ y u (ry.dp b h2) qy
  have e1 := enc_lv h1
  have e2 := enc_lv h2
  exact PySem.SeqAt.ne_plain r1 r2 e1.1 e2.1 (by omega) ⟨.bl _, H, I, rfl, okk b h3 k (.bl _)⟩
/-- x < y of data, place by place of one kind -/
def dltv (x y : D) : Bool := PySem.W.dataLt (enc x) (enc y)
def lk (x y : D) : Bool := PySem.W.alike (enc x) (enc y)
@[simp] def notNon : D → Bool
  | .non => false
  | .ref _ => false
  | .ty _ => false
  | .exc _ _ _ => false
  | .clo _ _ => false
  | .dct _ _ => false
  | _ => true
def dLt : DO
  | .int i, .int j => fun P => P (.bl (decide (i < j)))
  | x, y => fun P => lv 20 x = true ∧ lv 20 y = true ∧ lk x y = true ∧ notNon x = true ∧ P (.bl (dltv x y))
def dLe : DO
  | .int i, .int j => fun P => P (.bl (decide (i ≤ j)))
  | x, y => fun P => lv 20 x = true ∧ lv 20 y = true ∧ lk x y = true ∧ notNon x = true ∧ P (.bl (!dltv y x))
def dGt : DO
  | .int i, .int j => fun P => P (.bl (decide (j < i)))
  | x, y => fun P => lv 20 x = true ∧ lv 20 y = true ∧ lk x y = true ∧ notNon x = true ∧ P (.bl (dltv y x))
def dGe : DO
  | .int i, .int j => fun P => P (.bl (decide (j ≤ i)))
  | x, y => fun P => lv 20 x = true ∧ lv 20 y = true ∧ lk x y = true ∧ notNon x = true ∧ P (.bl (!dltv x y))
theorem enc_non {x : D} (h : notNon x = true) : enc x ≠ .none := by
  cases x <;> first | (cases h; done) | (intro e; cases e)
theorem o_lt (hu : X.A.units + 100 < cLine) : OpD X J (compareOp .Lt) dLt := by
  intro j F H x y dx dy P Q b rx ry h k
  have gen : lv 20 dx = true ∧ lv 20 dy = true ∧ lk dx dy = true ∧ notNon dx = true ∧ P (.bl (dltv dx dy)) → OpAt X (compareOp .Lt) x y H Q := fun ⟨h1, h2, h3, h4, h5⟩ pins s σ v u I qx qy => by
    obtain ⟨as, r1⟩ := Dp.reads I _ x v (rx.dp b h1) qx
    obtain ⟨bs, r2⟩ := Dp.reads I _ y u (ry.dp b h2) qy
    have e1 := enc_lv h1
    have e2 := enc_lv h2
    exact PySem.W.lt_data r1 r2 h3 (enc_non h4) (by omega) ⟨.bl _, H, I, rfl, okk b h5 k (.bl _)⟩
  cases dx <;> cases dy <;> first
    | exact gen h
    | (cases rx.int_inv; cases ry.int_inv; exact opAt op_lt ⟨_, _, rfl, rfl, okk b h k (.bl _)⟩)
theorem o_le (hu : X.A.units + 100 < cLine) : OpD X J (compareOp .LtE) dLe := by
  intro j F H x y dx dy P Q b rx ry h k
  have gen : lv 20 dx = true ∧ lv 20 dy = true ∧ lk dx dy = true ∧ notNon dx = true ∧ P (.bl (!dltv dy dx)) → OpAt X (compareOp .LtE) x y H Q := fun ⟨h1, h2, h3, h4, h5⟩ pins s σ v u I qx qy => by
    obtain ⟨as, r1⟩ := Dp.reads I _ x v (rx.dp b h1) qx
    obtain ⟨bs, r2⟩ := Dp.reads I _ y u (ry.dp b h2) qy
    have e1 := enc_lv h1
    have e2 := enc_lv h2
    exact PySem.W.le_data r1 r2 h3 (enc_non h4) (by omega) ⟨.bl _, H, I, rfl, okk b h5 k (.bl _)⟩
  cases dx <;> cases dy <;> first
    | exact gen h
    | (cases rx.int_inv; cases ry.int_inv; exact opAt op_le ⟨_, _, rfl, rfl, okk b h k (.bl _)⟩)
theorem o_gt (hu : X.A.units + 100 < cLine) : OpD X J (compareOp .Gt) dGt := by
  intro j F H x y dx dy P Q b rx ry h k
  have gen : lv 20 dx = true ∧ lv 20 dy = true ∧ lk dx dy = true ∧ notNon dx = true ∧ P (.bl (dltv dy dx)) → OpAt X (compareOp .Gt) x y H Q := fun ⟨h1, h2, h3, h4, h5⟩ pins s σ v u I qx qy => by
    obtain ⟨as, r1⟩ := Dp.reads I _ x v (rx.dp b h1) qx
    obtain ⟨bs, r2⟩ := Dp.reads I _ y u (ry.dp b h2) qy
    have e1 := enc_lv h1
    have e2 := enc_lv h2
    exact PySem.W.gt_data r1 r2 h3 (enc_non h4) (by omega) ⟨.bl _, H, I, rfl, okk b h5 k (.bl _)⟩
  cases dx <;> cases dy <;> first
    | exact gen h
    | (cases rx.int_inv; cases ry.int_inv; exact opAt op_gt ⟨_, _, rfl, rfl, okk b h k (.bl _)⟩)
theorem o_ge (hu : X.A.units + 100 < cLine) : OpD X J (compareOp .GtE) dGe := by
  intro j F H x y dx dy P Q b rx ry h k
  have gen : lv 20 dx = true ∧ lv 20 dy = true ∧ lk dx dy = true ∧ notNon dx = true ∧ P (.bl (!dltv dx dy)) → OpAt X (compareOp .GtE) x y H Q := fun ⟨h1, h2, h3, h4, h5⟩ pins s σ v u I qx qy => by
    obtain ⟨as, r1⟩ := Dp.reads I _ x v (rx.dp b h1) qx
    obtain ⟨bs, r2⟩ := Dp.reads I _ y u (ry.dp b h2) qy
    have e1 := enc_lv h1
    have e2 := enc_lv h2
    exact PySem.W.ge_data r1 r2 h3 (enc_non h4) (by omega) ⟨.bl _, H, I, rfl, okk b h5 k (.bl _)⟩
  cases dx <;> cases dy <;> first
    | exact gen h
    | (cases rx.int_inv; cases ry.int_inv; exact opAt op_ge ⟨_, _, rfl, rfl, okk b h k (.bl _)⟩)
/-! in, not in -/
def hasIn (xs : List D) (d : D) : Bool := xs.any fun y => deqv y d
def subIn (x y : Str) : Bool := !(Builtin.Str.occurrences y x 0 y.length 1).isEmpty
def dIn : DO
  | .str x, .str y => fun P => P (.bl (subIn x y))
  | x, .tup ys => fun P => lv 20 x = true ∧ lv 20 (.tup ys) = true ∧ P (.bl (hasIn ys x))
  | x, .lst ys => fun P => lv 20 x = true ∧ lv 20 (.lst ys) = true ∧ P (.bl (hasIn ys x))
  | _, _ => fun _ => False
def dNin : DO
  | .str x, .str y => fun P => P (.bl (!subIn x y))
  | x, .tup ys => fun P => lv 20 x = true ∧ lv 20 (.tup ys) = true ∧ P (.bl (!hasIn ys x))
  | x, .lst ys => fun P => lv 20 x = true ∧ lv 20 (.lst ys) = true ∧ P (.bl (!hasIn ys x))
  | _, _ => fun _ => False
theorem any_enc (xs : List D) (d : D) : ((encAll xs).any fun y => PyData.eqv y (enc d)) = hasIn xs d := by
  induction xs with
  | nil => rfl
  | cons x r ih =>
    show (PyData.eqv (enc x) (enc d) || (encAll r).any fun y => PyData.eqv y (enc d)) = (deqv x d || r.any fun y => deqv y d)
    rw [ih]; rfl
theorem dIn_gen {x y : D} {P : D → Prop} (h : dIn x y P) : (∃ a b, x = .str a ∧ y = .str b ∧ P (.bl (subIn a b))) ∨ ∃ ys, (y = .tup ys ∨ y = .lst ys) ∧ lv 20 x = true ∧ lv 20 y = true ∧ P (.bl (hasIn ys x)) := by
  cases y with
  | str b => cases x with
    | str a => exact .inl ⟨a, b, rfl, rfl, h⟩
    | _ => exact h.elim
  | tup ys => cases x <;> exact .inr ⟨ys, .inl rfl, h⟩
  | lst ys => cases x <;> exact .inr ⟨ys, .inr rfl, h⟩
  | _ => cases x <;> exact h.elim
theorem dNin_gen {x y : D} {P : D → Prop} (h : dNin x y P) : (∃ a b, x = .str a ∧ y = .str b ∧ P (.bl (!subIn a b))) ∨ ∃ ys, (y = .tup ys ∨ y = .lst ys) ∧ lv 20 x = true ∧ lv 20 y = true ∧ P (.bl (!hasIn ys x)) := by
  cases y with
  | str b => cases x with
    | str a => exact .inl ⟨a, b, rfl, rfl, h⟩
    | _ => exact h.elim
  | tup ys => cases x <;> exact .inr ⟨ys, .inl rfl, h⟩
  | lst ys => cases x <;> exact .inr ⟨ys, .inr rfl, h⟩
  | _ => cases x <;> exact h.elim
theorem o_in (hu : X.A.units + 100 < cLine) : OpD X J (compareOp .In) dIn := by
  intro j F H x y dx dy P Q b rx ry h k
  rcases dIn_gen h with ⟨a, c, rfl, rfl, p⟩ | ⟨ys, e, h1, h2, p⟩
  · cases rx.str_inv; cases ry.str_inv
    exact opAt op_in_str ⟨a, c, rfl, rfl, okk b p k (.bl _)⟩
  · intro pins s σ v u I qx qy
    obtain ⟨as, r1⟩ := Dp.reads I _ x v (rx.dp b h1) qx
    obtain ⟨bs, r2⟩ := Dp.reads I _ y u (ry.dp b h2) qy
    have e1 := enc_lv h1
    have e2 := enc_lv h2
    have fin : EP X pins σ Q (.bool ((encAll ys).any fun y => PyData.eqv y (enc dx))) s := by rw [any_enc]; exact ⟨.bl _, H, I, rfl, okk b p k (.bl _)⟩
    rcases e with rfl | rfl
    · exact PySem.SeqAt.in_tuple_data r2 r1 e2.1 e1.1 (by have := e1.2; omega) fin
    · exact PySem.SeqAt.in_list_data r2 r1 e2.1 e1.1 (by have := e1.2; omega) fin
theorem o_nin (hu : X.A.units + 100 < cLine) : OpD X J (compareOp .NotIn) dNin := by
  intro j F H x y dx dy P Q b rx ry h k
  rcases dNin_gen h with ⟨a, c, rfl, rfl, p⟩ | ⟨ys, e, h1, h2, p⟩
  · cases rx.str_inv; cases ry.str_inv
    exact opAt L2.op_notIn_str ⟨a, c, rfl, rfl, okk b p k (.bl _)⟩
  · intro pins s σ v u I qx qy
    obtain ⟨as, r1⟩ := Dp.reads I _ x v (rx.dp b h1) qx
    obtain ⟨bs, r2⟩ := Dp.reads I _ y u (ry.dp b h2) qy
    have e1 := enc_lv h1
    have e2 := enc_lv h2
    have fin : EP X pins σ Q (.bool (!(encAll ys).any fun y => PyData.eqv y (enc dx))) s := by rw [any_enc]; exact ⟨.bl _, H, I, rfl, okk b p k (.bl _)⟩
    rcases e with rfl | rfl
    · exact PySem.SeqAt.notIn_tuple_data r2 r1 e2.1 e1.1 (by have := e1.2; omega) fin
    · exact PySem.SeqAt.notIn_list_data r2 r1 e2.1 e1.1 (by have := e1.2; omega) fin
/-! is, is not: None, truth values -/
@[simp] def isNon : D → Bool
  | .non => true
  | _ => false
def dIs : DO
  | x, .non => fun P => P (.bl (isNon x))
  | .bl i, .bl j => fun P => P (.bl (decide (i = j)))
  | _, _ => fun _ => False
def dIsn : DO
  | x, .non => fun P => P (.bl (!isNon x))
  | .bl i, .bl j => fun P => P (.bl (!decide (i = j)))
  | _, _ => fun _ => False
theorem isNon_rp {K : PySem.W.Frag} {F H : Hp} {v : V} {d : D} (r : RpR K J F H v d) : decide (v = .non) = isNon d := by
  rcases r with r | ⟨a, ds, rfl, rfl, _⟩
  · cases r <;> rfl
  · rfl
theorem o_is : OpD X J (compareOp .Is) dIs := by
  intro j F H x y dx dy P Q b rx ry h k
  cases dy with
  | non =>
    have h' : P (.bl (isNon dx)) := by cases dx <;> exact h
    cases ry.non_inv
    refine opAt op_isN ⟨rfl, ?_⟩
    rw [isNon_rp rx]
    exact okk b h' k (.bl _)
  | bl j => cases dx with
    | bl i =>
      cases rx.bl_inv; cases ry.bl_inv
      exact opAt op_isBl ⟨i, j, rfl, rfl, okk b h k (.bl _)⟩
    | _ => exact h.elim
  | _ => cases dx <;> exact h.elim
theorem o_isn : OpD X J (compareOp .IsNot) dIsn := by
  intro j F H x y dx dy P Q b rx ry h k
  cases dy with
  | non =>
    have h' : P (.bl (!isNon dx)) := by cases dx <;> exact h
    cases ry.non_inv
    refine opAt op_notN ⟨rfl, ?_⟩
    rw [isNon_rp rx]
    exact okk b h' k (.bl _)
  | bl j => cases dx with
    | bl i =>
      cases rx.bl_inv; cases ry.bl_inv
      exact opAt op_notBl ⟨i, j, rfl, rfl, okk b h k (.bl _)⟩
    | _ => exact h.elim
  | _ => cases dx <;> exact h.elim
end
end DL

/-! DL4 -/
/-! DL4: subscripts, slices, built-in functions. -/
namespace DL
open PySem PySem.Spec PyProof.Rows L2
section
variable {X : Cx} {J : Jst}
/-! ### subscripts -/
def optP {α : Type} (o : Option α) (P : α → Prop) : Prop := match o with
  | some d => P d
  | none => False
@[simp] theorem optP_some {α : Type} (d : α) (P : α → Prop) : optP (some d) P = P d := rfl
@[simp] theorem optP_none {α : Type} (P : α → Prop) : optP (none : Option α) P = False := rfl
theorem optP_ex {α : Type} {o : Option α} {P : α → Prop} (h : optP o P) : ∃ d, o = some d ∧ P d := by
  cases o with
  | none => exact h.elim
  | some d => exact ⟨d, rfl, h⟩
def dIx : DO
  | .tup xs, .int i => fun P => optP (atI xs i) P
  | .lst xs, .int i => fun P => optP (atI xs i) P
  | .str z, .int i => fun P => z.length ≤ sizeLine ∧ optP (atI z.cps.toList i) fun c => P (.str ⟨#[c]⟩)
  | _, _ => fun _ => False
def IxAt (X : Cx) : R2 := fun x y H Q =>
  ∀ (value slice : Expr) (pins : List (Addr × Obj)) (s : Shared) (σ : L2.St) (v u : Value), Inv X pins σ H s → RelV x v → RelV y u →
    subscripted slice false v u = operate [v, u] (getItem v u) → wpAny (model X.prog X.w) X.A (subscriptTail value slice v u) (EP X pins σ Q) X.xe s
theorem ixR_at : IxR X (IxAt X) := fun value slice pins s σ H x y v u Q I rx ry h hs => h value slice pins s σ v u I rx ry hs
theorem ixAt {r : R2} (ho : IxR X r) {x y : V} {H : Hp} {Q : VK} (h : r x y H Q) : IxAt X x y H Q := fun value slice pins s σ v u I rx ry hs => ho value slice pins s σ H x y v u Q I rx ry h hs
theorem atI_rp {K : PySem.W.Frag} {F : Hp} {vs : List V} {ds : List D} (r : RpAll K F vs ds) {i : Int} {d : D} (h : atI ds i = some d) : ∃ v, atI vs i = some v ∧ Rp K F v d := by
  unfold atI at h ⊢
  rw [r.length]
  cases e : ixN ds.length i with
  | none => rw [e] at h; cases h
  | some j =>
    rw [e] at h
    exact r.get (show ds[j]? = some d from h)
theorem o_ix {F H : Hp} {x y : V} {dx dy : D} {P : D → Prop} {Q : VK} (b : BaseOk J F H) (rx : RpR X.K J F H x dx) (ry : RpR X.K J F H y dy) (h : dIx dx dy P) (k : ∀ d, P d → ∀ v F' H', Gr J F H F' H' → Rp X.K F' v d → Q v H') : IxAt X x y H Q := by
  cases dy with
  | int i =>
    cases ry.int_inv
    cases dx with
    | tup xs =>
      obtain ⟨a, vs, rfl, t, l, r⟩ := rx.tup'
      obtain ⟨d, e, p⟩ := optP_ex h
      obtain ⟨v, e', r'⟩ := atI_rp r e
      exact ixAt ix_tup ⟨a, vs, i, v, rfl, rfl, b.fh.seqT t.sq, e', okk b p k r'⟩
    | lst xs =>
      obtain ⟨a, vs, rfl, t, l, r⟩ := rx.lst_inv b
      obtain ⟨d, e, p⟩ := optP_ex h
      obtain ⟨v, e', r'⟩ := atI_rp r e
      exact ixAt ix_list ⟨a, vs, i, v, rfl, rfl, t, e', okk b p k r'⟩
    | str z =>
      cases rx.str_inv
      obtain ⟨hz, h⟩ := h
      obtain ⟨c, e, p⟩ := optP_ex h
      exact ixAt ix_str ⟨z, i, c, rfl, rfl, hz, e, okk b p k (.str _)⟩
    | _ => exact h.elim
  | _ => cases dx <;> exact h.elim
theorem de_ix {a b : Expr} {ta tb : DE} {pos : Pos} (ha : PE X a (dR X.K J ta)) (hb : PE X b (dR X.K J tb)) (hs : PlainIx b) : PE X (.Subscript a b pos) (dE X.K J (dOp dIx ta tb)) :=
  (pe_ix ixR_at ha hb hs).imp fun σ H Q ⟨j, F, ρ, P, s, q, k⟩ => ⟨j, F, ρ, _, s, q, fun dx j1 px x F1 H1 g1 r1 => ⟨j1, F1, ρ, _, s.grow g1, px, fun dy j2 py y F2 H2 g2 r2 =>
    o_ix g2.base (r1.grow g2) r2 py fun d pd v F3 H3 g3 r3 => k d j2 pd v F3 H3 ((g1.trans g2).pure g3) r3⟩⟩
/-! ### slices -/
def cutD (xs : List D) (lo hi : Option Int) : List D := (xs.drop (HT.sIx xs.length 0 lo)).take (HT.sIx xs.length xs.length hi - HT.sIx xs.length 0 lo)
theorem cutD_rp {K : PySem.W.Frag} {F : Hp} {vs : List V} {ds : List D} (r : RpAll K F vs ds) (lo hi : Option Int) : RpAll K F (cutV vs lo hi) (cutD ds lo hi) := by
  unfold cutV cutD
  rw [r.length]
  exact (r.drop _).take _
def SlAt (X : Cx) : V → Option Int → Option Int → Hp → VK → Prop := fun x lo hi H Q =>
  ∀ (pins : List (Addr × Obj)) (s : Shared) (σ : L2.St) (v vl vu : Value) (sl : Addr), Inv X pins σ H s → RelV x v → s.heap.IsSliceOf sl vl vu .none → IsPart vl lo → IsPart vu hi →
    ∃ T id, typeLookup (.type T) "__getitem__" = pure (some (.builtin id)) ∧ s.TypeIs v T ∧ wpAny (model X.prog X.w) X.A (getItem v (.ref sl)) (EP X pins σ Q) X.xe s
theorem slR_at : SlR X (SlAt X) := fun pins s σ H x v vl vu lo hi sl Q I rx hs pl pu h => h pins s σ v vl vu sl I rx hs pl pu
theorem slAt {r : V → Option Int → Option Int → Hp → VK → Prop} (ho : SlR X r) {x : V} {lo hi : Option Int} {H : Hp} {Q : VK} (h : r x lo hi H Q) : SlAt X x lo hi H Q := fun pins s σ v vl vu sl I rx hs pl pu => ho pins s σ H x v vl vu lo hi sl Q I rx hs pl pu h
/-- t[lo:hi] of a tuple, with the object told -/
theorem sl_tupZ : SlR X (fun x lo hi H Q => ∃ a xs, x = .ref a ∧ SqT X.K H a xs ∧
    (HT.sIx xs.length 0 lo = 0 ∧ HT.sIx xs.length xs.length hi = xs.length → Q (.ref a) H) ∧ (¬ (HT.sIx xs.length 0 lo = 0 ∧ HT.sIx xs.length xs.length hi = xs.length) → newT (cutV xs lo hi) H Q)) := by
  intro pins s σ H x v vl vu lo hi sl Q I rx hs pl pu h
  obtain ⟨a, xs, rfl, hx, q1, q2⟩ := h
  cases rx
  obtain ⟨its, r, ht, hz⟩ := I.tuple hx
  have hlen : its.toArray.size = xs.length := by rw [List.size_toArray]; exact r.length.symm
  refine ⟨"tuple", _, PyProof.Rows.slot_tuple_getitem.lookup, ht.typeIs, ?_⟩
  by_cases hw : HT.sIx xs.length 0 lo = 0 ∧ HT.sIx xs.length xs.length hi = xs.length
  · exact getItem_tuple_whole ht hs pl pu (by rw [hlen]; exact hw) ⟨.ref a, H, I, rfl, q1 hw⟩
  · refine HT.getItem_tuple_cut ht hs pl pu (by rw [hlen]; exact hw) ?_ (by rw [hlen]; exact hz)
    rw [hlen]
    exact newT_at I ((r.drop (HT.sIx xs.length 0 lo)).take (HT.sIx xs.length xs.length hi - HT.sIx xs.length 0 lo)) (Nat.le_trans (cutV_length xs lo hi) hz) (q2 hw)
theorem cutV_whole {xs : List V} {lo hi : Option Int} (h : HT.sIx xs.length 0 lo = 0 ∧ HT.sIx xs.length xs.length hi = xs.length) : cutV xs lo hi = xs := by
  unfold cutV
  rw [h.1, h.2]
  simp
theorem cutD_whole {xs : List D} {lo hi : Option Int} (h : HT.sIx xs.length 0 lo = 0 ∧ HT.sIx xs.length xs.length hi = xs.length) : cutD xs lo hi = xs := by
  unfold cutD
  rw [h.1, h.2]
  simp
@[simp] def dCut (x : D) (lo hi : Option Int) (P : D → Prop) : Prop := match x with
  | .tup xs => P (.tup (cutD xs lo hi))
  | .lst xs => P (.lst (cutD xs lo hi))
  | .str z => z.length ≤ sizeLine ∧ P (.str (cutS z lo hi))
  | _ => False
theorem o_cut {F H : Hp} {x : V} {dx : D} {lo hi : Option Int} {P : D → Prop} {Q : VK} (b : BaseOk J F H) (rx : RpR X.K J F H x dx) (h : dCut dx lo hi P) (k : ∀ d, P d → ∀ v F' H', Gr J F H F' H' → Rp X.K F' v d → Q v H') : SlAt X x lo hi H Q := by
  cases dx with
  | tup xs =>
    obtain ⟨a, vs, rfl, t, l, r⟩ := rx.tup'
    refine slAt sl_tupZ ⟨a, vs, rfl, b.fh.seqT t.sq, fun e => ?_, fun e => newT_go (Gr.refl b) (Nat.le_trans (cutV_length vs lo hi) l) (cutD_rp r lo hi) h k⟩
    rw [r.length] at e
    have h' : P (.tup (cutD xs lo hi)) := h
    rw [cutD_whole e] at h'
    exact okk b h' k (.tup t l r)
  | lst xs =>
    obtain ⟨a, vs, rfl, t, l, r⟩ := rx.lst_inv b
    refine slAt sl_list ⟨a, vs, rfl, t, fun p hp => ?_⟩
    exact k _ h _ _ _ (Gr.laid b hp _) (.lst (.inl (.inl upd_same)) (Nat.le_trans (cutV_length vs lo hi) l) ((cutD_rp r lo hi).mono (sub_upd (b.fnew hp))))
  | str z =>
    cases rx.str_inv
    exact slAt sl_str ⟨z, rfl, h.1, okk b h.2 k (.str _)⟩
  | _ => exact h.elim
abbrev DP' := JS → List SD → (Option Int → JS → Prop) → Prop
/-- one end of a slice -/
def dP (K : PySem.W.Frag) (J : Jst) (t : DP') : TO := fun σ H Q => ∃ j F ρ P, SR K (J.at j) F H σ ρ ∧ t j ρ P ∧ ∀ o j', P o j' → ∀ F' H', Gt (J.at j) F H j' F' H' → Q o H'
@[simp] def isI (P : Option Int → Prop) : D → Prop
  | .int i => P (some i)
  | _ => False
@[simp] def dNoP : DP' := fun j _ P => P none j
@[simp] def dSomeP (t : DE) : DP' := fun j ρ P => t j ρ fun d j1 => isI (fun o => P o j1) d
theorem PO.imp' {e : Option Expr} {t t' : TO} (h : PO X e t) (i : ∀ σ H Q, t' σ H Q → t σ H Q) : PO X e t' := ⟨fun pins s σ H Q I q => h.run pins s σ H Q I (i σ H Q q)⟩
theorem dp_none : PO X none (dP X.K J dNoP) := PO.imp' po_none fun σ H Q ⟨j, F, ρ, P, s, q, k⟩ => k none j q F H (Gt.refl s.base)
theorem dp_some {e : Expr} {t : DE} (h : PE X e (dE X.K J t)) : PO X (some e) (dP X.K J (dSomeP t)) := PO.imp' (po_some h) fun σ H Q ⟨j, F, ρ, P, s, q, k⟩ => ⟨j, F, ρ, _, s, q, fun d j1 pd v F1 H1 g r => by
  cases d with
  | int i =>
    cases r.int_inv
    exact ⟨i, rfl, k _ j1 pd F1 H1 g⟩
  | _ => exact pd.elim⟩
@[simp] def dSl (te : DE) (tl th : DP') : DE := fun j ρ P => te j ρ fun x j1 => tl j1 ρ fun lo j2 => th j2 ρ fun hi j3 => dCut x lo hi fun d => P d j3
theorem de_sl {e : Expr} {lo hi : Option Expr} {te : DE} {tl th : DP'} {p2 pos : Pos} (he : PE X e (dR X.K J te)) (hl : PO X lo (dP X.K J tl)) (hh : PO X hi (dP X.K J th)) : PE X (.Subscript e (.Slice lo hi none p2) pos) (dE X.K J (dSl te tl th)) :=
  (pe_slice slR_at he hl hh).imp fun σ H Q ⟨j, F, ρ, P, s, q, k⟩ => ⟨j, F, ρ, _, s, q, fun dx j1 px x F1 H1 g1 r1 => ⟨j1, F1, ρ, _, s.grow g1, px, fun o j2 po F2 H2 g2 => ⟨j2, F2, ρ, _, s.grow (g1.trans g2), po, fun o' j3 po' F3 H3 g3 =>
    o_cut g3.base (r1.grow (g2.trans g3)) po' fun d pd v F4 H4 g4 r4 => k d j3 pd v F4 H4 (((g1.trans g2).trans g3).pure g4) r4⟩⟩⟩

/-! ### built-in functions of one argument -/
def CallAt (X : Cx) (f : Value) : List V → Hp → VK → Prop := fun xs H Q =>
  ∀ (pins : List (Addr × Obj)) (s : Shared) (σ : L2.St) (us : List Value), Inv X pins σ H s → Vals xs us → wpAny (model X.prog X.w) X.A (call f us) (EP X pins σ Q) X.xe s
theorem callR_at {f : Value} : CallR X f (CallAt X f) := fun pins s σ H xs us Q I r h => h pins s σ us I r
theorem callAt {f : Value} {r : List V → Hp → VK → Prop} (ho : CallR X f r) {xs : List V} {H : Hp} {Q : VK} (h : r xs H Q) : CallAt X f xs H Q := fun pins s σ us I rs => ho pins s σ H xs us Q I rs h
abbrev DO1 := D → (D → Prop) → Prop
abbrev DF1 := D → (List D → Prop) → Prop
def Cl1 (X : Cx) (J : Jst) (f : Value) (o : DO1) : Prop :=
  ∀ (j : JS) (F H : Hp) (x : V) (dx : D) (P : D → Prop) (Q : VK), BaseOk (J.at j) F H → RpR X.K (J.at j) F H x dx → o dx P → (∀ d, P d → ∀ v F' H', Gr (J.at j) F H F' H' → Rp X.K F' v d → Q v H') → CallAt X f [x] H Q
/-- it gives a new list -/
def Cf1 (X : Cx) (J : Jst) (f : Value) (o : DF1) : Prop :=
  ∀ (j : JS) (F H : Hp) (x : V) (dx : D) (P : List D → Prop) (Q : VK), BaseOk (J.at j) F H → RpR X.K (J.at j) F H x dx → o dx P → (∀ ds, P ds → ∀ a F' H', Gr (J.at j) F H F' H' → H a = none → OwnAt X.K (J.at j) F' H' a ds → Q (.ref a) H') → CallAt X f [x] H Q
@[simp] def dO1 (o : DO1) (t : DE) : DE := fun j ρ P => t j ρ fun x j1 => o x fun d => P d j1
@[simp] def dF1 (o : DF1) (t : DE) : DL' := fun j ρ P => t j ρ fun x j1 => o x fun ds => P ds j1
variable {x : Str} {id T : String} {p pos : Pos} {e : Expr} {t : DE}
theorem gr_new {j j' : JS} {F H F1 H1 : Hp} {a : Addr} (g : Gt (J.at j) F H j' F1 H1) (h : H1 a = none) : H a = none := by
  cases e : H a with
  | none => rfl
  | some u =>
    rw [g.hh a u e (g.base.new h)] at h; cases h
theorem de_call1 {o : DO1} (ho : Cl1 X J (.builtin id) o) (hg : Gl X x) (hm : X.mg x = none) (hv : bootBuiltins x = some (.builtin id)) (ha : PE X e (dR X.K J t)) (hn : x ≠ "__name__" := by decide) (hdb : (x == ("__debug__" : Str)) = false := by decide)
    (he : starEach [e] X.env = (false, eval e X.env) :: starEach [] X.env := by rfl) (hpl : (backTo pos (starEach [] X.env)).any (·.1) = false := by rfl) : PE X (.Call (.Name x p) [e] [] pos) (dE X.K J (dO1 o t)) :=
  (pe_callB callR_at hg hm hv (pa_cons ha pa_nil he) hn hdb he hpl).imp fun σ H Q ⟨j, F, ρ, P, s, q, k⟩ => ⟨j, F, ρ, _, s, q, fun d j1 pd v F1 H1 g r => ho j1 F1 H1 v d _ Q g.base r pd fun d' pd' v' F2 H2 g2 r2 => k d' j1 pd' v' F2 H2 (g.pure g2) r2⟩
theorem de_callTy {o : DO1} (ho : Cl1 X J (.type T) o) (hg : Gl X x) (hm : X.mg x = none) (hv : bootBuiltins x = some (.type T)) (ha : PE X e (dR X.K J t)) (hn : x ≠ "__name__" := by decide) (hdb : (x == ("__debug__" : Str)) = false := by decide)
    (he : starEach [e] X.env = (false, eval e X.env) :: starEach [] X.env := by rfl) (hpl : (backTo pos (starEach [] X.env)).any (·.1) = false := by rfl) : PE X (.Call (.Name x p) [e] [] pos) (dE X.K J (dO1 o t)) :=
  (pe_callTy callR_at hg hm hv (pa_cons ha pa_nil he) hn hdb he hpl).imp fun σ H Q ⟨j, F, ρ, P, s, q, k⟩ => ⟨j, F, ρ, _, s, q, fun d j1 pd v F1 H1 g r => ho j1 F1 H1 v d _ Q g.base r pd fun d' pd' v' F2 H2 g2 r2 => k d' j1 pd' v' F2 H2 (g.pure g2) r2⟩
theorem df_call1 {o : DF1} (ho : Cf1 X J (.builtin id) o) (hg : Gl X x) (hm : X.mg x = none) (hv : bootBuiltins x = some (.builtin id)) (ha : PE X e (dR X.K J t)) (hn : x ≠ "__name__" := by decide) (hdb : (x == ("__debug__" : Str)) = false := by decide)
    (he : starEach [e] X.env = (false, eval e X.env) :: starEach [] X.env := by rfl) (hpl : (backTo pos (starEach [] X.env)).any (·.1) = false := by rfl) : PE X (.Call (.Name x p) [e] [] pos) (dF X.K J (dF1 o t)) :=
  (pe_callB callR_at hg hm hv (pa_cons ha pa_nil he) hn hdb he hpl).imp fun σ H Q ⟨j, F, ρ, P, s, q, k⟩ => ⟨j, F, ρ, _, s, q, fun d j1 pd v F1 H1 g r => ho j1 F1 H1 v d _ Q g.base r pd fun ds pds a F2 H2 g2 n2 r2 => k ds j1 pds a F2 H2 (g.pure g2) (gr_new g n2) r2⟩
theorem df_callTy {o : DF1} (ho : Cf1 X J (.type T) o) (hg : Gl X x) (hm : X.mg x = none) (hv : bootBuiltins x = some (.type T)) (ha : PE X e (dR X.K J t)) (hn : x ≠ "__name__" := by decide) (hdb : (x == ("__debug__" : Str)) = false := by decide)
    (he : starEach [e] X.env = (false, eval e X.env) :: starEach [] X.env := by rfl) (hpl : (backTo pos (starEach [] X.env)).any (·.1) = false := by rfl) : PE X (.Call (.Name x p) [e] [] pos) (dF X.K J (dF1 o t)) :=
  (pe_callTy callR_at hg hm hv (pa_cons ha pa_nil he) hn hdb he hpl).imp fun σ H Q ⟨j, F, ρ, P, s, q, k⟩ => ⟨j, F, ρ, _, s, q, fun d j1 pd v F1 H1 g r => ho j1 F1 H1 v d _ Q g.base r pd fun ds pds a F2 H2 g2 n2 r2 => k ds j1 pds a F2 H2 (g.pure g2) (gr_new g n2) r2⟩
/-! len -/
@[simp] def dLen : DO1
  | .tup xs => fun P => P (.int xs.length)
  | .lst xs => fun P => P (.int xs.length)
  | .str z => fun P => z.length ≤ sizeLine ∧ P (.int z.length)
  | _ => fun _ => False
theorem c_len : Cl1 X J (.builtin "len") dLen := by
  intro j F H x dx P Q b rx h k
  cases dx with
  | tup xs =>
    obtain ⟨a, vs, rfl, t, l, r⟩ := rx.tup'
    have h' : P (.int xs.length) := h
    rw [← r.length] at h'
    exact callAt call_len_seq ⟨a, vs, rfl, .inr (b.fh.seqT t.sq), okk b h' k (.int _)⟩
  | lst xs =>
    obtain ⟨a, vs, rfl, t, l, r⟩ := rx.lst_inv b
    have h' : P (.int xs.length) := h
    rw [← r.length] at h'
    exact callAt call_len_seq ⟨a, vs, rfl, .inl t, okk b h' k (.int _)⟩
  | str z =>
    cases rx.str_inv
    exact callAt call_len_str ⟨z, rfl, h.1, okk b h.2 k (.int _)⟩
  | _ => exact h.elim
/-! abs, int -/
@[simp] def dAbs : DO1
  | .int i => fun P => P (.int (if i < 0 then -i else i))
  | _ => fun _ => False
theorem c_abs : Cl1 X J (.builtin "abs") dAbs := by
  intro j F H x dx P Q b rx h k
  cases dx with
  | int i => cases rx.int_inv; exact callAt call_abs ⟨i, rfl, okk b h k (.int _)⟩
  | _ => exact h.elim
@[simp] def dInt : DO1
  | .int i => fun P => P (.int i)
  | _ => fun _ => False
theorem c_int : Cl1 X J (.type "int") dInt := by
  intro j F H x dx P Q b rx h k
  cases dx with
  | int i => cases rx.int_inv; exact callAt call_int1 (.inl ⟨i, rfl, okk b h k (.int _)⟩)
  | _ => exact h.elim
/-! all, any: of truth values -/
def isTr : D → Bool
  | .bl b => b
  | _ => false
def isBlD : D → Bool
  | .bl _ => true
  | _ => false
@[simp] def dAll : DO1
  | .tup xs => fun P => (xs.all isBlD = true) ∧ P (.bl (xs.all isTr))
  | .lst xs => fun P => (xs.all isBlD = true) ∧ P (.bl (xs.all isTr))
  | _ => fun _ => False
@[simp] def dAny : DO1
  | .tup xs => fun P => (xs.all isBlD = true) ∧ P (.bl (xs.any isTr))
  | .lst xs => fun P => (xs.all isBlD = true) ∧ P (.bl (xs.any isTr))
  | _ => fun _ => False
theorem bls_enc : ∀ {xs : List D}, xs.all isBlD = true → PyData.plainAll (encAll xs) = true ∧ (∀ x ∈ encAll xs, x.fits63) ∧ (encAll xs).all PyData.truthy = xs.all isTr ∧ (encAll xs).any PyData.truthy = xs.any isTr ∧ ∀ d ∈ xs, lv 0 d = true
  | [], _ => ⟨rfl, (fun _ h => nomatch h), rfl, rfl, (fun _ h => nomatch h)⟩
  | .bl b :: r, h => by
    obtain ⟨h1, h2, h3, h4, h5⟩ := bls_enc (xs := r) h
    refine ⟨h1, fun x hx => ?_, ?_, ?_, fun d hd => ?_⟩
    · rcases List.mem_cons.mp hx with rfl | hx
      · exact True.intro
      · exact h2 x hx
    · show (b && (encAll r).all PyData.truthy) = (b && r.all isTr)
      rw [h3]
    · show (b || (encAll r).any PyData.truthy) = (b || r.any isTr)
      rw [h4]
    · rcases List.mem_cons.mp hd with rfl | hd
      · rfl
      · exact h5 d hd
  | .non :: _, h => by cases h
  | .int _ :: _, h => by cases h
  | .str _ :: _, h => by cases h
  | .tup _ :: _, h => by cases h
  | .lst _ :: _, h => by cases h
  | .ref _ :: _, h => by cases h
  | .ty _ :: _, h => by cases h
theorem c_allany {nm : String} (all : Bool) (hnm : nm = if all then "all" else "any") (hc : X.calm = true) {F H : Hp} {x : V} {dx : D} {P : D → Prop} {Q : VK} (b : BaseOk J F H) (rx : RpR X.K J F H x dx) {xs : List D} (hx : dx = .tup xs ∨ dx = .lst xs) (hb : xs.all isBlD = true)
    (p : P (.bl (if all then xs.all isTr else xs.any isTr))) (k : ∀ d, P d → ∀ v F' H', Gr J F H F' H' → Rp X.K F' v d → Q v H') : CallAt X (.builtin nm) [x] H Q := by
  intro pins s σ us I rs
  obtain ⟨u, rfl, ru⟩ := vals1 rs
  obtain ⟨h1, h2, h3, h4, h5⟩ := bls_enc hb
  have fin : ∀ (h' : Heap) (tk : Nat), (∀ b o, s.heap.get? b = some o → h'.get? b = some o) → EP X pins σ Q (.bool (if all then xs.all isTr else xs.any isTr)) { s with heap := h', toks := tk } := fun h' tk kp => ⟨.bl _, H, I.kept kp, rfl, okk b p k (.bl _)⟩
  rcases hx with rfl | rfl
  · obtain ⟨a, vs, rfl, t, l, r⟩ := rx.tup'
    cases ru
    obtain ⟨its, rv, pl, hz⟩ := I.tuple (b.fh.seqT t.sq)
    obtain ⟨as, hr⟩ := Dp.readsAll I _ _ its ((r.mono b.fh).dp h5) rv
    subst hnm
    cases all with
    | true => exact PySem.W.all_tuple_data (I.ok.hd hc) pl hr h1 h2 fun h' tk kp => by rw [h3]; exact fin h' tk kp
    | false => exact PySem.W.any_tuple_data (I.ok.hd hc) pl hr h1 h2 fun h' tk kp => by rw [h4]; exact fin h' tk kp
  · obtain ⟨a, vs, rfl, t, l, r⟩ := rx.lst_inv b
    cases ru
    obtain ⟨its, rv, pl, hz⟩ := I.list t
    obtain ⟨as, hr⟩ := Dp.readsAll I _ _ its ((r.mono b.fh).dp h5) rv
    subst hnm
    cases all with
    | true => exact PySem.W.all_list_data (I.ok.hd hc) pl.isList hr h1 h2 fun h' tk kp => by rw [h3]; exact fin h' tk kp
    | false => exact PySem.W.any_list_data (I.ok.hd hc) pl.isList hr h1 h2 fun h' tk kp => by rw [h4]; exact fin h' tk kp
theorem c_all (hc : X.calm = true) : Cl1 X J (.builtin "all") dAll := by
  intro j F H x dx P Q b rx h k
  cases dx with
  | tup xs => exact c_allany true rfl hc b rx (.inl rfl) h.1 h.2 k
  | lst xs => exact c_allany true rfl hc b rx (.inr rfl) h.1 h.2 k
  | _ => exact h.elim
theorem c_any (hc : X.calm = true) : Cl1 X J (.builtin "any") dAny := by
  intro j F H x dx P Q b rx h k
  cases dx with
  | tup xs => exact c_allany false rfl hc b rx (.inl rfl) h.1 h.2 k
  | lst xs => exact c_allany false rfl hc b rx (.inr rfl) h.1 h.2 k
  | _ => exact h.elim
/-! tuple(..), list(..) -/
@[simp] def dTuple : DO1
  | .tup xs => fun P => P (.tup xs)
  | .lst xs => fun P => P (.tup xs)
  | _ => fun _ => False
theorem call_tupleZ : CallR X (.type "tuple") (fun xs H Q => ∃ p ys, xs = [.ref p] ∧ SqL X.K H p ys ∧ newT ys H Q) := by
  intro pins s σ H xs us Q I r h
  obtain ⟨p, ys, rfl, hq, q⟩ := h
  obtain ⟨u, rfl, rx⟩ := vals1 r
  cases rx
  obtain ⟨its, r', pl, hz⟩ := I.list hq
  have hlen := r'.length
  refine call_tuple_list pl.isList (fun h' kp => ?_) (by simp only [List.size_toArray] <;> omega)
  have I1 : Inv X pins σ H { s with heap := h' } := I.kept (t' := s.toks) kp
  exact newT_at I1 r' hz q
theorem c_tuple : Cl1 X J (.type "tuple") dTuple := by
  intro j F H x dx P Q b rx h k
  cases dx with
  | tup xs =>
    obtain ⟨a, vs, rfl, t, l, r⟩ := rx.tup'
    exact callAt call_tupleT ⟨a, vs, rfl, b.fh.seqT t.sq, okk b h k (.tup t l r)⟩
  | lst xs =>
    obtain ⟨a, vs, rfl, t, l, r⟩ := rx.lst_inv b
    exact callAt call_tupleZ ⟨a, vs, rfl, t, newT_go (Gr.refl b) l r h k⟩
  | _ => exact h.elim
def sign1 (c : Nat) : D := .str ⟨#[c]⟩
@[simp] def dList : DF1
  | .tup xs => fun P => P xs
  | .lst xs => fun P => P xs
  | .str z => fun P => z.length ≤ sizeLine ∧ P (z.cps.toList.map sign1)
  | _ => fun _ => False
theorem own_new {F H : Hp} (b : BaseOk J F H) {a : Addr} (ha : H a = none) {vs : List V} {ds : List D} (l : vs.length ≤ sizeLine) (r : RpAll X.K F vs ds) : OwnAt X.K J F (upd H a (.lst vs)) a ds := ⟨b.fnew ha, b.new ha, vs, upd_same, l, r⟩
theorem c_list (hc : X.calm = true) : Cf1 X J (.type "list") dList := by
  intro j F H x dx P Q b rx h k
  cases dx with
  | tup xs =>
    obtain ⟨a, vs, rfl, t, l, r⟩ := rx.tup'
    exact callAt call_list_of ⟨a, vs, rfl, .inr (b.fh.seqT t.sq), fun p hp => k xs h p _ _ (Gr.own b hp _) hp (own_new b hp l r)⟩
  | lst xs =>
    obtain ⟨a, vs, rfl, t, l, r⟩ := rx.lst_inv b
    exact callAt call_list_of ⟨a, vs, rfl, .inl t, fun p hp => k xs h p _ _ (Gr.own b hp _) hp (own_new b hp l r)⟩
  | str z =>
    cases rx.str_inv
    intro pins s σ us I rs
    obtain ⟨u, rfl, t, rfl⟩ := vals1 rs
    have hl : (z.cps.toList.map fun c => V.str ⟨#[c]⟩).length ≤ sizeLine := by rw [List.length_map]; exact h.1
    refine call_list_str (I.ok.hd hc) z t (hn := h.1) fun h' tk acc' c' kp e ia => ?_
    have hp : H s.heap.objs.size = none := I.hok.fresh (Nat.le_refl _)
    have vs : Vals (z.cps.toList.map fun c => V.str ⟨#[c]⟩) acc'.toList := by
      have hsz : acc'.toList.length = z.cps.toList.length := by rw [Array.length_toList, Array.length_toList]; exact ia.1
      have gen : ∀ (cs : List Nat) (l : List Value), l.length = cs.length → (∀ (j : Nat) (v : Value), l[j]? = some v → ∃ c u, cs[j]? = some c ∧ v = .str ⟨#[c]⟩ u) → Vals (cs.map fun c => V.str ⟨#[c]⟩) l := by
        intro cs
        induction cs with
        | nil => intro l hl _; rw [List.eq_nil_of_length_eq_zero hl]; exact .nil
        | cons c r ih =>
          intro l hl hv
          cases l with
          | nil => cases hl
          | cons v l =>
            obtain ⟨c', u, e1, e2⟩ := hv 0 v rfl
            cases e1
            exact .cons ⟨u, e2⟩ (ih l (Nat.succ.inj hl) fun j v e => hv (j + 1) v e)
      refine gen _ _ hsz fun j v e => ?_
      obtain ⟨c, u, hc, rfl⟩ := ia.2 j v (by simpa using e)
      exact ⟨c, u, by simpa using hc, rfl⟩
    have rr : RpAll X.K F (z.cps.toList.map fun c => V.str ⟨#[c]⟩) (z.cps.toList.map sign1) := by
      generalize z.cps.toList = cs
      induction cs with
      | nil => exact .nil
      | cons c r ih => exact .cons (.str _) ih
    refine ⟨.ref s.heap.objs.size, upd H s.heap.objs.size (.lst _), I.laid (t' := tk) kp (Nat.le_refl _) (show ObjOk X.prog X.w _ h' _ (.lst (z.cps.toList.map fun c => V.str ⟨#[c]⟩)) from ⟨hl, acc'.toList, c', vs, by simpa using e⟩), rfl, ?_⟩
    exact k _ h.2 _ F _ (Gr.own b hp _) hp (own_new b hp hl rr)
  | _ => exact h.elim
end
end DL

/-! DL5 -/
/-! DL5: statements, targets, loops, comprehensions, defs. -/
namespace DL
open PySem PySem.Spec PyProof.Rows L2

/-! ### statements -/
structure DEnds where
  nx : JS → List SD → Prop
  rt : D → JS → Prop
  bk : JS → List SD → Prop := fun _ _ => False
  ct : JS → List SD → Prop := fun _ _ => False
abbrev DS := DEnds → JS → List SD → Prop
/-- the entry of a def: the draws' state, what stood frozen, what stood -/
structure Ent where
  J : Jst
  j0 : JS
  F0 : Hp
  H0 : Hp
/-- .. and no owned list stood at the entry -/
structure SB (K : PySem.W.Frag) (B : Ent) (j : JS) (F H : Hp) (σ : L2.St) (ρ : List SD) : Prop extends SR K (B.J.at j) F H σ ρ where
  fr : ∀ i ds a, slot ρ i = .own ds → σ[i]? = some (some (.ref a)) → B.H0 a = none
instance {K : PySem.W.Frag} {B : Ent} {j : JS} {F H : Hp} {σ : L2.St} {ρ : List SD} : Coe (SB K B j F H σ ρ) (SR K (B.J.at j) F H σ ρ) := ⟨SB.toSR⟩
theorem SB.grow {K : PySem.W.Frag} {B : Ent} {j j' : JS} {F H F' H' : Hp} {σ : L2.St} {ρ : List SD} (s : SB K B j F H σ ρ) (g : Gt (B.J.at j) F H j' F' H') : SB K B j' F' H' σ ρ := ⟨s.toSR.grow g, s.fr⟩
theorem SB.setVal {K : PySem.W.Frag} {B : Ent} {j : JS} {F H : Hp} {σ : L2.St} {ρ : List SD} {v : V} {d : D} {i : Nat} (s : SB K B j F H σ ρ) (r : Rp K F v d) : SB K B j F H (σ.set i (some v)) (put ρ i (.val d)) := by
  refine ⟨s.toSR.setVal r, fun l ds a h e => ?_⟩
  by_cases hj : i = l
  · subst hj
    by_cases hi : i < ρ.length
    · rw [slot_put_same _ _ _ hi] at h; cases h
    · rw [put_big _ _ _ (Nat.le_of_not_lt hi)] at h
      rw [List.set_eq_of_length_le (by rw [s.len]; exact Nat.le_of_not_lt hi)] at e
      exact s.fr _ _ _ h e
  · rw [slot_put_ne _ _ _ _ hj] at h
    rw [get_set_ne hj] at e
    exact s.fr _ _ _ h e
theorem sb0 {K : PySem.W.Frag} {J : Jst} {j j0 : JS} {F0 F H : Hp} {σ : L2.St} {ρ : List SD} (s : SR K (J.at j) F H σ ρ) : SB K ⟨J, j0, F0, fun _ => none⟩ j F H σ ρ := ⟨s, fun _ _ _ _ _ => rfl⟩
structure Good (K : PySem.W.Frag) (B : Ent) (F1 : Hp) (E : DEnds) (D : Ends) : Prop where
  nx : ∀ j σ F H ρ, SB K B j F H σ ρ → Gt (B.J.at B.j0) B.F0 B.H0 j F H → Sub F1 F → E.nx j ρ → D.nx σ H
  rt : ∀ j v F H d, Gt (B.J.at B.j0) B.F0 B.H0 j F H → Rp K F v d → E.rt d j → D.rt v H
  bk : ∀ j σ F H ρ, SB K B j F H σ ρ → Gt (B.J.at B.j0) B.F0 B.H0 j F H → Sub F1 F → E.bk j ρ → D.bk σ H
  ct : ∀ j σ F H ρ, SB K B j F H σ ρ → Gt (B.J.at B.j0) B.F0 B.H0 j F H → Sub F1 F → E.ct j ρ → D.ct σ H
theorem Good.sub {K : PySem.W.Frag} {B : Ent} {F1 F2 : Hp} {E : DEnds} {D : Ends} (g : Good K B F1 E D) (s : Sub F1 F2) : Good K B F2 E D :=
  ⟨fun j σ F H ρ a b c => g.nx j σ F H ρ a b (s.trans c), g.rt, fun j σ F H ρ a b c => g.bk j σ F H ρ a b (s.trans c), fun j σ F H ρ a b c => g.ct j σ F H ρ a b (s.trans c)⟩
def dS (K : PySem.W.Frag) (B : Ent) (t : DS) : TS := fun D σ H => ∃ j F ρ E, SB K B j F H σ ρ ∧ Gt (B.J.at B.j0) B.F0 B.H0 j F H ∧ t E j ρ ∧ Good K B F E D
section
variable {X : Cx} {B : Ent} {st : Stmt} {rest : List Stmt} {t u : DS} {pos : Pos}
@[simp] def dNext : DS := fun E j ρ => E.nx j ρ
@[simp] def dSeq (t u : DS) : DS := fun E j ρ => t { E with nx := u E } j ρ
theorem ds_nil : PSs X [] (dS X.K B dNext) := pss_nil.imp fun D σ H ⟨j, F, ρ, E, s, g, q, k⟩ => k.nx j σ F H ρ s g (Sub.refl _) q
theorem ds_cons (h1 : PS X st (dS X.K B t)) (h2 : PSs X rest (dS X.K B u)) : PSs X (st :: rest) (dS X.K B (dSeq t u)) :=
  (pss_cons h1 h2).imp fun D σ H ⟨j, F, ρ, E, s, g, q, k⟩ => ⟨j, F, ρ, _, s, g, q, ⟨fun j' σ' F' H' ρ' s' g' u' q' => ⟨j', F', ρ', E, s', g', q', k.sub u'⟩, k.rt, k.bk, k.ct⟩⟩
theorem ds_one (h1 : PS X st (dS X.K B t)) : PSs X [st] (dS X.K B t) := pss_one h1
theorem ds_pass : PS X (.Pass pos) (dS X.K B dNext) := ps_pass.imp fun D σ H ⟨j, F, ρ, E, s, g, q, k⟩ => k.nx j σ F H ρ s g (Sub.refl _) q
@[simp] def dBreak : DS := fun E j ρ => E.bk j ρ
@[simp] def dCont : DS := fun E j ρ => E.ct j ρ
theorem ds_break : PS X (.Break pos) (dS X.K B dBreak) := ps_break.imp fun D σ H ⟨j, F, ρ, E, s, g, q, k⟩ => k.bk j σ F H ρ s g (Sub.refl _) q
theorem ds_cont : PS X (.Continue pos) (dS X.K B dCont) := ps_continue.imp fun D σ H ⟨j, F, ρ, E, s, g, q, k⟩ => k.ct j σ F H ρ s g (Sub.refl _) q
@[simp] def dNever : DS := fun _ _ _ => False
theorem ds_never : PS X st (dS X.K B dNever) := ps_never.imp fun D σ H ⟨j, F, ρ, E, s, g, q, k⟩ => q.elim
@[simp] def dExpr (t : DE) : DS := fun E j ρ => t j ρ fun _ j1 => E.nx j1 ρ
theorem ds_expr {e : Expr} {t : DE} (h : PE X e (dE X.K B.J t)) (hs : swapsWith e none pos.line X.env = pure false := by rfl) : PS X (.Expr e pos) (dS X.K B (dExpr t)) :=
  (ps_expr h hs).imp fun D σ H ⟨j, F, ρ, E, s, g, q, k⟩ => ⟨j, F, ρ, _, s, q, fun d j1 pd v F1 H1 g1 r => k.nx j1 σ F1 H1 ρ (s.grow g1) (g.trans g1) g1.ff pd⟩
@[simp] def dRet (t : DE) : DS := fun E j ρ => t j ρ E.rt
theorem ds_ret {e : Expr} {t : DE} (h : PE X e (dE X.K B.J t)) : PS X (.Return (some e) pos) (dS X.K B (dRet t)) :=
  (ps_ret h).imp fun D σ H ⟨j, F, ρ, E, s, g, q, k⟩ => ⟨j, F, ρ, _, s, q, fun d j1 pd v F1 H1 g1 r => k.rt j1 v F1 H1 d (g.trans g1) r pd⟩
@[simp] def dRetN : DS := fun E j ρ => E.rt .non j
theorem ds_retN : PS X (.Return none pos) (dS X.K B dRetN) := ps_retN.imp fun D σ H ⟨j, F, ρ, E, s, g, q, k⟩ => k.rt j .non F H .non g .non q
@[simp] def dIfS (c : DT) (t u : DS) : DS := fun E j ρ => c j ρ fun b j1 => if b = true then t E j1 ρ else u E j1 ρ
theorem ds_if {c : Expr} {a b : List Stmt} {tc : DT} (hc : PT X c (dT X.K B.J tc)) (ha : PSs X a (dS X.K B t)) (hb : PSs X b (dS X.K B u)) : PS X (.If c a b pos) (dS X.K B (dIfS tc t u)) :=
  (ps_if hc ha hb).imp fun D σ H ⟨j, F, ρ, E, s, g, q, k⟩ => ⟨j, F, ρ, _, s, q, fun b j1 pb F1 H1 g1 => by
    cases b with
    | true => rw [if_pos rfl] at pb ⊢; exact ⟨j1, F1, ρ, E, s.grow g1, g.trans g1, pb, k.sub g1.ff⟩
    | false => rw [if_neg Bool.false_ne_true] at pb ⊢; exact ⟨j1, F1, ρ, E, s.grow g1, g.trans g1, pb, k.sub g1.ff⟩⟩
/-! name = e -/
@[simp] def dSet (i : Nat) (t : DE) : DS := fun E j ρ => t j ρ fun d j1 => E.nx j1 (put ρ i (.val d))
@[simp] def dSetF (i : Nat) (t : DL') : DS := fun E j ρ => t j ρ fun ds j1 => E.nx j1 (put ρ i (.own ds))
theorem ds_set {i : Nat} {x : Str} {e : Expr} {te : DE} {pos' : Pos} (hN : X.N.Nodup) (hi : X.N[i]? = some x) (hx : Loc X.env.scope x) (he : PE X e (dE X.K B.J te)) (hs : swapsWith e (some (.Name x pos')) pos.line X.env = pure false := by rfl) (hf : X.fn x = true ∨ X.env.scope.names.lookup x = some .local := by first | exact .inl rfl | exact .inr rfl | assumption) :
    PS X (.Assign [.Name x pos'] e pos) (dS X.K B (dSet i te)) :=
  (ps_set hN hi hx he hs hf).imp fun D σ H ⟨j, F, ρ, E, s, g, q, k⟩ => ⟨j, F, ρ, _, s, q, fun d j1 pd v F1 H1 g1 r => k.nx j1 _ F1 H1 _ ((s.grow g1).setVal r) (g.trans g1) g1.ff pd⟩
theorem SR.setNew {K : PySem.W.Frag} {J : Jst} {j j1 : JS} {F H F1 H1 : Hp} {σ : L2.St} {ρ : List SD} {a : Addr} {ds : List D} {i : Nat} (s : SR K (J.at j) F H σ ρ) (g : Gt (J.at j) F H j1 F1 H1) (n : H a = none) (o : OwnAt K (J.at j1) F1 H1 a ds) : SR K (J.at j1) F1 H1 (σ.set i (some (.ref a))) (put ρ i (.own ds)) :=
  (s.grow g).setOwn o (by
    show J.eH a = none
    cases e0 : J.eH a with
    | none => rfl
    | some u => rw [s.ent.hh a u e0 o.2.1] at n; cases n) fun l es hj e q => by
    obtain ⟨b, e1, _, _, vs, h, _⟩ := s.owns l es e
    rw [e1] at q
    cases q
    rw [n] at h; cases h
theorem SB.setNew {K : PySem.W.Frag} {B : Ent} {j j1 : JS} {F H F1 H1 : Hp} {σ : L2.St} {ρ : List SD} {a : Addr} {ds : List D} {i : Nat} (s : SB K B j F H σ ρ) (g0 : Gt (B.J.at B.j0) B.F0 B.H0 j F H) (g : Gt (B.J.at j) F H j1 F1 H1) (n : H a = none) (o : OwnAt K (B.J.at j1) F1 H1 a ds) : SB K B j1 F1 H1 (σ.set i (some (.ref a))) (put ρ i (.own ds)) := by
  refine ⟨s.toSR.setNew g n o, fun l es b h e => ?_⟩
  have h0 : B.H0 a = none := by
    cases e0 : B.H0 a with
    | none => rfl
    | some u => rw [g0.hh a u e0 o.2.1] at n; cases n
  by_cases hj : i = l
  · subst hj
    by_cases hi : i < ρ.length
    · rw [List.getElem?_set_self (by rw [s.len]; exact hi)] at e
      cases e
      exact h0
    · rw [put_big _ _ _ (Nat.le_of_not_lt hi)] at h
      rw [List.set_eq_of_length_le (by rw [s.len]; exact Nat.le_of_not_lt hi)] at e
      exact s.fr _ _ _ h e
  · rw [slot_put_ne _ _ _ _ hj] at h
    rw [get_set_ne hj] at e
    exact s.fr _ _ _ h e
theorem ds_setF {i : Nat} {x : Str} {e : Expr} {te : DL'} {pos' : Pos} (hN : X.N.Nodup) (hi : X.N[i]? = some x) (hx : Loc X.env.scope x) (he : PE X e (dF X.K B.J te)) (hs : swapsWith e (some (.Name x pos')) pos.line X.env = pure false := by rfl) (hf : X.fn x = true ∨ X.env.scope.names.lookup x = some .local := by first | exact .inl rfl | exact .inr rfl | assumption) :
    PS X (.Assign [.Name x pos'] e pos) (dS X.K B (dSetF i te)) :=
  (ps_set hN hi hx he hs hf).imp fun D σ H ⟨j, F, ρ, E, s, g, q, k⟩ => ⟨j, F, ρ, _, s, q, fun ds j1 pd a F1 H1 g1 n o => k.nx j1 _ F1 H1 _ (s.setNew g g1 n o) (g.trans g1) g1.ff pd⟩

/-! ### targets -/
/-- an item to be assigned: it stands frozen, or it is a tuple just made -/
def RpI (K : PySem.W.Frag) (F H : Hp) (v : V) (d : D) : Prop := Rp K F v d ∨ ∃ a vs ds, v = .ref a ∧ d = .tup ds ∧ SqT K H a vs ∧ RpAll K F vs ds
theorem RpI.tup_inv {K : PySem.W.Frag} {J : Jst} {F H : Hp} {v : V} {ds : List D} (b : BaseOk J F H) (h : RpI K F H v (.tup ds)) : ∃ a vs, v = .ref a ∧ SqT K H a vs ∧ RpAll K F vs ds := by
  rcases h with h | ⟨a, vs, es, e1, e2, h1, h2⟩
  · obtain ⟨a, vs, e, h1, _, h2⟩ := h.tup_inv
    exact ⟨a, vs, e, b.fh.seqT h1.sq, h2⟩
  · cases e2
    exact ⟨a, vs, e1, h1, h2⟩
abbrev DG := D → List SD → (List SD → Prop) → Prop
abbrev DGs := List D → List SD → (List SD → Prop) → Prop
/-- the slots off the list are as they were -/
def Off (is : List Nat) (σ σ' : L2.St) : Prop := σ'.length = σ.length ∧ ∀ j, j ∉ is → σ'[j]? = σ[j]?
theorem Off.trans {is js : List Nat} {σ σ1 σ2 : L2.St} (a : Off is σ σ1) (b : Off js σ1 σ2) : Off (is ++ js) σ σ2 :=
  ⟨b.1.trans a.1, fun j hj => (b.2 j fun h => hj (List.mem_append_right _ h)).trans (a.2 j fun h => hj (List.mem_append_left _ h))⟩
def dG (K : PySem.W.Frag) (B : Ent) (is : List Nat) (g : DG) : TG := fun v σ H Q => ∃ j F ρ d P, SB K B j F H σ ρ ∧ Gt (B.J.at B.j0) B.F0 B.H0 j F H ∧ RpI K F H v d ∧ g d ρ P ∧ ∀ σ' F' H' ρ', Off is σ σ' → SB K B j F' H' σ' ρ' → Gt (B.J.at B.j0) B.F0 B.H0 j F' H' → Gt (B.J.at j) F H j F' H' → P ρ' → Q σ' H'
def dGs (K : PySem.W.Frag) (B : Ent) (is : List Nat) (g : DGs) : TGs := fun vs σ H Q => ∃ j F ρ ds P, SB K B j F H σ ρ ∧ Gt (B.J.at B.j0) B.F0 B.H0 j F H ∧ RpAll K F vs ds ∧ g ds ρ P ∧ ∀ σ' F' H' ρ', Off is σ σ' → SB K B j F' H' σ' ρ' → Gt (B.J.at B.j0) B.F0 B.H0 j F' H' → Gt (B.J.at j) F H j F' H' → P ρ' → Q σ' H'
theorem _root_.L2.PGs.imp {X : Cx} {e : List Expr} {t t' : TGs} (h : PGs X e t) (i : ∀ v σ H Q, t' v σ H Q → t v σ H Q) : PGs X e t' := ⟨fun pins s σ H v u Q I r q => h.run pins s σ H v u Q I r (i v σ H Q q)⟩
@[simp] def gN (i : Nat) : DG := fun d ρ P => P (put ρ i (.val d))
/-- the item of a name must stand frozen: a walk that makes its own tuples wants names for the parts -/
def dGn (K : PySem.W.Frag) (B : Ent) (is : List Nat) (g : DG) : TG := fun v σ H Q => ∃ j F ρ d P, SB K B j F H σ ρ ∧ Gt (B.J.at B.j0) B.F0 B.H0 j F H ∧ Rp K F v d ∧ g d ρ P ∧ ∀ σ' F' H' ρ', Off is σ σ' → SB K B j F' H' σ' ρ' → Gt (B.J.at B.j0) B.F0 B.H0 j F' H' → Gt (B.J.at j) F H j F' H' → P ρ' → Q σ' H'
theorem dg_name {i : Nat} {x : Str} {p : Pos} (hN : X.N.Nodup) (hi : X.N[i]? = some x) (hx : Loc X.env.scope x) (hf : X.fn x = true ∨ X.env.scope.names.lookup x = some .local := by first | exact .inl rfl | exact .inr rfl | assumption) : PG X (.Name x p) (dGn X.K B [i] (gN i)) :=
  (pg_name hN hi hx hf).imp fun v σ H Q ⟨j, F, ρ, d, P, s, g, r, q, k⟩ => k _ F H _ ⟨List.length_set, fun j hj => get_set_ne fun e => hj (by rw [e]; exact List.mem_singleton.mpr rfl)⟩ (s.setVal r) g (Gt.refl s.base) q
def gNl : DGs := fun ds ρ P => ds = [] ∧ P ρ
def gCn (g : DG) (gs : DGs) : DGs := fun ds ρ P => ∃ d r, ds = d :: r ∧ g d ρ fun ρ' => gs r ρ' P
theorem dgs_nil : PGs X [] (dGs X.K B [] gNl) := pgs_nil.imp fun vs σ H Q ⟨j, F, ρ, ds, P, s, g, r, ⟨e, q⟩, k⟩ => by
  subst e
  cases r
  exact ⟨rfl, k σ F H ρ ⟨rfl, fun _ _ => rfl⟩ s g (Gt.refl s.base) q⟩
theorem dgs_cons {e : Expr} {es : List Expr} {g : DG} {gs : DGs} {is js : List Nat} (h1 : PG X e (dGn X.K B is g)) (h2 : PGs X es (dGs X.K B js gs))
    (hs : (assignEach (e :: es) X.env).map (·.2) = assign e X.env :: (assignEach es X.env).map (·.2) := by rfl) : PGs X (e :: es) (dGs X.K B (is ++ js) (gCn g gs)) :=
  (pgs_cons h1 h2 hs).imp fun vs σ H Q ⟨j, F, ρ, ds, P, s, g, r, ⟨d, dr, e, q⟩, k⟩ => by
    subst e
    cases r with
    | cons r rr => exact ⟨_, _, rfl, j, F, ρ, d, _, s, g, r, q, fun σ' F' H' ρ' o1 s' g' g1 q' => ⟨j, F', ρ', dr, P, s', g', rr.mono g1.ff, q', fun σ2 F2 H2 ρ2 o2 s2 gg2 g2 q2 => k σ2 F2 H2 ρ2 (o1.trans o2) s2 gg2 (g1.trans g2) q2⟩⟩
/-- (a, b, ..) = a tuple -/
@[simp] def gTp (gs : DGs) : DG := fun d ρ P => match d with
  | .tup ds => gs ds ρ P
  | _ => False
theorem dg_tup {es : List Expr} {k : Nat} {gs : DGs} {is : List Nat} {n : Nat} {p : Pos} (hc : X.calm = true) (h : PGs X es (dGs X.K B is gs)) (hl : ∀ ds ρ P, gs ds ρ P → ds.length = n)
    (hn : (assignEach es X.env).length = n := by rfl) (hst : (assignEach es X.env).findIdx? (·.1) = none := by rfl) : PG X (.Tuple es k p) (dG X.K B is (gTp gs)) :=
  (pg_tup hc h hn hst).imp fun v σ H Q ⟨j, F, ρ, d, P, s, g, r, q, k⟩ => by
    cases d with
    | tup ds =>
      obtain ⟨a, vs, rfl, t, ra⟩ := r.tup_inv s.base
      exact ⟨a, vs, rfl, t, by rw [ra.length]; exact hl _ _ _ q, j, F, ρ, ds, P, s, g, ra, q, k⟩
    | _ => exact q.elim
theorem dgn_of {e : Expr} {is : List Nat} {g : DG} (h : PG X e (dG X.K B is g)) : PG X e (dGn X.K B is g) := h.imp fun v σ H Q ⟨j, F, ρ, d, P, s, g, r, q, k⟩ => ⟨j, F, ρ, d, P, s, g, .inl r, q, k⟩
theorem gnl_len {ds : List D} {ρ : List SD} {P : List SD → Prop} (h : gNl ds ρ P) : ds.length = 0 := by rw [h.1]; rfl
theorem gcn_len {g : DG} {gs : DGs} {n : Nat} (hl : ∀ ds ρ P, gs ds ρ P → ds.length = n) (hg : ∀ d ρ P, g d ρ P → ∃ ρ', P ρ') {ds : List D} {ρ : List SD} {P : List SD → Prop} (h : gCn g gs ds ρ P) : ds.length = n + 1 := by
  obtain ⟨d, r, e, q⟩ := h
  subst e
  obtain ⟨ρ', q'⟩ := hg _ _ _ q
  rw [List.length_cons, hl _ _ _ q']
theorem gN_some {i : Nat} {d : D} {ρ : List SD} {P : List SD → Prop} (h : gN i d ρ P) : ∃ ρ', P ρ' := ⟨_, h⟩
/-- target = e -/
@[simp] def dAsg (te : DE) (g : DG) : DS := fun E j ρ => te j ρ fun d j1 => g d ρ (E.nx j1)
theorem ds_asg {tg e : Expr} {te : DE} {g : DG} {is : List Nat} (he : PE X e (dE X.K B.J te)) (hg : PG X tg (dGn X.K B is g)) (hs : swapsWithSole [tg] e pos.line X.env = pure false := by rfl) (hw : swappedStores [tg] e X.env = pure none := by rfl)
    (h1 : (assignEach [tg] X.env).map (·.2) = [assign tg X.env] := by rfl) : PS X (.Assign [tg] e pos) (dS X.K B (dAsg te g)) :=
  (ps_asg he hg hs hw h1).imp fun D σ H ⟨j, F, ρ, E, s, g, q, k⟩ => ⟨j, F, ρ, _, s, q, fun d j1 pd v F1 H1 g1 r => ⟨j1, F1, ρ, d, E.nx j1, s.grow g1, g.trans g1, r, pd, fun σ' F' H' ρ' _ s' g' gq q' => k.nx j1 σ' F' H' ρ' s' g' (g1.ff.trans gq.ff) q'⟩⟩
/-- a, b = x, y -/
@[simp] def dPar (i j : Nat) (t : DL') : DS := fun E jj ρ => t jj ρ fun ds j1 => match ds with
  | [x, y] => E.nx j1 (put (put ρ i (.val x)) j (.val y))
  | _ => False
theorem ds_par {i j : Nat} {x y : Str} {a b : Expr} {ta : DL'} {px py pt : Pos} {kt k2 pt2} (hc : X.calm = true) (hN : X.N.Nodup) (hi : X.N[i]? = some x) (hj : X.N[j]? = some y) (hij : i ≠ j)
    (hx : X.env.scope.names.lookup x = some .local) (hy : X.env.scope.names.lookup y = some .local) (ha : PA X [a, b] (dA X.K B.J 2 ta))
    (hw : swappedStores [.Tuple [.Name x px, .Name y py] kt pt] (.Tuple [a, b] k2 pt2) X.env = pure (some [x, y]))
    (hs : swapsWithSole [.Tuple [.Name x px, .Name y py] kt pt] (.Tuple [a, b] k2 pt2) pos.line X.env = pure false := by rfl) :
    PS X (.Assign [.Tuple [.Name x px, .Name y py] kt pt] (.Tuple [a, b] k2 pt2) pos) (dS X.K B (dPar i j ta)) :=
  (ps_par hc hN hi hj hij hx hy ha hw hs).imp fun D σ H ⟨jj, F, ρ, E, s, g, q, k⟩ => ⟨jj, F, ρ, _, s, q, fun ds j1 l pd vs F1 H1 g1 r => by
    match ds, l, pd, r with
    | [d, e], _, pd, .cons r1 (.cons r2 .nil) => exact ⟨_, _, rfl, k.nx j1 _ F1 H1 _ (((s.grow g1).setVal r1).setVal r2) (g.trans g1) g1.ff pd⟩⟩

/-! ### what is walked -/
/-- the i-th item of a walk: J goes through the items ds, each time the state has grown -/
def Wk (K : PySem.W.Frag) (Jd : Jst) (F : Hp) (plain : Bool) (ds : List D) (J : It) : Prop :=
  ds.length ≤ sizeLine ∧ ∀ i j F' H', BaseOk (Jd.at j) F' H' → Sub F F' →
    (∀ d, ds[i]? = some d → J.go i H' ∧ ∀ x H2, J.yld i H' x H2 → Gr (Jd.at j) F' H' F' H2 ∧ (match plain with | true => Rp K F' x d | false => RpI K F' H2 x d)) ∧ (i = ds.length → J.stop i H')
abbrev DW := JS → List SD → (List D → JS → Prop) → Prop
def dW (K : PySem.W.Frag) (J : Jst) (plain : Bool) (t : DW) : TI := fun σ H R => ∃ j F ρ P, SR K (J.at j) F H σ ρ ∧ t j ρ P ∧ ∀ ds j', P ds j' → ∀ It' F' H', Gt (J.at j) F H j' F' H' → Wk K J F' plain ds It' → R It' H'
theorem _root_.L2.PI.imp {X : Cx} {tg e : Expr} {t t' : TI} (h : PI X tg e t) (i : ∀ σ H Q, t' σ H Q → t σ H Q) : PI X tg e t' := ⟨fun pins s σ H Q I q => h.run pins s σ H Q I (i σ H Q q)⟩
/-- a list or a tuple that stands frozen -/
def dItL : D → (List D → Prop) → Prop
  | .lst xs => fun P => P xs
  | _ => fun _ => False
def dItT : D → (List D → Prop) → Prop
  | .tup xs => fun P => P xs
  | _ => fun _ => False
@[simp] def dI (o : D → (List D → Prop) → Prop) (t : DE) : DW := fun j ρ P => t j ρ fun d j1 => o d fun ds => P ds j1
theorem wk_list {K : PySem.W.Frag} {J : Jst} {F : Hp} {a : Addr} {vs : List V} {ds : List D} (t : SqL K F a vs) (r : RpAll K F vs ds) (l : vs.length ≤ sizeLine) : Wk K J F true ds (Itl K a) := ⟨by rw [← r.length]; exact l, fun i j F' H' b u => by
  have t' : SqL K H' a vs := b.fh.seqL (u.seqL t)
  refine ⟨fun d e => ?_, fun e => ?_⟩
  · obtain ⟨v, e1, r1⟩ := r.get e
    refine ⟨⟨vs, v, t', e1⟩, fun x H2 ⟨e2, y⟩ => ?_⟩
    subst e2
    refine ⟨Gr.refl b, ?_⟩
    show Rp K F' x d
    have e3 := y vs t'
    rw [e1] at e3
    cases e3
    exact r1.mono u
  · exact ⟨vs, t', by rw [r.length, e]; exact Nat.le_refl _⟩⟩
theorem wk_tup {K : PySem.W.Frag} {J : Jst} {F : Hp} {a : Addr} {vs : List V} {ds : List D} (t : SqT K F a vs) (r : RpAll K F vs ds) (l : vs.length ≤ sizeLine) : Wk K J F true ds (Itt K a) := ⟨by rw [← r.length]; exact l, fun i j F' H' b u => by
  have t' : SqT K H' a vs := b.fh.seqT (u.seqT t)
  refine ⟨fun d e => ?_, fun e => ?_⟩
  · obtain ⟨v, e1, r1⟩ := r.get e
    refine ⟨⟨vs, v, t', e1⟩, fun x H2 ⟨e2, y⟩ => ?_⟩
    subst e2
    refine ⟨Gr.refl b, ?_⟩
    show Rp K F' x d
    have e3 := y vs t'
    rw [e1] at e3
    cases e3
    exact r1.mono u
  · exact ⟨vs, t', by rw [r.length, e]; exact Nat.le_refl _⟩⟩
theorem di_list {tg e : Expr} {t : DE} (h : PE X e (dE X.K B.J t)) : PI X tg e (dW X.K B.J true (dI dItL t)) :=
  (pi_list h).imp fun σ H R ⟨j, F, ρ, P, s, q, k⟩ => ⟨j, F, ρ, _, s, q, fun d j1 pd v F1 H1 g1 r => by
    cases d with
    | lst xs =>
      obtain ⟨a, vs, rfl, t, l, r⟩ := r.lst_inv
      exact ⟨a, rfl, ⟨vs, g1.base.fh.seqL t⟩, k xs j1 pd _ F1 H1 g1 (wk_list t r l)⟩
    | _ => exact pd.elim⟩
theorem di_tup {tg e : Expr} {t : DE} (h : PE X e (dE X.K B.J t)) : PI X tg e (dW X.K B.J true (dI dItT t)) :=
  (pi_tup h).imp fun σ H R ⟨j, F, ρ, P, s, q, k⟩ => ⟨j, F, ρ, _, s, q, fun d j1 pd v F1 H1 g1 r => by
    cases d with
    | tup xs =>
      obtain ⟨a, vs, rfl, t, l, r⟩ := r.tup_inv
      exact ⟨a, rfl, ⟨vs, g1.base.fh.seqT t.sq⟩, k xs j1 pd _ F1 H1 g1 (wk_tup t.sq r l)⟩
    | _ => exact pd.elim⟩

/-! ### for -/
def gOf (K : PySem.W.Frag) (B : Ent) (is : List Nat) (g : DG) : Bool → TG
  | true => dGn K B is g
  | false => dG K B is g
def forW (g : DG) (tb : DS) (E : DEnds) : List D → JS → List SD → Prop
  | [], j, ρ => E.nx j ρ
  | d :: ds, j, ρ => g d ρ fun ρ1 => tb { E with nx := forW g tb E ds, ct := forW g tb E ds, bk := E.nx } j ρ1
@[simp] def dFor (w : DW) (g : DG) (tb : DS) : DS := fun E j ρ => w j ρ fun ds j1 => forW g tb E ds j1 ρ
theorem ds_for {tg iter : Expr} {body : List Stmt} {wi : DW} {g : DG} {tb : DS} {plain : Bool} {is : List Nat} (hp : PassesOwn (model X.prog X.w) X.A X.env X.xe) (hc : X.calm = true) (hi : PI X tg iter (dW X.K B.J plain wi)) (hg : PG X tg (gOf X.K B is g plain)) (hb : PSs X body (dS X.K B tb))
    (hs : ∀ x, foldedSetIterable iter X.env x = pure x := by intro _; rfl) : PS X (.For tg iter body [] pos) (dS X.K B (dFor wi g tb)) :=
  (ps_for hp hc hi hg hb hs).imp fun D σ H ⟨j, F, ρ, E, s, gg, q, k⟩ => ⟨j, F, ρ, _, s, q, fun ds j1 pd It' F1 H1 g1 wk => by
    refine ⟨fun i m σ' H' => m = ds.length - i ∧ i ≤ ds.length ∧ ∃ j' F' ρ', SB X.K B j' F' H' σ' ρ' ∧ Gt (B.J.at B.j0) B.F0 B.H0 j' F' H' ∧ Sub F1 F' ∧ forW g tb E (ds.drop i) j' ρ', ⟨ds.length, by simp, Nat.zero_le _, j1, F1, ρ, s.grow g1, gg.trans g1, Sub.refl _, by simpa using pd⟩, ?_⟩
    rintro i m σ' H' ⟨rfl, hi, j', F', ρ', s', g', u', q'⟩
    obtain ⟨w1, w2⟩ := wk.2 i j' F' H' s'.base u'
    by_cases hlt : i < ds.length
    · have e : ds[i]? = some ds[i] := List.getElem?_eq_getElem hlt
      obtain ⟨go, y⟩ := w1 _ e
      rw [List.drop_eq_getElem_cons hlt] at q'
      refine .inr ⟨go, fun σ2 H2 => i + 1 ≤ ds.length ∧ ∃ j2 F2 ρ2, SB X.K B j2 F2 H2 σ2 ρ2 ∧ Gt (B.J.at B.j0) B.F0 B.H0 j2 F2 H2 ∧ Sub F1 F2 ∧ forW g tb E (ds.drop (i + 1)) j2 ρ2, fun σ2 H2 ⟨h1, h2⟩ => ⟨ds.length - (i + 1), by omega, rfl, h1, h2⟩, fun x H2 hy => ?_⟩
      obtain ⟨gy, ry⟩ := y x H2 hy
      have fin : ∀ σ3 F3 H3 ρ3, Off is σ' σ3 → SB X.K B j' F3 H3 σ3 ρ3 → Gt (B.J.at B.j0) B.F0 B.H0 j' F3 H3 → Gt (B.J.at j') F' H2 j' F3 H3 → tb { E with nx := forW g tb E (ds.drop (i + 1)), ct := forW g tb E (ds.drop (i + 1)), bk := E.nx } j' ρ3 →
          dS X.K B tb { D with nx := fun σ2 H2 => i + 1 ≤ ds.length ∧ ∃ j2 F2 ρ2, SB X.K B j2 F2 H2 σ2 ρ2 ∧ Gt (B.J.at B.j0) B.F0 B.H0 j2 F2 H2 ∧ Sub F1 F2 ∧ forW g tb E (ds.drop (i + 1)) j2 ρ2, ct := fun σ2 H2 => i + 1 ≤ ds.length ∧ ∃ j2 F2 ρ2, SB X.K B j2 F2 H2 σ2 ρ2 ∧ Gt (B.J.at B.j0) B.F0 B.H0 j2 F2 H2 ∧ Sub F1 F2 ∧ forW g tb E (ds.drop (i + 1)) j2 ρ2, bk := D.nx } σ3 H3 := fun σ3 F3 H3 ρ3 _ s3 gB3 g3 q3 =>
        ⟨j', F3, ρ3, _, s3, gB3, q3, ⟨fun j4 σ4 F4 H4 ρ4 s4 g4 u4 q4 => ⟨hlt, j4, F4, ρ4, s4, g4, (u'.trans g3.ff).trans u4, q4⟩, k.rt, fun j4 σ4 F4 H4 ρ4 s4 g4 u4 q4 => k.nx j4 σ4 F4 H4 ρ4 s4 g4 (((g1.ff.trans u').trans g3.ff).trans u4) q4,
          fun j4 σ4 F4 H4 ρ4 s4 g4 u4 q4 => ⟨hlt, j4, F4, ρ4, s4, g4, (u'.trans g3.ff).trans u4, q4⟩⟩⟩
      cases plain with
      | true => exact ⟨j', F', ρ', ds[i], _, s'.grow gy.gt, g'.trans gy.gt, ry, q', fin⟩
      | false => exact ⟨j', F', ρ', ds[i], _, s'.grow gy.gt, g'.trans gy.gt, ry, q', fin⟩
    · have e : i = ds.length := by omega
      subst e
      rw [List.drop_length] at q'
      exact .inl ⟨w2 rfl, k.nx j' σ' F' H' ρ' s' g' (g1.ff.trans u') q'⟩⟩
end
end DL

/-! DL6 -/
/-! DL6: walks of pairs of any kinds, ranges, texts; comprehensions; defs and their calls. -/
namespace DL
open PySem PySem.Spec PyProof.Rows L2

/-! ### zip, enumerate of lists and tuples in any mix -/
/-- a list (true: a tuple) that may be read -/
def Sq (k : Bool) (K : PySem.W.Frag) (H : Hp) (a : Addr) (xs : List V) : Prop := match k with
  | false => SqL K H a xs
  | true => SqT K H a xs
theorem Sub.sq {F G : Hp} (s : Sub F G) {k : Bool} {K : PySem.W.Frag} {a : Addr} {xs : List V} (h : Sq k K F a xs) : Sq k K G a xs := by
  cases k with
  | false => exact s.seqL h
  | true => exact s.seqT h
def IsSq (k : Bool) (h : Heap) (a : Addr) (its : Array Value) : Prop := match k with
  | false => h.IsList a its
  | true => h.IsTuple a its
def SqIt (k : Bool) (h : Heap) (it a : Addr) (i : Nat) : Prop := match k with
  | false => h.IsListIter it a i
  | true => h.IsTupleIter it a i
theorem sq_vals {X : Cx} {pins : List (Addr × Obj)} {σ : L2.St} {H : Hp} {s : Shared} {k : Bool} {a : Addr} {xs : List V} (I : Inv X pins σ H s) (h : Sq k X.K H a xs) : ∃ its : List Value, Vals xs its ∧ IsSq k s.heap a its.toArray ∧ xs.length ≤ sizeLine := by
  cases k with
  | false => obtain ⟨its, r, p, z⟩ := I.list h; exact ⟨its, r, p.isList, z⟩
  | true => obtain ⟨its, r, p, z⟩ := I.tuple h; exact ⟨its, r, p, z⟩
theorem sq_inj {X : Cx} {pins : List (Addr × Obj)} {σ : L2.St} {H : Hp} {s : Shared} {k : Bool} {a : Addr} {xs ys : List V} (I : Inv X pins σ H s) (h : Sq k X.K H a xs) (h' : Sq k X.K H a ys) : xs = ys := by
  cases k with
  | false => exact I.list_inj h h'
  | true => exact I.tuple_inj h h'
def sqBeg (k : Bool) (a : Addr) : Obj := match k with
  | false => { cls := .type "list_iterator", data := .fields #[.ref a, .int 0 0] }
  | true => { cls := .type "tuple_iterator", data := .fields #[.ref a, .int 0 0] }
theorem sq_begins (k : Bool) (a : Addr) (its : Array Value) : Begins (.ref a) (sqBeg k a) (fun h => IsSq k h a its) := by
  cases k with
  | false => exact begins_list a its
  | true => exact begins_tuple a its
theorem sq_draws {prog : Program} {w : World} {A : Around} (hh : A.handled = none) (k : Bool) (it a : Addr) (hne : a ≠ it) (items : Array Value) :
    Draws prog w A it [it, a] items.size (fun i v => items[i]? = some v) (fun i h => SqIt k h it a i ∧ IsSq k h a items) := by
  cases k with
  | false => exact Draws.list hh it a hne items
  | true => exact Draws.tuple hh it a hne items
theorem sqIt_beg {k : Bool} {h : Heap} {it a : Addr} (e : h.get? it = some (sqBeg k a)) : SqIt k h it a 0 := by
  cases k with
  | false => exact ⟨_, e, rfl, rfl⟩
  | true => exact ⟨_, e, rfl, rfl⟩
theorem sqIt_obj {k : Bool} {h : Heap} {it a : Addr} {i : Nat} (st : SqIt k h it a i) : ∃ o, h.get? it = some o ∧ ∀ v, o.data ≠ .cell v := by
  cases k with
  | false => obtain ⟨o, e, c, d⟩ := st; exact ⟨o, e, fun v z => by rw [d] at z; cases z⟩
  | true => obtain ⟨o, e, c, d⟩ := st; exact ⟨o, e, fun v z => by rw [d] at z; cases z⟩
theorem sqIt_at {k : Bool} {h h' : Heap} {it a : Addr} {i : Nat} (st : SqIt k h it a i) (k' : ∀ o, h.get? it = some o → h'.get? it = some o) : SqIt k h' it a i := by
  cases k with
  | false => exact Heap.IsListIter.at st k'
  | true => exact Heap.IsTupleIter.at st k'
theorem sq_ne {X : Cx} {pins : List (Addr × Obj)} {σ : L2.St} {H : Hp} {s : Shared} {k : Bool} {a it : Addr} {its : Array Value} {i : Nat} {k' : Bool} {b : Addr} (h : IsSq k s.heap a its) (h' : SqIt k' s.heap it b i) : a ≠ it := by
  intro e
  subst e
  have c1 : ∃ o, s.heap.get? a = some o ∧ (o.cls = .type "list" ∨ o.cls = .type "tuple") := by
    cases k with
    | false => obtain ⟨o, e, c, _⟩ := h; exact ⟨o, e, .inl c⟩
    | true => obtain ⟨o, e, c, _⟩ := h; exact ⟨o, e, .inr c⟩
  have c2 : ∃ o, s.heap.get? a = some o ∧ (o.cls = .type "list_iterator" ∨ o.cls = .type "tuple_iterator") := by
    cases k' with
    | false => obtain ⟨o, e, c, _⟩ := h'; exact ⟨o, e, .inl c⟩
    | true => obtain ⟨o, e, c, _⟩ := h'; exact ⟨o, e, .inr c⟩
  obtain ⟨o, e, c⟩ := c1
  obtain ⟨o', e', c'⟩ := c2
  rw [e] at e'
  cases e'
  rcases c with c | c <;> rcases c' with c' | c' <;> (rw [c] at c'; exact absurd c' (by decide +kernel))
def ItzG (K : PySem.W.Frag) (k1 k2 : Bool) (a b : Addr) : It :=
  ⟨fun i H => ∃ (xs ys : List V) (x y : V), Sq k1 K H a xs ∧ Sq k2 K H b ys ∧ xs[i]? = some x ∧ ys[i]? = some y,
    fun i H v H' => ∃ T x y, v = .ref T ∧ H T = none ∧ H' = upd H T (.tup [x, y]) ∧ (∀ xs, Sq k1 K H a xs → xs[i]? = some x) ∧ ∀ ys, Sq k2 K H b ys → ys[i]? = some y,
    fun i H => ∃ xs ys : List V, Sq k1 K H a xs ∧ Sq k2 K H b ys ∧ i = min xs.length ys.length⟩
theorem turn_zipG {P : Program} {w : World} {K : PySem.W.Frag} {elts : List Expr} {kk : Nat} {tpos : Pos} {a b z TI TO i1 i2 : Addr} {k1 k2 : Bool} (D : ZipSep2 z TI TO i1 i2 [i1, a] [i2, b]) (n1 : a ≠ i1) (n2 : b ≠ i2) :
    Turn P w K (.Tuple elts kk tpos) (ItzG K k1 k2 a b) [z, TI, TO, i1, i2] z (fun i h => IsZip h z TI TO .none ∧ IsTupOf2 h TI (.ref i1) (.ref i2) ∧ (∃ x y, IsTupOf2 h TO x y) ∧ SqIt k1 h i1 a i ∧ SqIt k2 h i2 b i) where
  mem := by simp
  obj := fun i h st c hc => by
    obtain ⟨hz, hTI, ⟨x, y, hTO⟩, h1, h2⟩ := st
    have e' : c = z ∨ c = TI ∨ c = TO ∨ c = i1 ∨ c = i2 := by simpa using hc
    rcases e' with q | q | q | q | q
    · rw [q]; exact ⟨_, hz, fun v q => nomatch q⟩
    · rw [q]; exact ⟨_, hTI, fun v q => nomatch q⟩
    · rw [q]; exact ⟨_, hTO, fun v q => nomatch q⟩
    · rw [q]; exact sqIt_obj h1
    · rw [q]; exact sqIt_obj h2
  keep := fun i h h' st k => by
    obtain ⟨hz, hTI, ⟨x, y, hTO⟩, h1, h2⟩ := st
    exact ⟨k z (by simp) _ hz, k TI (by simp) _ hTI, ⟨x, y, k TO (by simp) _ hTO⟩, sqIt_at h1 fun o q => k i1 (by simp) o q, sqIt_at h2 fun o q => k i2 (by simp) o q⟩
  item := by
    intro X hP hw hK hc i pins s σ H E I hf st hg
    subst hP hw hK
    obtain ⟨hz, hTI, ⟨x0, y0, hTO⟩, h1, h2⟩ := st
    obtain ⟨xs, ys, x, y, hqx, hqy, hx, hy⟩ := hg
    obtain ⟨its, rv, p, _⟩ := sq_vals I hqx
    obtain ⟨its2, rv2, p2, _⟩ := sq_vals I hqy
    obtain ⟨u, hu, ru⟩ := rv.get hx
    obtain ⟨u2, hu2, ru2⟩ := rv2.get hy
    have hi1 := (List.getElem?_eq_some_iff.mp hu).1
    have hi2 := (List.getElem?_eq_some_iff.mp hu2).1
    have W := GoesN.zip2 (elts := elts) (x1 := kk) (pos := tpos) D (sq_draws (prog := X.prog) (w := X.w) (A := X.A.in1) (I.ok.hd hc) k1 i1 a n1 its.toArray) (sq_draws (prog := X.prog) (w := X.w) (A := X.A.in1) (I.ok.hd hc) k2 i2 b n2 its2.toArray)
    have hlt : ∀ c ∈ [z, TI, TO, i1, i2], c < s.heap.objs.size := fun c hcm => by
      have e' : c = z ∨ c = TI ∨ c = TO ∨ c = i1 ∨ c = i2 := by simpa using hcm
      rcases e' with q | q | q | q | q
      · rw [q]; exact Heap.lt_size hz
      · rw [q]; exact Heap.lt_size hTI
      · rw [q]; exact Heap.lt_size hTO
      · rw [q]; obtain ⟨_, e1, _⟩ := sqIt_obj h1; exact Heap.lt_size e1
      · rw [q]; obtain ⟨_, e2, _⟩ := sqIt_obj h2; exact Heap.lt_size e2
    refine wpAny_mono (W.goes i s (fun u s2 => ∃ x H', Inv X pins σ H' s2 ∧ RelV x u ∧ (ItzG X.K k1 k2 a b).yld i H x H' ∧ (IsZip s2.heap z TI TO .none ∧ IsTupOf2 s2.heap TI (.ref i1) (.ref i2) ∧ (∃ x y, IsTupOf2 s2.heap TO x y) ∧ SqIt k1 s2.heap i1 a (i + 1) ∧ SqIt k2 s2.heap i2 b (i + 1)) ∧ ∀ c ∈ [z, TI, TO, i1, i2], H' c = none) E (by simp only [List.size_toArray]; omega)
      ⟨hz, hTI, ⟨x0, y0, hTO⟩, ⟨h1, p⟩, ⟨h2, p2⟩⟩ fun v h' tk hY st' hk htk => ?_) (fun r s1 hr => hr) fun _ _ e => e
    obtain ⟨T, v1, v2, rfl, hT0, e1, e2, hT⟩ := hY
    obtain ⟨z', TI', TO', h1', h2'⟩ := st'
    have q1 : v1 = u := by rw [List.getElem?_toArray] at e1; rw [hu] at e1; exact (Option.some.inj e1).symm
    have q2 : v2 = u2 := by rw [List.getElem?_toArray] at e2; rw [hu2] at e2; exact (Option.some.inj e2).symm
    subst q1 q2
    have hTn : H T = none := I.hok.fresh hT0
    have new : ObjOk X.prog X.w (upd H T (.tup [x, y])) h' T (.tup [x, y]) :=
      ⟨by show 2 ≤ sizeLine; decide, [v1, v2], .cons ru (.cons ru2 .nil), hT⟩
    have I1 : Inv X pins σ (upd H T (.tup [x, y])) { s with heap := h', toks := tk } :=
      I.turnedNew (t' := tk) (ch := [z, TI, TO, i1, i2]) (fun c o hb q => hk c o (fun q' => hb (by
        have e' : c = z ∨ c = TO ∨ c = i1 ∨ c = i2 := by simpa using q'
        rcases e' with q | q | q | q <;> (rw [q]; simp))) q) hf hT0 new
    refine ⟨.ref T, _, I1, rfl, ⟨T, x, y, rfl, hTn, rfl, fun l hl => by rw [sq_inj I hl hqx]; exact hx, fun l hl => by rw [sq_inj I hl hqy]; exact hy⟩, ⟨z', TI', TO', h1'.1, h2'.1⟩, fun c hcm => ?_⟩
    rw [upd_ne (Nat.ne_of_lt (Nat.lt_of_lt_of_le (hlt c hcm) hT0))]
    exact (hf c hcm).1
  done := by
    intro X hP hw hK hc i pins s σ H E I hf st hg
    subst hP hw hK
    obtain ⟨hz, hTI, ⟨x0, y0, hTO⟩, h1, h2⟩ := st
    obtain ⟨xs, ys, hqx, hqy, hend⟩ := hg
    obtain ⟨its, rv, p, _⟩ := sq_vals I hqx
    obtain ⟨its2, rv2, p2, _⟩ := sq_vals I hqy
    have l1 := rv.length
    have l2 := rv2.length
    have W := GoesN.zip2 (elts := elts) (x1 := kk) (pos := tpos) D (sq_draws (prog := X.prog) (w := X.w) (A := X.A.in1) (I.ok.hd hc) k1 i1 a n1 its.toArray) (sq_draws (prog := X.prog) (w := X.w) (A := X.A.in1) (I.ok.hd hc) k2 i2 b n2 its2.toArray)
    have hn : min its.toArray.size its2.toArray.size = i := by simp only [List.size_toArray]; omega
    rw [hn] at W
    exact W.stops s (fun s1 => Inv X pins σ H s1) E ⟨hz, hTI, ⟨x0, y0, hTO⟩, ⟨h1, p⟩, ⟨h2, p2⟩⟩ fun h' tk hk htk => I.turnedL (t' := tk) (ch := [z, TI, TO, i1, i2]) (fun c o hb q => hk c o (fun q' => hb (by
        have e' : c = z ∨ c = TO ∨ c = i1 ∨ c = i2 := by simpa using q'
        rcases e' with q | q | q | q <;> (rw [q]; simp))) q) hf
  self := fun A i s Q E st h => wpAny_pyIter_zip st.1 h
theorem isSq_lt {k : Bool} {h : Heap} {a : Addr} {its : Array Value} (p : IsSq k h a its) : a < h.objs.size := by
  cases k with
  | false => obtain ⟨o, e, _⟩ := p; exact Heap.lt_size e
  | true => obtain ⟨o, e, _⟩ := p; exact Heap.lt_size e
def iZipG (K : PySem.W.Frag) (t : TA) : TI := fun σ H R => t σ H fun vs H2 => ∃ k1 k2 a b xs ys, vs = [.ref a, .ref b] ∧ Sq k1 K H2 a xs ∧ Sq k2 K H2 b ys ∧ R (ItzG K k1 k2 a b) H2
theorem pi_zipG {X : Cx} {e e2 : Expr} {t : TA} {p pos tpos : Pos} {elts : List Expr} {kk : Nat} (hg : Gl X "zip") (hm : X.mg "zip" = none) (ha : PA X [e, e2] t)
    (hs : starEach [e, e2] X.env = (false, eval e X.env) :: starEach [e2] X.env := by rfl) (hpl : (backTo pos (starEach [e2] X.env)).any (·.1) = false := by rfl) :
    PI X (.Tuple elts kk tpos) (.Call (.Name "zip" p) [e, e2] [] pos) (iZipG X.K t) := by
  refine ⟨fun pins s σ H R I h => ?_⟩
  refine Call_ (ld_blt I hg hm PyProof.Rows.boot_zip (PyProof.Rows.callWith_type1 (thn (ha.run pos pins s σ H _ I h) fun us s1 ⟨vs, H1, I1, r1, q1⟩ => ?_) hs hpl))
  obtain ⟨k1, k2, a, b, xs, ys, rfl, hqx, hqy, q⟩ := q1
  obtain ⟨u1, u2, rfl, ru1, ru2⟩ := vals2 r1
  cases ru1
  cases ru2
  obtain ⟨its, rv, p1, _⟩ := sq_vals I1 hqx
  obtain ⟨its2, rv2, p2, _⟩ := sq_vals I1 hqy
  have la := isSq_lt p1
  have lb := isSq_lt p2
  refine zip_begins2 (sq_begins k1 a its.toArray) (sq_begins k2 b its2.toArray) p1 p2 fun h' hz hTI hTO g1 g2 hsz hk => wpAny_pyIter_zip hz ?_
  have I2 : Inv X pins σ H1 { s1 with heap := h' } := I1.kept (t' := s1.toks) hk
  have S := zip_sep2 (N := s1.heap.objs.size) (fp1 := [a]) (fp2 := [b]) (fun c hc => by rw [List.mem_singleton.mp hc]; exact la) (fun c hc => by rw [List.mem_singleton.mp hc]; exact lb)
  refine ⟨s1.heap.objs.size + 4, [s1.heap.objs.size + 4, s1.heap.objs.size + 2, s1.heap.objs.size + 3, s1.heap.objs.size, s1.heap.objs.size + 1], _, _, H1, rfl, I2, turn_zipG (k1 := k1) (k2 := k2) S (Nat.ne_of_lt la) (Nat.ne_of_lt (Nat.lt_succ_of_lt lb)), ⟨hz, hTI, ⟨_, _, hTO⟩, sqIt_beg g1, sqIt_beg g2⟩, fun c hcm => ?_, q⟩
  have e' : c = s1.heap.objs.size + 4 ∨ c = s1.heap.objs.size + 2 ∨ c = s1.heap.objs.size + 3 ∨ c = s1.heap.objs.size ∨ c = s1.heap.objs.size + 1 := by simpa using hcm
  have hle : s1.heap.objs.size ≤ c := by
    rcases e' with z | z | z | z | z
    · rw [z]; exact Nat.le_add_right _ _
    · rw [z]; exact Nat.le_add_right _ _
    · rw [z]; exact Nat.le_add_right _ _
    · rw [z]; exact Nat.le_refl _
    · rw [z]; exact Nat.le_add_right _ _
  exact I1.fpOk hle (I1.hok.fresh hle)
/-! enumerate -/
set_option maxHeartbeats 1000000 in
theorem meets_enumerate_newB1 {v : Value} {o : Obj} {H : Heap → Prop} (B : Begins v o H) :
    Meets (Builtin.«enumerate.__new__» ⟨[.type "enumerate", v], []⟩) (fun _ R s => H s.heap ∧
      R (.ok (.ret (.ref (s.heap.push o).objs.size))) { s with heap := (s.heap.push o).push { cls := .type "enumerate", data := .fields #[.none, .bool false, .ref s.heap.objs.size, rawInt 0, .none, .none] } }) :=
  .of_wp fun prog w A R s h => by
    obtain ⟨hp, g, d, tk, os⟩ := s; obtain ⟨h1, h⟩ := h
    have hsub := sub_enumerate
    have q1 : ∀ {A' : Around} {E : Value → Shared → Prop} {Q : Value → Shared → Prop}, Q (.ref hp.objs.size) ⟨hp.push o, g, d, tk, os⟩ → wpAny (model prog w) A' (pyIter v) Q E ⟨hp, g, d, tk, os⟩ :=
      fun q => B.iter prog w _ _ ⟨hp, g, d, tk, os⟩ _ h1 q
    wp_walk using q1
    refine wpAny_stack_any fun st => wpAny_pure ?_
    split
    · rename_i c _ _ _ _ _
      cases (c == Value.type "enumerate")
      · wp_walk using q1
        exact ⟨_, rfl, h⟩
      · wp_walk using q1
        exact ⟨_, rfl, h⟩
    · wp_walk using q1
      exact ⟨_, rfl, h⟩
theorem enum_begins1 {prog : Program} {w : World} {A : Around} {E : Value → Shared → Prop} {s : Shared} {v : Value} {o : Obj} {H : Heap → Prop} {Q : Value → Shared → Prop} (B : Begins v o H) (h1 : H s.heap)
    (h : ∀ h', IsEnum h' (s.heap.objs.size + 1) s.heap.objs.size 0 .none → h'.get? s.heap.objs.size = some o → h'.objs.size = s.heap.objs.size + 2 →
      (∀ b o, s.heap.get? b = some o → h'.get? b = some o) → Q (.ref (s.heap.objs.size + 1)) { s with heap := h' }) :
    wpAny (model prog w) A (call (.type "enumerate") [v]) Q E s := by
  refine callType_new PySem.F.called_enumerate (by decide) (PySem.F.typeCall_enumerate_1 _) (PySem.F.newCall_enumerate_1 _) (fun obj => PySem.F.args_object_init_2 obj _) PySem.F.entry_enumerate_new
    (meets_enumerate_newB1 B) ⟨h1, ?_⟩
  have hz : (s.heap.push o).objs.size = s.heap.objs.size + 1 := Heap.size_push ..
  show _ ∧ _
  rw [hz]
  have he : IsEnum ((s.heap.push o).push { cls := .type "enumerate", data := .fields #[.none, .bool false, .ref s.heap.objs.size, rawInt 0, .none, .none] }) (s.heap.objs.size + 1) s.heap.objs.size 0 .none := by
    have := Heap.get?_push_size (s.heap.push o) (o := { cls := .type "enumerate", data := .fields #[.none, .bool false, .ref s.heap.objs.size, rawInt 0, .none, .none] }) rfl
    rw [hz] at this; exact this
  refine ⟨⟨_, he, rfl⟩, h _ he (Heap.get?_push_of_some _ (Heap.get?_push_size _ B.free)) (by rw [Heap.size_push, hz]) fun b o x => Heap.get?_push_of_some _ (Heap.get?_push_of_some _ x)⟩
def IteG (K : PySem.W.Frag) (k : Bool) (a : Addr) : It :=
  ⟨fun i H => ∃ (xs : List V) (x : V), Sq k K H a xs ∧ xs[i]? = some x, fun i H v H' => ∃ T x, v = .ref T ∧ H T = none ∧ H' = upd H T (.tup [.int (i : Nat), x]) ∧ ∀ xs, Sq k K H a xs → xs[i]? = some x,
    fun i H => ∃ xs : List V, Sq k K H a xs ∧ xs.length = i⟩
theorem turn_enumG {P : Program} {w : World} {K : PySem.W.Frag} {elts : List Expr} {kk : Nat} {tpos : Pos} {a e it : Addr} {k : Bool} (n0 : e ≠ it) (n1 : e ∉ [it, a]) (n2 : a ≠ it) :
    Turn P w K (.Tuple elts kk tpos) (IteG K k a) [e, it] e (fun i h => (∃ old, IsEnum h e it (0 + (i : Int)) old) ∧ SqIt k h it a i) where
  mem := by simp
  obj := fun i h st c hc => by
    obtain ⟨⟨old, he⟩, h1⟩ := st
    have e' : c = e ∨ c = it := by simpa using hc
    rcases e' with q | q
    · rw [q]; exact ⟨_, he, fun v q => nomatch q⟩
    · rw [q]; exact sqIt_obj h1
  keep := fun i h h' st k => by
    obtain ⟨⟨old, he⟩, h1⟩ := st
    exact ⟨⟨old, k e (by simp) _ he⟩, sqIt_at h1 fun o q => k it (by simp) o q⟩
  item := by
    intro X hP hw hK hc i pins s σ H E I hf st hg
    subst hP hw hK
    obtain ⟨⟨old, he⟩, h1⟩ := st
    obtain ⟨xs, x, hqx, hx⟩ := hg
    obtain ⟨its, rv, p, _⟩ := sq_vals I hqx
    obtain ⟨u, hu, ru⟩ := rv.get hx
    have hi1 := (List.getElem?_eq_some_iff.mp hu).1
    have W := GoesN.enumFrom (elts := elts) (x1 := kk) (pos := tpos) 0 (sq_draws (prog := X.prog) (w := X.w) (A := X.A.in1) (I.ok.hd hc) k it a n2 its.toArray) e n0 n1 (by simp)
    have hlt : ∀ c ∈ [e, it], c < s.heap.objs.size := fun c hcm => by
      have e' : c = e ∨ c = it := by simpa using hcm
      rcases e' with q | q
      · rw [q]; exact Heap.lt_size he
      · rw [q]; obtain ⟨_, e1, _⟩ := sqIt_obj h1; exact Heap.lt_size e1
    refine wpAny_mono (W.goes i s (fun u s2 => ∃ x H', Inv X pins σ H' s2 ∧ RelV x u ∧ (IteG X.K k a).yld i H x H' ∧ ((∃ old, IsEnum s2.heap e it (0 + ((i + 1 : Nat) : Int)) old) ∧ SqIt k s2.heap it a (i + 1)) ∧ ∀ c ∈ [e, it], H' c = none) E (by simp only [List.size_toArray]; omega)
      ⟨⟨old, he⟩, ⟨h1, p⟩⟩ fun v h' tk hY st' hk htk => ?_) (fun r s1 hr => hr) fun _ _ e => e
    obtain ⟨T, t, v1, rfl, hT0, e1, hT⟩ := hY
    obtain ⟨z', h1'⟩ := st'
    have q1 : v1 = u := by rw [List.getElem?_toArray] at e1; rw [hu] at e1; exact (Option.some.inj e1).symm
    subst q1
    have hTn : H T = none := I.hok.fresh hT0
    have new : ObjOk X.prog X.w (upd H T (.tup [.int (i : Nat), x])) h' T (.tup [.int (i : Nat), x]) :=
      ⟨by show 2 ≤ sizeLine; decide, [.int (0 + (i : Int)) t, v1], .cons ⟨t, by rw [Int.zero_add]⟩ (.cons ru .nil), hT⟩
    have I1 : Inv X pins σ (upd H T (.tup [.int (i : Nat), x])) { s with heap := h', toks := tk } :=
      I.turnedNew (t' := tk) (ch := [e, it]) (fun c o hb q => hk c o hb q) hf hT0 new
    refine ⟨.ref T, _, I1, rfl, ⟨T, x, rfl, hTn, rfl, fun l hl => by rw [sq_inj I hl hqx]; exact hx⟩, ⟨z', h1'.1⟩, fun c hcm => ?_⟩
    rw [upd_ne (Nat.ne_of_lt (Nat.lt_of_lt_of_le (hlt c hcm) hT0))]
    exact (hf c hcm).1
  done := by
    intro X hP hw hK hc i pins s σ H E I hf st hg
    subst hP hw hK
    obtain ⟨⟨old, he⟩, h1⟩ := st
    obtain ⟨xs, hqx, hend⟩ := hg
    obtain ⟨its, rv, p, _⟩ := sq_vals I hqx
    have l1 := rv.length
    have W := GoesN.enumFrom (elts := elts) (x1 := kk) (pos := tpos) 0 (sq_draws (prog := X.prog) (w := X.w) (A := X.A.in1) (I.ok.hd hc) k it a n2 its.toArray) e n0 n1 (by simp)
    have hn : its.toArray.size = i := by simp only [List.size_toArray]; omega
    rw [hn] at W
    exact W.stops s (fun s1 => Inv X pins σ H s1) E ⟨⟨old, he⟩, ⟨h1, p⟩⟩ fun h' tk hk htk => I.turnedL (t' := tk) (ch := [e, it]) (fun c o hb q => hk c o hb q) hf
  self := fun A i s Q E st h => let ⟨⟨_, he⟩, _⟩ := st; wpAny_pyIter_enum he h
def iEnumG (K : PySem.W.Frag) (t : TA) : TI := fun σ H R => t σ H fun vs H2 => ∃ k a xs, vs = [.ref a] ∧ Sq k K H2 a xs ∧ R (IteG K k a) H2
theorem pi_enumG {X : Cx} {e : Expr} {t : TA} {p pos tpos : Pos} {elts : List Expr} {kk : Nat} (hg : Gl X "enumerate") (hm : X.mg "enumerate" = none) (ha : PA X [e] t) (hs : starEach [e] X.env = [(false, eval e X.env)] := by rfl) :
    PI X (.Tuple elts kk tpos) (.Call (.Name "enumerate" p) [e] [] pos) (iEnumG X.K t) := by
  refine ⟨fun pins s σ H R I h => ?_⟩
  refine Call_ (ld_blt I hg hm boot_enumerate (PyProof.Rows.callWith_type1 (thn (ha.run pos pins s σ H _ I h) fun us s1 ⟨vs, H1, I1, r1, q1⟩ => ?_) hs rfl))
  obtain ⟨k, a, xs, rfl, hqx, q⟩ := q1
  obtain ⟨u, rfl, ru⟩ := vals1 r1
  cases ru
  have fin : ∀ h', IsEnum h' (s1.heap.objs.size + 1) s1.heap.objs.size 0 .none → SqIt k h' s1.heap.objs.size a 0 → (∀ c o, s1.heap.get? c = some o → h'.get? c = some o) → a < s1.heap.objs.size →
      PIE X pins σ (.Tuple elts kk tpos) R (.ref (s1.heap.objs.size + 1)) { s1 with heap := h' } := fun h' he hit hk la => by
    have I2 : Inv X pins σ H1 { s1 with heap := h' } := I1.kept (t' := s1.toks) hk
    refine ⟨s1.heap.objs.size + 1, [s1.heap.objs.size + 1, s1.heap.objs.size], _, _, H1, rfl, I2, turn_enumG (a := a) (e := s1.heap.objs.size + 1) (it := s1.heap.objs.size) (k := k) (Nat.succ_ne_self _) (fun hm => ?_) (Nat.ne_of_lt la), ⟨⟨.none, he⟩, hit⟩, fun b hb => ?_, q⟩
    · have e' : s1.heap.objs.size + 1 = s1.heap.objs.size ∨ s1.heap.objs.size + 1 = a := by simpa using hm
      rcases e' with z | z
      · exact absurd z (Nat.succ_ne_self _)
      · rw [← z] at la
        exact absurd la (Nat.not_lt.mpr (Nat.le_succ _))
    · have e' : b = s1.heap.objs.size + 1 ∨ b = s1.heap.objs.size := by simpa using hb
      have hle : s1.heap.objs.size ≤ b := by
        rcases e' with z | z
        · rw [z]; exact Nat.le_add_right _ _
        · rw [z]; exact Nat.le_refl _
      exact I1.fpOk hle (I1.hok.fresh hle)
  obtain ⟨its, rv, p1, _⟩ := sq_vals I1 hqx
  have la := isSq_lt p1
  refine enum_begins1 (sq_begins k a its.toArray) p1 fun h' he g hsz hk => wpAny_pyIter_enum he (fin h' he (sqIt_beg g) hk la)
end DL

/-! DL7 -/
/-! DL7: walks on data, comprehensions, defs and their calls. -/
namespace DL
open PySem PySem.Spec PyProof.Rows L2
section
variable {X : Cx} {J : Jst}
/-! ### walks -/
@[simp] def seqR : D → (List D → Prop) → Prop
  | .tup xs => fun P => P xs
  | .lst xs => fun P => P xs
  | _ => fun _ => False
def zipD (xs ys : List D) : List D := List.zipWith (fun a b => .tup [a, b]) xs ys
def enumD : Nat → List D → List D
  | _, [] => []
  | n, x :: r => .tup [.int n, x] :: enumD (n + 1) r
@[simp] def dZip (t : DL') : DW := fun j ρ P => t j ρ fun ds j1 => match ds with
  | [x, y] => seqR x fun xs => seqR y fun ys => P (zipD xs ys) j1
  | _ => False
@[simp] def dEnum (t : DL') : DW := fun j ρ P => t j ρ fun ds j1 => match ds with
  | [x] => seqR x fun xs => P (enumD 0 xs) j1
  | _ => False
theorem seqR_rp {K : PySem.W.Frag} {F : Hp} {v : V} {d : D} {P : List D → Prop} (r : Rp K F v d) (h : seqR d P) : ∃ k a vs xs, v = .ref a ∧ Sq k K F a vs ∧ vs.length ≤ sizeLine ∧ RpAll K F vs xs ∧ P xs := by
  cases d with
  | tup xs => obtain ⟨a, vs, e, t, l, r⟩ := r.tup_inv; exact ⟨true, a, vs, xs, e, t.sq, l, r, h⟩
  | lst xs => obtain ⟨a, vs, e, t, l, r⟩ := r.lst_inv; exact ⟨false, a, vs, xs, e, t, l, r, h⟩
  | _ => exact h.elim
theorem Rp.inj_at {K : PySem.W.Frag} {F : Hp} {vs : List V} {ds : List D} (r : RpAll K F vs ds) {i : Nat} {v : V} (e : vs[i]? = some v) {d : D} (e2 : ds[i]? = some d) : Rp K F v d := by
  obtain ⟨w, h1, h2⟩ := r.get e2
  rw [e] at h1
  cases h1
  exact h2
theorem zipD_get {xs ys : List D} {i : Nat} {d : D} (h : (zipD xs ys)[i]? = some d) : ∃ a b, xs[i]? = some a ∧ ys[i]? = some b ∧ d = .tup [a, b] := by
  unfold zipD at h
  rw [List.getElem?_zipWith] at h
  split at h
  · rename_i a b e1 e2
    exact ⟨a, b, e1, e2, (Option.some.inj h).symm⟩
  · cases h
theorem zipD_len (xs ys : List D) : (zipD xs ys).length = min xs.length ys.length := List.length_zipWith
theorem wk_zip {K : PySem.W.Frag} {F : Hp} {k1 k2 : Bool} {a b : Addr} {vs ws : List V} {xs ys : List D} (t1 : Sq k1 K F a vs) (t2 : Sq k2 K F b ws) (r1 : RpAll K F vs xs) (r2 : RpAll K F ws ys) (l : vs.length ≤ sizeLine) : Wk K J F false (zipD xs ys) (ItzG K k1 k2 a b) := by
  refine ⟨by rw [zipD_len, ← r1.length]; omega, fun i j F' H' bs u => ⟨fun d e => ?_, fun e => ?_⟩⟩
  · obtain ⟨da, db, e1, e2, rfl⟩ := zipD_get e
    have t1' : Sq k1 K H' a vs := bs.fh.sq (u.sq t1)
    have t2' : Sq k2 K H' b ws := bs.fh.sq (u.sq t2)
    obtain ⟨v1, ev1, q1⟩ := r1.get e1
    obtain ⟨v2, ev2, q2⟩ := r2.get e2
    refine ⟨⟨vs, ws, v1, v2, t1', t2', ev1, ev2⟩, fun x H2 ⟨T, x1, x2, ex, hT, eH, y1, y2⟩ => ?_⟩
    subst ex eH
    have z1 := y1 vs t1'
    have z2 := y2 ws t2'
    rw [ev1] at z1
    rw [ev2] at z2
    cases z1
    cases z2
    exact ⟨Gr.own bs hT _, .inr ⟨T, [v1, v2], [da, db], rfl, rfl, .inl (.inl upd_same), .cons (q1.mono u) (.cons (q2.mono u) .nil)⟩⟩
  · refine ⟨vs, ws, bs.fh.sq (u.sq t1), bs.fh.sq (u.sq t2), ?_⟩
    rw [zipD_len] at e
    rw [r1.length, r2.length]
    exact e
theorem enumD_get : ∀ {xs : List D} {n i : Nat} {d : D}, (enumD n xs)[i]? = some d → ∃ a, xs[i]? = some a ∧ d = .tup [.int ((n + i : Nat) : Int), a]
  | [], _, _, _, h => by cases h
  | x :: r, n, 0, d, h => ⟨x, rfl, (Option.some.inj h).symm⟩
  | x :: r, n, i + 1, d, h => by
    obtain ⟨a, e1, e2⟩ := enumD_get (xs := r) (n := n + 1) (i := i) h
    exact ⟨a, e1, by rw [e2, show n + 1 + i = n + (i + 1) by omega]⟩
theorem enumD_len : ∀ (xs : List D) (n : Nat), (enumD n xs).length = xs.length
  | [], _ => rfl
  | _ :: r, n => by show (enumD (n + 1) r).length + 1 = r.length + 1; rw [enumD_len r]
theorem wk_enum {K : PySem.W.Frag} {F : Hp} {k : Bool} {a : Addr} {vs : List V} {xs : List D} (t1 : Sq k K F a vs) (r1 : RpAll K F vs xs) (l : vs.length ≤ sizeLine) : Wk K J F false (enumD 0 xs) (IteG K k a) := by
  refine ⟨by rw [enumD_len, ← r1.length]; exact l, fun i j F' H' bs u => ⟨fun d e => ?_, fun e => ?_⟩⟩
  · obtain ⟨da, e1, rfl⟩ := enumD_get e
    have t1' : Sq k K H' a vs := bs.fh.sq (u.sq t1)
    obtain ⟨v1, ev1, q1⟩ := r1.get e1
    refine ⟨⟨vs, v1, t1', ev1⟩, fun x H2 ⟨T, x1, ex, hT, eH, y1⟩ => ?_⟩
    subst ex eH
    have z1 := y1 vs t1'
    rw [ev1] at z1
    cases z1
    exact ⟨Gr.own bs hT _, .inr ⟨T, [.int (i : Nat), v1], _, rfl, rfl, .inl (.inl upd_same), .cons (by rw [Nat.zero_add]; exact .int _) (.cons (q1.mono u) .nil)⟩⟩
  · refine ⟨vs, bs.fh.sq (u.sq t1), ?_⟩
    rw [enumD_len] at e
    rw [r1.length, e]
variable {tg : Expr}
theorem di_zip {e e2 : Expr} {t : DL'} {p pos tpos : Pos} {elts : List Expr} {kk : Nat} (hg : Gl X "zip") (hm : X.mg "zip" = none) (ha : PA X [e, e2] (dA X.K J 2 t))
    (hs : starEach [e, e2] X.env = (false, eval e X.env) :: starEach [e2] X.env := by rfl) (hpl : (backTo pos (starEach [e2] X.env)).any (·.1) = false := by rfl) :
    PI X (.Tuple elts kk tpos) (.Call (.Name "zip" p) [e, e2] [] pos) (dW X.K J false (dZip t)) :=
  (pi_zipG hg hm ha hs hpl).imp fun σ H R ⟨j, F, ρ, P, s, q, k⟩ => ⟨j, F, ρ, _, s, q, fun ds j1 l pd vs F1 H1 g1 r => by
    match ds, l, pd, r with
    | [x, y], _, pd, .cons r1 (.cons r2 .nil) =>
      obtain ⟨k1, a, vs, xs, rfl, t1, l1, ra, pd⟩ := seqR_rp r1 pd
      obtain ⟨k2, b, ws, ys, rfl, t2, l2, rb, pd⟩ := seqR_rp r2 pd
      exact ⟨k1, k2, a, b, vs, ws, rfl, g1.base.fh.sq t1, g1.base.fh.sq t2, k _ j1 pd _ F1 H1 g1 (wk_zip t1 t2 ra rb l1)⟩⟩
theorem di_enum {e : Expr} {t : DL'} {p pos tpos : Pos} {elts : List Expr} {kk : Nat} (hg : Gl X "enumerate") (hm : X.mg "enumerate" = none) (ha : PA X [e] (dA X.K J 1 t)) (hs : starEach [e] X.env = [(false, eval e X.env)] := by rfl) :
    PI X (.Tuple elts kk tpos) (.Call (.Name "enumerate" p) [e] [] pos) (dW X.K J false (dEnum t)) :=
  (pi_enumG hg hm ha hs).imp fun σ H R ⟨j, F, ρ, P, s, q, k⟩ => ⟨j, F, ρ, _, s, q, fun ds j1 l pd vs F1 H1 g1 r => by
    match ds, l, pd, r with
    | [x], _, pd, .cons r1 .nil =>
      obtain ⟨k1, a, vs, xs, rfl, t1, l1, ra, pd⟩ := seqR_rp r1 pd
      exact ⟨k1, a, vs, rfl, g1.base.fh.sq t1, k _ j1 pd _ F1 H1 g1 (wk_enum t1 ra l1)⟩⟩
/-- 0, 1, .. below n -/
def upto (n : Nat) : List D := (List.range n).map fun i => .int (i : Nat)
def between (lo : Int) (n : Nat) : List D := (List.range n).map fun i => .int (lo + (i : Nat))
@[simp] def rng1 : List D → (List D → Prop) → Prop
  | [.int n] => fun P => (-1000000 ≤ n ∧ n ≤ 1000000) ∧ P (upto n.toNat)
  | _ => fun _ => False
@[simp] def rng2 : List D → (List D → Prop) → Prop
  | [.int m, .int n] => fun P => (-1000000 ≤ m ∧ m ≤ 1000000 ∧ -1000000 ≤ n ∧ n ≤ 1000000) ∧ P (between m (n - m).toNat)
  | _ => fun _ => False
theorem wk_rng {K : PySem.W.Frag} {F : Hp} (lo : Int) (n : Nat) (hn : n ≤ sizeLine) : Wk K J F true (between lo n) (Itr lo n) := by
  refine ⟨by unfold between; rw [List.length_map, List.length_range]; exact hn, fun i j F' H' bs u => ⟨fun d e => ?_, fun e => ?_⟩⟩
  · unfold between at e
    rw [List.getElem?_map] at e
    cases h : (List.range n)[i]? with
    | none => rw [h] at e; cases e
    | some l =>
      rw [h] at e
      obtain ⟨h1, h2⟩ := List.getElem?_eq_some_iff.mp h
      rw [List.length_range] at h1
      rw [List.getElem_range] at h2
      subst h2
      refine ⟨h1, fun x H2 ⟨e1, e2⟩ => ?_⟩
      subst e1 e2
      refine ⟨Gr.refl bs, ?_⟩
      have e' : D.int (lo + (i : Nat)) = d := Option.some.inj e
      subst e'
      exact .int _
  · unfold between at e
    rw [List.length_map, List.length_range] at e
    exact Nat.le_of_eq e.symm
theorem upto_eq (n : Nat) : upto n = between 0 n := by
  unfold upto between
  refine List.map_congr_left fun i _ => ?_
  rw [Int.zero_add]
@[simp] def dRng1 (t : DL') : DW := fun j ρ P => t j ρ fun ds j1 => rng1 ds fun xs => P xs j1
@[simp] def dRng2 (t : DL') : DW := fun j ρ P => t j ρ fun ds j1 => rng2 ds fun xs => P xs j1
theorem di_range1 {a : Expr} {t : DL'} {p pos : Pos} (hg : Gl X "range") (hm : X.mg "range" = none) (ha : PA X [a] (dA X.K J 1 t)) (hs : starEach [a] X.env = [(false, eval a X.env)] := by rfl) : PI X tg (.Call (.Name "range" p) [a] [] pos) (dW X.K J true (dRng1 t)) :=
  (pi_range1 hg hm ha hs).imp fun σ H R ⟨j, F, ρ, P, s, q, k⟩ => ⟨j, F, ρ, _, s, q, fun ds j1 l pd vs F1 H1 g1 r => by
    match ds, l, pd, r with
    | [.int n], _, pd, .cons r1 .nil =>
      cases r1.int_inv
      obtain ⟨h1, pd⟩ := pd
      refine ⟨n, rfl, by omega, by omega, k _ j1 pd _ F1 H1 g1 ?_⟩
      rw [upto_eq]
      exact wk_rng 0 n.toNat (by rw [sizeLine_eq]; omega)
    | [.non], _, pd, _ => exact pd.elim
    | [.bl _], _, pd, _ => exact pd.elim
    | [.str _], _, pd, _ => exact pd.elim
    | [.tup _], _, pd, _ => exact pd.elim
    | [.lst _], _, pd, _ => exact pd.elim
    | [.ref _], _, pd, _ => exact pd.elim
    | [.ty _], _, pd, _ => exact pd.elim⟩
theorem di_range2 {a b : Expr} {t : DL'} {p pos : Pos} (hg : Gl X "range") (hm : X.mg "range" = none) (ha : PA X [a, b] (dA X.K J 2 t)) (hs : starEach [a, b] X.env = [(false, eval a X.env), (false, eval b X.env)] := by rfl) (hs2 : starEach [b] X.env = [(false, eval b X.env)] := by rfl) :
    PI X tg (.Call (.Name "range" p) [a, b] [] pos) (dW X.K J true (dRng2 t)) :=
  (pi_range2 hg hm ha hs hs2).imp fun σ H R ⟨j, F, ρ, P, s, q, k⟩ => ⟨j, F, ρ, _, s, q, fun ds j1 l pd vs F1 H1 g1 r => by
    match ds, l, r with
    | [x, y], _, .cons r1 (.cons r2 .nil) =>
      cases x with
      | int m => cases y with
        | int n =>
          cases r1.int_inv
          cases r2.int_inv
          obtain ⟨⟨h1, h2, h3, h4⟩, pd⟩ := pd
          exact ⟨m, n, rfl, ⟨by omega, by omega, by omega, by omega⟩, k _ j1 pd _ F1 H1 g1 (wk_rng m _ (by rw [sizeLine_eq]; omega))⟩
        | _ => exact pd.elim
      | _ => cases y <;> exact pd.elim⟩
@[simp] def dItS : D → (List D → Prop) → Prop
  | .str z => fun P => z.length ≤ sizeLine ∧ P (z.cps.toList.map sign1)
  | _ => fun _ => False
theorem di_str {e : Expr} {t : DE} (h : PE X e (dE X.K J t)) : PI X tg e (dW X.K J true (dI dItS t)) :=
  (pi_str h).imp fun σ H R ⟨j, F, ρ, P, s, q, k⟩ => ⟨j, F, ρ, _, s, q, fun d j1 pd v F1 H1 g1 r => by
    cases d with
    | str z =>
      cases r.str_inv
      refine ⟨z, rfl, k _ j1 pd.2 _ F1 H1 g1 ⟨by rw [List.length_map, Array.length_toList]; exact pd.1, fun i j F' H' bs u => ⟨fun d e => ?_, fun e => ?_⟩⟩⟩
      · rw [List.getElem?_map] at e
        cases h : z.cps.toList[i]? with
        | none => rw [h] at e; cases e
        | some c =>
          rw [h] at e
          have e' : sign1 c = d := Option.some.inj e
          subst e'
          have hc : z.cps[i]? = some c := by rw [← Array.getElem?_toList]; exact h
          refine ⟨(Array.getElem?_eq_some_iff.mp hc).1, fun x H2 ⟨e1, c', e2, e3⟩ => ?_⟩
          subst e1 e3
          rw [hc] at e2
          cases e2
          exact ⟨Gr.refl bs, .str _⟩
      · rw [List.length_map, Array.length_toList] at e
        exact Nat.le_of_eq e.symm
    | _ => exact pd.elim⟩

/-! ### comprehensions -/
@[simp] def wipeD : List SD → List Nat → List SD
  | ρ, [] => ρ
  | ρ, v :: vs => put (wipeD ρ vs) v .no
theorem SR.wipe1 {K : PySem.W.Frag} {F H : Hp} {σ : L2.St} {ρ : List SD} (s : SR K J F H σ ρ) (i : Nat) : SR K J F H (σ.set i none) (put ρ i .no) := by
  by_cases hi : i < ρ.length
  · refine ⟨s.base, s.ent, by rw [List.length_set, put_length, s.len], fun j d h => ?_, fun j d h => ?_, fun j k ds es a hjk h1 h2 h3 => ?_, fun j ds a h e => ?_⟩
    · by_cases hj : i = j
      · subst hj; rw [slot_put_same _ _ _ hi] at h; cases h
      · rw [slot_put_ne _ _ _ _ hj] at h; rw [get_set_ne hj]; exact s.vals j d h
    · by_cases hj : i = j
      · subst hj; rw [slot_put_same _ _ _ hi] at h; cases h
      · rw [slot_put_ne _ _ _ _ hj] at h; rw [get_set_ne hj]; exact s.owns j d h
    · by_cases hj : i = j
      · subst hj; rw [slot_put_same _ _ _ hi] at h1; cases h1
      · by_cases hk : i = k
        · subst hk; rw [slot_put_same _ _ _ hi] at h2; cases h2
        · rw [slot_put_ne _ _ _ _ hj] at h1
          rw [slot_put_ne _ _ _ _ hk] at h2
          rw [get_set_ne hj] at h3
          rw [get_set_ne hk]
          exact s.dist j k ds es a hjk h1 h2 h3
    · by_cases hj : i = j
      · subst hj; rw [slot_put_same _ _ _ hi] at h; cases h
      · rw [slot_put_ne _ _ _ _ hj] at h
        rw [get_set_ne hj] at e
        exact s.own0 j ds a h e
  · have hi := Nat.le_of_not_lt hi
    rw [put_big _ _ _ hi, List.set_eq_of_length_le (by rw [s.len]; exact hi)]
    exact s
theorem SR.wipe {K : PySem.W.Frag} {F H : Hp} {σ : L2.St} {ρ : List SD} (s : SR K J F H σ ρ) : ∀ vs : List Nat, SR K J F H (L2.wipe σ vs) (wipeD ρ vs)
  | [] => s
  | v :: vs => (SR.wipe s vs).wipe1 v
theorem wipe_at {σ : L2.St} : ∀ {vs : List Nat} {j : Nat}, (L2.wipe σ vs)[j]? = if j ∈ vs then (if j < σ.length then some none else none) else σ[j]?
  | [], j => by simp [L2.wipe]
  | v :: vs, j => by
    have ih := wipe_at (σ := σ) (vs := vs) (j := j)
    show ((L2.wipe σ vs).set v none)[j]? = _
    by_cases e : v = j
    · subst e
      rw [if_pos List.mem_cons_self]
      by_cases h : v < σ.length
      · rw [if_pos h, List.getElem?_set_self (by rw [wipe_length]; exact h)]
      · rw [if_neg h, List.getElem?_eq_none (by rw [List.length_set, wipe_length]; omega)]
    · rw [List.getElem?_set_ne e, ih]
      by_cases m : j ∈ vs
      · rw [if_pos m, if_pos (List.mem_cons_of_mem _ m)]
      · rw [if_neg m, if_neg (by rw [List.mem_cons]; exact fun z => z.elim (fun z => e z.symm) m)]
theorem Off.wipe {is vs : List Nat} {σ σ' : L2.St} (o : Off is (L2.wipe σ vs) σ') (h : ∀ i ∈ is, i ∈ vs) : L2.wipe σ' vs = L2.wipe σ vs := by
  obtain ⟨o1, o2⟩ := o
  rw [wipe_length] at o1
  refine List.ext_getElem? fun j => ?_
  rw [wipe_at, o1]
  by_cases m : j ∈ vs
  · rw [if_pos m, wipe_at, if_pos m]
  · rw [if_neg m]
    exact o2 j fun z => m (h j z)
def compW (g : DG) (tt : DT) (te : DE) (ρ : List SD) (P : List D → JS → Prop) : List D → List D → JS → Prop
  | [], acc, j => P acc j
  | d :: ds, acc, j => g d ρ fun ρ2 => tt j ρ2 fun b j1 => if b = true then te j1 ρ2 fun y j2 => compW g tt te ρ P ds (acc ++ [y]) j2 else compW g tt te ρ P ds acc j1
@[simp] def dLc (w : DW) (g : DG) (tt : DT) (te : DE) (vs : List Nat) : DL' := fun j ρ P => w j ρ fun ds j1 => compW g tt te (wipeD ρ vs) P ds [] j1
theorem dts_nil {X' : Cx} : PTs X' [] (dT X'.K J fun j _ P => P true j) := ⟨fun pins s σ H Q I ⟨j, F, ρ, P, sr, q, k⟩ => pts_nil.run pins s σ H Q I (k true j q F H (Gt.refl sr.base))⟩
theorem dts_one {X' : Cx} {c : Expr} {t : DT} (h : PT X' c (dT X'.K J t)) : PTs X' [c] (dT X'.K J t) := pts_one h
def B0 (J : Jst) : Ent := ⟨J, J.js, fun _ => none, fun _ => none⟩
theorem gr0 {j j0 : JS} {F H : Hp} (b : BaseOk (J.at j) F H) : Gt (J.at j0) (fun _ => none) (fun _ => none) j F H := ⟨(fun _ _ h => nomatch h), (fun _ _ h => nomatch h), fun _ _ _ => .inr rfl, b⟩
theorem Gt.wnew {j j' : JS} {F H F' H' : Hp} (g : Gt (J.at j) F H j' F' H') {p : Addr} (h0 : H p = none) (f1 : F' p = none) (nj : J.has p = false) (o : HO) : Gt (J.at j) F H j' F' (upd H' p o) := by
  refine ⟨g.ff, fun c u h n => ?_, g.nw, g.base.write f1 nj o⟩
  rw [upd_ne (ne_of_none h h0)]
  exact g.hh c u h n
theorem OwnAt.grow' {K : PySem.W.Frag} {j j' : JS} {F H F' H' : Hp} {a : Addr} {ds : List D} (o : OwnAt K (J.at j) F H a ds) (g : Gt (J.at j) F H j' F' H') : ∃ vs, H' a = some (.lst vs) ∧ vs.length = ds.length ∧ F' a = none ∧ RpAll K F' vs ds := by
  obtain ⟨h1, h2, vs, h3, h4, h5⟩ := o.grow g
  exact ⟨vs, h3, h5.length, h1, h5⟩
theorem own_newK {K : PySem.W.Frag} {J : Jst} {F H : Hp} (b : BaseOk J F H) {a : Addr} (ha : H a = none) {vs : List V} {ds : List D} (l : vs.length ≤ sizeLine) (r : RpAll K F vs ds) : OwnAt K J F (upd H a (.lst vs)) a ds := ⟨b.fnew ha, b.new ha, vs, upd_same, l, r⟩
theorem lc_imp {wi : DW} {g : DG} {tt : DT} {te : DE} {plain : Bool} {is vs : List Nat} {K : PySem.W.Frag} (hv : (is.all fun i => vs.contains i) = true) : ∀ σ H Q, dF K J (dLc wi g tt te vs) σ H Q → tLc (dW K J plain wi) (gOf K (B0 J) is g plain) (dT K J tt) (dE K J te) vs σ H Q :=
  fun σ H Q ⟨j, F, ρ, P, s, q, k⟩ => ⟨j, F, ρ, _, s, q, fun ds j1 pd It' F1 H1 g1 wk => by
    have hvs : ∀ i ∈ is, i ∈ vs := fun i hi => by
      have z := List.all_eq_true.mp hv i hi
      exact List.contains_iff_mem.mp z
    intro D hD
    have s1 := s.grow g1
    refine ⟨fun i m H' => m = ds.length - i ∧ i ≤ ds.length ∧ ∃ j' F' acc, Gt (J.at j1) F1 H1 j' F' H' ∧ OwnAt K (J.at j') F' H' D acc ∧ acc.length ≤ i ∧ compW g tt te (wipeD ρ vs) P (ds.drop i) acc j',
      ⟨ds.length, by simp, Nat.zero_le _, j1, F1, [], (Gr.own g1.base hD _).gt, own_newK g1.base hD (Nat.zero_le _) .nil, Nat.le_refl _, by simpa using pd⟩, ?_⟩
    rintro i m H' ⟨rfl, hi, j', F', acc, g', o', la, q'⟩
    obtain ⟨w1, w2⟩ := wk.2 i j' F' H' g'.base g'.ff
    by_cases hlt : i < ds.length
    · have e : ds[i]? = some ds[i] := List.getElem?_eq_getElem hlt
      obtain ⟨go, y⟩ := w1 _ e
      rw [List.drop_eq_getElem_cons hlt] at q'
      refine .inr ⟨go, fun H2 => ∃ j2 F2 acc2, Gt (J.at j1) F1 H1 j2 F2 H2 ∧ OwnAt K (J.at j2) F2 H2 D acc2 ∧ acc2.length ≤ i + 1 ∧ compW g tt te (wipeD ρ vs) P (ds.drop (i + 1)) acc2 j2, fun H2 h => ⟨ds.length - (i + 1), by omega, rfl, hlt, h⟩, fun x H2 hy => ?_⟩
      obtain ⟨gy, ry⟩ := y x H2 hy
      have g2 := g'.pure gy
      have o2 := o'.grow gy.gt
      have fin : ∀ σ3 F3 H3 ρ3, Off is (L2.wipe σ vs) σ3 → SB K (B0 J) j' F3 H3 σ3 ρ3 → Gt ((B0 J).J.at (B0 J).j0) (B0 J).F0 (B0 J).H0 j' F3 H3 → Gt ((B0 J).J.at j') F' H2 j' F3 H3 → (tt j' ρ3 fun b j4 => if b = true then te j4 ρ3 fun y j5 => compW g tt te (wipeD ρ vs) P (ds.drop (i + 1)) (acc ++ [y]) j5 else compW g tt te (wipeD ρ vs) P (ds.drop (i + 1)) acc j4) →
          (L2.wipe σ3 vs = L2.wipe σ vs ∧ dT K J tt σ3 H3 fun b H4 => if b = true then dE K J te σ3 H4 fun y H5 => ∃ acc, H5 D = some (.lst acc) ∧ acc.length < sizeLine ∧ (∃ j2 F2 acc2, Gt (J.at j1) F1 H1 j2 F2 (upd H5 D (.lst (acc ++ [y]))) ∧ OwnAt K (J.at j2) F2 (upd H5 D (.lst (acc ++ [y]))) D acc2 ∧ acc2.length ≤ i + 1 ∧ compW g tt te (wipeD ρ vs) P (ds.drop (i + 1)) acc2 j2)
            else ∃ j2 F2 acc2, Gt (J.at j1) F1 H1 j2 F2 H4 ∧ OwnAt K (J.at j2) F2 H4 D acc2 ∧ acc2.length ≤ i + 1 ∧ compW g tt te (wipeD ρ vs) P (ds.drop (i + 1)) acc2 j2) := fun σ3 F3 H3 ρ3 off s3 _ g3 q3 => by
        refine ⟨off.wipe hvs, j', F3, ρ3, _, s3.toSR, q3, fun b j4 pb F4 H4 g4 => ?_⟩
        cases b with
        | false =>
          rw [if_neg Bool.false_ne_true] at pb ⊢
          exact ⟨j4, F4, acc, (g2.trans g3).trans g4, (o2.grow g3).grow g4, Nat.le_succ_of_le la, pb⟩
        | true =>
          rw [if_pos rfl] at pb ⊢
          refine ⟨j4, F4, ρ3, _, s3.toSR.grow g4, pb, fun d j5 pd v F5 H5 g5 r5 => ?_⟩
          obtain ⟨av, e1, e2, e3, e4⟩ := ((o2.grow g3).grow g4).grow' g5
          have nj := g1.base.new hD
          have hl : av.length < sizeLine := by
            have := wk.1
            omega
          refine ⟨av, e1, hl, j5, F5, acc ++ [d], (((g2.trans g3).trans g4).trans g5).wnew hD e3 nj _, ⟨e3, nj, av ++ [v], upd_same, by rw [List.length_append]; exact hl, e4.append (.cons r5 .nil)⟩, by rw [List.length_append]; exact Nat.succ_le_succ la, pd⟩
      cases plain with
      | true => exact ⟨j', F', wipeD ρ vs, ds[i], _, sb0 (((s1.grow g').grow gy.gt).wipe vs), gr0 gy.base, ry, q', fin⟩
      | false => exact ⟨j', F', wipeD ρ vs, ds[i], _, sb0 (((s1.grow g').grow gy.gt).wipe vs), gr0 gy.base, ry, q', fin⟩
    · have e : i = ds.length := by omega
      subst e
      rw [List.drop_length] at q'
      exact .inl ⟨w2 rfl, k acc j' q' D F' H' (g1.trans g') (gr_new g1 hD) o'⟩⟩
theorem df_lc {elt tg iter : Expr} {ifs : List Expr} {scope : Scope} {own : List (Str × Nat)} {pos : Pos} {wi : DW} {g : DG} {tt : DT} {te : DE} {plain : Bool} {is : List Nat} (hc : X.calm = true) (hN : X.N.Nodup) (hi : PI X tg iter (dW X.K J plain wi)) (ok : BlkOk X.N X.env.scope scope own)
    (hg : ∀ (s : Shared) (H : Hp) (C : Addr) (cl : List (Str × Addr)) (fp : List Addr), PG (X.blk s H scope (compEnvC scope cl C X.env) fp) tg (gOf X.K (B0 J) is g plain))
    (ht : ∀ (s : Shared) (H : Hp) (C : Addr) (cl : List (Str × Addr)) (fp : List Addr), PTs (X.blk s H scope (compEnvC scope cl C X.env) fp) ifs (dT X.K J tt))
    (he : ∀ (s : Shared) (H : Hp) (C : Addr) (cl : List (Str × Addr)) (fp : List Addr), PE (X.blk s H scope (compEnvC scope cl C X.env) fp) elt (dE X.K J te))
    (hv : (is.all fun i => (own.map (·.2)).contains i) = true) (hs : ∀ x, foldedSetIterable iter X.env x = pure x := by intro _; rfl) :
    PE X (.ListComp elt [⟨tg, iter, ifs, 0⟩] scope pos) (dF X.K J (dLc wi g tt te (own.map (·.2)))) :=
  (pe_lc hc hN hi ok hg ht he hs).imp (lc_imp hv)
/-- a comprehension whose element is one value for each item -/
theorem compW_pure {g : DG} {tt : DT} {te : DE} {ρ : List SD} {j : JS} {P : List D → JS → Prop} (f : D → Option D) : ∀ {ds acc : List D}, (∀ d ∈ ds, ∀ Q : Option D → JS → Prop, Q (f d) j → g d ρ fun ρ2 => tt j ρ2 fun b j1 => if b = true then te j1 ρ2 fun y j2 => Q (some y) j2 else Q none j1) → P (acc ++ ds.filterMap f) j → compW g tt te ρ P ds acc j
  | [], acc, _, h => by
    show P acc j
    simpa using h
  | d :: ds, acc, hf, h => by
    have ih : ∀ acc', P (acc' ++ ds.filterMap f) j → compW g tt te ρ P ds acc' j := fun acc' h' => compW_pure f (fun d hd => hf d (List.mem_cons_of_mem _ hd)) h'
    refine hf d List.mem_cons_self (fun o j' => match o with
      | some y => compW g tt te ρ P ds (acc ++ [y]) j'
      | none => compW g tt te ρ P ds acc j') ?_
    cases e : f d with
    | none =>
      rw [List.filterMap_cons_none e] at h
      exact ih acc h
    | some y =>
      rw [List.filterMap_cons_some e] at h
      exact ih (acc ++ [y]) (by rw [List.append_assoc]; exact h)
theorem compW_map {g : DG} {te : DE} {ρ : List SD} {j : JS} {P : List D → JS → Prop} (f : D → D) {ds : List D} (hf : ∀ d ∈ ds, ∀ Q : D → JS → Prop, Q (f d) j → g d ρ fun ρ2 => te j ρ2 Q) (h : P (ds.map f) j) : compW g (fun j _ P => P true j) te ρ P ds [] j :=
  compW_pure (fun d => some (f d)) (fun d hd Q q => hf d hd (fun y => Q (some y)) q) (by rw [List.nil_append, List.filterMap_eq_map']; exact h)

/-! ### defs -/
abbrev Spec := List D → JS → (D → JS → Prop) → Prop
/-- the promise of a def of n parameters: no exception leaves it -/
def spD (K : PySem.W.Frag) (J : Jst) (n : Nat) (S : Spec) : Sp := fun vs H Q _ => ∃ j F ds P, BaseOk (J.at j) F H ∧ RpAll K F vs ds ∧ ds.length = n ∧ S ds j P ∧ ∀ d j', P d j' → ∀ v F' H', Gt (J.at j) F H j' F' H' → Rp K F' v d → Q v H'
theorem start_SR {K : PySem.W.Frag} {F H : Hp} {N : List Str} {vs : List V} {ds : List D} (b : BaseOk J F H) (en : Gt (J.at J.ej) J.eF J.eH J.js F H) (r : RpAll K F vs ds) (hn : ds.length ≤ N.length) :
    SR K J F H (L2.start N vs) (ds.map SD.val ++ List.replicate (N.length - ds.length) SD.no) := by
  have hl := r.length
  have sl : ∀ (ds : List D) (n i : Nat), slot (ds.map SD.val ++ List.replicate n SD.no) i = match ds[i]? with | some d => .val d | none => .no := by
    intro ds
    induction ds with
    | nil =>
      intro n
      induction n with
      | zero => intro i; rfl
      | succ n ih =>
        intro i
        cases i with
        | zero => rfl
        | succ i => exact ih i
    | cons d r ih =>
      intro n i
      cases i with
      | zero => rfl
      | succ i => exact ih n i
  refine ⟨b, en, ?_, fun i d e => ?_, fun i d e => ?_, fun i j ds' es a _ e _ _ => ?_, fun i es a e _ => ?_⟩
  · unfold L2.start
    simp only [List.length_append, List.length_map, List.length_replicate]
    omega
  · rw [sl] at e
    cases h : ds[i]? with
    | none => rw [h] at e; cases e
    | some d' =>
      rw [h] at e
      cases e
      obtain ⟨v, h1, h2⟩ := r.get h
      refine ⟨v, ?_, h2⟩
      unfold L2.start
      rw [List.getElem?_append_left (by rw [List.length_map]; exact (List.getElem?_eq_some_iff.mp h1).1), List.getElem?_map, h1]
      rfl
  · rw [sl] at e
    cases h : ds[i]? with
    | none => rw [h] at e; cases e
    | some d' => rw [h] at e; cases e
  · rw [sl] at e
    cases h : ds[i]? with
    | none => rw [h] at e; cases e
    | some d' => rw [h] at e; cases e
  · rw [sl] at e
    cases h : ds[i]? with
    | none => rw [h] at e; cases e
    | some d' => rw [h] at e; cases e
def st0 (n : Nat) (ds : List D) : List SD := ds.map SD.val ++ List.replicate (n - ds.length) SD.no
theorem st0_own (n i : Nat) (ds es : List D) : slot (st0 n ds) i ≠ .own es := by
  intro e
  have sl : ∀ (ds : List D) (n i : Nat), slot (ds.map SD.val ++ List.replicate n SD.no) i = match ds[i]? with | some d => .val d | none => .no := by
    intro ds
    induction ds with
    | nil =>
      intro n
      induction n with
      | zero => intro i; rfl
      | succ n ih =>
        intro i
        cases i with
        | zero => rfl
        | succ i => exact ih i
    | cons d r ih =>
      intro n i
      cases i with
      | zero => rfl
      | succ i => exact ih n i
  unfold st0 at e
  rw [sl] at e
  cases h : ds[i]? with
  | none => rw [h] at e; cases e
  | some d' => rw [h] at e; cases e
theorem start_SB {K : PySem.W.Frag} {B : Ent} {j : JS} {F H : Hp} {N : List Str} {vs : List V} {ds : List D} (b : BaseOk (B.J.at j) F H) (en : Gt (B.J.at B.J.ej) B.J.eF B.J.eH j F H) (r : RpAll K F vs ds) (hn : ds.length ≤ N.length) : SB K B j F H (L2.start N vs) (st0 N.length ds) :=
  ⟨start_SR b en r hn, fun i es a h _ => absurd h (st0_own _ _ _ _)⟩
/-! calls -/
@[simp] def dCall (S : Spec) (t : DL') : DE := fun j ρ P => t j ρ fun ds j1 => S ds j1 P
theorem de_call {f : Addr} {fd : FuncData} {ps : List Str} {k n : Nat} {S : Spec} {x : Str} {p pos : Pos} {e : Expr} {es : List Expr} {t : DL'} (F : FnOk X.prog X.w X.K X.mg X.base CX0 k f fd ps (spD X.K J n S)) (hr : Room k X.A) (hg : Gl X x) (hm : X.mg x = some (.ref f)) (hk : PySem.W.keepIn X.K (.ref f) = true) (hb : Binds X.K fd ps [])
    (ha : PA X (e :: es) (dA X.K J n t)) (hdb : (x == ("__debug__" : Str)) = false := by decide) (he : starEach (e :: es) X.env = (false, eval e X.env) :: starEach es X.env := by rfl) (hpl : (backTo pos (starEach es X.env)).any (·.1) = false := by rfl) :
    PE X (.Call (.Name x p) (e :: es) [] pos) (dE X.K J (dCall S t)) :=
  (pe_call F hr hg hm hk hb .nil pass0 ha hdb he hpl).imp fun σ H Q ⟨j, F, ρ, P, s, q, k⟩ => ⟨j, F, ρ, _, s, q, fun ds j1 l pd vs F1 H1 g1 r => ⟨j1, F1, ds, P, g1.base, by rw [List.append_nil]; exact r, l, pd, fun d j2 pd v F2 H2 g2 r2 => k d j2 pd v F2 H2 (g1.trans g2) r2⟩⟩
end
end DL

/-! DL8 -/
/-! DL8: defs by their facts, isinstance, sorted, index, join, gcd, min, max; changes of owned lists; while. -/
namespace DL
open PySem PySem.Spec PyProof.Rows L2

/-! ### a def of the text, told once -/
/-- where the names stand -/
def faOf (mg : Str → Option Value) (x : Str) : Addr := match mg x with
  | some (.ref a) => a
  | _ => 0
theorem faOf_eq {mg : Str → Option Value} {x : Str} {a : Addr} (h : mg x = some (.ref a)) : faOf mg x = a := by unfold faOf; rw [h]
/-- J knows the tables and where the names stand -/
structure At (mg : Str → Option Value) (T : List (Addr × Str)) (J : Jst) : Prop where
  tb : J.tbs = T
  fa : J.fa = faOf mg
def FnG (P : Program) (w : World) (K : PySem.W.Frag) (mg : Str → Option Value) (base : Heap) (T : List (Addr × Str)) (k : Nat) (x : Str) (ps : List Str) (n : Nat) (S : Jst → Spec) : Prop :=
  ∃ (f : Addr) (fd : FuncData), (∀ J : Jst, At mg T J → FnOk P w K mg base CX0 k f fd ps (spD K J n (S J))) ∧ mg x = some (.ref f) ∧ PySem.W.keepIn K (.ref f) = true ∧ Binds K fd ps [] ∧ ∃ oc od osl, K.lookup f = some ⟨oc, od, .func fd, osl⟩
section
variable {P : Program} {w : World} {K : PySem.W.Frag} {mg : Str → Option Value} {base : Heap} {T : List (Addr × Str)}
theorem FnG.imp {k : Nat} {x : Str} {ps : List Str} {n : Nat} {S S' : Jst → Spec} (G : FnG P w K mg base T k x ps n S) (h : ∀ J ds j Q, ds.length = n → S' J ds j Q → ∃ Q', S J ds j Q' ∧ ∀ d j', Q' d j' → Q d j') : FnG P w K mg base T k x ps n S' := by
  obtain ⟨f, fd, a, b, c, d⟩ := G
  refine ⟨f, fd, fun J hT => (a J hT).imp fun vs H Q E ⟨j, F, ds, R, bs, r, l, q, kk⟩ => ?_, b, c, d⟩
  obtain ⟨Q', q1, q2⟩ := h J ds j R l q
  exact ⟨j, F, ds, Q', bs, r, l, q1, fun d j' pd => kk d j' (q2 d j' pd)⟩
theorem FnG.mono {j k : Nat} {x : Str} {ps : List Str} {n : Nat} {S : Jst → Spec} (G : FnG P w K mg base T j x ps n S) (h : j ≤ k) : FnG P w K mg base T k x ps n S := by
  obtain ⟨f, fd, a, b, c, d⟩ := G
  exact ⟨f, fd, fun J hT => (a J hT).mono h, b, c, d⟩
/-- what a body knows of its entry -/
structure EntOk (mg : Str → Option Value) (T : List (Addr × Str)) (cl : List (Str × Addr)) (J : Jst) : Prop where
  tb : J.tbs = T
  fa : J.fa = faOf mg
  cl : J.cl = cl
theorem EntOk.at {mg : Str → Option Value} {T : List (Addr × Str)} {cl : List (Str × Addr)} {J : Jst} (h : EntOk mg T cl J) : At mg T J := ⟨h.tb, h.fa⟩
abbrev cxB (P : Program) (w : World) (K : PySem.W.Frag) (mg : Str → Option Value) (base : Heap) (N : List Str) (x : Str) (st : Stmt) (f : Addr) (cdv : Value) (A : Around) (outer : List Env) (s : Shared) (H : Hp) (E : XK) : Cx := (cxOf CX0 P w K mg base N x (defScope st) f cdv A outer s H E).nox
theorem funD_at {x qual : Str} {params : Arguments} {body : List Stmt} {scope : Scope} {dvs : List V} {kws : List (Str × V)} {f : Addr} {fd : FuncData} (F : FunD K x qual params body scope dvs kws f fd) : ∃ oc od osl, K.lookup f = some ⟨oc, od, .func fd, osl⟩ := by
  obtain ⟨oc, od, dV, kV, doc, pm, an, cdv, ct, osl, rfl, lk, _⟩ := F.ex
  exact ⟨_, _, _, lk⟩
/-- the def's code object -/
def CodeAt (K : PySem.W.Frag) (f : Addr) (cdv : Value) : Prop := ∃ oc od fd osl, K.lookup f = some ⟨oc, od, .func fd, osl⟩ ∧ fd.code = cdv
/-- THE RULE for a def, its code object told -/
theorem funD_ok {w : World} {base : Heap} {P : Program} {x qual : Str} {params : Arguments} {body : List Stmt} {scope : Scope} {kws : List (Str × V)} {f : Addr} {fd : FuncData} {CX : CXT} {N ps : List Str} {k : Nat} {sp : Sp} (F : FunD K x qual params body scope [] kws f fd) (S : FnScope N ps scope) (len : ∀ vs H Q E, sp vs H Q E → vs.length = ps.length)
    (hbody : ∀ (cdv : Value) (A : Around) (outer : List Env) (s : Shared) (H : Hp) (vs : List V) (Q : VK) (E : XK), CodeAt K f cdv → Room k (A.deeper (envOfC qual scope s.heap.objs.size f cdv)) → sp vs H Q E →
      ∃ t, PSs (cxOf CX P w K mg base N qual scope f cdv A outer s H E) body t ∧ t { nx := fun _ H' => Q .non H', rt := Q } (L2.start N vs) H) : FnOk P w K mg base CX (k + 1) f fd ps sp := by
  obtain ⟨oc, od, dV, kV, doc, pm, an, cdv, ct, osl, rfl, lk, hcd, _, _⟩ := F.ex
  exact fn_of lk hcd S len fun A outer s H vs Q E hr hsp => hbody cdv A outer s H vs Q E ⟨_, _, _, _, lk, rfl⟩ hr hsp
theorem fnG_of {x : Str} {st : Stmt} {f : Addr} {N ps : List Str} {k n : Nat} {S : Jst → Spec} {t : Jst → DS} (F : ∃ fd, FunD K x x (defArgs st) (defBody st) (defScope st) [] [] f fd) (hm : mg x = some (.ref f)) (sc : FnScope N ps (defScope st)) (hn : ps.length = n) (hN : n ≤ N.length)
    (hb : ∀ (kV doc pm : Value) (an : Option Addr) (cdv ct : Value) (us : List Value), us.length = ps.length → bindArgs (PySem.W.fnOf x x (defArgs st) (defBody st) (defScope st) .none kV doc pm an cdv ct) ⟨us, []⟩ = pure (ps.zip us))
    (hbody : ∀ (B : Ent) (cdv : Value) (A : Around) (outer : List Env) (s : Shared) (H : Hp) (E : XK), EntOk mg T (envOfC x (defScope st) s.heap.objs.size f cdv).cells B.J → CodeAt K f cdv → Room k (A.deeper (envOfC x (defScope st) s.heap.objs.size f cdv)) → PSs (cxB P w K mg base N x st f cdv A outer s H E) (defBody st) (dS K B (t B.J)))
    (hS : ∀ J ds j Q, ds.length = n → S J ds j Q → t J { nx := fun j' _ => Q .non j', rt := Q } j (st0 N.length ds))
    (hJ : ∀ (J : Jst) cl ej eF eH ds j Q, S J ds j Q → S (J.re J.xk J.fa cl ej eF eH) ds j Q := by exact fun _ _ _ _ _ _ _ _ h => h) : FnG P w K mg base T (k + 1) x ps n S := by
  obtain ⟨fd, F⟩ := F
  refine ⟨f, fd, fun J hT => ?_, hm, F.kp, F.bindsN hb, funD_at F⟩
  refine funD_ok F sc (fun vs H Q E ⟨j, F, ds, P, b, r, l, _⟩ => by rw [r.length, l, hn]) (fun cdv A outer s H vs Q E hC hr ⟨j, F', ds, P, b, r, l, q, kk⟩ => ?_)
  have b' : BaseOk ((J.re J.xk J.fa (envOfC x (defScope st) s.heap.objs.size f cdv).cells j F' H).at j) F' H := b.re
  exact ⟨_, PSs.nox (hbody ⟨J.re J.xk J.fa (envOfC x (defScope st) s.heap.objs.size f cdv).cells j F' H, j, F', H⟩ cdv A outer s H E ⟨hT.tb, hT.fa, rfl⟩ hC hr), j, F', st0 N.length ds, _, start_SB (B := ⟨J.re J.xk J.fa (envOfC x (defScope st) s.heap.objs.size f cdv).cells j F' H, j, F', H⟩) b' (Gt.refl b') r (by rw [l]; exact hN), Gt.refl b', hS _ ds j P l (hJ J _ _ _ _ ds j P q), ⟨fun j2 σ F2 H2 ρ s2 g2 _ q2 => kk .non j2 q2 .non F2 H2 g2.er .non, fun j2 v F2 H2 d g2 r2 q2 => kk d j2 q2 v F2 H2 g2.er r2, fun _ _ _ _ _ _ _ _ h => h.elim, fun _ _ _ _ _ _ _ _ h => h.elim⟩⟩
end
theorem hu100 {A : Around} {k : Nat} (hr : Room k A) : A.units + 100 < cLine := by have := hr.un; omega
section
variable {X : Cx} {J : Jst}
theorem de_callG {T : List (Addr × Str)} {j n : Nat} {S : Jst → Spec} {x : Str} {ps : List Str} {p pos : Pos} {e : Expr} {es : List Expr} {t : DL'} (G : FnG X.prog X.w X.K X.mg X.base T j x ps n S) (hT : At X.mg T J) (hr : Room j X.A) (hg : Gl X x)
    (ha : PA X (e :: es) (dA X.K J n t)) (hdb : (x == ("__debug__" : Str)) = false := by decide) (he : starEach (e :: es) X.env = (false, eval e X.env) :: starEach es X.env := by rfl) (hpl : (backTo pos (starEach es X.env)).any (·.1) = false := by rfl) :
    PE X (.Call (.Name x p) (e :: es) [] pos) (dE X.K J (dCall (S J) t)) := by
  obtain ⟨f, fd, a, b, c, d, _⟩ := G
  exact de_call (a J hT) hr hg b c d ha hdb he hpl
/-! -a -/
@[simp] def dNeg (t : DE) : DE := fun j ρ P => t j ρ fun d j1 => match d with
  | .int i => P (.int (-i)) j1
  | _ => False
theorem de_neg {a : Expr} {t : DE} {pos : Pos} (h : PE X a (dE X.K J t)) : PE X (.UnaryOp .USub a pos) (dE X.K J (dNeg t)) :=
  (pe_un un_neg h).imp fun σ H Q ⟨j, F, ρ, P, s, q, k⟩ => ⟨j, F, ρ, _, s, q, fun d j1 pd v F1 H1 g r => by
    cases d with
    | int i => exact ⟨i, r.int_inv, k _ j1 pd _ F1 H1 g (.int _)⟩
    | _ => exact pd.elim⟩
/-! ### isinstance -/
def tyName : D → String
  | .non => "NoneType"
  | .bl _ => "bool"
  | .int _ => "int"
  | .str _ => "str"
  | .tup _ => "tuple"
  | .lst _ => "list"
  | .ref _ => ""
  | .ty _ => ""
  | .exc _ _ _ => ""
  | .clo _ _ => ""
  | .dct _ _ => "dict"
@[simp] def noRef : D → Bool
  | .ref _ => false
  | .ty _ => false
  | .exc _ _ _ => false
  | .clo _ _ => false
  | _ => true
theorem ty_of {F H : Hp} (b : BaseOk J F H) {v : V} {d : D} (r : RpR X.K J F H v d) (h : noRef d = true) : TyX X.K H v (.type (tyName d)) := by
  rcases r with r | ⟨a, ds, rfl, rfl, _, _, vs, e, _⟩
  · cases r with
    | non => exact .base .non
    | bl b => exact .base (.bl b)
    | int b => exact .base (.int b)
    | str b => exact .base (.str b)
    | ty n => cases h
    | ref n => cases h
    | exc0 _ _ _ _ => cases h
    | exc1 _ _ _ _ _ _ => cases h
    | clo _ _ => cases h
    | dctK e _ => exact .base (.dK (b.fh _ _ e))
    | dctT e => exact .base (.dT (b.fh _ _ e))
    | tup t _ _ =>
      rcases b.fh.tupAt t with ⟨o, e, _⟩ | ⟨o, its, n, e, c, _⟩
      · exact .fTuple e
      · exact .kTuple e c
    | lst t _ _ =>
      rcases b.fh.seqL t with (e | ⟨o, e⟩) | ⟨o, its, n, e, c, _⟩
      · exact .base (.lst e)
      · exact .base (.frz e)
      · exact .kList e c
  · exact .base (.lst e)
/-- T's answer for data -/
structure IsT (T : String) (f : D → Bool) : Prop where
  ok : ∀ d, noRef d = true → kitB (tyName d) T = some (f d)
@[simp] def isIntD : D → Bool
  | .int _ => true
  | .bl _ => true
  | _ => false
@[simp] def isBoolD : D → Bool
  | .bl _ => true
  | _ => false
@[simp] def isStrD : D → Bool
  | .str _ => true
  | _ => false
@[simp] def isTupD : D → Bool
  | .tup _ => true
  | _ => false
@[simp] def isLstD : D → Bool
  | .lst _ => true
  | _ => false
@[simp] def isDctD : D → Bool
  | .dct _ _ => true
  | _ => false

theorem isT_of {T : String} {f : D → Bool} (h0 : kitB "NoneType" T = some (f .non)) (h1 : ∀ b, kitB "bool" T = some (f (.bl b))) (h2 : ∀ i, kitB "int" T = some (f (.int i))) (h3 : ∀ s, kitB "str" T = some (f (.str s))) (h4 : ∀ ds, kitB "tuple" T = some (f (.tup ds))) (h5 : ∀ ds, kitB "list" T = some (f (.lst ds))) (h6 : ∀ ks vs, kitB "dict" T = some (f (.dct ks vs))) : IsT T f := ⟨fun d h => by
  cases d with
  | non => exact h0
  | bl b => exact h1 b
  | int b => exact h2 b
  | str b => exact h3 b
  | tup b => exact h4 b
  | lst b => exact h5 b
  | ref b => cases h
  | ty b => cases h
  | exc _ _ _ => cases h
  | clo _ _ => cases h
  | dct ks vs => exact h6 ks vs⟩
theorem t_int : IsT "int" isIntD := isT_of (show kitB _ _ = some false by decide +kernel) (fun _ => show kitB _ _ = some true by decide +kernel) (fun _ => show kitB _ _ = some true by decide +kernel) (fun _ => show kitB _ _ = some false by decide +kernel) (fun _ => show kitB _ _ = some false by decide +kernel) (fun _ => show kitB _ _ = some false by decide +kernel) (fun _ _ => show kitB _ _ = some false by decide +kernel)
theorem t_bool : IsT "bool" isBoolD := isT_of (show kitB _ _ = some false by decide +kernel) (fun _ => show kitB _ _ = some true by decide +kernel) (fun _ => show kitB _ _ = some false by decide +kernel) (fun _ => show kitB _ _ = some false by decide +kernel) (fun _ => show kitB _ _ = some false by decide +kernel) (fun _ => show kitB _ _ = some false by decide +kernel) (fun _ _ => show kitB _ _ = some false by decide +kernel)
theorem t_str : IsT "str" isStrD := isT_of (show kitB _ _ = some false by decide +kernel) (fun _ => show kitB _ _ = some false by decide +kernel) (fun _ => show kitB _ _ = some false by decide +kernel) (fun _ => show kitB _ _ = some true by decide +kernel) (fun _ => show kitB _ _ = some false by decide +kernel) (fun _ => show kitB _ _ = some false by decide +kernel) (fun _ _ => show kitB _ _ = some false by decide +kernel)
theorem t_tuple : IsT "tuple" isTupD := isT_of (show kitB _ _ = some false by decide +kernel) (fun _ => show kitB _ _ = some false by decide +kernel) (fun _ => show kitB _ _ = some false by decide +kernel) (fun _ => show kitB _ _ = some false by decide +kernel) (fun _ => show kitB _ _ = some true by decide +kernel) (fun _ => show kitB _ _ = some false by decide +kernel) (fun _ _ => show kitB _ _ = some false by decide +kernel)
theorem t_list : IsT "list" isLstD := isT_of (show kitB _ _ = some false by decide +kernel) (fun _ => show kitB _ _ = some false by decide +kernel) (fun _ => show kitB _ _ = some false by decide +kernel) (fun _ => show kitB _ _ = some false by decide +kernel) (fun _ => show kitB _ _ = some false by decide +kernel) (fun _ => show kitB _ _ = some true by decide +kernel) (fun _ _ => show kitB _ _ = some false by decide +kernel)
theorem t_dict : IsT "dict" isDctD := isT_of (show kitB _ _ = some false by decide +kernel) (fun _ => show kitB _ _ = some false by decide +kernel) (fun _ => show kitB _ _ = some false by decide +kernel) (fun _ => show kitB _ _ = some false by decide +kernel) (fun _ => show kitB _ _ = some false by decide +kernel) (fun _ => show kitB _ _ = some false by decide +kernel) (fun _ _ => show kitB _ _ = some true by decide +kernel)
@[simp] def dIsi (f : D → Bool) (t : DE) : DE := fun j ρ P => t j ρ fun d j1 => noRef d = true ∧ P (.bl (f d)) j1
theorem de_isi {T : String} {x : Str} {f : D → Bool} {e : Expr} {t : DE} {p p2 pos : Pos} (h : IsT T f) (hg : Gl X "isinstance") (hm : X.mg "isinstance" = none) (hg2 : Gl X x) (hm2 : X.mg x = none) (hv : bootBuiltins x = some (.type T)) (hn : x ≠ "__name__") (ha : PE X e (dR X.K J t)) (hdb : (x == ("__debug__" : Str)) = false := by decide)
    (hs : starEach [e, .Name x p2] X.env = (false, eval e X.env) :: starEach [.Name x p2] X.env := by rfl) (hs2 : starEach [.Name x p2] X.env = (false, eval (.Name x p2) X.env) :: starEach [] X.env := by rfl) (hpl : (backTo pos (starEach [.Name x p2] X.env)).any (·.1) = false := by rfl) :
    PE X (.Call (.Name "isinstance" p) [e, .Name x p2] [] pos) (dE X.K J (dIsi f t)) :=
  (pe_callB call_isi hg hm boot_isinstance (pa_cons ha (pa_cons (pe_bltn hg2 hm2 hv (show RelV (.ty T) (.type T) from rfl) hn hdb) pa_nil hs2) hs) (by decide) (by decide) hs hpl).imp fun σ H Q ⟨j, F, ρ, P, s, q, k⟩ => ⟨j, F, ρ, _, s, q, fun d j1 pd v F1 H1 g r =>
    ⟨v, .ty T, .type (tyName d), .type T, f d, rfl, .ty T, ty_of g.base r pd.1, kit_ty (h.ok d pd.1), k _ j1 pd.2 _ F1 H1 g (.bl _)⟩⟩
theorem de_isi2 {T T' : String} {x y : Str} {f f' : D → Bool} {e : Expr} {t : DE} {p p2 p3 p4 pos : Pos} {kk : Nat} (h : IsT T f) (h' : IsT T' f') (hg : Gl X "isinstance") (hm : X.mg "isinstance" = none) (hg2 : Gl X x) (hm2 : X.mg x = none) (hv : bootBuiltins x = some (.type T)) (hn : x ≠ "__name__")
    (hg3 : Gl X y) (hm3 : X.mg y = none) (hv3 : bootBuiltins y = some (.type T')) (hn3 : y ≠ "__name__") (ha : PE X e (dE X.K J t)) (hdb : (x == ("__debug__" : Str)) = false := by decide) (hdb3 : (y == ("__debug__" : Str)) = false := by decide)
    (hs : starEach [e, .Tuple [.Name x p2, .Name y p3] kk p4] X.env = (false, eval e X.env) :: starEach [.Tuple [.Name x p2, .Name y p3] kk p4] X.env := by rfl) (hs2 : starEach [.Tuple [.Name x p2, .Name y p3] kk p4] X.env = (false, eval (.Tuple [.Name x p2, .Name y p3] kk p4) X.env) :: starEach [] X.env := by rfl)
    (hs3 : starEach [.Name x p2, .Name y p3] X.env = (false, eval (.Name x p2) X.env) :: starEach [.Name y p3] X.env := by rfl) (hs4 : starEach [.Name y p3] X.env = (false, eval (.Name y p3) X.env) :: starEach [] X.env := by rfl)
    (hpl : (backTo pos (starEach [.Tuple [.Name x p2, .Name y p3] kk p4] X.env)).any (·.1) = false := by rfl) :
    PE X (.Call (.Name "isinstance" p) [e, .Tuple [.Name x p2, .Name y p3] kk p4] [] pos) (dE X.K J (dIsi (fun d => f d || f' d) t)) :=
  (pe_callB call_isiT hg hm boot_isinstance (pa_cons ha (pa_cons (pe_tup (pa_cons (pe_bltn hg2 hm2 hv (show RelV (.ty T) (.type T) from rfl) hn hdb) (pa_cons (pe_bltn hg3 hm3 hv3 (show RelV (.ty T') (.type T') from rfl) hn3 hdb3) pa_nil hs4) hs3)) pa_nil hs2) hs) (by decide) (by decide) hs hpl).imp fun σ H Q ⟨j, F, ρ, P, s, q, k⟩ => ⟨j, F, ρ, _, s, q, fun d j1 pd v F1 H1 g r => by
    refine ⟨by show 2 ≤ sizeLine; decide, fun tp htp => ?_⟩
    have gg := Gr.own g.base htp (.tup [.ty T, .ty T'])
    refine ⟨v, tp, [.ty T, .ty T'], .type (tyName d), [.type T, .type T'], f d || f' d, rfl, upd_same, .cons (.ty T) (.cons (.ty T') .nil), ty_of gg.base (.inl (r.mono gg.ff)) pd.1, ?_, k _ j1 pd.2 _ F1 _ (g.pure gg) (.bl _)⟩
    refine kitAny_cons (b := f d) (kit_ty (h.ok d pd.1)) (fun e => ?_) (fun e => by rw [e]; rfl)
    rw [e, Bool.false_or]
    refine kitAny_cons (b := f' d) (kit_ty (h'.ok d pd.1)) (fun e => by rw [e]; rfl) (fun e => e)⟩

/-! ### sorted -/
open PySem.W in
theorem collect_tup {prog : Program} {w : World} {A : Around} {E : Value → Shared → Prop} {s : Shared} {l : Addr} {vs : List Value} {Q : List Value → Shared → Prop} (hl : s.heap.IsTuple l vs.toArray)
    (h : Q vs { s with heap := (s.heap.push (seqObj "list" #[] 0)).update s.heap.objs.size (Obj.mapSeq (· ++ vs.toArray)) }) (hsz : vs.length ≤ sizeLine) :
    wpAny (model prog w) A (collect (.ref l)) Q E s := by
  obtain ⟨o, ho, hc, n, hd⟩ := id hl
  unfold collect
  refine wpAny_bind (wpAny_runValue (codeAny_builtin entry_proto_collect' ?_))
  show wpAny _ _ (do again (.builtin "list.__iadd__" ⟨[← newList [], .ref l], []⟩)) _ _ s
  refine wpAny_bind (wpAny_newList (wpAny_pure ⟨Code.quiet_builtin _ (by decide +kernel), codeAny_builtin entry_list_iadd' ?_⟩))
  show wpAny _ _ (Builtin.List.listExtendWith (.ref s.heap.objs.size) (.ref l) (.ref s.heap.objs.size)) _ _ { s with heap := s.heap.push (seqObj "list" #[] 0) }
  unfold Builtin.List.listExtendWith
  have ho' : (s.heap.push (seqObj "list" #[] 0)).get? l = some o := Heap.get?_push_of_some _ ho
  refine wpAny_bind (wpAny_typeOf (T := "tuple") ⟨o, ho', hc⟩ ?_)
  have ht : (Value.type "tuple" == Value.type "tuple") = true := by rfl
  rw [if_pos (by rw [ht]; simp)]
  refine wpAny_bind (listItems_at ho' hd ?_)
  refine wpAny_bind (listItems_at (xs := #[]) (n := 0) (Heap.get?_push_size _ rfl) rfl ?_)
  rw [if_neg (by simp)]
  refine wpAny_bind (listUpdate_at (xs := #[]) (n := 0) (Heap.get?_push_size _ rfl) rfl ?_ (Nat.zero_le _) (by show (#[] ++ vs.toArray).size ≤ sizeLine + 1; simp only [Array.size_append, List.size_toArray, List.length_nil]; omega))
  refine wpAny_pure ?_
  show wpAny (model prog w) A (do
      let o ← load s.heap.objs.size
      match o.data with
      | .seq xs _ => pure xs.toList
      | _ => unsupported "internal:collect") Q E { s with heap := (s.heap.push (seqObj "list" #[] 0)).update s.heap.objs.size (Obj.mapSeq (· ++ vs.toArray)) }
  refine wpAny_bind (wpAny_load (get?_update_seq (Heap.get?_push_size _ rfl) _) ?_)
  show wpAny _ _ (pure ((#[] : Array Value) ++ vs.toArray).toList) Q E _
  rw [show ((#[] : Array Value) ++ vs.toArray).toList = vs by simp]
  exact wpAny_pure h
end
end DL

/-! SortT -/
/-! SortT: sorting of tuples of which some are empty. -/
namespace DL
open PySem PySem.Spec PyProof.Rows L2 PySem.W
section
variable {prog : Program} {w : World} {A : Around} {E : Value → Shared → Prop} {s : Shared}
theorem call_tup_lt {Q : Value → Shared → Prop} {l b : Addr} {us vs : Array Value} {e r : Nat → Bool} (hl : s.heap.IsTuple l us) (hb : s.heap.IsTuple b vs)
    (he : ∀ j (h1 : j < us.size) (h2 : j < vs.size), SeqAt.EqAt A.in1 s us[j] vs[j] (e j)) (hr : ∀ j (h1 : j < us.size) (h2 : j < vs.size), e j = false → SeqAt.RcLt A.in1 s us[j] vs[j] (r j))
    (h : Q (.bool (SeqAt.firstLt e r (decide (us.size < vs.size)) (List.range (min us.size vs.size)))) s) : wpAny (model prog w) A (call (.builtin "tuple.__lt__") [.ref l, .ref b]) Q E s := by
  obtain ⟨⟨c1, d1, t1, s1⟩, o1, k1, n1, e1⟩ := id hl
  obtain ⟨⟨c2, d2, t2, s2⟩, o2, k2, n2, e2⟩ := id hb
  simp only at k1 e1 k2 e2
  subst k1 e1 k2 e2
  exact call_meets F.slot_tuple_lt ⟨_, o1, rfl⟩ F.entry_tuple_lt (F.args_tuple_lt_2 _ _) (SeqAt.tuple_ltAt l b us vs n1 n2 d1 d2 s1 s2 e r) ⟨o1, o2, he, hr, h⟩
theorem one_tup {xs ys : List PyData} {a b : Value} {as bs : List Addr} {Q : Bool → Shared → Prop} (ra : Reads s.heap a (.tuple xs) as) (rb : Reads s.heap b (.tuple ys) bs) (h : alike (.tuple xs) (.tuple ys) = true)
    (hu : A.units + min (PyData.tuple xs).depth (PyData.tuple ys).depth < cLine) (hq : Q (dataLt (.tuple xs) (.tuple ys)) s) : wpAny (model prog w) A (oneLt' true a b) Q E s := by
  have hal : alikeAll xs ys = true := by simpa [alike] using h
  cases ra with
  | @tuple l o vs n _ as₁ h1 h2 h3 h4 =>
    cases rb with
    | @tuple l' o' vs' n' _ bs₁ k1 k2 k3 k4 =>
      have n1 : vs.size = xs.length := by simpa using SeqAt.ReadsAll.length _ _ _ h4
      have n2 : vs'.size = ys.length := by simpa using SeqAt.ReadsAll.length _ _ _ k4
      rw [dataLt_tuple, ← firstLt_toks xs ys hal, ← n1, ← n2] at hq
      rw [oneLt'_eq]
      simp only [if_true]
      refine wpAny_bind (wpAny_cRoomFor (SeqAt.room_here hu) ?_)
      refine wpAny_bind (wpAny_callSpecialIfBound?_slot (T := "tuple") ⟨_, h1, h2⟩ F.slot_tuple_lt (call_tup_lt (e := SeqAt.pairEq xs ys) (r := fun j => dataLt (xs.getD j .none) (ys.getD j .none)) ⟨_, h1, h2, _, h3⟩ ⟨_, k1, k2, _, k3⟩ (fun j j1 j2 => ?_) (fun j j1 j2 hj => ?_) ?_))
      · have q := eqAt_alikeAll xs ys A.in1 s vs.toList vs'.toList _ _ h4 k4 hal (SeqAt.room_in hu) j (by simpa using j1) (by simpa using j2)
        simpa using q
      · have q := rcLt_alikeAll xs ys A.in1 s vs.toList vs'.toList _ _ h4 k4 hal (SeqAt.room_in hu) j (by simpa using j1) (by simpa using j2) hj
        simpa using q
      · exact wpAny_truthy_bool hq
theorem tup_firsts : ∀ {vs : List Value} {ds : List PyData}, EachIs (fun v d => ∃ as, Reads s.heap v d as) vs ds → (∀ d ∈ ds, ∃ xs, d = .tuple xs) → ∃ fs : List (Option Value), fs.length = vs.length ∧ (∀ (i : Nat) (x : PyData) (r : List PyData), ds[i]? = some (PyData.tuple (x :: r)) → ∃ f, fs[i]? = some (some f)) ∧ (∀ i : Nat, ds[i]? = some (PyData.tuple []) → fs[i]? = some none) ∧
    (∀ v ∈ vs, Looks (model prog w) s.heap (typeOf v) (.type "tuple")) ∧ ∀ (A : Around) (E : Value → Shared → Prop) (Q : List (Option Value) → Shared → Prop), Q fs s → wpAny (model prog w) A (vs.mapM firstOfTuple') Q E s
  | _, _, .nil, _ => ⟨[], rfl, fun i x r h => by simp at h, fun i h => by simp at h, fun v hv => by simp at hv, fun A E Q q => by rw [List.mapM_nil]; exact wpAny_pure q⟩
  | _, _, .cons (b := d) ⟨as, r⟩ t, ht => by
    obtain ⟨fs, h1, h2, h3, h4, h5⟩ := tup_firsts t fun d hd => ht d (List.mem_cons_of_mem _ hd)
    obtain ⟨xs, rfl⟩ := ht d List.mem_cons_self
    cases r with
    | @tuple l o its n _ _ ho hc hd hr =>
      have lk : Looks (model prog w) s.heap (typeOf (.ref l)) (.type "tuple") := hc ▸ (show Looks (model prog w) s.heap (typeOf (.ref l)) o.cls from (Looks.ld ho).andThen .now)
      have hl : its.size = xs.length := by simpa using SeqAt.ReadsAll.length _ _ _ hr
      refine ⟨its[0]? :: fs, by rw [List.length_cons, List.length_cons, h1], fun i x r h => ?_, fun i h => ?_, fun v hv => ?_, fun A E Q q => ?_⟩
      · cases i with
        | zero =>
          simp at h
          subst h
          have h0 : 0 < its.size := by rw [hl]; exact Nat.succ_pos _
          exact ⟨its[0], by simp [h0]⟩
        | succ i => simpa using h2 i x r (by simpa using h)
      · cases i with
        | zero =>
          simp at h
          subst h
          have h0 : its.size = 0 := hl
          simp [h0]
        | succ i => simpa using h3 i (by simpa using h)
      · rcases List.mem_cons.mp hv with e | e
        · rw [e]; exact lk
        · exact h4 v e
      · rw [List.mapM_cons]
        refine wpAny_bind ?_
        rw [kas_first_eq]
        refine wpAny_bind (lk.here ?_)
        rw [if_neg (by first | decide | simp)]
        refine wpAny_bind (listItems_at ho hd (wpAny_pure ?_))
        exact wpAny_bind (h5 A _ _ (wpAny_pure q))
/-- all are tuples, or none is a tuple or None -/
def SortableT (ds : List PyData) : Prop := (∀ d ∈ ds, ∃ xs, d = .tuple xs) ∨ ∀ d ∈ ds, d ≠ .none ∧ ∀ xs, d ≠ .tuple xs
theorem sortsAt_any {vs : List Value} {ds : List PyData} (e : EachIs (fun v d => ∃ as, Reads s.heap v d as) vs ds) (hal : AllAlike ds) (hk : SortableT ds) (hu : ∀ d, d ∈ ds → A.units + d.depth < cLine) : SortsAt prog w A s (dataKind s.heap ds) vs := by
  rcases hk with ht | hn
  · by_cases hall : ∀ d, d ∈ ds → ∃ x r, d = .tuple (x :: r)
    · exact SortsAt.data e hal (.inl hall) hu
    have room : ∀ {d d' : PyData}, d ∈ ds → A.units + min d.depth d'.depth < cLine := fun {d d'} hd => Nat.lt_of_le_of_lt (Nat.add_le_add_left (Nat.min_le_left _ _) _) (hu d hd)
    obtain ⟨fs, f1, f2, f3, f4, f5⟩ := tup_firsts (prog := prog) (w := w) e ht
    have hkeys : ∀ v, v ∈ vs → ∃ a, (dataKind s.heap ds).keyOf v = some a := fun v hv => by
      obtain ⟨d, hd, as, r⟩ := e.left v hv
      exact ⟨_, dataKind_some hal hd r⟩
    have hsome : ∃ i : Nat, ds[i]? = some (PyData.tuple []) := by
      apply Classical.byContradiction
      intro no
      refine hall fun d hd => ?_
      obtain ⟨xs, rfl⟩ := ht d hd
      cases xs with
      | cons x r => exact ⟨x, r, rfl⟩
      | nil =>
        obtain ⟨i, hi, ei⟩ := List.mem_iff_getElem.mp hd
        exact absurd ⟨i, by rw [List.getElem?_eq_getElem hi, ei]⟩ no
    obtain ⟨i0, hi0⟩ := hsome
    have nall : (fs.toArray.all fun x => x.isSome) = false := by
      cases q : (fs.toArray.all fun x => x.isSome) with
      | false => rfl
      | true =>
        rw [List.all_toArray, List.all_eq_true] at q
        have := q none (List.mem_of_getElem? (f3 i0 hi0))
        cases this
    have kind : ∀ (E : Value → Shared → Prop) {Q : SortKind → Shared → Prop}, 2 ≤ vs.length → Q (if (fs[0]?.bind id).isSome then general' else oneType') s → wpAny (model prog w) A (keyKind' vs.toArray) Q E s := fun E Q h2 hq => by
      rw [kat_kind_eq, List.mapM_toArray, map_eq_pure_bind]
      refine wpAny_bind (wpAny_bind (f5 _ _ _ (wpAny_pure ?_)))
      rw [if_neg (by rw [nall]; exact Bool.false_ne_true)]
      have e0 : (fs.toArray[0]?.bind id) = (fs[0]?.bind id) := by simp
      rw [e0]
      cases q : (fs[0]?.bind id).isSome with
      | true =>
        rw [q] at hq
        exact wpAny_pure hq
      | false =>
        rw [q] at hq
        rw [if_neg Bool.false_ne_true]
        rw [oneTypeOnly'_eq, List.mapM_toArray, map_eq_pure_bind]
        refine wpAny_bind (wpAny_bind (wpAny_bind (kas_mapM (r := Value.type "tuple") _ (fun v hv Q' hq' => (f4 v hv).here hq') (wpAny_pure ?_))))
        obtain ⟨v₁, rest, rfl⟩ : ∃ v₁ rest, vs = v₁ :: rest := by
          cases vs with
          | nil => simp at h2
          | cons a b => exact ⟨a, b, rfl⟩
        have hT : ((List.map (fun _ => Value.type "tuple") (v₁ :: rest)).toArray.all fun x => x == Value.type "tuple") = true := by
          simp only [List.all_toArray, List.all_map, List.all_eq_true]
          intro _ _
          exact beq_self_eq_true _
        have h0 : (List.map (fun _ => Value.type "tuple") (v₁ :: rest)).toArray[0]? = some (Value.type "tuple") := by simp
        rw [h0]
        simp only [hT, if_true]
        exact wpAny_pure (wpAny_pure hq)
    refine ⟨hkeys, if (fs[0]?.bind id).isSome then general' else oneType', ?_, fun h2 E Q hq => kind E h2 hq⟩
    intro E x y a b Q ha hb hq
    obtain ⟨d, as, hd, ra, rfl⟩ := dataKind_inv ha
    obtain ⟨d', as', hd', rb, rfl⟩ := dataKind_inv hb
    obtain ⟨xs, rfl⟩ := ht d hd
    obtain ⟨ys, rfl⟩ := ht d' hd'
    have hal2 := hal _ hd _ hd'
    cases q : (fs[0]?.bind id).isSome with
    | true =>
      show wpAny _ _ (keyLt' general' x y) _ _ _
      exact oneLt_alike (f := false) (fun h => nomatch h) ra rb hal2 (fun h => nomatch h) (room hd) hq
    | false =>
      show wpAny _ _ (keyLt' oneType' x y) _ _ _
      rw [keyLt'_oneType]
      exact one_tup ra rb hal2 (room hd) hq
  · exact SortsAt.data e hal (.inr hn) hu
end
end DL

/-! DL9 -/
/-! DL9: sorted, index, join, gcd, min, max; changes of owned lists. -/
namespace DL
open PySem PySem.Spec PyProof.Rows L2
/-! ### sorted -/
section
open PySem.W
variable {prog : Program} {w : World} {A : Around} {E : Value → Shared → Prop} {s : Shared} {β : Type} {enc' : β → PyData} {R : Value → β → Prop}
theorem sorted_coll {a : Addr} {Q : Value → Shared → Prop}
    (hcol : ∀ Q' : List Value → Shared → Prop, (∀ (s1 : Shared) (vs : List Value) (bs : List β), (∀ b o, s.heap.get? b = some o → s1.heap.get? b = some o) → s1.gens = s.gens → s1.os = s.os → s.heap.objs.size ≤ s1.heap.objs.size →
      EachIs R vs bs → EachIs (fun v b => ∃ as, Reads s1.heap v (enc' b) as) vs bs → AllAlike (bs.map enc') → SortableT (bs.map enc') → bs.length ≤ sizeLine → (∀ b, b ∈ bs → A.units + 2 + (enc' b).depth < cLine) →
      (∀ (out : List Value) (p : Addr) (c : Nat) (s' : Shared), (∀ b o, s.heap.get? b = some o → s'.heap.get? b = some o) → s'.gens = s.gens → s'.os = s.os → s.heap.objs.size ≤ p → s'.heap.get? p = some (seqObj "list" out.toArray c) → out.length = bs.length → EachIs R out (bs.mergeSort (dataLe false enc')) → Q (.ref p) s') → Q' vs s1) → wpAny (model prog w) A.in1 (collect (.ref a)) Q' E s) :
    wpAny (model prog w) A (call (.builtin "sorted") [.ref a]) Q E s := by
  refine Calls.call_function_entry kind_sorted plain_sorted entry_sorted (args_sorted1 _) ?_
  unfold Builtin.«sorted»
  refine wpAny_bind (m := checkCount "sorted" 1 1 _) (wpAny_pure ?_)
  refine wpAny_bind (hcol _ fun s1 vs bs k1 g1 o1 z1 e er hal hk hL hu fin => ?_)
  have hvl : vs.length ≤ sizeLine := by rw [e.length]; exact hL
  refine wpAny_bind (wpAny_newList ?_ hvl)
  have hoL : (s1.heap.push (seqObj "list" vs.toArray 0)).get? s1.heap.objs.size = some (seqObj "list" vs.toArray 0) := Heap.get?_push_size _ rfl
  have keep2 : ∀ b o, s1.heap.get? b = some o → (sortingHeap (s1.heap.push (seqObj "list" vs.toArray 0)) s1.heap.objs.size vs).get? b = some o := fun b o q =>
    sortingHeap_old (Nat.ne_of_lt (Heap.lt_size q)) (Heap.get?_push_of_some _ q)
  have er' : EachIs (fun v b => ∃ as, Reads (sortingHeap (s1.heap.push (seqObj "list" vs.toArray 0)) s1.heap.objs.size vs) v (enc' b) as) vs bs := er.mono fun _ _ ⟨as, r⟩ => ⟨as, PyProof.Rows.Reads.keeps keep2 r⟩
  have S : SortsAt prog w A.in1.in1 { s1 with heap := sortingHeap (s1.heap.push (seqObj "list" vs.toArray 0)) s1.heap.objs.size vs } _ vs := sortsAt_any (s := { s1 with heap := sortingHeap (s1.heap.push (seqObj "list" vs.toArray 0)) s1.heap.objs.size vs }) (each_map (R := fun v d => ∃ as, Reads (sortingHeap (s1.heap.push (seqObj "list" vs.toArray 0)) s1.heap.objs.size vs) v d as) enc' er') hal hk (bound_map hu)
  refine wpAny_bind (wpAny_holding (wpAny_call_entry_kw slot_list_sort ⟨_, hoL, rfl⟩ entry_list_sort ?body (args_list_sort _)))
  case body =>
    show wpAny (model prog w) A.in1.in1 (Builtin.«list.sort» ⟨[.ref s1.heap.objs.size], []⟩) _ _ _
    refine list_sort_vals (s := { s1 with heap := s1.heap.push (seqObj "list" vs.toArray 0) }) hoL S hvl ⟨_, rfl, ?_⟩
    obtain ⟨c, hc⟩ := sortedHeap_at (vs := vs) (out := (sortVals (dataKind (sortingHeap (s1.heap.push (seqObj "list" vs.toArray 0)) s1.heap.objs.size vs) (bs.map enc')) false vs vs).toArray) hoL
    refine wpAny_pure ⟨_, rfl, fin (sortVals (dataKind (sortingHeap (s1.heap.push (seqObj "list" vs.toArray 0)) s1.heap.objs.size vs) (bs.map enc')) false vs vs) s1.heap.objs.size c _ (fun b u q => ?_) g1 o1 z1 hc ?_ ?_⟩
    · have q1 := k1 b u q
      have hlt := Heap.lt_size q1
      show (sortedHeap (s1.heap.push (seqObj "list" vs.toArray 0)) s1.heap.objs.size vs _).get? b = some u
      rw [sortedHeap_old (Nat.ne_of_lt hlt) (by rw [size_push']; exact Nat.lt_succ_of_lt hlt)]
      exact Heap.get?_push_of_some _ q1
    · rw [sortVals_length false rfl]; exact e.length
    · exact sortVals_data false e er' hal
end
/-! on data -/
def leD (x y : D) : Bool := PySem.W.dataLe false enc x y
def leP (x y : V × D) : Bool := PySem.W.dataLe false (fun p : V × D => enc p.2) x y
theorem le_lt (x y : D) : leD x y = !dltv y x := rfl
/-- they can be sorted -/
def sortOk (xs : List D) : Bool := xs.all (fun x => xs.all fun y => lk x y) && (xs.all (fun x => match x with | .tup _ => true | _ => false) || xs.all (fun x => match x with | .tup _ => false | .non => false | .ref _ => false | .ty _ => false | .exc _ _ _ => false | .clo _ _ => false | .dct _ _ => false | _ => true)) && xs.all (fun x => lv 20 x)
theorem sortOk_a {xs : List D} (h : sortOk xs = true) : PySem.W.AllAlike (xs.map enc) ∧ SortableT (xs.map enc) ∧ ∀ x ∈ xs, lv 20 x = true := by
  unfold sortOk at h
  rw [Bool.and_eq_true, Bool.and_eq_true, Bool.or_eq_true] at h
  obtain ⟨⟨h1, h2⟩, h3⟩ := h
  rw [List.all_eq_true] at h1 h3
  refine ⟨fun d hd d' hd' => ?_, ?_, h3⟩
  · obtain ⟨x, hx, rfl⟩ := List.mem_map.mp hd
    obtain ⟨y, hy, rfl⟩ := List.mem_map.mp hd'
    exact List.all_eq_true.mp (h1 x hx) y hy
  · rcases h2 with h2 | h2
    · rw [List.all_eq_true] at h2
      refine .inl fun d hd => ?_
      obtain ⟨x, hx, rfl⟩ := List.mem_map.mp hd
      have := h2 x hx
      cases x with
      | tup l => exact ⟨_, rfl⟩
      | _ => cases this
    · rw [List.all_eq_true] at h2
      refine .inr fun d hd => ?_
      obtain ⟨x, hx, rfl⟩ := List.mem_map.mp hd
      have := h2 x hx
      cases x <;> first | (cases this; done) | exact ⟨fun e => (by cases e), fun _ e => (by cases e)⟩
@[simp] def dSorted : DF1
  | .tup xs => fun P => sortOk xs = true ∧ P (xs.mergeSort leD)
  | .lst xs => fun P => sortOk xs = true ∧ P (xs.mergeSort leD)
  | _ => fun _ => False
section
variable {X : Cx} {J : Jst}
theorem each_zip {K : PySem.W.Frag} {F : Hp} : ∀ {vs : List V} {ds : List D} {us : List Value}, RpAll K F vs ds → Vals vs us → PySem.W.EachIs (fun u (p : V × D) => RelV p.1 u ∧ Rp K F p.1 p.2) us (vs.zip ds)
  | [], [], us, .nil, r => by cases r; exact .nil
  | v :: vs, d :: ds, us, .cons a b, r => by cases r with | cons r1 r2 => exact .cons ⟨r1, a⟩ (each_zip b r2)
theorem zip_snd {vs : List V} {ds : List D} (h : vs.length = ds.length) : (vs.zip ds).map (·.2) = ds := List.map_snd_zip (Nat.le_of_eq h.symm)
theorem sort_pairs {vs : List V} {ds : List D} (h : vs.length = ds.length) : ((vs.zip ds).mergeSort leP).map (·.2) = ds.mergeSort leD := by
  rw [List.map_mergeSort (r := leP) (s := leD) (f := fun q : V × D => q.2) fun a _ b _ => rfl, zip_snd h]
theorem each_split {K : PySem.W.Frag} {F : Hp} : ∀ {us : List Value} {ps : List (V × D)}, PySem.W.EachIs (fun u (p : V × D) => RelV p.1 u ∧ Rp K F p.1 p.2) us ps → Vals (ps.map (·.1)) us ∧ RpAll K F (ps.map (·.1)) (ps.map (·.2))
  | _, _, .nil => ⟨.nil, .nil⟩
  | _, _, .cons ⟨a, b⟩ r => ⟨.cons a (each_split r).1, .cons b (each_split r).2⟩
theorem each_reads {pins : List (Addr × Obj)} {σ : L2.St} {H : Hp} {s : Shared} {K : PySem.W.Frag} (I : Inv X pins σ H s) : ∀ {us : List Value} {ps : List (V × D)}, PySem.W.EachIs (fun u (p : V × D) => RelV p.1 u ∧ Rp X.K H p.1 p.2) us ps → (∀ p ∈ ps, lv 20 p.2 = true) → PySem.W.EachIs (fun u (p : V × D) => ∃ as, Reads s.heap u (enc p.2) as) us ps
  | _, _, .nil, _ => .nil
  | _, _, .cons ⟨a, b⟩ r, h => .cons (Dp.reads I _ _ _ (Rp.dp b (h _ List.mem_cons_self)) a) (each_reads (K := K) I r fun p hp => h p (List.mem_cons_of_mem _ hp))
theorem mono_each {K : PySem.W.Frag} {F H : Hp} (h : Sub F H) {us : List Value} {ps : List (V × D)} (e : PySem.W.EachIs (fun u (p : V × D) => RelV p.1 u ∧ Rp K F p.1 p.2) us ps) : PySem.W.EachIs (fun u (p : V × D) => RelV p.1 u ∧ Rp K H p.1 p.2) us ps :=
  e.mono fun _ _ ⟨a, b⟩ => ⟨a, b.mono h⟩
theorem coll_keep {h : Heap} {vs : List Value} : ∀ b o, h.get? b = some o → ((h.push (seqObj "list" #[] 0)).update h.objs.size (Obj.mapSeq (· ++ vs.toArray))).get? b = some o := fun b o q => by
  rw [Heap.get?_update_ne _ _ _ _ (Nat.ne_of_lt (Heap.lt_size q))]
  exact Heap.get?_push_of_some _ q
theorem coll_size {h : Heap} {vs : List Value} : h.objs.size ≤ ((h.push (seqObj "list" #[] 0)).update h.objs.size (Obj.mapSeq (· ++ vs.toArray))).objs.size := by
  rw [Heap.size_update, size_push']
  exact Nat.le_succ _
theorem c_sorted (hu : X.A.units + 100 < cLine) : Cf1 X J (.builtin "sorted") dSorted := by
  have main : ∀ {J : Jst} {F H : Hp} {a : Addr} {vs : List V} {ds : List D} {P : List D → Prop} {Q : VK}, BaseOk J F H → RpAll X.K F vs ds → vs.length ≤ sizeLine → sortOk ds = true → P (ds.mergeSort leD) → (∀ ds, P ds → ∀ a F' H', Gr J F H F' H' → H a = none → OwnAt X.K J F' H' a ds → Q (.ref a) H') →
      ∀ pins s σ us, Inv X pins σ H s → Vals vs us → (∀ (E : Value → Shared → Prop) (Q' : List Value → Shared → Prop), (∀ h', (∀ b o, s.heap.get? b = some o → h'.get? b = some o) → s.heap.objs.size ≤ h'.objs.size → Q' us { s with heap := h' }) → wpAny (model X.prog X.w) X.A.in1 (collect (.ref a)) Q' E s) →
      wpAny (model X.prog X.w) X.A (call (.builtin "sorted") [.ref a]) (fun u s' => EP X pins σ Q u s') X.xe s := by
    intro J F H a vs ds P Q b r l ok p k pins s σ us I rs hcol
    obtain ⟨o1, o2, o3⟩ := sortOk_a ok
    have rl : vs.length = ds.length := r.length
    have o3' : ∀ q ∈ vs.zip ds, lv 20 q.2 = true := fun q hq => o3 _ (List.of_mem_zip hq).2
    have em : (vs.zip ds).map (fun q => enc q.2) = ds.map enc := by
      have e1 : (vs.zip ds).map (fun q => enc q.2) = ((vs.zip ds).map (·.2)).map enc := by rw [List.map_map]; rfl
      rw [e1, zip_snd rl]
    refine sorted_coll (R := fun u (q : V × D) => RelV q.1 u ∧ Rp X.K F q.1 q.2) (enc' := fun q => enc q.2) fun Q' hQ' => hcol _ Q' fun h' kp hz => ?_
    have I1 : Inv X pins σ H { s with heap := h' } := I.kept (t' := s.toks) kp
    refine hQ' { s with heap := h' } us (vs.zip ds) kp rfl rfl hz (each_zip r rs) (each_reads (K := X.K) I1 (mono_each b.fh (each_zip r rs)) o3') (by rw [em]; exact o1) (by rw [em]; exact o2) (by rw [List.length_zip, ← rl, Nat.min_self]; exact l) (fun q hq => ?_) ?_
    · have := (enc_lv (o3' q hq)).2
      show X.A.units + 2 + (enc q.2).depth < cLine
      omega
    · intro out q c s' k' g' os' hq hc hlen e
      obtain ⟨e1, e2⟩ := each_split e
      have sp : ((vs.zip ds).mergeSort leP).map (·.2) = ds.mergeSort leD := sort_pairs rl
      have e2' : RpAll X.K F (((vs.zip ds).mergeSort leP).map (·.1)) (ds.mergeSort leD) := sp ▸ e2
      have hlen' : (((vs.zip ds).mergeSort leP).map (·.1)).length ≤ sizeLine := by rw [List.length_map, List.length_mergeSort, List.length_zip, ← rl, Nat.min_self]; exact l
      have hn : H q = none := I.hok.fresh hq
      have Jv : Inv X pins σ (upd H q (.lst (((vs.zip ds).mergeSort leP).map (·.1)))) { s with heap := s'.heap, gens := s'.gens, drawn := s'.drawn, toks := s'.toks } :=
        I.call (ch := []) (Un.laid k' hq hn) (I.hok.laid k' hq ⟨hlen', out, c, e1, hc⟩) (by rw [g']; exact I.bare) (fun _ z => nomatch z)
      have es : s' = { s with heap := s'.heap, gens := s'.gens, drawn := s'.drawn, toks := s'.toks } := by
        cases s'
        cases s
        cases os'
        rfl
      rw [es]
      exact ⟨.ref q, _, Jv, rfl, k _ p q F _ (Gr.own b hn _) hn (own_new b hn hlen' e2')⟩
  intro j F H x dx P Q b rx h k
  cases dx with
  | tup xs =>
    obtain ⟨a, vs, rfl, t, l, r⟩ := rx.tup'
    intro pins s σ us I rs
    obtain ⟨u, rfl, ru⟩ := vals1 rs
    cases ru
    obtain ⟨its, rv, pl, hz⟩ := I.tuple (b.fh.seqT t.sq)
    have hlen := rv.length
    refine main b r l h.1 h.2 k pins s σ _ I rv fun E Q' hQ' => collect_tup pl ?_ (show its.length ≤ sizeLine by omega)
    exact hQ' _ coll_keep coll_size
  | lst xs =>
    obtain ⟨a, vs, rfl, t, l, r⟩ := rx.lst_inv b
    intro pins s σ us I rs
    obtain ⟨u, rfl, ru⟩ := vals1 rs
    cases ru
    obtain ⟨its, rv, pl, hz⟩ := I.list t
    have hlen := rv.length
    refine main b r l h.1 h.2 k pins s σ _ I rv fun E Q' hQ' => collect_list pl.isList ?_ (by omega)
    exact hQ' _ coll_keep coll_size
  | _ => exact h.elim
end
end DL

/-! DL10 -/
/-! DL10: expressions that change an owned list; while; index, join, gcd, min, max. -/
namespace DL
open PySem PySem.Spec PyProof.Rows L2
/-! ### an owned list is written -/
theorem SB.ownAt {K : PySem.W.Frag} {B : Ent} {j : JS} {F H : Hp} {σ : L2.St} {ρ : List SD} {i : Nat} {ds : List D} (s : SB K B j F H σ ρ) (e : slot ρ i = .own ds) : ∃ a, σ[i]? = some (some (.ref a)) ∧ OwnAt K (B.J.at j) F H a ds ∧ B.H0 a = none := by
  obtain ⟨a, e1, o⟩ := s.owns i ds e
  exact ⟨a, e1, o, s.fr i ds a e e1⟩
theorem set_same {α : Type} : ∀ (l : List α) (i : Nat) (x : α), l[i]? = some x → l.set i x = l
  | [], _, _, h => by cases h
  | _ :: _, 0, _, h => by cases h; rfl
  | y :: r, i + 1, x, h => by rw [List.set_cons_succ, set_same r i x h]
theorem SR.others {K : PySem.W.Frag} {J : Jst} {F H : Hp} {σ : L2.St} {ρ : List SD} {a : Addr} {o : HO} {i : Nat} {ds : List D} (s : SR K J F H σ ρ) (e : slot ρ i = .own ds) (ea : σ[i]? = some (some (.ref a))) (b : BaseOk J F (upd H a o)) (hi : i < ρ.length) : SR K J F (upd H a o) σ (put ρ i .no) := by
  have n0 := s.own0 i ds a e ea
  refine ⟨b, ⟨s.ent.ff, fun c u h n => by rw [upd_ne (ne_of_none h n0)]; exact s.ent.hh c u h n, s.ent.nw, b⟩, by rw [put_length, s.len], fun j d h => ?_, fun j es h => ?_, fun j k es fs c hjk h1 h2 h3 => ?_, fun j es c h e => ?_⟩
  · by_cases hj : i = j
    · subst hj; rw [slot_put_same _ _ _ hi] at h; cases h
    · rw [slot_put_ne _ _ _ _ hj] at h
      exact s.vals j d h
  · by_cases hj : i = j
    · subst hj; rw [slot_put_same _ _ _ hi] at h; cases h
    · rw [slot_put_ne _ _ _ _ hj] at h
      obtain ⟨c, e1, o1, o2, vs, h3, h4, h5⟩ := s.owns j es h
      have hne : c ≠ a := fun z => by
        subst z
        exact s.dist i j ds es c hj e h ea e1
      exact ⟨c, e1, o1, o2, vs, by rw [upd_ne hne]; exact h3, h4, h5⟩
  · by_cases hj : i = j
    · subst hj; rw [slot_put_same _ _ _ hi] at h1; cases h1
    · by_cases hk : i = k
      · subst hk; rw [slot_put_same _ _ _ hi] at h2; cases h2
      · rw [slot_put_ne _ _ _ _ hj] at h1
        rw [slot_put_ne _ _ _ _ hk] at h2
        exact s.dist j k es fs c hjk h1 h2 h3
  · by_cases hj : i = j
    · subst hj; rw [slot_put_same _ _ _ hi] at h; cases h
    · rw [slot_put_ne _ _ _ _ hj] at h
      exact s.own0 j es c h e
theorem put_put : ∀ (ρ : List SD) (i : Nat) (x y : SD), put (put ρ i x) i y = put ρ i y
  | [], _, _, _ => rfl
  | _ :: _, 0, _, _ => rfl
  | z :: r, i + 1, x, y => congrArg (z :: ·) (put_put r i x y)
theorem _root_.DL.Gt.freezeAny {J : Jst} {j j' : JS} {F H F' H' : Hp} (g : Gt (J.at j) F H j' F' H') {p : Addr} {o : HO} (h0 : H p = none) (h1 : H' p = some o) (f1 : F' p = none) (nj : J.has p = false) : Gt (J.at j) F H j' (L2.upd F' p o) H' := by
  have f0 : F p = none := by
    cases e : F p with
    | none => rfl
    | some u => rw [g.ff p u e] at f1; cases f1
  refine ⟨fun c u h => ?_, g.hh, fun c u h => ?_, fun c u h => ?_, fun c h => ?_, g.base.jk, tb_keep g.base.tb (sub_same (.inl f1)) fun _ _ => rfl⟩
  · rw [upd_ne (ne_of_none h f0)]; exact g.ff c u h
  · by_cases e : c = p
    · subst e; exact .inr h0
    · rw [upd_ne e] at h; exact g.nw c u h
  · by_cases e : c = p
    · subst e; rw [upd_same] at h; rw [h1]; exact h
    · rw [upd_ne e] at h; exact g.base.fh c u h
  · have e : c ≠ p := by
      rintro rfl
      rw [show (J.at j').has c = J.has c from rfl, nj] at h
      cases h
    rw [upd_ne e]; exact g.base.nj c h
theorem slot_lt {ρ : List SD} {i : Nat} {ds : List D} (e : slot ρ i = .own ds) : i < ρ.length := by
  apply Classical.byContradiction
  intro h
  rw [slot_big _ _ (Nat.le_of_not_lt h)] at e
  cases e
theorem SB.upd {K : PySem.W.Frag} {B : Ent} {j : JS} {F H : Hp} {σ : L2.St} {ρ : List SD} {i : Nat} {a : Addr} {ds es : List D} {vs : List V} (s : SB K B j F H σ ρ) (e : slot ρ i = .own ds) (ea : σ[i]? = some (some (.ref a))) (l : vs.length ≤ sizeLine) (r : RpAll K F vs es) : SB K B j F (upd H a (.lst vs)) σ (put ρ i (.own es)) := by
  obtain ⟨a', e1, o, h0⟩ := s.ownAt e
  rw [ea] at e1
  cases e1
  have hi := slot_lt e
  have b := s.base.write o.1 o.2.1 (.lst vs)
  have s1 := s.toSR.others e ea b hi
  have s2 := s1.setOwn (a := a) (ds := es) (i := i) ⟨o.1, o.2.1, vs, upd_same, l, r⟩ (s.own0 i ds a e ea) fun l fs hj hs hq => by
    rw [slot_put_ne _ _ _ _ (Ne.symm hj)] at hs
    exact s.toSR.dist i l ds fs a (Ne.symm hj) e hs ea hq
  rw [set_same _ _ _ ea, put_put] at s2
  refine ⟨s2, fun l fs c hs hc => ?_⟩
  by_cases hj : i = l
  · subst hj
    rw [ea] at hc
    cases hc
    exact h0
  · rw [slot_put_ne _ _ _ _ hj] at hs
    exact s.fr l fs c hs hc
/-! ### an expression that may change what is owned -/
abbrev DM := JS → List SD → (D → JS → List SD → Prop) → Prop
def dM (K : PySem.W.Frag) (B : Ent) (t : DM) : TE := fun σ H Q => ∃ j F ρ P, SB K B j F H σ ρ ∧ Gt (B.J.at B.j0) B.F0 B.H0 j F H ∧ t j ρ P ∧ ∀ d j' ρ', P d j' ρ' → ∀ v F' H', SB K B j' F' H' σ ρ' → Gt (B.J.at B.j0) B.F0 B.H0 j' F' H' → Sub F F' → Rp K F' v d → Q v H'
section
variable {X : Cx} {B : Ent} {pos : Pos}
@[simp] def mE (t : DE) : DM := fun j ρ P => t j ρ fun d j1 => P d j1 ρ
theorem dm_of {e : Expr} {t : DE} (h : PE X e (dE X.K B.J t)) : PE X e (dM X.K B (mE t)) :=
  h.imp fun σ H Q ⟨j, F, ρ, P, s, g, q, k⟩ => ⟨j, F, ρ, _, s.toSR, q, fun d j1 pd v F1 H1 g1 r => k d j1 ρ pd v F1 H1 (s.grow g1) (g.trans g1) g1.ff r⟩
@[simp] def dExprM (t : DM) : DS := fun E j ρ => t j ρ fun _ j1 ρ' => E.nx j1 ρ'
theorem ds_exprM {e : Expr} {t : DM} (h : PE X e (dM X.K B t)) (hs : swapsWith e none pos.line X.env = pure false := by rfl) : PS X (.Expr e pos) (dS X.K B (dExprM t)) :=
  (ps_expr h hs).imp fun D σ H ⟨j, F, ρ, E, s, g, q, k⟩ => ⟨j, F, ρ, _, s, g, q, fun d j1 ρ' pd v F1 H1 s1 g1 u1 r => k.nx j1 σ F1 H1 ρ' s1 g1 u1 pd⟩
@[simp] def dSetM (i : Nat) (t : DM) : DS := fun E j ρ => t j ρ fun d j1 ρ' => E.nx j1 (put ρ' i (.val d))
theorem ds_setM {i : Nat} {x : Str} {e : Expr} {te : DM} {pos' : Pos} (hN : X.N.Nodup) (hi : X.N[i]? = some x) (hx : Loc X.env.scope x) (he : PE X e (dM X.K B te)) (hs : swapsWith e (some (.Name x pos')) pos.line X.env = pure false := by rfl) (hf : X.fn x = true ∨ X.env.scope.names.lookup x = some .local := by first | exact .inl rfl | exact .inr rfl | assumption) :
    PS X (.Assign [.Name x pos'] e pos) (dS X.K B (dSetM i te)) :=
  (ps_set hN hi hx he hs hf).imp fun D σ H ⟨j, F, ρ, E, s, g, q, k⟩ => ⟨j, F, ρ, _, s, g, q, fun d j1 ρ' pd v F1 H1 s1 g1 u1 r => k.nx j1 _ F1 H1 _ (s1.setVal r) g1 u1 pd⟩
@[simp] def dAsgM (te : DM) (g : DG) : DS := fun E j ρ => te j ρ fun d j1 ρ' => g d ρ' (E.nx j1)
theorem ds_asgM {tg e : Expr} {te : DM} {g : DG} {is : List Nat} (he : PE X e (dM X.K B te)) (hg : PG X tg (dGn X.K B is g)) (hs : swapsWithSole [tg] e pos.line X.env = pure false := by rfl) (hw : swappedStores [tg] e X.env = pure none := by rfl)
    (h1 : (assignEach [tg] X.env).map (·.2) = [assign tg X.env] := by rfl) : PS X (.Assign [tg] e pos) (dS X.K B (dAsgM te g)) :=
  (ps_asg he hg hs hw h1).imp fun D σ H ⟨j, F, ρ, E, s, g, q, k⟩ => ⟨j, F, ρ, _, s, g, q, fun d j1 ρ' pd v F1 H1 s1 g1 u1 r => ⟨j1, F1, ρ', d, E.nx j1, s1, g1, r, pd, fun σ' F' H' ρ' _ s' g' gq q' => k.nx j1 σ' F' H' ρ' s' g' (u1.trans gq.ff) q'⟩⟩
@[simp] def dRetM (t : DM) : DS := fun E j ρ => t j ρ fun d j1 _ => E.rt d j1
theorem ds_retM {e : Expr} {t : DM} (h : PE X e (dM X.K B t)) : PS X (.Return (some e) pos) (dS X.K B (dRetM t)) :=
  (ps_ret h).imp fun D σ H ⟨j, F, ρ, E, s, g, q, k⟩ => ⟨j, F, ρ, _, s, g, q, fun d j1 ρ' pd v F1 H1 s1 g1 u1 r => k.rt j1 v F1 H1 d g1 r pd⟩
/-- an owned list is given back -/
@[simp] def dRetO (i : Nat) : DS := fun E j ρ => ∃ ds, slot ρ i = .own ds ∧ E.rt (.lst ds) j
theorem ds_retO {i : Nat} {e : Expr} (h : PE X e (tVar i)) : PS X (.Return (some e) pos) (dS X.K B (dRetO i)) :=
  (ps_ret h).imp fun D σ H ⟨j, F, ρ, E, s, g, ⟨ds, e1, q⟩, k⟩ => by
    obtain ⟨a, e2, ⟨o1, o2, vs, o3, o4, o5⟩, h0⟩ := s.ownAt e1
    have g2 := g.freezeAny h0 o3 o1 o2
    exact ⟨_, e2, k.rt j _ (L2.upd F a (.lst vs)) H (.lst ds) g2 (.lst (.inl (.inl upd_same)) o4 (o5.mono (sub_upd o1))) q⟩
/-! methods of an owned list -/
variable {i : Nat} {x : Str} {e : Expr} {px ap cp : Pos}
@[simp] def mApp (i : Nat) (t : DM) : DM := fun j ρ P => (∃ ds, slot ρ i = .own ds) ∧ t j ρ fun d j1 ρ' => ∃ ds, slot ρ' i = .own ds ∧ ds.length < sizeLine ∧ P .non j1 (put ρ' i (.own (ds ++ [d])))
theorem dm_app {o : Expr} {t : DM} (ho : PE X o (tVar i)) (he : PE X e (dM X.K B t))
    (hbase : attributeBase o "append" X.env (eval o X.env) = eval o X.env := by rfl)
    (hfew : ((backTo cp (starEach [e] X.env)).all (fun x => !x.1) && (backToKw cp (keywordEach [] X.env)).all (fun x => x.1.isSome)
      && decide (([e] : List Expr).length + ([] : List Keyword).length + (if ([] : List Keyword).isEmpty then 0 else 1) < 30)) = true := by rfl)
    (hline : (ap.endLine == cp.line) = true := by rfl) (hs : starEach [e] X.env = (false, eval e X.env) :: starEach [] X.env := by rfl) (hplain : (backTo cp (starEach [] X.env)).any (·.1) = false := by rfl) :
    PE X (.Call (.Attribute o "append" ap) [e] [] cp) (dM X.K B (mApp i t)) :=
  (pe_bm PySem.F.plainAttrs_list PySem.F.slot_list_append PySem.F.type_list_append (fun pins s σ H x xs v us Q I r1 r2 q => mt_append pins s σ H x xs v us Q I r1 r2 q) ho (pa_cons he pa_nil hs) hbase hfew hline hs hplain).imp fun σ H Q ⟨j, F, ρ, P, s, g, ⟨⟨ds0, e0⟩, q⟩, k⟩ => by
    obtain ⟨a, e2, ⟨o1, o2, vs, o3, o4, o5⟩, h0⟩ := s.ownAt e0
    refine ⟨.ref a, e2, .inl ⟨rfl, vs, .inl (.inl o3)⟩, j, F, ρ, _, s, g, q, fun d j1 ρ' ⟨ds, e3, l, pd⟩ v F1 H1 s1 g1 u1 r => ?_⟩
    obtain ⟨a', e4, ⟨p1, p2, ws, p3, p4, p5⟩, h1⟩ := s1.ownAt e3
    rw [e2] at e4
    cases e4
    have hl : ws.length < sizeLine := by rw [p5.length]; exact l
    exact ⟨a, ws, v, rfl, rfl, p3, hl, k .non j1 _ pd .non F1 _ (s1.upd e3 e2 (by rw [List.length_append]; exact hl) (p5.append (.cons r .nil))) (g1.wnew h1 p1 p2 _) u1 .non⟩

@[simp] def mExt (i : Nat) (t : DL') : DM := fun j ρ P => ∃ ds, slot ρ i = .own ds ∧ t j ρ fun es j1 => ds.length + es.length ≤ sizeLine ∧ P .non j1 (put ρ i (.own (ds ++ es)))
theorem dm_ext {o : Expr} {t : DL'} (ho : PE X o (tVar i)) (he : PE X e (dF X.K B.J t))
    (hbase : attributeBase o "extend" X.env (eval o X.env) = eval o X.env := by rfl)
    (hfew : ((backTo cp (starEach [e] X.env)).all (fun x => !x.1) && (backToKw cp (keywordEach [] X.env)).all (fun x => x.1.isSome)
      && decide (([e] : List Expr).length + ([] : List Keyword).length + (if ([] : List Keyword).isEmpty then 0 else 1) < 30)) = true := by rfl)
    (hline : (ap.endLine == cp.line) = true := by rfl) (hs : starEach [e] X.env = (false, eval e X.env) :: starEach [] X.env := by rfl) (hplain : (backTo cp (starEach [] X.env)).any (·.1) = false := by rfl) :
    PE X (.Call (.Attribute o "extend" ap) [e] [] cp) (dM X.K B (mExt i t)) :=
  (pe_bm PySem.F.plainAttrs_list PySem.F.slot_list_extend PySem.F.type_list_extend (fun pins s σ H x xs v us Q I r1 r2 q => mt_extend pins s σ H x xs v us Q I r1 r2 q) ho (pa_cons he pa_nil hs) hbase hfew hline hs hplain).imp fun σ H Q ⟨j, F, ρ, P, s, g, ⟨ds, e0, q⟩, k⟩ => by
    obtain ⟨a, e2, ⟨o1, o2, vs, o3, o4, o5⟩, h0⟩ := s.ownAt e0
    refine ⟨.ref a, e2, .inl ⟨rfl, vs, .inl (.inl o3)⟩, j, F, ρ, _, s.toSR, q, fun es j1 ⟨l, pd⟩ b F1 H1 g1 nb ⟨q1, q2, ws, q3, q4, q5⟩ => ?_⟩
    have s1 := s.grow g1
    obtain ⟨a', e4, ⟨p1, p2, us, p3, p4, p5⟩, h1⟩ := s1.ownAt e0
    rw [e2] at e4
    cases e4
    have hl : us.length + ws.length ≤ sizeLine := by rw [p5.length, q5.length]; exact l
    exact ⟨a, b, us, ws, rfl, rfl, p3, q3, hl, k .non j1 _ pd .non F1 _ (s1.upd e0 e2 (by rw [List.length_append]; exact hl) (p5.append q5)) ((g.trans g1).wnew h1 p1 p2 _) g1.ff .non⟩
@[simp] def mPop (i : Nat) : DM := fun j ρ P => ∃ ds d, slot ρ i = .own ds ∧ ds[ds.length - 1]? = some d ∧ P d j (put ρ i (.own ds.dropLast))
theorem RpAll.dropLast {K : PySem.W.Frag} {F : Hp} : ∀ {vs : List V} {ds : List D}, RpAll K F vs ds → RpAll K F vs.dropLast ds.dropLast
  | _, _, .nil => .nil
  | _, _, .cons _ .nil => .nil
  | _, _, .cons r (.cons r2 t) => .cons r (RpAll.dropLast (.cons r2 t))
theorem RpAll.eraseIdx {K : PySem.W.Frag} {F : Hp} : ∀ {vs : List V} {ds : List D} (k : Nat), RpAll K F vs ds → RpAll K F (vs.eraseIdx k) (ds.eraseIdx k)
  | _, _, _, .nil => .nil
  | _, _, 0, .cons _ t => t
  | _, _, k + 1, .cons r t => .cons r (RpAll.eraseIdx k t)
theorem RpAll.get' {K : PySem.W.Frag} {F : Hp} : ∀ {vs : List V} {ds : List D} {k : Nat} {d : D}, RpAll K F vs ds → ds[k]? = some d → ∃ v, vs[k]? = some v ∧ Rp K F v d
  | _, _, _, _, .nil, h => by cases h
  | _, _, 0, _, .cons r _, h => by cases h; exact ⟨_, rfl, r⟩
  | _, _, k + 1, _, .cons _ t, h => RpAll.get' (k := k) t h
theorem dm_pop {o : Expr} (ho : PE X o (tVar i)) (hbase : attributeBase o "pop" X.env (eval o X.env) = eval o X.env := by rfl) (hline : (ap.endLine == cp.line) = true := by rfl) :
    PE X (.Call (.Attribute o "pop" ap) [] [] cp) (dM X.K B (mPop i)) :=
  (pe_bm0 PySem.F.plainAttrs_list PySem.F.slot_list_pop PySem.F.type_list_pop (fun pins s σ H x xs v us Q I r1 r2 q => mt_pop pins s σ H x xs v us Q I r1 r2 q) ho hbase hline).imp fun σ H Q ⟨j, F, ρ, P, s, g, ⟨ds, d, e0, ed, q⟩, k⟩ => by
    obtain ⟨a, e2, ⟨o1, o2, vs, o3, o4, o5⟩, h0⟩ := s.ownAt e0
    obtain ⟨v, ev, rv⟩ := RpAll.get' o5 ed
    exact ⟨.ref a, e2, .inl ⟨rfl, vs, .inl (.inl o3)⟩, a, vs, v, rfl, rfl, o3, by rw [o5.length]; exact ev, k d j _ q v F _ (s.upd e0 e2 (by rw [List.length_dropLast]; omega) o5.dropLast) (g.wnew h0 o1 o2 _) (Sub.refl _) rv⟩
@[simp] def mPopAt (i : Nat) (t : DM) : DM := fun j ρ P => (∃ ds, slot ρ i = .own ds) ∧ t j ρ fun d j1 ρ' => ∃ (ds : List D) (l : Nat) (y : D), slot ρ' i = .own ds ∧ d = .int l ∧ ds[l]? = some y ∧ P y j1 (put ρ' i (.own (ds.eraseIdx l)))
theorem dm_popAt {o : Expr} {t : DM} (ho : PE X o (tVar i)) (he : PE X e (dM X.K B t))
    (hbase : attributeBase o "pop" X.env (eval o X.env) = eval o X.env := by rfl)
    (hfew : ((backTo cp (starEach [e] X.env)).all (fun x => !x.1) && (backToKw cp (keywordEach [] X.env)).all (fun x => x.1.isSome)
      && decide (([e] : List Expr).length + ([] : List Keyword).length + (if ([] : List Keyword).isEmpty then 0 else 1) < 30)) = true := by rfl)
    (hline : (ap.endLine == cp.line) = true := by rfl) (hs : starEach [e] X.env = (false, eval e X.env) :: starEach [] X.env := by rfl) (hplain : (backTo cp (starEach [] X.env)).any (·.1) = false := by rfl) :
    PE X (.Call (.Attribute o "pop" ap) [e] [] cp) (dM X.K B (mPopAt i t)) :=
  (pe_bm PySem.F.plainAttrs_list PySem.F.slot_list_pop PySem.F.type_list_pop (fun pins s σ H x xs v us Q I r1 r2 q => mt_popAt pins s σ H x xs v us Q I r1 r2 q) ho (pa_cons he pa_nil hs) hbase hfew hline hs hplain).imp fun σ H Q ⟨jj, F, ρ, P, s, g, ⟨⟨ds0, e0⟩, q⟩, k⟩ => by
    obtain ⟨a, e2, ⟨o1, o2, vs, o3, o4, o5⟩, h0⟩ := s.ownAt e0
    refine ⟨.ref a, e2, .inl ⟨rfl, vs, .inl (.inl o3)⟩, jj, F, ρ, _, s, g, q, fun d j1 ρ' ⟨ds, j, y, e3, ej, ey, pd⟩ v F1 H1 s1 g1 u1 r => ?_⟩
    subst ej
    cases r.int_inv
    obtain ⟨a', e4, ⟨p1, p2, ws, p3, p4, p5⟩, h1⟩ := s1.ownAt e3
    rw [e2] at e4
    cases e4
    obtain ⟨v, ev, rv⟩ := RpAll.get' p5 ey
    have hj : j < ws.length := (List.getElem?_eq_some_iff.mp ev).1
    have hsl := sizeLine_eq
    refine ⟨a, ws, j, j, v, rfl, rfl, p3, by omega, by omega, ?_, ev, k y j1 _ pd v F1 _ (s1.upd e3 e2 (by have := len_erase ws j; omega) (p5.eraseIdx j)) (g1.wnew h1 p1 p2 _) u1 rv⟩
    unfold seqIndex?
    simp
    omega
/-! while -/
def dWhile (c : DT) (tb : DS) : DS := fun E j ρ => ∃ W : Nat → JS → List SD → Prop, (∃ m, W m j ρ) ∧ ∀ m j ρ, W m j ρ → c j ρ fun b j1 => if b = true then tb { E with nx := fun j' ρ' => ∃ m', m' < m ∧ W m' j' ρ', ct := fun j' ρ' => ∃ m', m' < m ∧ W m' j' ρ', bk := E.nx } j1 ρ else E.nx j1 ρ
theorem ds_while {c : Expr} {body : List Stmt} {tc : DT} {tb : DS} (hp : PassesOwn (model X.prog X.w) X.A X.env X.xe) (hc : PT X c (dT X.K B.J tc)) (hb : PSs X body (dS X.K B tb)) : PS X (.While c body [] pos) (dS X.K B (dWhile tc tb)) :=
  (ps_while hp hc hb).imp fun D σ H ⟨j, F, ρ, E, s, g, ⟨W, ⟨m0, w0⟩, step⟩, k⟩ => by
    refine ⟨fun m σ' H' => ∃ j' F' ρ', SB X.K B j' F' H' σ' ρ' ∧ Gt (B.J.at B.j0) B.F0 B.H0 j' F' H' ∧ Sub F F' ∧ W m j' ρ', ⟨m0, j, F, ρ, s, g, Sub.refl _, w0⟩, ?_⟩
    rintro m σ1 H1 ⟨j1, F1, ρ1, s1, g1, u1, w1⟩
    refine ⟨j1, F1, ρ1, _, s1.toSR, step m j1 ρ1 w1, fun b j2 pb F2 H2 g2 => ?_⟩
    cases b with
    | true =>
      rw [if_pos rfl] at pb ⊢
      refine ⟨fun σ' H' => ∃ m', m' < m ∧ ∃ j' F' ρ', SB X.K B j' F' H' σ' ρ' ∧ Gt (B.J.at B.j0) B.F0 B.H0 j' F' H' ∧ Sub F F' ∧ W m' j' ρ', fun _ _ h => h, j2, F2, ρ1, _, s1.grow g2, g1.trans g2, pb, ⟨?_, k.rt, ?_, ?_⟩⟩
      · exact fun j3 σ3 F3 H3 ρ3 s3 g3 u3 ⟨m', l, w⟩ => ⟨m', l, j3, F3, ρ3, s3, g3, (u1.trans g2.ff).trans u3, w⟩
      · exact fun j3 σ3 F3 H3 ρ3 s3 g3 u3 q3 => k.nx j3 σ3 F3 H3 ρ3 s3 g3 ((u1.trans g2.ff).trans u3) q3
      · exact fun j3 σ3 F3 H3 ρ3 s3 g3 u3 ⟨m', l, w⟩ => ⟨m', l, j3, F3, ρ3, s3, g3, (u1.trans g2.ff).trans u3, w⟩
    | false =>
      rw [if_neg Bool.false_ne_true] at pb ⊢
      exact k.nx j2 σ1 F2 H2 ρ1 (s1.grow g2) (g1.trans g2) (u1.trans g2.ff) pb

variable {J : Jst}
/-! ### gcd, min, max -/
@[simp] def d2 (f : D → D → (D → Prop) → Prop) (t : DL') : DE := fun j ρ P => t j ρ fun ds j1 => match ds with
  | [x, y] => f x y fun d => P d j1
  | _ => False
@[simp] def oGcd (x y : D) (P : D → Prop) : Prop := match x, y with
  | .int a, .int b => P (.int ((Nat.gcd a.natAbs b.natAbs : Nat) : Int))
  | _, _ => False
theorem de_gcd {x : Str} {p pos : Pos} {a b : Expr} {t : DL'} (hg : Gl X x) (hm : X.mg x = some (.builtin "math.gcd")) (ha : PA X [a, b] (dA X.K J 2 t)) (hdb : (x == ("__debug__" : Str)) = false := by decide)
    (he : starEach [a, b] X.env = (false, eval a X.env) :: starEach [b] X.env := by rfl) (hpl : (backTo pos (starEach [b] X.env)).any (·.1) = false := by rfl) : PE X (.Call (.Name x p) [a, b] [] pos) (dE X.K J (d2 oGcd t)) :=
  (pe_callBfun cr_gcd hg hm ha hdb he hpl).imp fun σ H Q ⟨j, F, ρ, P, s, q, k⟩ => ⟨j, F, ρ, _, s, q, fun ds j1 l pd vs F1 H1 g1 r => by
    match ds, l, r, pd with
    | [x, y], _, .cons r1 (.cons r2 .nil), pd =>
      cases x with
      | int a => cases y with
        | int b =>
          cases r1.int_inv
          cases r2.int_inv
          exact ⟨a, b, rfl, k _ j1 pd _ F1 H1 g1 (.int _)⟩
        | _ => exact pd.elim
      | _ => exact pd.elim⟩
@[simp] def oMin (x y : D) (P : D → Prop) : Prop := match x, y with
  | .int a, .int b => P (.int (if b < a then b else a))
  | _, _ => False
@[simp] def oMax (x y : D) (P : D → Prop) : Prop := match x, y with
  | .int a, .int b => P (.int (if b > a then b else a))
  | _, _ => False
theorem de_min2 {x : Str} {p pos : Pos} {a b : Expr} {t : DL'} (hc : X.calm = true) (hg : Gl X x) (hm : X.mg x = none) (hv : bootBuiltins x = some (.builtin "min")) (ha : PA X [a, b] (dA X.K J 2 t)) (hn : x ≠ "__name__" := by decide) (hdb : (x == ("__debug__" : Str)) = false := by decide)
    (he : starEach [a, b] X.env = (false, eval a X.env) :: starEach [b] X.env := by rfl) (hpl : (backTo pos (starEach [b] X.env)).any (·.1) = false := by rfl) : PE X (.Call (.Name x p) [a, b] [] pos) (dE X.K J (d2 oMin t)) :=
  (pe_callB (call_min2 hc) hg hm hv ha hn hdb he hpl).imp fun σ H Q ⟨j, F, ρ, P, s, q, k⟩ => ⟨j, F, ρ, _, s, q, fun ds j1 l pd vs F1 H1 g1 r => by
    match ds, l, r, pd with
    | [x, y], _, .cons r1 (.cons r2 .nil), pd =>
      cases x with
      | int a => cases y with
        | int b =>
          cases r1.int_inv
          cases r2.int_inv
          exact ⟨a, b, rfl, k _ j1 pd _ F1 H1 g1 (.int _)⟩
        | _ => exact pd.elim
      | _ => exact pd.elim⟩
theorem de_max2 {x : Str} {p pos : Pos} {a b : Expr} {t : DL'} (hc : X.calm = true) (hg : Gl X x) (hm : X.mg x = none) (hv : bootBuiltins x = some (.builtin "max")) (ha : PA X [a, b] (dA X.K J 2 t)) (hn : x ≠ "__name__" := by decide) (hdb : (x == ("__debug__" : Str)) = false := by decide)
    (he : starEach [a, b] X.env = (false, eval a X.env) :: starEach [b] X.env := by rfl) (hpl : (backTo pos (starEach [b] X.env)).any (·.1) = false := by rfl) : PE X (.Call (.Name x p) [a, b] [] pos) (dE X.K J (d2 oMax t)) :=
  (pe_callB (call_max2 hc) hg hm hv ha hn hdb he hpl).imp fun σ H Q ⟨j, F, ρ, P, s, q, k⟩ => ⟨j, F, ρ, _, s, q, fun ds j1 l pd vs F1 H1 g1 r => by
    match ds, l, r, pd with
    | [x, y], _, .cons r1 (.cons r2 .nil), pd =>
      cases x with
      | int a => cases y with
        | int b =>
          cases r1.int_inv
          cases r2.int_inv
          exact ⟨a, b, rfl, k _ j1 pd _ F1 H1 g1 (.int _)⟩
        | _ => exact pd.elim
      | _ => exact pd.elim⟩
/-! ### sep.join(texts) -/
def strsOf : List D → Option (List Str)
  | [] => some []
  | .str s :: r => (strsOf r).map (s :: ·)
  | _ :: _ => none
@[simp] def dJoin (to te : DE) : DE := fun j ρ P => to j ρ fun o j1 => match o with
  | .str a => te j1 ρ fun d j2 => ∃ xs ys, (d = .lst xs ∨ d = .tup xs) ∧ strsOf xs = some ys ∧ (ys.map (·.length)).sum + ys.length * a.length ≤ 16777216 ∧ P (.str (Txt.join a ys)) j2
  | _ => False
theorem strsOf_rp {K : PySem.W.Frag} {F : Hp} : ∀ {xs : List D} {vs : List V} {ys : List Str}, RpAll K F vs xs → strsOf xs = some ys → vs = ys.map V.str
  | [], _, _, .nil, h => by cases h; rfl
  | .str s :: r, _, ys, .cons (.str _) t, h => by
    cases e : strsOf r with
    | none => simp [strsOf, e] at h
    | some zs =>
      simp [strsOf, e] at h
      subst h
      rw [strsOf_rp t e]; rfl
  | .non :: _, _, _, _, h => by cases h
  | .bl _ :: _, _, _, _, h => by cases h
  | .int _ :: _, _, _, _, h => by cases h
  | .tup _ :: _, _, _, _, h => by cases h
  | .lst _ :: _, _, _, _, h => by cases h
  | .ref _ :: _, _, _, _, h => by cases h
  | .ty _ :: _, _, _, _, h => by cases h
theorem de_join {o : Expr} {to te : DE} (ho : PE X o (dE X.K J to)) (he : PE X e (dR X.K J te)) (hs : starEach [e] X.env = [(false, eval e X.env)] := by rfl) (hbase : attributeBase o "join" X.env (eval o X.env) = eval o X.env := by rfl) (hline : (ap.endLine == cp.line) = true := by rfl) :
    PE X (.Call (.Attribute o "join" ap) [e] [] cp) (dE X.K J (dJoin to te)) :=
  (pe_join ho he hs hbase hline).imp fun σ H Q ⟨j, F, ρ, P, s, q, k⟩ => ⟨j, F, ρ, _, s, q, fun d j1 pd v F1 H1 g1 r => by
    cases d with
    | str a =>
      cases r.str_inv
      refine ⟨⟨a, rfl⟩, j1, F1, ρ, _, s.grow g1, pd, fun d2 j2 ⟨xs, ys, h1, h2, h3, p2⟩ v2 F2 H2 g2 r2 => ?_⟩
      have fin := k _ j2 p2 (.str (Txt.join a ys)) F2 H2 (g1.trans g2) (.str _)
      rcases h1 with rfl | rfl
      · obtain ⟨b, vs, rfl, t, l, rr⟩ := r2.lst_inv g2.base
        cases strsOf_rp rr h2
        exact ⟨a, b, ys, rfl, rfl, .inl t, h3, fin⟩
      · obtain ⟨b, vs, rfl, t, l, rr⟩ := r2.tup'
        cases strsOf_rp rr h2
        exact ⟨a, b, ys, rfl, rfl, .inr (g2.base.fh.seqT t.sq), h3, fin⟩
    | _ => exact pd.elim⟩
end
end DL

/-! DL11 -/
/-! DL11: index in a tuple. -/
namespace DL
open PySem PySem.Spec PyProof.Rows L2
section
variable {X : Cx} {J : Jst}
/-! ### t.index(x), texts -/
def tBMT (K : PySem.W.Frag) (r : V → List V → Hp → VK → Prop) (to : TE) (t : TA) : TE := fun σ H Q => to σ H fun x H1 => (∃ a vs, x = .ref a ∧ TupAt K H1 a vs) ∧ t σ H1 fun xs H2 => r x xs H2 Q
theorem tupAt_is {pins : List (Addr × Obj)} {σ : L2.St} {H : Hp} {s : Shared} {a : Addr} {vs : List V} (I : Inv X pins σ H s) (t : TupAt X.K H a vs) : s.TypeIs (.ref a) "tuple" ∧ ∀ b, (Value.ref a) = .ref b → ∃ ob, s.heap.get? b = some ob ∧ ob.dict = none := by
  obtain ⟨its, _, ⟨o, e, c, _⟩, _⟩ := I.tuple t.sq
  refine ⟨⟨o, e, c⟩, fun b eb => ?_⟩
  cases eb
  rcases t with ⟨o', h, d⟩ | ⟨o', _, _, h, _, d, _⟩
  · exact ⟨o', (I.hok a _ h).1, d⟩
  · exact ⟨o', I.kIn a o' h, d⟩
variable {o e : Expr} {es : List Expr} {to : TE} {t : TA} {name : Str} {apos cpos : Pos} {id : String} {r : V → List V → Hp → VK → Prop}
theorem pe_bmT (slot : Slot "tuple" name id) (hty : typeOf (.builtin id) = pure (.type "method_descriptor")) (hm : MtR X id r) (ho : PE X o to) (ha : PA X (e :: es) t)
    (hbase : attributeBase o name X.env (eval o X.env) = eval o X.env := by rfl)
    (hfew : ((backTo cpos (starEach (e :: es) X.env)).all (fun x => !x.1) && (backToKw cpos (keywordEach [] X.env)).all (fun x => x.1.isSome)
      && decide ((e :: es).length + ([] : List Keyword).length + (if ([] : List Keyword).isEmpty then 0 else 1) < 30)) = true := by rfl)
    (hline : (apos.endLine == cpos.line) = true := by rfl) (hs : starEach (e :: es) X.env = (false, eval e X.env) :: starEach es X.env := by rfl) (hplain : (backTo cpos (starEach es X.env)).any (·.1) = false := by rfl) :
    PE X (.Call (.Attribute o name apos) (e :: es) [] cpos) (tBMT X.K r to t) := by
  refine ⟨fun pins s σ H Q I h => ?_⟩
  refine wpAny_Call_method_late hbase hfew hline rfl (thn (ho.run pins s σ H _ I h) fun v s1 ⟨x, H1, I1, r1, ⟨a, vs, ex, ty⟩, q1⟩ => ?_)
  subst ex
  cases r1
  obtain ⟨h1, h2⟩ := tupAt_is I1 ty
  refine ⟨"tuple", id, PySem.F.plainAttrs_tuple, slot, hty, h1, h2, ?_⟩
  have hA := ha.run cpos pins s1 σ H1 _ I1 q1
  rw [hs] at hA ⊢
  refine Calls.callWith_builtin (by show (false || (backTo cpos (starEach es X.env)).any (·.1)) = false; rw [hplain] <;> rfl) (Calls.evalArgs_plain ?_)
  exact thn hA fun us s2 ⟨vs, H2, I2, r2, q2⟩ => hm pins s2 σ H2 (.ref a) vs (.ref a) us Q I2 rfl r2 q2
/-- the first place -/
def firstAt : List Str → Str → Option Nat
  | [], _ => none
  | y :: r, z => if y = z then some 0 else (firstAt r z).map (· + 1)
theorem firstAt_some : ∀ {ys : List Str} {z : Str} {j : Nat}, firstAt ys z = some j → ys[j]? = some z ∧ ∀ m, m < j → ys[m]? ≠ some z
  | [], _, _, h => by cases h
  | y :: r, z, j, h => by
    unfold firstAt at h
    by_cases e : y = z
    · rw [if_pos e] at h
      cases h
      exact ⟨by rw [e]; rfl, fun m hm => absurd hm (Nat.not_lt_zero _)⟩
    · rw [if_neg e] at h
      cases q : firstAt r z with
      | none => rw [q] at h; cases h
      | some k =>
        rw [q] at h
        cases h
        obtain ⟨h1, h2⟩ := firstAt_some q
        refine ⟨h1, fun m hm => ?_⟩
        cases m with
        | zero => intro z'; exact e (Option.some.inj z')
        | succ m => exact h2 m (Nat.lt_of_succ_lt_succ hm)
@[simp] def dIndex (to te : DE) : DE := fun j ρ P => to j ρ fun d j1 => match d with
  | .tup xs => te j1 ρ fun y j2 => match y with
    | .str z => ∃ ys l, strsOf xs = some ys ∧ firstAt ys z = some l ∧ P (.int (l : Nat)) j2
    | _ => False
  | _ => False
theorem de_index {o e : Expr} {to te : DE} {ap cp : Pos} (ho : PE X o (dE X.K J to)) (he : PE X e (dE X.K J te))
    (hbase : attributeBase o "index" X.env (eval o X.env) = eval o X.env := by rfl)
    (hfew : ((backTo cp (starEach [e] X.env)).all (fun x => !x.1) && (backToKw cp (keywordEach [] X.env)).all (fun x => x.1.isSome)
      && decide (([e] : List Expr).length + ([] : List Keyword).length + (if ([] : List Keyword).isEmpty then 0 else 1) < 30)) = true := by rfl)
    (hline : (ap.endLine == cp.line) = true := by rfl) (hs : starEach [e] X.env = (false, eval e X.env) :: starEach [] X.env := by rfl) (hplain : (backTo cp (starEach [] X.env)).any (·.1) = false := by rfl) :
    PE X (.Call (.Attribute o "index" ap) [e] [] cp) (dE X.K J (dIndex to te)) :=
  (pe_bmT PySem.F.slot_tuple_index PySem.F.type_tuple_index mt_tup_index ho (pa_cons he pa_nil hs) hbase hfew hline hs hplain).imp fun σ H Q ⟨jj, F, ρ, P, s, q, k⟩ => ⟨jj, F, ρ, _, s, q, fun d j1 pd v F1 H1 g1 r => by
    cases d with
    | tup xs =>
      obtain ⟨a, vs, rfl, t, l, rr⟩ := r.tup_inv
      refine ⟨⟨a, vs, rfl, g1.base.fh.tupAt t⟩, j1, F1, ρ, _, s.grow g1, pd, fun y j2 py v2 F2 H2 g2 r2 => ?_⟩
      cases y with
      | str z =>
        obtain ⟨ys, j, h1, h2, p3⟩ := py
        cases r2.str_inv
        cases strsOf_rp rr h1
        obtain ⟨f1, f2⟩ := firstAt_some h2
        exact ⟨a, ys, z, j, rfl, rfl, g2.base.fh.seqT (g2.ff.seqT t.sq), f1, f2, k _ j2 p3 _ F2 H2 (g1.trans g2) (.int _)⟩
      | _ => exact py.elim
    | _ => exact pd.elim⟩
end
end DL

/-! DL12 -/
/-! DL12: the draws' state is read and written. -/
namespace DL
open PySem PySem.Spec PyProof.Rows L2
/-! ### the state's object -/
theorem hd_tab {J : Jst} {F H : Hp} (b : BaseOk J F H) {p : Addr × Str} (hp : p ∈ J.tbs) : J.hd p.1 = false := by
  obtain ⟨ps, e, _⟩ := b.tb p hp
  cases q : J.hd p.1 with
  | false => rfl
  | true =>
    unfold Jst.hd at q
    simp only [Bool.and_eq_true, Bool.or_eq_true, beq_iff_eq] at q
    obtain ⟨h1, h2⟩ := q
    obtain ⟨_, _, _, e1, e2, e3, _⟩ := b.jk h1
    rcases h2 with (h2 | h2) | h2
    · rw [h2, e1] at e; cases e
    · rw [h2, e2] at e; cases e
    · rw [h2, e3] at e; cases e
theorem Gt.jset {J : Jst} {j j' : JS} {F H H' : Hp} (b : BaseOk (J.at j) F H) (off : ∀ c, J.hd c = false → H' c = H c) (h : J.on = true → JHas (J.at j') H') : Gt (J.at j) F H j' F H' := by
  have fh : Sub F H' := fun c u e => by
    have n : J.has c = false := by
      cases n : J.has c with
      | false => rfl
      | true => rw [b.nj c n] at e; cases e
    rw [off c (Jst.hd_no n)]; exact b.fh c u e
  refine ⟨Sub.refl _, fun c o e n => (off c (Jst.hd_no n)).trans e, fun c o e => .inl e, ⟨fh, b.nj, h, fun p hp => ?_⟩⟩
  obtain ⟨ps, e, r⟩ := b.tb p hp
  exact ⟨ps, (off _ (hd_tab b hp)).trans e, r⟩
abbrev Jst.no (J : Jst) : Jst := { J with on := false, tbs := [] }
theorem no_has (J : Jst) (c : Addr) : J.no.has c = false := by simp [Jst.has, Jst.hd]
theorem BaseOk.no {J : Jst} {F H : Hp} (b : BaseOk J F H) : BaseOk J.no F H := ⟨b.fh, fun c h => absurd h (by rw [no_has]; exact Bool.false_ne_true), (fun h => by cases h), fun p hp => absurd hp List.not_mem_nil⟩
theorem Gr.yes {J : Jst} {F H F' H' : Hp} (b : BaseOk J F H) (g : Gr J.no F H F' H') : Gr J F H F' H' := by
  have kp : ∀ c, J.has c = true → H' c = H c := fun c n => by
    obtain ⟨o, e2⟩ := b.some n
    rw [e2]; exact g.hh c o e2 (no_has J c)
  refine ⟨g.ff, fun c o e _ => g.hh c o e (no_has J c), g.nw, ⟨g.base.fh, fun c n => ?_, Jst.ok_of b.jk kp, tb_keep b.tb g.ff kp⟩⟩
  cases e : F' c with
  | none => rfl
  | some u =>
    rcases g.nw c u e with q | q
    · rw [b.nj c n] at q; cases q
    · obtain ⟨o, e2⟩ := b.some n
      rw [q] at e2; cases e2
/-- the name i holds the draws' state -/
def onJ (J : Jst) (i : Nat) (ρ : List SD) : Prop := J.on = true ∧ slot ρ i = .val (.ref J.ad)
theorem kgc : sKey "great" ≠ sKey "cells" := by decide
theorem kgr : sKey "great" ≠ sKey "rest" := by decide
theorem kgt : sKey "great" ≠ sKey "turn" := by decide
theorem kcr : sKey "cells" ≠ sKey "rest" := by decide
theorem kct : sKey "cells" ≠ sKey "turn" := by decide
theorem krt : sKey "rest" ≠ sKey "turn" := by decide
theorem tab_great (J : Jst) : valV (jTab J) (sKey "great") = some (.ref J.lg) := by simp [valV, jTab]
theorem tab_cells (J : Jst) : valV (jTab J) (sKey "cells") = some (.ref J.lc) := by simp [valV, jTab, kgc]
theorem tab_rest (J : Jst) : valV (jTab J) (sKey "rest") = some (.int J.js.r) := by simp [valV, jTab, kgr, kcr]
theorem tab_turn (J : Jst) : valV (jTab J) (sKey "turn") = some (.int J.js.t) := by simp [valV, jTab, kgt, kct, krt]
theorem put_rest (J : Jst) (r : Int) : putK (jTab J) (sKey "rest") (.int r) = jTab (J.at { J.js with r := r }) := by simp [putK, jTab, kgr, kcr, krt.symm, krt]
theorem put_turn (J : Jst) (r : Int) : putK (jTab J) (sKey "turn") (.int r) = jTab (J.at { J.js with t := r }) := by simp [putK, jTab, kgt, kct, krt]
section
variable {X : Cx} {J : Jst} {B : Ent} {o ke : Expr} {i : Nat} {pos : Pos}
theorem on_get {K : PySem.W.Frag} {j : JS} {F H : Hp} {σ : L2.St} {ρ : List SD} (s : SR K (J.at j) F H σ ρ) (h : onJ J i ρ) : σ[i]? = some (some (.ref J.ad)) ∧ JHas (J.at j) H := by
  obtain ⟨v, e, r⟩ := s.vals i _ h.2
  cases r
  exact ⟨e, s.base.jk h.1⟩
@[simp] def dRest (J : Jst) (i : Nat) : DE := fun j ρ P => onJ J i ρ ∧ P (.int j.r) j
@[simp] def dTurn (J : Jst) (i : Nat) : DE := fun j ρ P => onJ J i ρ ∧ P (.int j.t) j
theorem de_rest (hu : X.A.units + 100 < cLine) (ho : PE X o (tVar i)) (hk : PE X ke (tC (.str (Str.ofString "rest")))) (hs : NoSl ke) : PE X (.Subscript o ke pos) (dE X.K J (dRest J i)) :=
  (pe_dget (by omega) ho hk hs).imp fun σ H Q ⟨j, F, ρ, P, s, ⟨h, p⟩, k⟩ => by
    obtain ⟨e, h1, h2, h3, h4, h5⟩ := on_get s h
    exact ⟨_, e, J.ad, _, rfl, (tab_rest (J.at j)) ▸ DGet.k (k := sKey "rest") h4, k _ j p _ F H (Gt.refl s.base) (.int _)⟩
theorem de_turn (hu : X.A.units + 100 < cLine) (ho : PE X o (tVar i)) (hk : PE X ke (tC (.str (Str.ofString "turn")))) (hs : NoSl ke) : PE X (.Subscript o ke pos) (dE X.K J (dTurn J i)) :=
  (pe_dget (by omega) ho hk hs).imp fun σ H Q ⟨j, F, ρ, P, s, ⟨h, p⟩, k⟩ => by
    obtain ⟨e, h1, h2, h3, h4, h5⟩ := on_get s h
    exact ⟨_, e, J.ad, _, rfl, (tab_turn (J.at j)) ▸ DGet.k (k := sKey "turn") h4, k _ j p _ F H (Gt.refl s.base) (.int _)⟩
/-! stores -/
theorem off_ad {c : Addr} (n : J.hd c = false) (on : J.on = true) : c ≠ J.ad := by
  rintro rfl
  unfold Jst.hd at n
  rw [on] at n
  simp at n
theorem off_lg {c : Addr} (n : J.hd c = false) (on : J.on = true) : c ≠ J.lg := by
  rintro rfl
  unfold Jst.hd at n
  rw [on] at n
  simp at n
@[simp] def dPutRest (J : Jst) (i : Nat) (t : DE) : DS := fun E j ρ => t j ρ fun d j1 => onJ J i ρ ∧ ∃ r, d = .int r ∧ 0 ≤ r ∧ E.nx { j1 with r := r } ρ
@[simp] def dPutTurn (J : Jst) (i : Nat) (t : DE) : DS := fun E j ρ => t j ρ fun d j1 => onJ J i ρ ∧ ∃ r, d = .int r ∧ 0 ≤ r ∧ E.nx { j1 with t := r } ρ
theorem ds_putRest {e : Expr} {t : DE} {pos' : Pos} (hu : X.A.units + 100 < cLine) (ho : PE X o (tVar i)) (hk : PE X ke (tC (.str (Str.ofString "rest")))) (he : PE X e (dE X.K B.J t)) (hs : swapsWith e (some (.Subscript o ke pos')) pos.line X.env = pure false := by rfl) :
    PS X (.Assign [.Subscript o ke pos'] e pos) (dS X.K B (dPutRest B.J i t)) :=
  (ps_dput (by omega) ho hk he hs).imp fun D σ H ⟨j, F, ρ, E, s, g, q, k⟩ => ⟨j, F, ρ, _, s, q, fun d j1 ⟨h, r, ed, hr, p⟩ v F1 H1 g1 rv => by
    subst ed
    cases rv.int_inv
    have s1 := s.grow g1
    obtain ⟨e, h1, h2, h3, h4, h5, h6, h7⟩ := on_get s1.toSR h
    have gj : Gt (B.J.at j1) F1 H1 { j1 with r := r } F1 (L2.upd H1 B.J.ad (.dK (jTab (B.J.at { j1 with r := r })))) := by
      refine Gt.jset s1.base (fun c n => upd_ne (off_ad n h.1)) fun _ => ⟨h1, h2, h3, upd_same, ?_, ?_, ?_⟩
      · rw [upd_ne (Ne.symm h1)]; exact h5
      · rw [upd_ne (Ne.symm h2)]; exact h6
      · exact ⟨h7.1, h7.2.1, h7.2.2.1, h7.2.2.2.1, hr, h7.2.2.2.2.2⟩
    have e2 := put_rest (B.J.at j1) r
    exact ⟨_, e, _, _, rfl, e2 ▸ DPut.k (k := sKey "rest") h4 (by show 4 < sizeLine; decide), k.nx _ σ F1 _ ρ (s1.grow gj) ((g.trans g1).trans gj) g1.ff p⟩⟩
theorem ds_putTurn {e : Expr} {t : DE} {pos' : Pos} (hu : X.A.units + 100 < cLine) (ho : PE X o (tVar i)) (hk : PE X ke (tC (.str (Str.ofString "turn")))) (he : PE X e (dE X.K B.J t)) (hs : swapsWith e (some (.Subscript o ke pos')) pos.line X.env = pure false := by rfl) :
    PS X (.Assign [.Subscript o ke pos'] e pos) (dS X.K B (dPutTurn B.J i t)) :=
  (ps_dput (by omega) ho hk he hs).imp fun D σ H ⟨j, F, ρ, E, s, g, q, k⟩ => ⟨j, F, ρ, _, s, q, fun d j1 ⟨h, r, ed, hr, p⟩ v F1 H1 g1 rv => by
    subst ed
    cases rv.int_inv
    have s1 := s.grow g1
    obtain ⟨e, h1, h2, h3, h4, h5, h6, h7⟩ := on_get s1.toSR h
    have gj : Gt (B.J.at j1) F1 H1 { j1 with t := r } F1 (L2.upd H1 B.J.ad (.dK (jTab (B.J.at { j1 with t := r })))) := by
      refine Gt.jset s1.base (fun c n => upd_ne (off_ad n h.1)) fun _ => ⟨h1, h2, h3, upd_same, ?_, ?_, ?_⟩
      · rw [upd_ne (Ne.symm h1)]; exact h5
      · rw [upd_ne (Ne.symm h2)]; exact h6
      · exact ⟨h7.1, h7.2.1, h7.2.2.1, h7.2.2.2.1, h7.2.2.2.2.1, hr⟩
    have e2 := put_turn (B.J.at j1) r
    exact ⟨_, e, _, _, rfl, e2 ▸ DPut.k (k := sKey "turn") h4 (by show 4 < sizeLine; decide), k.nx _ σ F1 _ ρ (s1.grow gj) ((g.trans g1).trans gj) g1.ff p⟩⟩
/-! state['great'] != [] -/
theorem great_ne (gs : List Int) : dNe (.lst (gs.map D.int)) (.lst []) fun d => d = .bl (!gs.isEmpty) := by
  refine ⟨?_, rfl, ?_⟩
  · rw [lv_lst, List.all_eq_true]
    intro d hd
    obtain ⟨g, _, rfl⟩ := List.mem_map.mp hd
    exact lv_int _ _
  · cases gs with
    | nil => rfl
    | cons g r => rfl
@[simp] def dGreat (J : Jst) (i : Nat) : DT := fun j ρ P => onJ J i ρ ∧ P (!j.gs.isEmpty) j
theorem ints_rp {K : PySem.W.Frag} {F : Hp} (ns : List Int) : RpAll K F (ns.map V.int) (ns.map D.int) := RpAll.ints ns
theorem dt_great {pos2 pos3 : Pos} (hu : X.A.units + 100 < cLine) (ho : PE X o (tVar i)) (hk : PE X ke (tC (.str (Str.ofString "great")))) (hs : NoSl ke) (hm : behindInMarks .NotEq (.List [] pos3) = false := by rfl) : PT X (.Compare (.Subscript o ke pos2) [.NotEq] [.List [] pos3] pos) (dT X.K J (dGreat J i)) :=
  (pt_cmpR opR_at (pe_dget (by omega) ho hk hs) (pe_lst pa_nil) hm).imp fun σ H Q ⟨j, F, ρ, P, s, ⟨h, p⟩, k⟩ => by
    obtain ⟨e, h1, h2, h3, h4, h5, h6, h7, h8, h9⟩ := on_get s h
    refine ⟨_, e, J.ad, _, rfl, (tab_great (J.at j)) ▸ DGet.k (k := sKey "great") h4, ?_⟩
    refine ⟨Nat.zero_le _, fun a ha => ?_⟩
    have b1 := s.base.no
    have g1 : Gr (J.at j).no F H F (L2.upd H a (.lst [])) := Gr.own b1 ha _
    have ra : RpR X.K (J.at j).no F (L2.upd H a (.lst [])) (.ref J.lg) (.lst (j.gs.map D.int)) := by
      refine .inr ⟨J.lg, _, rfl, rfl, ?_, no_has _ _, j.gs.map V.int, ?_, ?_, ints_rp _⟩
      · exact s.base.nj J.lg (Jst.hd_has (Jst.hd_lg (J := J.at j) h.1))
      · rw [upd_ne (fun z => by rw [← z, h5] at ha; cases ha)]; exact h5
      · rw [List.length_map, sizeLine_eq]
        have : j.gs.length ≤ 63 := h7
        omega
    have rb : RpR X.K (J.at j).no F (L2.upd H a (.lst [])) (.ref a) (.lst []) := .inr ⟨a, [], rfl, rfl, s.base.fnew ha, no_has _ _, [], upd_same, Nat.zero_le _, .nil⟩
    refine o_ne (J := (J.at j).no) hu j F _ _ _ _ _ (fun d => d = .bl (!j.gs.isEmpty)) _ g1.base ra rb (great_ne j.gs) fun d ed v F' H' g r => ?_
    · subst ed
      exact ⟨_, r.bl_inv, k _ j p F' H' (Gr.yes s.base (g1.trans g)).gt⟩
/-! state['great'].pop(0) -/
@[simp] def dPopG (J : Jst) (i : Nat) : DE := fun j ρ P => onJ J i ρ ∧ ∃ g gs, j.gs = g :: gs ∧ P (.int g) { j with gs := gs }
theorem de_popG {ze : Expr} {pos2 ap : Pos} (hu : X.A.units + 100 < cLine) (ho : PE X o (tVar i)) (hk : PE X ke (tC (.str (Str.ofString "great")))) (hs : NoSl ke) (hz : PE X ze (tC (.int 0)))
    (hbase : attributeBase (.Subscript o ke pos2) "pop" X.env (eval (.Subscript o ke pos2) X.env) = eval (.Subscript o ke pos2) X.env := by rfl)
    (hfew : ((backTo pos (starEach [ze] X.env)).all (fun x => !x.1) && (backToKw pos (keywordEach [] X.env)).all (fun x => x.1.isSome)
      && decide (([ze] : List Expr).length + ([] : List Keyword).length + (if ([] : List Keyword).isEmpty then 0 else 1) < 30)) = true := by rfl)
    (hline : (ap.endLine == pos.line) = true := by rfl) (hss : starEach [ze] X.env = (false, eval ze X.env) :: starEach [] X.env := by rfl) (hplain : (backTo pos (starEach [] X.env)).any (·.1) = false := by rfl) :
    PE X (.Call (.Attribute (.Subscript o ke pos2) "pop" ap) [ze] [] pos) (dE X.K J (dPopG J i)) :=
  (pe_bm PySem.F.plainAttrs_list PySem.F.slot_list_pop PySem.F.type_list_pop (fun pins s σ H x xs v us Q I r1 r2 q => mt_popAt pins s σ H x xs v us Q I r1 r2 q) (pe_dget (by omega) ho hk hs) (pa_cons hz pa_nil hss) hbase hfew hline hss hplain).imp fun σ H Q ⟨j, F, ρ, P, s, ⟨h, g, gs, eg, p⟩, k⟩ => by
    obtain ⟨e, h1, h2, h3, h4, h5, h6, h7, h8, h9, h10⟩ := on_get s h
    have h5' : H J.lg = some (.lst ((g :: gs).map V.int)) := by rw [← eg]; exact h5
    refine ⟨_, e, J.ad, _, rfl, (tab_great (J.at j)) ▸ DGet.k (k := sKey "great") h4, (show tyV X.K "list" (.ref J.lg) H from .inl ⟨rfl, _, .inl (.inl h5')⟩), ?_⟩
    refine ⟨J.lg, _, 0, 0, .int g, rfl, rfl, h5', by omega, by omega, ?_, rfl, ?_⟩
    · exact seqIndex?_zero (by rw [List.length_map]; exact Nat.succ_pos _)
    · have gj : Gt (J.at j) F H { j with gs := gs } F (L2.upd H J.lg (.lst (gs.map V.int))) := by
        refine Gt.jset s.base (fun c n => upd_ne (off_lg n h.1)) fun _ => ⟨h1, h2, h3, ?_, upd_same, ?_, ?_⟩
        · rw [upd_ne h1]; exact h4
        · rw [upd_ne (Ne.symm h3)]; exact h6
        · have h7' : j.gs.length ≤ 63 := h7
          have h9' : ∀ x ∈ j.gs, 0 ≤ x := h9
          rw [eg] at h7' h9'
          exact ⟨Nat.le_of_succ_le h7', h8, fun x hx => h9' x (List.mem_cons_of_mem _ hx), h10⟩
      exact k _ _ p _ F _ gj (.int _)
/-! for cell in state['cells'] -/
@[simp] def dCells (J : Jst) (i : Nat) : DW := fun j ρ P => onJ J i ρ ∧ P (J.cs.map D.int) j
theorem di_cells {tg : Expr} (hu : X.A.units + 100 < cLine) (ho : PE X o (tVar i)) (hk : PE X ke (tC (.str (Str.ofString "cells")))) (hs : NoSl ke) : PI X tg (.Subscript o ke pos) (dW X.K J true (dCells J i)) :=
  (pi_list (pe_dget (by omega) ho hk hs)).imp fun σ H R ⟨j, F, ρ, P, s, ⟨h, p⟩, k⟩ => by
    obtain ⟨e, h1, h2, h3, h4, h5, h6, h7, h8, h9, h10⟩ := on_get s h
    refine ⟨_, e, J.ad, _, rfl, (tab_cells (J.at j)) ▸ DGet.k (k := sKey "cells") h4, J.lc, rfl, ⟨_, .inl (.inl h6)⟩, k _ j p _ F H (Gt.refl s.base) ⟨?_, fun l j' F' H' b u => ?_⟩⟩
    · rw [List.length_map, sizeLine_eq]
      have : J.cs.length ≤ 63 := h8
      omega
    · obtain ⟨_, _, _, _, _, q6, _⟩ := b.jk h.1
      have t' : SqL X.K H' J.lc (J.cs.map V.int) := .inl (.inl q6)
      refine ⟨fun d e => ?_, fun e => ?_⟩
      · obtain ⟨v, e1, r1⟩ := (ints_rp (K := X.K) (F := F') J.cs).get e
        refine ⟨⟨_, v, t', e1⟩, fun x H2 ⟨e2, y⟩ => ?_⟩
        subst e2
        refine ⟨Gr.refl b, ?_⟩
        show Rp X.K F' x d
        have e3 := y _ t'
        rw [e1] at e3
        cases e3
        exact r1
      · exact ⟨_, t', by rw [e, List.length_map, List.length_map]; exact Nat.le_refl _⟩
end
end DL

/-! DL13 -/
/-! DL13: a walk over a list or a tuple; a comprehension assigned; powers. -/
namespace DL
open PySem PySem.Spec PyProof.Rows L2
section
variable {X : Cx} {J : Jst} {B : Ent} {pos : Pos}
theorem pi_seqZ {tg l : Expr} {tl : TE} (hl : PE X l tl) : PI X tg l (fun σ H R => tl σ H fun x H1 => ∃ a, x = .ref a ∧ (((∃ xs, SqL X.K H1 a xs) ∧ R (Itl X.K a) H1) ∨ ((∃ xs, SqT X.K H1 a xs) ∧ R (Itt X.K a) H1))) := by
  refine ⟨fun pins s σ H R I h => ?_⟩
  refine thn (hl.run pins s σ H _ I h) fun v s1 ⟨x, H1, I1, r1, q1⟩ => ?_
  obtain ⟨a, e, q⟩ := q1
  subst e
  cases r1
  rcases q with ⟨⟨xs, hq⟩, q⟩ | ⟨⟨xs, hq⟩, q⟩
  · obtain ⟨its, rv, p, hz⟩ := I1.list hq
    refine wpAny_pyIter_list p.isList ?_
    refine ⟨s1.heap.objs.size, [s1.heap.objs.size], _, _, H1, rfl, I1.kept (t' := s1.toks) fun b o e => Heap.get?_push_of_some _ e, turn_list a _, ⟨_, Heap.get?_push_size _ rfl, rfl, rfl⟩, fun b hb => ?_, q⟩
    have e : b = s1.heap.objs.size := by simpa using hb
    subst e
    exact I1.fpOk (Nat.le_refl _) (I1.hok.fresh (Nat.le_refl _))
  · obtain ⟨its, rv, p, hz⟩ := I1.tuple hq
    refine wpAny_pyIter_tuple (show s1.heap.IsTuple a its.toArray from p) ?_
    refine ⟨s1.heap.objs.size, [s1.heap.objs.size], _, _, H1, rfl, I1.kept (t' := s1.toks) fun b o e => Heap.get?_push_of_some _ e, turn_tuple a _, ⟨_, Heap.get?_push_size _ rfl, rfl, rfl⟩, fun b hb => ?_, q⟩
    have e : b = s1.heap.objs.size := by simpa using hb
    subst e
    exact I1.fpOk (Nat.le_refl _) (I1.hok.fresh (Nat.le_refl _))
theorem di_seq {tg e : Expr} {t : DE} (h : PE X e (dE X.K J t)) : PI X tg e (dW X.K J true (dI seqR t)) :=
  (pi_seqZ h).imp fun σ H R ⟨j, F, ρ, P, s, q, k⟩ => ⟨j, F, ρ, _, s, q, fun d j1 pd v F1 H1 g1 r => by
    cases d with
    | lst xs =>
      obtain ⟨a, vs, rfl, t, l, r⟩ := r.lst_inv
      exact ⟨a, rfl, .inl ⟨⟨vs, g1.base.fh.seqL t⟩, k xs j1 pd _ F1 H1 g1 (wk_list t r l)⟩⟩
    | tup xs =>
      obtain ⟨a, vs, rfl, t, l, r⟩ := r.tup_inv
      exact ⟨a, rfl, .inr ⟨⟨vs, g1.base.fh.seqT t.sq⟩, k xs j1 pd _ F1 H1 g1 (wk_tup t.sq r l)⟩⟩
    | _ => exact pd.elim⟩
/-! x = [..] -/
@[simp] def dLst (t : DL') : DE := fun j ρ P => t j ρ fun ds => P (.lst ds)
@[simp] def dTup (t : DL') : DE := fun j ρ P => t j ρ fun ds => P (.tup ds)
theorem ds_setLcF {i : Nat} {y : Str} {py : Pos} {elt tg iter : Expr} {ifs : List Expr} {scope : Scope} {own : List (Str × Nat)} {spos : Pos} {wi : DW} {g : DG} {tt : DT} {te : DE} {plain : Bool} {is : List Nat} (hc : X.calm = true) (hN : X.N.Nodup) (hy : X.N[i]? = some y) (hyl : X.env.scope.names.lookup y = some .local)
    (hsw : swapsWith (.ListComp elt [⟨tg, iter, ifs, 0⟩] scope pos) (some (.Name y py)) spos.line X.env = pure true) (hi : PI X tg iter (dW X.K B.J plain wi)) (ok : BlkOk X.N X.env.scope scope own)
    (hg : ∀ (s : Shared) (H : Hp) (C : Addr) (cl : List (Str × Addr)) (fp : List Addr), PG (X.blk s H scope (compEnvC scope cl C X.env) fp) tg (gOf X.K (B0 B.J) is g plain))
    (ht : ∀ (s : Shared) (H : Hp) (C : Addr) (cl : List (Str × Addr)) (fp : List Addr), PTs (X.blk s H scope (compEnvC scope cl C X.env) fp) ifs (dT X.K B.J tt))
    (he : ∀ (s : Shared) (H : Hp) (C : Addr) (cl : List (Str × Addr)) (fp : List Addr), PE (X.blk s H scope (compEnvC scope cl C X.env) fp) elt (dE X.K B.J te))
    (hv : (is.all fun i => (own.map (·.2)).contains i) = true) (hs : ∀ x, foldedSetIterable iter X.env x = pure x := by intro _; rfl) :
    PS X (.Assign [.Name y py] (.ListComp elt [⟨tg, iter, ifs, 0⟩] scope pos) spos) (dS X.K B (dSetF i (dLc wi g tt te (own.map (·.2))))) :=
  (ps_setLc hc hN hy hyl hsw hi ok hg ht he hs).imp fun D σ H ⟨j, F, ρ, E, s, gg, q, k⟩ => lc_imp hv σ H _ ⟨j, F, ρ, _, s.toSR, q, fun ds j1 pd a F1 H1 g1 n o => k.nx j1 _ F1 H1 _ (s.setNew gg g1 n o) (gg.trans g1) g1.ff pd⟩
theorem ds_setLc {i : Nat} {y : Str} {py : Pos} {elt tg iter : Expr} {ifs : List Expr} {scope : Scope} {own : List (Str × Nat)} {spos : Pos} {wi : DW} {g : DG} {tt : DT} {te : DE} {plain : Bool} {is : List Nat} (hc : X.calm = true) (hN : X.N.Nodup) (hy : X.N[i]? = some y) (hyl : X.env.scope.names.lookup y = some .local)
    (hsw : swapsWith (.ListComp elt [⟨tg, iter, ifs, 0⟩] scope pos) (some (.Name y py)) spos.line X.env = pure true) (hi : PI X tg iter (dW X.K B.J plain wi)) (ok : BlkOk X.N X.env.scope scope own)
    (hg : ∀ (s : Shared) (H : Hp) (C : Addr) (cl : List (Str × Addr)) (fp : List Addr), PG (X.blk s H scope (compEnvC scope cl C X.env) fp) tg (gOf X.K (B0 B.J) is g plain))
    (ht : ∀ (s : Shared) (H : Hp) (C : Addr) (cl : List (Str × Addr)) (fp : List Addr), PTs (X.blk s H scope (compEnvC scope cl C X.env) fp) ifs (dT X.K B.J tt))
    (he : ∀ (s : Shared) (H : Hp) (C : Addr) (cl : List (Str × Addr)) (fp : List Addr), PE (X.blk s H scope (compEnvC scope cl C X.env) fp) elt (dE X.K B.J te))
    (hv : (is.all fun i => (own.map (·.2)).contains i) = true) (hs : ∀ x, foldedSetIterable iter X.env x = pure x := by intro _; rfl) :
    PS X (.Assign [.Name y py] (.ListComp elt [⟨tg, iter, ifs, 0⟩] scope pos) spos) (dS X.K B (dSet i (dLst (dLc wi g tt te (own.map (·.2)))))) :=
  (ps_setLc hc hN hy hyl hsw hi ok hg ht he hs).imp fun D σ H ⟨j, F, ρ, E, s, gg, q, k⟩ => lc_imp hv σ H _ ⟨j, F, ρ, _, s.toSR, q, fun ds j1 pd a F1 H1 g1 n o => by
    obtain ⟨f, nj, vs, h1, h2, h3⟩ := o
    have g2 := g1.freeze n h1 s.base
    exact k.nx j1 _ _ H1 _ ((s.grow g2).setVal (.lst (.inl (.inl upd_same)) h2 (h3.mono (sub_upd f)))) (gg.trans g2) g2.ff pd⟩
/-! named forms -/
variable {e : Expr}
theorem dr_lst {t : DL'} (h : PE X e (dF X.K J t)) : PE X e (dR X.K J (dLst t)) := dr_of_df h
theorem de_lst {t : DL'} (h : PE X e (dF X.K J t)) : PE X e (dE X.K J (dLst t)) := de_of_df h
theorem de_tupN {es : List Expr} {k : Nat} {n : Nat} {t : DL'} (h : PA X es (dA X.K J n t)) (hn : n ≤ sizeLine := by decide) : PE X (.Tuple es k pos) (dE X.K J (dTup t)) := de_tup h hn
@[simp] def dTrue : DT := fun j _ P => P true j
theorem dts_nilN {X' : Cx} : PTs X' [] (dT X'.K J dTrue) := dts_nil
theorem gN_len1 {is : List Nat} {g1 : DG} : True := trivial
theorem gtp1 {a : Nat} : ∀ ds ρ P, gCn (gN a) gNl ds ρ P → ds.length = 1 := fun _ _ _ h => gcn_len (fun _ _ _ h => gnl_len h) (fun _ _ _ h => gN_some h) h
theorem gtp2 {a b : Nat} : ∀ ds ρ P, gCn (gN a) (gCn (gN b) gNl) ds ρ P → ds.length = 2 := fun _ _ _ h => gcn_len gtp1 (fun _ _ _ h => gN_some h) h
theorem gtp3 {a b c : Nat} : ∀ ds ρ P, gCn (gN a) (gCn (gN b) (gCn (gN c) gNl)) ds ρ P → ds.length = 3 := fun _ _ _ h => gcn_len gtp2 (fun _ _ _ h => gN_some h) h
theorem gtp4 {a b c d : Nat} : ∀ ds ρ P, gCn (gN a) (gCn (gN b) (gCn (gN c) (gCn (gN d) gNl))) ds ρ P → ds.length = 4 := fun _ _ _ h => gcn_len gtp3 (fun _ _ _ h => gN_some h) h
/-! powers -/
def dPow2 : DO
  | .int i, .int j => fun P => 0 ≤ j ∧ (Builtin.Int.intBits i : Int) * j ≤ 2 ^ 27 ∧ P (.int (i ^ j.toNat))
  | _, _ => fun _ => False
theorem o_pow2 : OpD X J (binaryOp .Pow) dPow2 := by
  intro j F H x y dx dy P Q b rx ry h k
  cases dx with
  | int i => cases dy with
    | int n =>
      cases rx.int_inv
      cases ry.int_inv
      intro pins s σ v u I qx qy
      obtain ⟨t, rfl⟩ := qx
      obtain ⟨t', rfl⟩ := qy
      exact pow_int h.1 h.2.1 ⟨.int _, H, I.tok _, ⟨_, rfl⟩, okk b h.2.2 k (.int _)⟩
    | _ => exact h.elim
  | _ => cases dy <;> exact h.elim
end
end DL

/-! DL14 -/
/-! DL14: small things that the printed walks name. -/
namespace DL
open PySem PySem.Spec PyProof.Rows L2
section
variable {X : Cx} {J : Jst} {B : Ent} {pos : Pos}
theorem pe_globI {x : Str} {i : Int} (hg : Gl X x) (hm : ∃ t, X.mg x = some (.int i t)) (hd : (x == ("__debug__" : Str)) = false := by decide) : PE X (.Name x pos) (tC (.int i)) := by
  obtain ⟨t, hm⟩ := hm
  exact pe_glob hg hm ⟨t, rfl⟩ hd
theorem pe_globS {x : Str} {i : Str} (hg : Gl X x) (hm : ∃ t, X.mg x = some (.str i t)) (hd : (x == ("__debug__" : Str)) = false := by decide) : PE X (.Name x pos) (tC (.str i)) := by
  obtain ⟨t, hm⟩ := hm
  exact pe_glob hg hm ⟨t, rfl⟩ hd
theorem pgT {tg : Expr} {is : List Nat} {g : DG} (h : PG X tg (dGn X.K B is g)) : PG X tg (gOf X.K B is g true) := h
theorem pgF {tg : Expr} {is : List Nat} {g : DG} (h : PG X tg (dG X.K B is g)) : PG X tg (gOf X.K B is g false) := h
@[simp] def dIfT (t a b : DT) : DT := fun j ρ P => t j ρ fun k j1 => if k = true then a j1 ρ P else b j1 ρ P
theorem pt_ifE {c a b : Expr} {tc ta tb : TT} (hc : PT X c tc) (ha : PT X a ta) (hb : PT X b tb) : PT X (.IfExp c a b pos) (fun σ H Q => tc σ H fun k H1 => if k = true then ta σ H1 Q else tb σ H1 Q) := ⟨fun pins s σ H Q I h => by
  show wpAny _ _ (isTrue c X.env (eval c X.env) >>= fun k => if k then isTrue a X.env (eval a X.env) else isTrue b X.env (eval b X.env)) _ _ s
  refine wpAny_bind (thn (hc.run pins s σ H _ I h) fun k s1 ⟨H1, I1, q1⟩ => ?_)
  cases k with
  | true => exact ha.run pins s1 σ H1 Q I1 q1
  | false => exact hb.run pins s1 σ H1 Q I1 q1⟩
theorem dt_if {c a b : Expr} {t ta tb : DT} (hc : PT X c (dT X.K J t)) (ha : PT X a (dT X.K J ta)) (hb : PT X b (dT X.K J tb)) : PT X (.IfExp c a b pos) (dT X.K J (dIfT t ta tb)) :=
  (pt_ifE hc ha hb).imp fun σ H Q ⟨j, F, ρ, P, s, q, k⟩ => ⟨j, F, ρ, _, s, q, fun b j1 pb F1 H1 g => by
    cases b with
    | true => rw [if_pos rfl] at pb ⊢; exact ⟨j1, F1, ρ, P, s.grow g, pb, fun b j2 p F2 H2 g2 => k b j2 p F2 H2 (g.trans g2)⟩
    | false => rw [if_neg Bool.false_ne_true] at pb ⊢; exact ⟨j1, F1, ρ, P, s.grow g, pb, fun b j2 p F2 H2 g2 => k b j2 p F2 H2 (g.trans g2)⟩⟩
theorem dss_never {sts : List Stmt} : PSs X sts (dS X.K B dNever) := ⟨fun pins s σ H D I ⟨j, F, ρ, E, sb, g, q, k⟩ => q.elim⟩
end
theorem bt_len : bootBuiltins "len" = some (.builtin "len") := by decide +kernel
theorem bt_abs : bootBuiltins "abs" = some (.builtin "abs") := by decide +kernel
theorem bt_all : bootBuiltins "all" = some (.builtin "all") := by decide +kernel
theorem bt_any : bootBuiltins "any" = some (.builtin "any") := by decide +kernel
theorem bt_min : bootBuiltins "min" = some (.builtin "min") := by decide +kernel
theorem bt_max : bootBuiltins "max" = some (.builtin "max") := by decide +kernel
theorem bt_sorted : bootBuiltins "sorted" = some (.builtin "sorted") := by decide +kernel
theorem bt_sum : bootBuiltins "sum" = some (.builtin "sum") := by decide +kernel
theorem bt_int : bootBuiltins "int" = some (.type "int") := by decide +kernel
theorem bt_bool : bootBuiltins "bool" = some (.type "bool") := by decide +kernel
theorem bt_str : bootBuiltins "str" = some (.type "str") := by decide +kernel
theorem bt_tuple : bootBuiltins "tuple" = some (.type "tuple") := by decide +kernel
theorem bt_list : bootBuiltins "list" = some (.type "list") := by decide +kernel
theorem bt_dict : bootBuiltins "dict" = some (.type "dict") := by decide +kernel
theorem bt_set : bootBuiltins "set" = some (.type "set") := by decide +kernel
end DL

/-! DL15 -/
/-! DL15: the readings at data of a known shape. -/
namespace DL
open PySem PySem.Spec PyProof.Rows L2
section
variable {P : D → Prop}
@[simp] theorem add_i (i j : Int) : dAdd (.int i) (.int j) P = P (.int (i + j)) := rfl
@[simp] theorem add_s (i j : Str) : dAdd (.str i) (.str j) P = (i.length + j.length ≤ sizeLine ∧ P (.str (i ++ j))) := rfl
@[simp] theorem add_t (i j : List D) : dAdd (.tup i) (.tup j) P = (i.length + j.length ≤ sizeLine ∧ P (.tup (i ++ j))) := rfl
@[simp] theorem add_l (i j : List D) : dAdd (.lst i) (.lst j) P = (i.length + j.length ≤ sizeLine ∧ P (.lst (i ++ j))) := rfl
@[simp] theorem sub_i (i j : Int) : dSub (.int i) (.int j) P = P (.int (i - j)) := rfl
@[simp] theorem mul_i (i j : Int) : dMul (.int i) (.int j) P = (IntMulOk i j ∧ P (.int (i * j))) := rfl
@[simp] theorem mul_s (i : Str) (j : Int) : dMul (.str i) (.int j) P = (PySem.MulOk i j ∧ P (.str (Txt.mul i j))) := rfl
@[simp] theorem mul_t (xs : List D) (j : Int) : dMul (.tup xs) (.int j) P = (xs ≠ [] ∧ 1 ≤ j ∧ j ≤ 1000 ∧ xs.length ≤ 1000 ∧ P (.tup (List.replicate j.toNat xs).flatten)) := rfl
@[simp] theorem fdiv_i (i j : Int) : dFdiv (.int i) (.int j) P = ((j ≠ 0 ∧ j.natAbs.log2 < 9000) ∧ P (.int (i.fdiv j))) := rfl
@[simp] theorem mod_i (i j : Int) : dMod (.int i) (.int j) P = (j ≠ 0 ∧ P (.int (i.fmod j))) := rfl
@[simp] theorem pow2_i (i j : Int) : dPow2 (.int i) (.int j) P = (0 ≤ j ∧ (Builtin.Int.intBits i : Int) * j ≤ 2 ^ 27 ∧ P (.int (i ^ j.toNat))) := rfl
@[simp] theorem eq_i (i j : Int) : dEq (.int i) (.int j) P = P (.bl (decide (i = j))) := rfl
@[simp] theorem eq_s (i j : Str) : dEq (.str i) (.str j) P = P (.bl (decide (i = j))) := rfl
@[simp] theorem eq_b (i j : Bool) : dEq (.bl i) (.bl j) P = P (.bl (decide (i = j))) := rfl
@[simp] theorem eq_t (x y : List D) : dEq (.tup x) (.tup y) P = (lv 20 (.tup x) = true ∧ lv 20 (.tup y) = true ∧ P (.bl (deqv (.tup x) (.tup y)))) := rfl
@[simp] theorem eq_l (x y : List D) : dEq (.lst x) (.lst y) P = (lv 20 (.lst x) = true ∧ lv 20 (.lst y) = true ∧ P (.bl (deqv (.lst x) (.lst y)))) := rfl
@[simp] theorem ne_i (i j : Int) : dNe (.int i) (.int j) P = P (.bl (!decide (i = j))) := rfl
@[simp] theorem ne_s (i j : Str) : dNe (.str i) (.str j) P = P (.bl (!decide (i = j))) := rfl
@[simp] theorem ne_b (i j : Bool) : dNe (.bl i) (.bl j) P = P (.bl (!decide (i = j))) := rfl
@[simp] theorem ne_t (x y : List D) : dNe (.tup x) (.tup y) P = (lv 20 (.tup x) = true ∧ lv 20 (.tup y) = true ∧ P (.bl (!deqv (.tup x) (.tup y)))) := rfl
@[simp] theorem ne_l (x y : List D) : dNe (.lst x) (.lst y) P = (lv 20 (.lst x) = true ∧ lv 20 (.lst y) = true ∧ P (.bl (!deqv (.lst x) (.lst y)))) := rfl
@[simp] theorem lt_i (i j : Int) : dLt (.int i) (.int j) P = P (.bl (decide (i < j))) := rfl
@[simp] theorem lt_s (i j : Str) : dLt (.str i) (.str j) P = P (.bl (dltv (.str i) (.str j))) := by simp [dLt, lv, lk, enc, PySem.W.alike]
@[simp] theorem lt_t (x y : List D) : dLt (.tup x) (.tup y) P = (lv 20 (.tup x) = true ∧ lv 20 (.tup y) = true ∧ lk (.tup x) (.tup y) = true ∧ notNon (.tup x) = true ∧ P (.bl (dltv (.tup x) (.tup y)))) := rfl
@[simp] theorem le_i (i j : Int) : dLe (.int i) (.int j) P = P (.bl (decide (i ≤ j))) := rfl
@[simp] theorem le_s (i j : Str) : dLe (.str i) (.str j) P = P (.bl (!dltv (.str j) (.str i))) := by simp [dLe, lv, lk, enc, PySem.W.alike]
@[simp] theorem gt_i (i j : Int) : dGt (.int i) (.int j) P = P (.bl (decide (j < i))) := rfl
@[simp] theorem ge_i (i j : Int) : dGe (.int i) (.int j) P = P (.bl (decide (j ≤ i))) := rfl
@[simp] theorem in_s (x y : Str) : dIn (.str x) (.str y) P = P (.bl (subIn x y)) := rfl
@[simp] theorem in_t (x : D) (y : List D) : dIn x (.tup y) P = (lv 20 x = true ∧ lv 20 (.tup y) = true ∧ P (.bl (hasIn y x))) := by cases x <;> rfl
@[simp] theorem in_l (x : D) (y : List D) : dIn x (.lst y) P = (lv 20 x = true ∧ lv 20 (.lst y) = true ∧ P (.bl (hasIn y x))) := by cases x <;> rfl
@[simp] theorem nin_s (x y : Str) : dNin (.str x) (.str y) P = P (.bl (!subIn x y)) := rfl
@[simp] theorem nin_t (x : D) (y : List D) : dNin x (.tup y) P = (lv 20 x = true ∧ lv 20 (.tup y) = true ∧ P (.bl (!hasIn y x))) := by cases x <;> rfl
@[simp] theorem nin_l (x : D) (y : List D) : dNin x (.lst y) P = (lv 20 x = true ∧ lv 20 (.lst y) = true ∧ P (.bl (!hasIn y x))) := by cases x <;> rfl
@[simp] theorem is_n (x : D) : dIs x .non P = P (.bl (isNon x)) := by cases x <;> rfl
@[simp] theorem is_b (i j : Bool) : dIs (.bl i) (.bl j) P = P (.bl (decide (i = j))) := rfl
@[simp] theorem isn_n (x : D) : dIsn x .non P = P (.bl (!isNon x)) := by cases x <;> rfl
@[simp] theorem isn_b (i j : Bool) : dIsn (.bl i) (.bl j) P = P (.bl (!decide (i = j))) := rfl
@[simp] theorem ix_t (x : List D) (i : Int) : dIx (.tup x) (.int i) P = optP (atI x i) P := rfl
@[simp] theorem ix_l (x : List D) (i : Int) : dIx (.lst x) (.int i) P = optP (atI x i) P := rfl
end
@[simp] theorem gnl_nil (ρ : List SD) (P : List SD → Prop) : gNl [] ρ P = P ρ := by simp [gNl]
@[simp] theorem gcn_cons (g : DG) (gs : DGs) (d : D) (r : List D) (ρ : List SD) (P : List SD → Prop) : gCn g gs (d :: r) ρ P = g d ρ fun ρ' => gs r ρ' P := by
  apply propext
  constructor
  · rintro ⟨d', r', e, h⟩
    cases e
    exact h
  · exact fun h => ⟨d, r, rfl, h⟩
section
variable {α : Type}
theorem atI_nat (xs : List α) (n : Nat) : atI xs (n : Int) = xs[n]? := by
  unfold atI ixN
  rw [if_pos (Int.natCast_nonneg n)]
  by_cases h : n < xs.length
  · rw [if_pos (by exact_mod_cast h)]; rfl
  · rw [if_neg (by exact_mod_cast h)]
    rw [List.getElem?_eq_none (Nat.le_of_not_lt h)]; rfl
@[simp] theorem atI_0 (xs : List α) : atI xs 0 = xs[0]? := atI_nat xs 0
@[simp] theorem atI_1 (xs : List α) : atI xs 1 = xs[1]? := atI_nat xs 1
@[simp] theorem atI_2 (xs : List α) : atI xs 2 = xs[2]? := atI_nat xs 2
@[simp] theorem atI_3 (xs : List α) : atI xs 3 = xs[3]? := atI_nat xs 3
@[simp] theorem atI_4 (xs : List α) : atI xs 4 = xs[4]? := atI_nat xs 4
@[simp] theorem atI_last (xs : List α) : atI xs (-1) = xs.getLast? := by
  unfold atI ixN
  rw [if_neg (by decide)]
  cases xs with
  | nil => rfl
  | cons x r =>
    rw [if_pos (by simp only [List.length_cons]; omega), List.getLast?_eq_getElem?]
    show (x :: r)[((-1 : Int) + ((x :: r).length : Nat)).toNat]? = _
    congr 1
    simp only [List.length_cons]
    omega
end
theorem cutD_from (xs : List D) (k : Nat) : cutD xs (some (k : Int)) none = xs.drop k := by
  unfold cutD
  rw [HT.sIx_nat, HT.sIx_none]
  by_cases h : k ≤ xs.length
  · rw [Nat.min_eq_left h, List.take_of_length_le (by rw [List.length_drop]; exact Nat.le_refl _)]
  · have h := Nat.le_of_lt (Nat.lt_of_not_le h)
    rw [Nat.min_eq_right h, List.drop_length, List.drop_eq_nil_of_le h, List.take_nil]
theorem cutD_to (xs : List D) (k : Nat) : cutD xs none (some (k : Int)) = xs.take k := by
  unfold cutD
  rw [HT.sIx_nat, HT.sIx_none, List.drop_zero, Nat.sub_zero]
  by_cases h : k ≤ xs.length
  · rw [Nat.min_eq_left h]
  · have h := Nat.le_of_lt (Nat.lt_of_not_le h)
    rw [Nat.min_eq_right h, List.take_length, List.take_of_length_le h]
@[simp] theorem cutD_from1 (xs : List D) : cutD xs (some 1) none = xs.drop 1 := cutD_from xs 1
@[simp] theorem cutD_from2 (xs : List D) : cutD xs (some 2) none = xs.drop 2 := cutD_from xs 2
@[simp] theorem cutD_to1 (xs : List D) : cutD xs none (some 1) = xs.take 1 := cutD_to xs 1
@[simp] theorem cutD_to2 (xs : List D) : cutD xs none (some 2) = xs.take 2 := cutD_to xs 2
@[simp] theorem cutD_to3 (xs : List D) : cutD xs none (some 3) = xs.take 3 := cutD_to xs 3
end DL

/-! DL17 -/
/-! DL17: defs that may raise. -/
namespace DL
open PySem PySem.Spec PyProof.Rows L2
/-- an error's attributes -/
def ExR (K : PySem.W.Frag) (F : Hp) : Option Addr → List Str → List D → Prop
  | none, [], [] => True
  | some d, [n], [x] => ∃ v, F d = some (.xd [(n, v)]) ∧ Rp K F v x
  | _, _, _ => False
/-- the promise of a def that may raise: J.xk is what is wanted then -/
def spX (K : PySem.W.Frag) (J : Jst) (n : Nat) (S : Spec) : Sp := fun vs H Q E => ∃ j F ds P, BaseOk (J.at j) F H ∧ RpAll K F vs ds ∧ ds.length = n ∧ S ds j P ∧ (∀ d j', P d j' → ∀ v F' H', Gt (J.at j) F H j' F' H' → Rp K F' v d → Q v H') ∧
  ∀ c ns xs j', J.xk c ns xs j' → ∀ d F' H', Gt (J.at j) F H j' F' H' → ExR K F' d ns xs → E (.ref c) d H'
def FnX (P : Program) (w : World) (K : PySem.W.Frag) (mg : Str → Option Value) (base : Heap) (T : List (Addr × Str)) (k : Nat) (x : Str) (ps : List Str) (n : Nat) (S : Jst → Spec) : Prop :=
  ∃ (f : Addr) (fd : FuncData), (∀ J : Jst, At mg T J → FnOk P w K mg base (L2.CX P w) k f fd ps (spX K J n (S J))) ∧ mg x = some (.ref f) ∧ PySem.W.keepIn K (.ref f) = true ∧ Binds K fd ps [] ∧ ∃ oc od osl, K.lookup f = some ⟨oc, od, .func fd, osl⟩
/-- the context lets errors out as J wants -/
structure Rs (X : Cx) (J : Jst) : Prop where
  ex : ∃ W : WX, Takes X W ∧ ∀ c ns xs j, J.xk c ns xs j → ∀ σ F H ρ d, SR X.K (J.at j) F H σ ρ → ExR X.K F d ns xs → W (.ref c) d σ H
abbrev Jst.calm (J : Jst) : Jst := J.re (fun _ _ _ _ => False) J.fa J.cl J.ej J.eF J.eH
section
variable {P : Program} {w : World} {K : PySem.W.Frag} {mg : Str → Option Value} {base : Heap} {T : List (Addr × Str)}
theorem FnX.mono {j k : Nat} {x : Str} {ps : List Str} {n : Nat} {S : Jst → Spec} (G : FnX P w K mg base T j x ps n S) (h : j ≤ k) : FnX P w K mg base T k x ps n S := by
  obtain ⟨f, fd, a, b, c, d⟩ := G
  exact ⟨f, fd, fun J hT => (a J hT).mono h, b, c, d⟩
theorem FnG.toX {k : Nat} {x : Str} {ps : List Str} {n : Nat} {S : Jst → Spec} (G : FnG P w K mg base T k x ps n S) : FnX P w K mg base T k x ps n S := by
  obtain ⟨f, fd, a, b, c, d⟩ := G
  refine ⟨f, fd, fun J hT => ⟨fun vs H Q E ⟨j, F, ds, P, h1, h2, h3, h4, h5, _⟩ => (a J hT).len vs H Q E ⟨j, F, ds, P, h1, h2, h3, h4, h5⟩, fun A outer s H args us vs Q E hr he hb hv ⟨j, F, ds, P, h1, h2, h3, h4, h5, _⟩ => ?_⟩, b, c, d⟩
  refine codeAny_mono ((a J hT).run A outer s H args us vs Q E hr he hb hv ⟨j, F, ds, P, h1, h2, h3, h4, h5⟩) fun r s' h => ?_
  cases r with
  | ok f => cases f <;> exact h
  | error e => exact (show False from h).elim
abbrev cxX (P : Program) (w : World) (K : PySem.W.Frag) (mg : Str → Option Value) (base : Heap) (N : List Str) (x : Str) (st : Stmt) (f : Addr) (cdv : Value) (A : Around) (outer : List Env) (s : Shared) (H : Hp) (E : XK) : Cx := cxOf (L2.CX P w) P w K mg base N x (defScope st) f cdv A outer s H E
theorem passes_X {N : List Str} {x : Str} {st : Stmt} {f : Addr} {cdv : Value} {A : Around} {outer : List Env} {s : Shared} {H : Hp} {E : XK} : PassesOwn (model P w) (A.deeper (envOfC x (defScope st) s.heap.objs.size f cdv)) (envOfC x (defScope st) s.heap.objs.size f cdv) (cxX P w K mg base N x st f cdv A outer s H E).xe := passes_of (X := cxX P w K mg base N x st f cdv A outer s H E) rfl
theorem fnX_of {x : Str} {st : Stmt} {f : Addr} {N ps : List Str} {k n : Nat} {S : Jst → Spec} {t : Jst → DS} (F : ∃ fd, FunD K x x (defArgs st) (defBody st) (defScope st) [] [] f fd) (hm : mg x = some (.ref f)) (sc : FnScope N ps (defScope st)) (hn : ps.length = n) (hN : n ≤ N.length)
    (hb : ∀ (kV doc pm : Value) (an : Option Addr) (cdv ct : Value) (us : List Value), us.length = ps.length → bindArgs (PySem.W.fnOf x x (defArgs st) (defBody st) (defScope st) .none kV doc pm an cdv ct) ⟨us, []⟩ = pure (ps.zip us))
    (hbody : ∀ (B : Ent) (cdv : Value) (A : Around) (outer : List Env) (s : Shared) (H : Hp) (E : XK), EntOk mg T (envOfC x (defScope st) s.heap.objs.size f cdv).cells B.J → Rs (cxX P w K mg base N x st f cdv A outer s H E) B.J → CodeAt K f cdv → Room k (A.deeper (envOfC x (defScope st) s.heap.objs.size f cdv)) → PSs (cxX P w K mg base N x st f cdv A outer s H E) (defBody st) (dS K B (t B.J)))
    (hS : ∀ J ds j Q, ds.length = n → S J ds j Q → t J { nx := fun j' _ => Q .non j', rt := Q } j (st0 N.length ds))
    (hJ : ∀ (J : Jst) cl ej eF eH ds j Q, S J ds j Q → S (J.re J.xk J.fa cl ej eF eH) ds j Q := by exact fun _ _ _ _ _ _ _ _ h => h) : FnX P w K mg base T (k + 1) x ps n S := by
  obtain ⟨fd, F⟩ := F
  refine ⟨f, fd, fun J hT => ?_, hm, F.kp, F.bindsN hb, funD_at F⟩
  refine funD_ok F sc (fun vs H Q E ⟨j, F, ds, P, b, r, l, _⟩ => by rw [r.length, l, hn]) (fun cdv A outer s H vs Q E hC hr ⟨j, F', ds, R, b, r, l, q, kk, ke⟩ => ?_)
  have b' : BaseOk ((J.re J.xk J.fa (envOfC x (defScope st) s.heap.objs.size f cdv).cells j F' H).at j) F' H := b.re
  have hR : Rs (cxX P w K mg base N x st f cdv A outer s H E) (J.re J.xk J.fa (envOfC x (defScope st) s.heap.objs.size f cdv).cells j F' H) :=
    ⟨fun cls d _ H' => E cls d H', takes_of rfl rfl rfl rfl, fun c ns xs j2 hx σ F2 H2 ρ d sr er => ke c ns xs j2 hx d F2 H2 (Gt.er (j := j) sr.ent) er⟩
  exact ⟨_, hbody ⟨J.re J.xk J.fa (envOfC x (defScope st) s.heap.objs.size f cdv).cells j F' H, j, F', H⟩ cdv A outer s H E ⟨hT.tb, hT.fa, rfl⟩ hR hC hr, j, F', st0 N.length ds, _, start_SB (B := ⟨J.re J.xk J.fa (envOfC x (defScope st) s.heap.objs.size f cdv).cells j F' H, j, F', H⟩) b' (Gt.refl b') r (by rw [l]; exact hN), Gt.refl b', hS _ ds j R l (hJ J _ _ _ _ ds j R q), ⟨fun j2 σ F2 H2 ρ s2 g2 _ q2 => kk .non j2 q2 .non F2 H2 g2.er .non, fun j2 v F2 H2 d g2 r2 q2 => kk d j2 q2 v F2 H2 g2.er r2, fun _ _ _ _ _ _ _ _ h => h.elim, fun _ _ _ _ _ _ _ _ h => h.elim⟩⟩
end
section
variable {X : Cx} {J : Jst} {B : Ent} {T : List (Addr × Str)} {j n : Nat} {S : Jst → Spec} {x : Str} {ps : List Str} {p pos : Pos} {e : Expr} {es : List Expr} {t : DL'}
/-- a call of a def that may raise -/
theorem de_callX (hx : Rs X J) (G : FnX X.prog X.w X.K X.mg X.base T j x ps n S) (hT : At X.mg T J) (hr : Room j X.A) (hg : Gl X x)
    (ha : PA X (e :: es) (dA X.K J n t)) (hdb : (x == ("__debug__" : Str)) = false := by decide) (he : starEach (e :: es) X.env = (false, eval e X.env) :: starEach es X.env := by rfl) (hpl : (backTo pos (starEach es X.env)).any (·.1) = false := by rfl) :
    PE X (.Call (.Name x p) (e :: es) [] pos) (dE X.K J (dCall (S J) t)) := by
  obtain ⟨f, fd, a, b, c, d, _⟩ := G
  obtain ⟨W, tk, hW⟩ := hx.ex
  exact (pe_callS (a J hT) hr hg b c d (fun σ => passAt tk σ) ha hdb he hpl).imp fun σ H Q ⟨j, F, ρ, P, s, q, k⟩ => ⟨j, F, ρ, _, s, q, fun ds j1 l pd vs F1 H1 g1 r =>
    ⟨j1, F1, ds, P, g1.base, r, l, pd, fun d j2 pd v F2 H2 g2 r2 => k d j2 pd v F2 H2 (g1.trans g2) r2, fun c ns xs j2 hx d F2 H2 g2 er => hW c ns xs j2 hx σ F2 H2 ρ d ((s.grow g1).grow g2) er⟩⟩
/-- .. where it raises nothing -/
theorem de_callN (G : FnX X.prog X.w X.K X.mg X.base T j x ps n S) (hT : At X.mg T J) (hr : Room j X.A) (hg : Gl X x)
    (ha : PA X (e :: es) (dA X.K J n t)) (hdb : (x == ("__debug__" : Str)) = false := by decide) (he : starEach (e :: es) X.env = (false, eval e X.env) :: starEach es X.env := by rfl) (hpl : (backTo pos (starEach es X.env)).any (·.1) = false := by rfl) :
    PE X (.Call (.Name x p) (e :: es) [] pos) (dE X.K J (dCall (S J.calm) t)) := by
  obtain ⟨f, fd, a, b, c, d, _⟩ := G
  have hp : Passes (L2.CX X.prog X.w) X (fun _ _ _ => False) := fun _ _ _ _ _ _ _ ⟨_, _, _, _, _, _, _, _, _, _, _, _, z⟩ => z.elim
  exact (pe_call (E := fun _ _ _ => False) (a J.calm ⟨hT.tb, hT.fa⟩) hr hg b c d .nil hp ha hdb he hpl).imp fun σ H Q ⟨j, F, ρ, P, s, q, k⟩ => ⟨j, F, ρ, _, s, q, fun ds j1 l pd vs F1 H1 g1 r =>
    ⟨j1, F1, ds, P, g1.base.re, by rw [List.append_nil]; exact r, l, pd, fun d j2 pd v F2 H2 g2 r2 => k d j2 pd v F2 H2 (g1.trans g2.er) r2, fun c ns xs j2 hx => hx.elim⟩⟩
end
/-! classes of errors -/
/-- what is asked of a class: its instances are made, raised and asked for their class -/
structure ClsX (K : PySem.W.Frag) (C : Addr) : Prop where
  q : PySem.W.excIn K C [.type "ValueError", .type "Exception", .type "BaseException", .type "object"] "ValueError.__new__" = true
  k : PySem.W.keepIn K (.ref C) = true
  b : PySem.W.subIn K (.ref C) (.type "BaseException") = some true
  t : PySem.W.typeIn K (.ref C) = some (.type "type")
/-- raise X('..') -/
@[simp] def dRaise (J : Jst) (x : Str) : DS := fun _ j _ => J.xk (J.fa x) [] [] j
theorem ds_raise {X : Cx} {B : Ent} {x m : Str} {jj : Nat} {p p2 pos pos' : Pos} {C : Addr} (hc : X.calm = true) (hx : Rs X B.J) (hF : B.J.fa = faOf X.mg) (gC : X.mg x = some (.ref C)) (c : ClsX X.K C) (hg : Gl X x) (hdb : (x == ("__debug__" : Str)) = false := by decide) :
    PS X (.Raise (some (.Call (.Name x p) [.Constant (.str m) jj p2] [] pos)) none pos') (dS X.K B (dRaise B.J x)) := by
  obtain ⟨W, tk, hW⟩ := hx.ex
  exact (ps_raise hc tk (pmk_own PySem.F.excBase_ValueError c.q gC c.k (raises_own c.b c.t) hg hdb)).imp fun D σ H ⟨j, F, ρ, E, s, g, q, k⟩ => by
    have q : B.J.xk (B.J.fa x) [] [] j := q
    rw [hF, faOf_eq gC] at q
    exact hW C [] [] j q σ F H ρ none s.toSR True.intro
end DL

/-! DL18 -/
/-! DL18: lambdas, called while the frame that made them stands. -/
namespace DL
open PySem PySem.Spec PyProof.Rows L2
/-- first in the frames l, then in frames above them -/
theorem under {l outer : List Env} {H H1 H2 : Hp} {h h1 h2 : Heap} (u : Un (frs l) [] H H1 h h1) (v : Un (frs outer) [] H1 H2 h1 h2) (up : ∀ b ∈ frs outer, b ∈ frs l ∨ h.get? b = none) : Un (frs l) [] H H2 h h2 where
  keep := fun b o e n hb hx => v.keep b o (u.keep b o e n hb hx) (u.free b o e n hx) (fun z => (up b z).elim hb fun q => by rw [q] at e; cases e) hx
  slot := fun b o e n hb hx => by
    obtain ⟨sl, q⟩ := u.slot b o e n hb hx
    obtain ⟨sl2, q2⟩ := v.any q (u.free b o e n hx) (by simp)
    exact ⟨sl2, q2⟩
  free := fun b o e n hx => by
    obtain ⟨o', q⟩ := u.there b o e hx
    exact v.free b o' q (u.free b o e n hx) hx
  there := fun b o e hx => by
    obtain ⟨o', q⟩ := u.there b o e hx
    exact v.there b o' q hx
  tups := fun b xs e => v.tups b xs (u.tups b xs e)
  frzs := fun b o xs e => v.frzs b o xs (u.frzs b o xs e)
  tbls := fun b ps e => by
    obtain ⟨m, q⟩ := u.tbls b ps e
    obtain ⟨m2, q2⟩ := v.tbls b _ q
    exact ⟨m ++ m2, by rw [q2, Array.append_assoc]⟩
/-- parameters are put into their slots -/
def bindS : L2.St → List Nat → List V → L2.St
  | σ, i :: is, v :: vs => bindS (σ.set i (some v)) is vs
  | σ, _, _ => σ
@[simp] def bindD : List SD → List Nat → List D → List SD
  | ρ, i :: is, d :: ds => bindD (put ρ i (.val d)) is ds
  | ρ, _, _ => ρ
theorem bind_len : ∀ (is : List Nat) (vs : List V) (σ : L2.St), (bindS σ is vs).length = σ.length
  | [], _, _ => by simp [bindS]
  | _ :: _, [], _ => by simp [bindS]
  | i :: is, v :: vs, σ => by simp only [bindS]; rw [bind_len is vs, List.length_set]
theorem bind_out : ∀ (is : List Nat) (vs : List V) (σ : L2.St) {i : Nat}, i ∉ is → (bindS σ is vs)[i]? = σ[i]?
  | [], _, _, _, _ => by simp [bindS]
  | _ :: _, [], _, _, _ => by simp [bindS]
  | k :: is, v :: vs, σ, i, h => by
    simp only [bindS]
    rw [bind_out is vs _ (fun z => h (List.mem_cons_of_mem _ z)), List.getElem?_set_ne (fun z => h (by rw [z]; exact List.mem_cons_self))]
theorem bind_in : ∀ (is : List Nat) (vs : List V) (σ : L2.St) {k i : Nat} {v : V}, is.Nodup → is[k]? = some i → vs[k]? = some v → i < σ.length → (bindS σ is vs)[i]? = some (some v)
  | [], _, _, _, _, _, _, e, _, _ => by simp at e
  | _ :: _, [], _, _, _, _, _, _, e, _ => by simp at e
  | a :: is, b :: vs, σ, 0, i, v, n, e1, e2, hi => by
    simp at e1 e2
    subst e1 e2
    simp only [bindS]
    rw [bind_out is vs _ (List.nodup_cons.mp n).1, List.getElem?_set_self hi]
  | a :: is, b :: vs, σ, k + 1, i, v, n, e1, e2, hi => by
    simp only [bindS]
    exact bind_in is vs _ (List.nodup_cons.mp n).2 (by simpa using e1) (by simpa using e2) (by rw [List.length_set]; exact hi)
theorem SR.bind {K : PySem.W.Frag} {J : Jst} {F H : Hp} : ∀ {is : List Nat} {vs : List V} {ds : List D} {σ : L2.St} {ρ : List SD}, SR K J F H σ ρ → RpAll K F vs ds → SR K J F H (bindS σ is vs) (bindD ρ is ds)
  | [], _, _, _, _, s, _ => by simpa [bindS, bindD] using s
  | _ :: _, _, _, _, _, s, .nil => by simpa [bindS, bindD] using s
  | i :: is, _, _, _, _, s, .cons r t => by
    simp only [bindS, bindD]
    exact SR.bind (s.setVal r) t
/-- a lambda's names: parameters, captured ones, globals -/
structure LamP (sc scope : Scope) (ps : List Str) : Prop where
  kind : scope.kind = .function
  co : scope.isCoroutine = false
  gen : scope.isGenerator = false
  nocell : ∀ y ∈ scope.names, y.2 ≠ .cell
  loc : ∀ p ∈ ps, scope.names.lookup p = some .local
  locs : ∀ y ∈ scope.names, y.2 = .local → y.1 ∈ ps
  free : ∀ y ∈ scope.names, y.2 = .free → sc.names.lookup y.1 = some .cell ∨ sc.names.lookup y.1 = some .free
def lamPB (sc scope : Scope) (ps : List Str) : Bool :=
  decide (scope.kind = .function) && !scope.isCoroutine && !scope.isGenerator && (scope.names.all fun y => !decide (y.2 = .cell) && (!decide (y.2 = .local) || decide (y.1 ∈ ps)) && (!decide (y.2 = .free) || decide (sc.names.lookup y.1 = some .cell) || decide (sc.names.lookup y.1 = some .free))) && ps.all fun p => decide (scope.names.lookup p = some .local)
theorem lamP_by {sc scope : Scope} {ps : List Str} (h : lamPB sc scope ps = true) : LamP sc scope ps := by
  unfold lamPB at h
  simp only [Bool.and_eq_true, Bool.or_eq_true, Bool.not_eq_true', decide_eq_true_eq, decide_eq_false_iff_not, List.all_eq_true] at h
  obtain ⟨⟨⟨⟨a1, a2⟩, a3⟩, a4⟩, a5⟩ := h
  refine ⟨a1, a2, a3, fun y hy => (a4 y hy).1.1, a5, fun y hy e => ?_, fun y hy e => ?_⟩
  · exact (a4 y hy).1.2.elim (fun z => absurd e z) id
  · rcases (a4 y hy).2 with (z | z) | z
    · exact absurd e z
    · exact .inl z
    · exact .inr z
theorem zip_look : ∀ {ps : List Str} {us : List Value} {k : Nat} {p : Str} {u : Value}, ps.Nodup → ps[k]? = some p → us[k]? = some u → (ps.zip us).reverse.lookup p = some u := by
  intro ps
  induction ps with
  | nil => intro us k p u _ e; simp at e
  | cons a r ih =>
    intro us k p u n e1 e2
    cases us with
    | nil => simp at e2
    | cons b us =>
      rw [List.zip_cons_cons, List.reverse_cons, List.lookup_append]
      obtain ⟨n1, n2⟩ := List.nodup_cons.mp n
      cases k with
      | zero =>
        simp at e1 e2
        subst e1 e2
        have : (r.zip us).reverse.lookup a = none := by
          rw [List.lookup_eq_none_iff]
          intro q hq
          have := (List.of_mem_zip (List.mem_reverse.mp hq)).1
          simp only [beq_eq_false_iff_ne, ne_eq, bne_iff_ne]
          intro z
          rw [← z] at this
          exact n1 this
        rw [this]
        simp [List.lookup]
      | succ k =>
        rw [ih n2 (by simpa using e1) (by simpa using e2)]
        rfl
section
variable {X : Cx} {pins : List (Addr × Obj)} {σ : L2.St} {H HZ : Hp} {s s1 : Shared}
/-- a lambda's body begins, its parameters bound -/
theorem lam_startP {A : Around} {outer : List Env} {E : XK} {scope : Scope} {f c' : Addr} {h₁ : Heap} {tk : Nat} {ps : List Str} {is : List Nat} {us : List Value} {vs : List V} (I : Inv X pins σ H s) (L : LamP X.env.scope scope ps) (e0 : Env0 X.prog X.w X.K X.mg X.base A outer s1 HZ) (hd : A.handled = none)
    (hN : X.N.Nodup) (his : ∀ (k : Nat) (p : Str), ps[k]? = some p → ∃ i : Nat, is[k]? = some i ∧ X.N[i]? = some p) (hil : is.length = ps.length) (hp : ps.Nodup) (hisn : is.Nodup) (rv : Vals vs us) (hl : us.length = ps.length)
    (un : Un (frs X.stack) [] H HZ s.heap s1.heap) (hns : h₁.Ns s1.heap.objs.size fun y => (ps.zip us).reverse.lookup y) (kp : ∀ b o, s1.heap.get? b = some o → h₁.get? b = some o) :
    Inv (LamX.lamCx X A outer s1 HZ E scope f c') [] (bindS σ is vs) HZ { s1 with heap := h₁, toks := tk } := by
  have hfree : ∀ y ∈ scope.names, y.2 = .free → ∃ c, X.env.cells.lookup y.1 = some c := fun y hy e => (L.free y hy e).elim (fun k => I.ok.has _ (.inl k)) (fun k => I.ok.has _ (.inr k))
  have cm : ∀ {y c}, (cloFrom X.env.cells scope.names []).lookup y = some c → X.env.cells.lookup y = some c := fun {y c} e => by
    rcases cloFrom_mem (PySem.mem_of_lookup e) with hm | ⟨m1, m2⟩
    · cases hm
    · obtain ⟨c1, hc1⟩ := hfree _ m1 rfl
      have hc1 : X.env.cells.lookup y = some c1 := hc1
      rw [show c = c1 by rw [m2, hc1]; rfl]
      exact hc1
  have look : ∀ {y}, scope.names.lookup y = some .free → ∃ c, (cloFrom X.env.cells scope.names []).lookup y = some c := fun {y} q =>
    mem_lookup (cloFrom_has (cells := X.env.cells) (acc := []) (PySem.mem_of_lookup q))
  have cellK : ∀ {c : Addr} {v : Option Value}, H c = none → s.heap.IsCell c v → h₁.IsCell c v := fun {c v} nc ⟨o, ho, hd⟩ => by
    obtain ⟨sl, q⟩ := un.any ho nc (by simp)
    exact ⟨_, kp _ _ q, hd⟩
  have noA : ∀ b : Addr, b ∉ (LamX.lamCx X A outer s1 HZ E scope f c').ex := fun b z => absurd (show b ∈ ([] : List Addr) from z) (by simp)
  refine ⟨⟨e0.mod, L.kind, rfl, rfl, Nat.le_refl _, fun y z c e1 e2 => I.ok.inj y z c (cm e1) (cm e2), fun y hy => ?_, fun y c z _ => ?_, fun _ => hd, Around.frames_deeper e0.frames, .inr ⟨rfl, rfl⟩, fun b z => absurd z (noA b), e0.bs, e0.bsz, fun b _ _ => noA b,
      fun b z => absurd z (noA b), e0.funs, e0.frf⟩,
    rfl, e0.bare, Un.kept kp, ⟨_, hns, fun i y v q1 q2 q3 => ?_⟩, fun y c e => ?_, e0.hok.fresh (Nat.le_refl _), fun y c e => ?_, fun q hq => absurd (show q ∈ ([] : List (Addr × Obj)) ++ [] from hq) (by simp), e0.hok.kept kp, by rw [bind_len]; exact I.len⟩
  · have hy : scope.names.lookup y = some .cell ∨ scope.names.lookup y = some .free := hy
    rcases hy with hy | hy
    · exact absurd rfl (L.nocell _ (PySem.mem_of_lookup hy))
    · exact look hy
  · have z : false = true := z
    cases z
  · have q3 : Vis scope y := q3
    have q1 : X.N[i]? = some y := q1
    rcases q3 with k | k | k
    · have my := L.locs _ (PySem.mem_of_lookup k) rfl
      obtain ⟨kk, hk, ek⟩ := List.mem_iff_getElem.mp my
      have ek : ps[kk]? = some y := by rw [List.getElem?_eq_getElem hk, ek]
      obtain ⟨i', i1, i2⟩ := his kk y ek
      have ii : i = i' := by
        have h1 := (List.getElem?_eq_some_iff.mp q1).1
        exact (List.getElem?_inj h1 hN).mp (q1.trans i2.symm)
      subst ii
      have hlt : i < σ.length := by rw [I.len]; exact (List.getElem?_eq_some_iff.mp q1).1
      have hvl : kk < vs.length := by rw [rv.length, hl]; exact hk
      have b1 := bind_in is vs σ hisn i1 (List.getElem?_eq_getElem hvl) hlt
      rw [b1] at q2
      cases q2
      obtain ⟨u, hu, ru⟩ := rv.get (List.getElem?_eq_getElem hvl)
      exact ⟨u, ru, .inl ⟨k, zip_look hp ek hu⟩⟩
    · exact absurd rfl (L.nocell _ (PySem.mem_of_lookup k))
    · have ni : i ∉ is := fun hm => by
        obtain ⟨kk, hk, ek⟩ := List.mem_iff_getElem.mp hm
        have hk2 : kk < ps.length := by rw [← hil]; exact hk
        obtain ⟨i', i1, i2⟩ := his kk _ (List.getElem?_eq_getElem hk2)
        rw [List.getElem?_eq_getElem hk, ek] at i1
        cases i1
        rw [q1] at i2
        cases i2
        have := L.loc _ (List.getElem_mem hk2)
        rw [k] at this
        cases this
      rw [bind_out is vs σ ni] at q2
      obtain ⟨m, hn, hll⟩ := I.loc
      have hvis : Vis X.env.scope y := (L.free _ (PySem.mem_of_lookup k) rfl).elim (fun k => .inr (.inl k)) (fun k => .inr (.inr k))
      obtain ⟨w', r, q⟩ := hll i y v q1 q2 hvis
      obtain ⟨c2, h2⟩ := look k
      refine ⟨w', r, .inr ⟨.inr k, c2, h2, ?_⟩⟩
      have c1 := cm h2
      rcases q with ⟨k', _⟩ | ⟨_, c3, e', z⟩
      · have k' : X.env.scope.names.lookup y = some .local := k'
        rcases L.free _ (PySem.mem_of_lookup k) rfl with k2 | k2 <;> rw [show X.env.scope.names.lookup y = _ from k2] at k' <;> cases k'
      · rw [c1] at e'
        cases e'
        exact cellK (I.freeC y _ c1) z
  · obtain ⟨w', z⟩ := I.cell y c (cm e)
    exact ⟨w', cellK (I.freeC y c (cm e)) z⟩
  · obtain ⟨v, o, ho, hd⟩ := I.cell y c (cm e)
    exact un.free c o ho (I.freeC y c (cm e)) (by simp)
/-- a lambda is called: I tells the frame that made it, as it was left -/
theorem lam_run {T : LamT} {ps : List Str} {is : List Nat} {k : Nat} {tb : TE} {A : Around} {outer : List Env} {s1 : Shared} {H1 : Hp} {f c : Addr} {pm ctv : Value} {u : HO} {us : List Value} {vs : List V} {Q : VK} {E : XK} (I : Inv X pins σ H s) (L : LamP X.env.scope T.scope ps) (hN : X.N.Nodup) (his : ∀ (k : Nat) (p : Str), ps[k]? = some p → ∃ i : Nat, is[k]? = some i ∧ X.N[i]? = some p) (hil : is.length = ps.length) (hp : ps.Nodup) (hisn : is.Nodup)
    (hbind : ∀ (q : Str) (cl : List (Str × Addr)) (pm cv ctv : Value) (us : List Value), us.length = ps.length → bindArgs (PySem.W.kla_fn "<lambda>" q T.params T.body T.scope cl pm cv ctv) ⟨us, []⟩ = pure (ps.zip us))
    (hr : Room (k + 1) A) (hbody : Room k (A.deeper (LamX.lamEnv X T.scope s1.heap.objs.size f c)) → PE (LamX.lamCx X A outer s1 H1 E T.scope f c) T.body tb) (hq : X.env.qual ++ "<lambda>" = T.qual)
    (e0 : Env0 X.prog X.w X.K X.mg X.base A outer s1 H1) (un : Un (frs X.stack) [] H H1 s.heap s1.heap)
    (hf : H1 f = some (.frz (cloObj T X.env.cells pm ctv c) u)) (hc : H1 c = some (LamX.CodeO c T.qual)) (rv : Vals vs us) (hl : us.length = ps.length) (ht : tb (bindS σ is vs) H1 Q) :
    codeAny (model X.prog X.w) A (.call (.ref f) ⟨us, []⟩) (CR (L2.CX X.prog X.w) outer X.prog X.w H1 s1 Q E) s1 := by
  obtain ⟨of1, _⟩ := (show ObjOk X.prog X.w H1 s1.heap f (.frz (cloObj T X.env.cells pm ctv c) u) from e0.hok f _ hf)
  obtain ⟨⟨oc, ws, t, hoc, hdc, hvc⟩, _, _⟩ := e0.hok c _ hc
  refine PySem.W.kla_callFunE hr.depth of1 rfl L.co L.gen rfl ⟨c, oc, ws, t, rfl, hoc, hdc, hvc⟩ ?_
  rw [hbind _ _ _ _ _ us hl]
  have lim : s1.heap.NoLimit := e0.mod.nolimit.keeps fun b o e => (e0.bs b o e).1
  refine wpAny_pure (wpAny_newFunctionEnv L.nocell (fun y hy => L.loc _ (List.of_mem_zip hy).1) (fun h₁ hns hsb => ⟨lim.fresh _ hsb, ?_⟩) L.kind)
  rw [show T.qual ++ ".<locals>." = X.env.qual ++ "<lambda>" ++ ".<locals>." by rw [hq]]
  show codeAny _ _ (.expr T.body (LamX.lamEnv X T.scope s1.heap.objs.size f c)) _ _
  have kp : ∀ b o, s1.heap.get? b = some o → h₁.get? b = some o := fun b o e => hsb.extBut b o (Nat.ne_of_lt (Heap.lt_size e)) (Heap.get?_push_of_some _ e)
  have Jv : Inv (LamX.lamCx X A outer s1 H1 E T.scope f c) [] (bindS σ is vs) H1 { s1 with heap := h₁, toks := s1.toks + (ps.zip us).length } := lam_startP I L e0 hr.hd hN his hil hp hisn rv hl un hns kp
  refine PySem.W.kla_codeExpr (wpAny_mono ((hbody (hr.deeper _)).run [] _ _ H1 Q Jv ht) (fun v s' hq => ?_) fun e s' hq => hq)
  obtain ⟨w', H', J', r', q'⟩ := hq
  exact ⟨w', H', J'.os, J'.bare, J'.base, J'.hok, r', q'⟩
end
end DL

/-! DL19 -/
/-! DL19: lambdas made; errors kept. -/
namespace DL
open PySem PySem.Spec PyProof.Rows L2
/-- the object at a is o -/
def Kn (o : Obj) (a : Addr) : HO := .frz o (.ext fun h => h.get? a = some o)
theorem kn_ok {P : Program} {w : World} {H : Hp} {h : Heap} {a : Addr} {o : Obj} (e : h.get? a = some o) : ObjOk P w H h a (Kn o a) := ⟨e, e, ⟨o, e⟩, fun _ _ q k => k o q⟩
section
variable {X : Cx} {pins : List (Addr × Obj)} {σ : L2.St} {H : Hp} {s : Shared}
/-- a pinned object that is newer than the entry may be tracked -/
theorem _root_.L2.Inv.know {a : Addr} {o : Obj} (I : Inv X ((a, o) :: pins) σ H s) (h0 : X.s_0.heap.get? a = none) (hp : ∀ p ∈ X.pn ++ pins, p.1 ≠ a) : Inv X pins σ (L2.upd H a (Kn o a)) s := by
  obtain ⟨e, n, ne, nf, nd⟩ := I.pin (a, o) (List.mem_append_right _ List.mem_cons_self)
  have e : s.heap.get? a = some o := e
  have n : H a = none := n
  have old : ∀ b u, H b = some u → b ≠ a := fun b u q z => by rw [z, n] at q; cases q
  have old0 : ∀ b u, X.s_0.heap.get? b = some u → b ≠ a := fun b u q z => by rw [z, h0] at q; cases q
  refine ⟨I.ok, I.os, I.bare, ⟨I.base.keep, I.base.slot, fun b u q m x => ?_, I.base.there, fun b xs q => ?_, fun b u xs q => ?_, fun b ps q => ?_⟩, I.loc, I.cell, ?_, fun x c q => ?_, fun p hp' => ?_, fun b u q => ?_, I.len⟩
  · rw [L2.upd_ne (old0 b u q)]; exact I.base.free b u q m x
  · have := I.base.tups b xs q
    rw [L2.upd_ne (old b _ this)]; exact this
  · have := I.base.frzs b u xs q
    rw [L2.upd_ne (old b _ this)]; exact this
  · obtain ⟨m, this⟩ := I.base.tbls b ps q
    exact ⟨m, by rw [L2.upd_ne (old b _ this)]; exact this⟩
  · rw [L2.upd_ne (Ne.symm ne)]; exact I.free
  · have hc : c ≠ a := fun z => by
      obtain ⟨v, oc, ho, hd⟩ := I.cell x c q
      rw [z, e] at ho
      cases ho
      exact nd _ hd
    rw [L2.upd_ne hc]; exact I.freeC x c q
  · have := I.pin p (by
      rcases List.mem_append.mp hp' with z | z
      · exact List.mem_append_left _ z
      · exact List.mem_append_right _ (List.mem_cons_of_mem _ z))
    rw [L2.upd_ne (hp p hp')]
    exact this
  · by_cases hb : b = a
    · subst hb
      rw [L2.upd_same] at q
      cases q
      exact kn_ok e
    · rw [L2.upd_ne hb] at q
      exact (I.hok b u q).stay (fun c v _ z => z) (fun c z => by rw [L2.upd_ne (old c _ z)]; exact z) fun c xs z => by rw [L2.upd_ne (old c _ z)]; exact z
end
/-! try: .. except x as n: y = n -/
/-- what is wanted of an error: it is kept in the slot k -/
def wKeep (K : PySem.W.Frag) (c : Value) (i k : Nat) (Wout : WX) (D : Ends) : WX := fun cls d σ H =>
  ∃ b, PySem.W.exmOne K cls c = some b ∧ (b = true → ∀ (a : Addr) (oe : Obj), H a = none → oe.cls = cls → oe.dict = d → (∃ ws, oe.data = .fields ws) → D.nx (((σ.set i (some (.ref a))).set k (some (.ref a))).set i none) (L2.upd H a (Kn oe a))) ∧ (b = false → Wout cls d σ H)
section
variable {X : Cx} {x n y : Str} {c : Value} {i k : Nat} {body : List Stmt} {np pos pos' p1 p2 p3 : Pos} {tb : WX → TS} {Wout : WX}
theorem ps_keep (hs : X.stack = X.env :: X.outer) (hex : X.ex = []) (hf : X.env.frame = some X.env.locals) (hN : X.N.Nodup) (hi : X.N[i]? = some n) (hln : X.env.kindOf n = some .local) (hk : X.N[k]? = some y) (hly : X.env.scope.names.lookup y = some .local) (hc : Names X x c) (tk : Takes X Wout)
    (hb : ∀ (W : WX) (pn : List (Addr × Obj)) (xe : Value → Shared → Prop), Takes (X.tr pn xe) W → PassesOwn (model X.prog X.w) X.A X.env xe → PSs (X.tr pn xe) body (tb W))
    (hdn : (n == ("__debug__" : Str)) = false := by decide) (hcn : (n == ("__classdict__" : Str)) = false := by decide) (hdy : (y == ("__debug__" : Str)) = false := by decide)
    (hsw : ∀ (X' : Cx), X'.env = X.env → swapsWith (.Name n p2) (some (.Name y p1)) p3.line X'.env = pure false := by intro _ _; rfl) :
    PS X (.Try body [.ExceptHandler (some (.Name x np)) (some n) [.Assign [.Name y p1] (.Name n p2) p3] pos'] [] [] pos) (fun D σ H => tb (wKeep X.K c i k Wout D) D σ H) := by
  constructor
  intro pins s σ H D I h
  have ok := I.ok
  have frX : X.A.frames = some (X.env :: X.outer) := by rw [ok.frames, hs]
  have locN : Loc X.env.scope n := .inl hln
  refine wpAny_Try_except ?_
  have run := (hb (wKeep X.K c i k Wout D) (X.pn ++ pins) (fun e t => wpAny (model X.prog X.w) X.A (noteFrame e X.env) (fun _ t2 => wpAny (model X.prog X.w) X.A (setFlight e none) (fun _ t3 =>
    wpAny (model X.prog X.w) X.A (handleBy e X.env [.ExceptHandler (some (.Name x np)) (some n) [.Assign [.Name y p1] (.Name n p2) p3] pos']) (SP X pins D) X.xe t3) X.xe t2) X.xe t) (fun u s' hit => ?_) PassesOwn.looking).run [] s σ H D (I.toTry _) h
  · refine wpAny_mono run (fun fl t ends => ?_) (fun _ _ z => z)
    cases fl with
    | ret u =>
      obtain ⟨v, σ2, H2, I2, r2, q2⟩ := ends
      exact ⟨v, σ2, H2, I2.ofTry ok, r2, q2⟩
    | next =>
      obtain ⟨σ2, H2, I2, q2⟩ := ends
      exact wpAny_execs_nil ⟨σ2, H2, I2.ofTry ok, q2⟩
    | brk =>
      obtain ⟨σ2, H2, I2, q2⟩ := ends
      exact ⟨σ2, H2, I2.ofTry ok, q2⟩
    | cont =>
      obtain ⟨σ2, H2, I2, q2⟩ := ends
      exact ⟨σ2, H2, I2.ofTry ok, q2⟩
  -- an error came
  obtain ⟨a, G, sI, pins2, σ2, H2, cls, d, rfl, IT, inG, upS, sky, na, osI, bareI, b, eb, yes, no⟩ := hit
  have II : Inv X pins σ2 H2 sI := IT.ofTry ok
  rw [hs] at sky
  show wpAny (model X.prog X.w) X.A (noteFrame (.ref a) X.env) _ _ _
  refine Sky.land Zc.steady frX hf sky fun g3 fly3 up3 => ?_
  have I3 : Inv X pins σ2 H2 { s' with heap := g3 } := II.landed inG fly3.1 (upS.trans up3) osI bareI
  obtain ⟨o3, w3, at3, z3, d3⟩ := fly3.there
  have offFr : a ∉ frs (X.env :: X.outer) := fun hm => by
    obtain ⟨_, o', q, nofields⟩ := fly3.2.2.1.mem hm
    rw [at3] at q
    cases q
    exact nofields _ d3
  have offL : a ≠ X.env.locals := fun z => offFr (List.mem_filterMap.mpr ⟨X.env, List.mem_cons_self, by rw [hf, z]⟩)
  have offO : a ∉ X.fs := fun hm => by
    obtain ⟨en, h1, h2⟩ := List.mem_filterMap.mp hm
    exact offFr (List.mem_filterMap.mpr ⟨en, List.mem_cons_of_mem _ h1, h2⟩)
  have fresh : sI.heap.get? a = none := by
    cases q : sI.heap.get? a with
    | none => rfl
    | some o =>
      have := inG a o q (by rw [hs]; exact offFr)
      rw [fly3.2.1] at this
      cases this
  have fresh0 : X.s_0.heap.get? a = none := by
    cases q : X.s_0.heap.get? a with
    | none => rfl
    | some o =>
      obtain ⟨o', q'⟩ := II.base.there a o q (by rw [hex]; exact List.not_mem_nil)
      rw [fresh] at q'
      cases q'
  have offP : ∀ p ∈ X.pn ++ pins, p.1 ≠ a := fun p hp z => by
    have q := (II.pin p hp).1
    rw [z, fresh] at q
    cases q
  have IS := I3.suite at3 d3 na offL offO
  refine wpAny_handleBy_cons (codeAny_handlers_test ?_) (by intro q; cases q)
  have seeT : PySem.W.Looks (model X.prog X.w) g3 (typeOf (.ref a)) cls := fun A' Q' E' t kk q => wpAny_typeOf_ref (kk _ _ at3) (by rw [z3.1]; exact q)
  have seeM := PySem.W.exm_one (M := model X.prog X.w) I3.kIn seeT eb
  have name : ∀ {Q' : Value → Shared → Prop} {E' : Value → Shared → Prop}, Q' c { s' with heap := g3 } → wpAny (model X.prog X.w) (X.A.mark (some (.ref a))) (eval (.Name x np) X.env) Q' E' { s' with heap := g3 } := fun {Q' E'} q => by
    obtain ⟨n1, n2, n3⟩ := hc
    rcases n3 with n3 | ⟨n3, n4, n5⟩
    · exact ld_glob (X := X.suite a ((a, o3) :: (X.pn ++ pins))) IS n1 n3 q n2
    · exact ld_blt (X := X.suite a ((a, o3) :: (X.pn ++ pins))) IS n1 n3 n4 q n5 n2
  refine name (seeM.here ?_)
  cases b with
  | false =>
    show wpAny _ X.A (handleBy (.ref a) X.env []) _ _ _
    refine wpAny_handleBy_nil ?_
    obtain ⟨k1, k2, k3, oe, vs, T, oT, ts', he, hz, hd, h1, hr⟩ := id fly3
    unfold PySem.passOn
    refine wpAny_bind (wpAny_field he hd h1 ?_)
    rw [if_neg (show ¬ ((Value.ref T == Value.none) = true) from by simp)]
    have last : wpAny (model X.prog X.w) X.A (setFlight (.ref a) X.env.frame) (fun _ t => wpAny (model X.prog X.w) X.A (throw (.ref a) : Sem Flow) (SP X pins D) X.xe t) X.xe { s' with heap := g3 } := by
      rw [hf]
      refine HandSPX.setFlight_upZ fly3 fun g4 held4 up4 => wpAny_throw (tk _ _ ?_)
      exact ⟨a, G, sI, pins, σ2, H2, cls, d, rfl, II, inG, (upS.trans up3).trans up4, .inr (.inr (by rw [hs]; exact held4)), na, osI, bareI, no rfl⟩
    first
      | exact wpAny_bind (wpAny_pure (wpAny_bind last))
      | exact wpAny_bind last
  | true =>
    refine codeAny_handlers_suite_as ?_
    refine HandSPX.lands_againZ fly3 fun g4 fly4 up4 => ?_
    have I4 : Inv X pins σ2 H2 { s' with heap := g4 } := II.landed inG fly4.1 ((upS.trans up3).trans up4) osI bareI
    obtain ⟨o4, w4, at4, z4, d4⟩ := fly4.there
    have IS4 := I4.suite at4 d4 na offL offO
    refine store_ok (X := X.suite a ((a, o4) :: (X.pn ++ pins))) (v := .ref a) IS4 hN hi locN rfl (fun t5 I5 => ?_) (.inr hln)
    have hit : i < σ2.length := by rw [II.len]; exact (List.getElem?_eq_some_iff.mp hi).1
    have visN : Vis X.env.scope n := .inl hln
    have st : PSs (X.suite a ((a, o4) :: (X.pn ++ pins))) [.Assign [.Name y p1] (.Name n p2) p3] (tAsg (tVar i) (gName k)) :=
      pss_one (ps_set (X := X.suite a ((a, o4) :: (X.pn ++ pins))) hN hk (.inl hly) (pe_var (X := X.suite a ((a, o4) :: (X.pn ++ pins))) (i := i) hi visN hdn hcn) (hsw _ rfl) (.inr hly))
    refine wpAny_mono (st.run [] t5 _ H2 { nx := fun σ6 H6 => σ6 = (σ2.set i (some (.ref a))).set k (some (.ref a)) ∧ H6 = H2, rt := fun _ _ => False } I5 ⟨.ref a, by rw [List.getElem?_set_self hit], rfl, rfl⟩) (fun fl t6 ends => ?_) (fun _ _ z => False.elim z)
    cases fl with
    | next =>
      obtain ⟨σ6, H6, I6, e1, e2⟩ := ends
      rw [e1, e2] at I6
      have I7 : L2.Inv X ((a, o4) :: pins) ((σ2.set i (some (.ref a))).set k (some (.ref a))) H2 t6 := ⟨ok, I6.os, I6.bare, I6.base, I6.loc, I6.cell, I6.free, I6.freeC, fun p hp => I6.pin p (by
        rw [List.append_nil]
        rcases List.mem_append.mp hp with z | z
        · exact List.mem_cons_of_mem _ (List.mem_append_left _ z)
        · rcases List.mem_cons.mp z with z | z
          · rw [z]; exact List.mem_cons_self
          · exact List.mem_cons_of_mem _ (List.mem_append_right _ z)), I6.hok, I6.len⟩
      exact gone_ok I7 hN hi hln fun t7 I8 => ⟨_, _, I8.know fresh0 offP, yes rfl a o4 na z4.1 z4.2 ⟨_, d4⟩⟩
    | brk => obtain ⟨_, _, _, z⟩ := ends; exact z.elim
    | cont => obtain ⟨_, _, _, z⟩ := ends; exact z.elim
    | ret u => obtain ⟨_, _, _, _, _, z⟩ := ends; exact z.elim
end
end DL

/-! DL20 -/
/-! DL20: lambdas on data, defs that call what they are given. -/
namespace DL
open PySem PySem.Spec PyProof.Rows L2
/-! ### a lambda is made -/
theorem Gt.tab {J : Jst} {j : JS} {F H : Hp} {P : Addr} {q : Str} {qs qs' : Array Value} (b : BaseOk (J.at j) F H) (hm : (P, q) ∈ J.tbs) (hu : ∀ p ∈ J.tbs, p.1 = P → p.2 = q) (hP : H P = some (.tbl qs)) (ht : TriplesOk qs'.toList)
    (ha : ∀ (pos : Pos) (cv : Value), codeAmong pos qs'.toList = some cv → ∃ c, cv = .ref c ∧ F c = some (LamX.CodeO c q)) : Gt (J.at j) F H j F (L2.upd H P (.tbl qs')) := by
  have hP1 : (J.at j).has P = true := Jst.tb_has (J := J.at j) (p := (P, q)) hm
  have hd : J.hd P = false := hd_tab (J := J.at j) b hm
  have nF : ∀ c u, F c = some u → c ≠ P := fun c u e z => by rw [z, b.nj P hP1] at e; cases e
  have nd : ∀ c, J.hd c = true → c ≠ P := fun c e z => by rw [z, hd] at e; cases e
  refine ⟨Sub.refl _, fun c u e n => ?_, fun c u e => .inl e, ⟨fun c u e => ?_, b.nj, fun on => ?_, fun p hp => ?_⟩⟩
  · rw [L2.upd_ne (fun z => by rw [z, hP1] at n; cases n)]; exact e
  · rw [L2.upd_ne (nF c u e)]; exact b.fh c u e
  · obtain ⟨a1, a2, a3, e1, e2, e3, r⟩ := b.jk on
    exact ⟨a1, a2, a3, by rw [L2.upd_ne (nd _ (Jst.hd_ad on))]; exact e1, by rw [L2.upd_ne (nd _ (Jst.hd_lg on))]; exact e2, by rw [L2.upd_ne (nd _ (Jst.hd_lc on))]; exact e3, r⟩
  · by_cases e : p.1 = P
    · rw [e, hu p hp e]
      exact ⟨qs', L2.upd_same, ht, ha⟩
    · obtain ⟨ps, e1, r⟩ := b.tb p hp
      exact ⟨ps, by rw [L2.upd_ne e]; exact e1, r⟩
@[simp] def dLam (J : Jst) (T : LamT) : DE := fun j _ P => P (.clo T J.cl) j
/-- what is asked of the frame that makes lambdas: its code object's table is one of J's -/
structure Mk (X : Cx) (J : Jst) (q : Str) : Prop where
  ex : ∃ c P, X.env.code = .ref c ∧ LamX.TabB X.base X.mg c P ∧ (P, q) ∈ J.tbs ∧ ∀ p ∈ J.tbs, p.1 = P → p.2 = q
  cl : J.cl = X.env.cells
section
variable {X : Cx} {J : Jst}
theorem de_lam {T : LamT} {ps : List Str} {pos : Pos} (m : Mk X J T.qual) (hq : X.env.qual ++ "<lambda>" = T.qual) (hdef : defaultsOf T.params X.env = ([], [])) (L : LamP X.env.scope T.scope ps) : PE X (.Lambda T.params T.body T.scope pos) (dE X.K J (dLam J T)) := by
  refine ⟨fun pins s σ H Q I ⟨j, F, ρ, R, sr, q, k⟩ => ?_⟩
  obtain ⟨c, P, hcode, TB, hm, hu⟩ := m.ex
  obtain ⟨qs, hP, ht, ha⟩ := sr.base.tb _ hm
  have hfree : ∀ y ∈ T.scope.names, y.2 = .free → ∃ c, X.env.cells.lookup y.1 = some c := fun y hy e => (L.free y hy e).elim (fun k => I.ok.has _ (.inl k)) (fun k => I.ok.has _ (.inr k))
  have hP' : s.heap.get? P = some (PySem.W.tabObj qs) := I.hok P _ hP
  have bP : s.heap.BuiltinsAt X.mg P := TB.bm.keeps I.bk
  refine PySem.W.kla_eval hdef ?_
  rw [hq]
  cases hc : codeAmong pos qs.toList with
  | none =>
    refine PySem.W.kla_makeFunction (mg := X.mg) (c := c) (P := P) (ps := qs) (closure_ok hfree) I.ok.glob (I.mod.glob.keeps I.bk) hcode (TB.code.keeps I.bk) hP' ht hc TB.gP bP fun c' ctv h' tk hx hge hlt hrec htb => ?_
    obtain ⟨c2, oc, ws, t, e2, hoc, hd, hv⟩ := hrec
    cases e2
    have nC : H c' = none := I.hok.fresh hge
    have I1 := LamX.inv_table (t' := tk) (q := T.qual) (more := #[rawInt pos.line, rawInt pos.col, .ref c']) (h' := h') I hP (fun b o hb e => hx b o hb e) htb hge ⟨oc, ws, t, hoc, hd, hv⟩
    have nf : L2.upd (L2.upd H P (.tbl (qs ++ #[rawInt pos.line, rawInt pos.col, .ref c']))) c' (LamX.CodeO c' T.qual) h'.objs.size = none := I1.hok.fresh (Nat.le_refl _)
    have I2 := I1.laid (a := h'.objs.size) (o := Kn (cloObj T X.env.cells ((X.mg "__name__").getD .none) ctv c') h'.objs.size) (h' := h'.push (cloObj T X.env.cells ((X.mg "__name__").getD .none) ctv c')) (t' := tk) (fun b u e => Heap.get?_push_of_some _ e) (Nat.le_refl _) (kn_ok (Heap.get?_push_size _ rfl))
    have gA := (Gr.laid sr.base nC (LamX.CodeO c' T.qual)).gt
    have nPc : P ≠ c' := ne_of_none hP nC
    have eL : (qs ++ #[rawInt pos.line, rawInt pos.col, .ref c']).toList = qs.toList ++ [rawInt pos.line, rawInt pos.col, .ref c'] := by simp
    have gB : Gt (J.at j) (L2.upd F c' (LamX.CodeO c' T.qual)) (L2.upd H c' (LamX.CodeO c' T.qual)) j (L2.upd F c' (LamX.CodeO c' T.qual)) (L2.upd (L2.upd H c' (LamX.CodeO c' T.qual)) P (.tbl (qs ++ #[rawInt pos.line, rawInt pos.col, .ref c']))) := by
      refine Gt.tab gA.base hm hu (by rw [L2.upd_ne nPc]; exact hP) (by rw [eL]; exact PySem.TriplesOk_snoc _ _ _ _ ht) fun p' cv hcv => ?_
      rw [eL] at hcv
      rcases LamX.among_app _ ht hcv with z | z
      · obtain ⟨c0, e1, e2⟩ := ha p' cv z
        exact ⟨c0, e1, gA.ff _ _ e2⟩
      · exact ⟨c', z, L2.upd_same⟩
    have eH : L2.upd (L2.upd H c' (LamX.CodeO c' T.qual)) P (.tbl (qs ++ #[rawInt pos.line, rawInt pos.col, .ref c'])) = L2.upd (L2.upd H P (.tbl (qs ++ #[rawInt pos.line, rawInt pos.col, .ref c']))) c' (LamX.CodeO c' T.qual) := by
      funext b
      by_cases h1 : b = P
      · subst h1; rw [L2.upd_same, L2.upd_ne nPc, L2.upd_same]
      · by_cases h2 : b = c'
        · subst h2; rw [L2.upd_ne h1, L2.upd_same, L2.upd_same]
        · rw [L2.upd_ne h1, L2.upd_ne h2, L2.upd_ne h2, L2.upd_ne h1]
    rw [eH] at gB
    have g2 := gA.trans gB
    have g3 := g2.pure (Gr.laid g2.base nf (Kn (cloObj T X.env.cells ((X.mg "__name__").getD .none) ctv c') h'.objs.size))
    have q : R (.clo T J.cl) j := q
    rw [m.cl] at q
    exact ⟨.ref h'.objs.size, _, I2, rfl, k _ j q _ _ _ g3 (.clo L2.upd_same (by rw [L2.upd_ne (Nat.ne_of_lt hlt)]; exact L2.upd_same))⟩
  | some cv =>
    obtain ⟨c', e, hco⟩ := ha pos cv hc
    subst e
    refine PySem.W.kla_makeFunctionHit (mg := X.mg) (c := c) (P := P) (ps := qs) (closure_ok hfree) I.ok.glob (I.mod.glob.keeps I.bk) hcode (TB.code.keeps I.bk) hP' ht hc bP fun ctv h' tk hx hsz => ?_
    have nf : H h'.objs.size = none := I.hok.fresh hsz
    have I2 := I.laid (a := h'.objs.size) (o := Kn (cloObj T X.env.cells ((X.mg "__name__").getD .none) ctv c') h'.objs.size) (h' := h'.push (cloObj T X.env.cells ((X.mg "__name__").getD .none) ctv c')) (t' := tk) (fun b u e => Heap.get?_push_of_some _ (hx b u e)) hsz (kn_ok (Heap.get?_push_size _ rfl))
    have g3 := (Gr.laid sr.base nf (Kn (cloObj T X.env.cells ((X.mg "__name__").getD .none) ctv c') h'.objs.size)).gt
    have nc : c' ≠ h'.objs.size := fun z => by
      have := sr.base.fh _ _ hco
      rw [z, nf] at this
      cases this
    have q : R (.clo T J.cl) j := q
    rw [m.cl] at q
    exact ⟨.ref h'.objs.size, _, I2, rfl, k _ j q _ _ _ g3 (.clo L2.upd_same (by rw [L2.upd_ne nc]; exact hco))⟩
end
/-! ### what a call of such a value does, later -/
abbrev XW : Type := Addr → List Str → List D → JS → Prop
abbrev Ac : Type := XW → JS → (D → JS → Prop) → Prop
/-- frames above l, behind what was (s, H) -/
structure Later (l : List Env) (s : Shared) (H : Hp) (outer : List Env) (s' : Shared) (H' : Hp) : Prop where
  up : ∀ b ∈ frs outer, b ∈ frs l ∨ s.heap.get? b = none
  un : Un (frs l) [] H H' s.heap s'.heap
theorem Later.trans {l outer outer2 : List Env} {s s1 s2 : Shared} {H H1 H2 : Hp} (a : Later l s H outer s1 H1) (b : Later outer s1 H1 outer2 s2 H2) : Later l s H outer2 s2 H2 := by
  refine ⟨fun c hc => ?_, under a.un b.un a.up⟩
  rcases b.up c hc with h | h
  · exact a.up c h
  · right
    cases e : s.heap.get? c with
    | none => rfl
    | some o =>
      obtain ⟨o', q⟩ := a.un.there c o e (by simp)
      rw [h] at q; cases q
/-- within a def's body -/
theorem Later.of_inv {X : Cx} {pins : List (Addr × Obj)} {σ : L2.St} {H : Hp} {s : Shared} (I : Inv X pins σ H s) (hex : X.ex = []) (hs : X.stack = X.env :: X.outer) (hf : X.env.frame = some X.env.locals) : Later X.outer X.s_0 X.H_0 X.stack s H := by
  refine ⟨fun b hb => ?_, ?_⟩
  · rw [hs] at hb
    unfold frs at hb
    rw [List.filterMap_cons, hf] at hb
    rcases List.mem_cons.mp hb with e | e
    · right
      rw [e]
      exact Heap.get?_none_of_le I.ok.above
    · exact .inl e
  · have := I.base
    rw [hex] at this
    exact this
theorem Later.refl {l : List Env} {s : Shared} {H : Hp} : Later l s H l s H := ⟨fun b h => .inl h, Un.refl⟩
structure ActD (P : Program) (w : World) (K : PySem.W.Frag) (mg : Str → Option Value) (base : Heap) (l : List Env) (s : Shared) (H : Hp) (kA : Nat) (f : Addr) (J : Jst) (j0 : JS) (F0 : Hp) (A : Ac) : Prop where
  fn : ∀ (A' : Around) (outer : List Env) (s' : Shared) (H' : Hp), Env0 P w K mg base A' outer s' H' → Later l s H outer s' H' → PySem.W.FnAt f s'.heap
  run : ∀ (xk : XW) (A' : Around) (outer : List Env) (s' : Shared) (H' : Hp) (Q : VK) (E : XK) (j : JS) (F' : Hp) (R : D → JS → Prop), Room kA A' → Env0 P w K mg base A' outer s' H' → Later l s H outer s' H' → Gt (J.at j0) F0 H j F' H' → A xk j R →
    (∀ d j', R d j' → ∀ v F2 H2, Gt (J.at j) F' H' j' F2 H2 → Rp K F2 v d → Q v H2) → (∀ c ns xs j', xk c ns xs j' → ∀ d F2 H2, Gt (J.at j) F' H' j' F2 H2 → ExR K F2 d ns xs → E (.ref c) d H2) →
    codeAny (model P w) A' (.call (.ref f) ⟨[], []⟩) (CR (L2.CX P w) outer P w H' s' Q E) s'
section
variable {P : Program} {w : World} {K : PySem.W.Frag} {mg : Str → Option Value} {base : Heap} {l : List Env} {s : Shared} {H : Hp} {kA : Nat} {f : Addr} {J : Jst} {j0 : JS} {F0 : Hp} {A : Ac} {T : List (Addr × Str)}
theorem ActD.re {xk : XW} {fa : Str → Addr} {cl : List (Str × Addr)} {ej : JS} {eF eH : Hp} (a : ActD P w K mg base l s H kA f J j0 F0 A) : ActD P w K mg base l s H kA f (J.re xk fa cl ej eF eH) j0 F0 A :=
  ⟨a.fn, fun xk A' outer s' H' Q E j F' R hr e0 lt g q kn ke => a.run xk A' outer s' H' Q E j F' R hr e0 lt (Gt.er g) q (fun d j' r v F2 H2 g2 => kn d j' r v F2 H2 g2.re) (fun c ns xs j' r d F2 H2 g2 => ke c ns xs j' r d F2 H2 g2.re)⟩
theorem ActD.later {outer : List Env} {s1 : Shared} {H1 : Hp} {j1 : JS} {F1 : Hp} (a : ActD P w K mg base l s H kA f J j0 F0 A) (lt : Later l s H outer s1 H1) (g : Gt (J.at j0) F0 H j1 F1 H1) : ActD P w K mg base outer s1 H1 kA f J j1 F1 A :=
  ⟨fun A' o s' H' e0 l2 => a.fn A' o s' H' e0 (lt.trans l2), fun xk A' o s' H' Q E j F' R hr e0 l2 g2 q kn ke => a.run xk A' o s' H' Q E j F' R hr e0 (lt.trans l2) (g.trans g2) q kn ke⟩
theorem ActD.mono {k2 : Nat} (a : ActD P w K mg base l s H kA f J j0 F0 A) (h : kA ≤ k2) : ActD P w K mg base l s H k2 f J j0 F0 A :=
  ⟨a.fn, fun xk A' o s' H' Q E j F' R hr => a.run xk A' o s' H' Q E j F' R (hr.mono h)⟩
/-- a def whose first parameter is called -/
def FnH (P : Program) (w : World) (K : PySem.W.Frag) (mg : Str → Option Value) (base : Heap) (T : List (Addr × Str)) (k : Nat) (x : Str) (n : Nat) (S : Jst → Ac → Spec) : Prop :=
  ∃ g : Addr, (∀ (J : Jst), At mg T J → ∀ (kA : Nat) (A' : Around) (outer : List Env) (s : Shared) (H : Hp) (us : List Value) (vs : List V) (Q : VK) (E : XK) (f : Addr) (A : Ac) (j : JS) (F : Hp) (ds : List D) (R : D → JS → Prop), Room (k + kA) A' → Env0 P w K mg base A' outer s H → Vals vs us → BaseOk (J.at j) F H → RpAll K F vs ds → ds.length = n →
      ActD P w K mg base outer s H kA f J j F A → S J A ds j R → (∀ d j', R d j' → ∀ v F' H', Gt (J.at j) F H j' F' H' → Rp K F' v d → Q v H') → codeAny (model P w) A' (.call (.ref g) ⟨.ref f :: us, []⟩) (CR CX0 outer P w H s Q E) s) ∧ mg x = some (.ref g) ∧ PySem.W.keepIn K (.ref g) = true
theorem fnH_of {x : Str} {st : Stmt} {g : Addr} {N ps : List Str} {k n : Nat} {S : Jst → Ac → Spec} {t : Jst → Addr → Ac → DS} (F : ∃ fd, FunD K x x (defArgs st) (defBody st) (defScope st) [] [] g fd) (hm : mg x = some (.ref g)) (sc : FnScope N ps (defScope st)) (hn : ps.length = n + 1) (hN : n + 1 ≤ N.length)
    (hb : ∀ (kV doc pm : Value) (an : Option Addr) (cdv ct : Value) (us : List Value), us.length = ps.length → bindArgs (PySem.W.fnOf x x (defArgs st) (defBody st) (defScope st) .none kV doc pm an cdv ct) ⟨us, []⟩ = pure (ps.zip us))
    (hbody : ∀ (B : Ent) (cdv : Value) (A' : Around) (outer : List Env) (s : Shared) (H : Hp) (E : XK) (kA : Nat) (f : Addr) (A : Ac), EntOk mg T (envOfC x (defScope st) s.heap.objs.size g cdv).cells B.J → B.J.eH = H → ActD P w K mg base outer s H kA f B.J B.J.ej B.J.eF A → CodeAt K g cdv → Room (k + kA) (A'.deeper (envOfC x (defScope st) s.heap.objs.size g cdv)) → PSs (cxB P w K mg base N x st g cdv A' outer s H E) (defBody st) (dS K B (t B.J f A)))
    (hS : ∀ J f A ds j Q, ds.length = n → S J A ds j Q → t J f A { nx := fun j' _ => Q .non j', rt := Q } j (st0 N.length (.ref f :: ds)))
    (hJ : ∀ (J : Jst) cl ej eF eH A ds j Q, S J A ds j Q → S (J.re J.xk J.fa cl ej eF eH) A ds j Q := by exact fun _ _ _ _ _ _ _ _ _ h => h) : FnH P w K mg base T (k + 1) x n S := by
  obtain ⟨fd, F⟩ := F
  refine ⟨g, fun J hT kA A' outer s H us vs Q E f A j F' ds R hr e0 rv b r l act q kk => ?_, hm, F.kp⟩
  obtain ⟨oc, od, dV, kV, doc, pm, an, cdv, ct, osl, rfl, lk, hcd, _, _⟩ := id F.ex
  have hl : (.ref f :: us : List Value).length = ps.length := by rw [List.length_cons, ← rv.length, r.length, l, hn]
  have b' : BaseOk ((J.re J.xk J.fa (envOfC x (defScope st) s.heap.objs.size g cdv).cells j F' H).at j) F' H := b.re
  have hB : BindsTo s (PySem.W.fnOf x x (defArgs st) (defBody st) (defScope st) dV kV doc pm an cdv ct) ⟨.ref f :: us, []⟩ (ps.zip (.ref f :: us)) := by
    have := (F.bindsN hb) s (.ref f :: us) (e0.mod.kin.keeps fun b o e => (e0.bs b o e).1) (by rw [List.append_nil]; exact hl)
    rw [List.append_nil] at this
    exact this
  refine LamX.run_ofS (N := N) (ps := ps) (us := .ref f :: us) (vs := .ref f :: vs) lk hcd sc (hr.mono (show k + kA + 1 ≤ k + 1 + kA by omega)) e0 hB (.cons rfl rv) (by rw [List.length_cons, r.length, l, hn]) fun hr' => ?_
  refine ⟨_, PSs.nox (hbody ⟨J.re J.xk J.fa (envOfC x (defScope st) s.heap.objs.size g cdv).cells j F' H, j, F', H⟩ cdv A' outer s H E kA f A ⟨hT.tb, hT.fa, rfl⟩ rfl act.re ⟨_, _, _, _, lk, rfl⟩ hr'), j, F', st0 N.length (.ref f :: ds), _, start_SB (B := ⟨J.re J.xk J.fa (envOfC x (defScope st) s.heap.objs.size g cdv).cells j F' H, j, F', H⟩) b' (Gt.refl b') (.cons (.ref f) r) (by rw [List.length_cons, l]; exact hN), Gt.refl b', hS _ f A ds j R l (hJ J _ _ _ _ A ds j R q), ⟨fun j2 σ F2 H2 ρ s2 g2 _ q2 => kk .non j2 q2 .non F2 H2 g2.er .non, fun j2 v F2 H2 d g2 r2 q2 => kk d j2 q2 v F2 H2 g2.er r2, fun _ _ _ _ _ _ _ _ h => h.elim, fun _ _ _ _ _ _ _ _ h => h.elim⟩⟩
end
end DL

/-! DL21 -/
/-! DL21: calls of given functions; errors caught. -/
namespace DL
open PySem PySem.Spec PyProof.Rows L2
/-- the value d, called without arguments, does A -/
structure Cal (X : Cx) (J : Jst) (ρ : List SD) (d : D) (kA : Nat) (A : Ac) : Prop where
  isRef : ∀ (F : Hp) (v : V), Rp X.K F v d → ∃ f, v = .ref f
  act : ∀ (pins : List (Addr × Obj)) (σ : L2.St) (H : Hp) (s : Shared) (f : Addr) (j : JS) (F : Hp), Inv X pins σ H s → SR X.K (J.at j) F H σ ρ → Rp X.K F (.ref f) d → ActD X.prog X.w X.K X.mg X.base X.stack s H kA f J j F A
@[simp] def dHo (V : List SD → D → Ac → Prop) (S : Ac → Spec) (t : DL') : DE := fun j ρ P => t j ρ fun ds j1 => match ds with
  | d :: r => ∃ A, V ρ d A ∧ S A r j1 P
  | [] => False
section
variable {X : Cx} {J : Jst} {T : List (Addr × Str)} {k kA n : Nat} {S : Jst → Ac → Spec} {V : List SD → D → Ac → Prop} {x : Str} {p pos : Pos} {e : Expr} {es : List Expr} {t : DL'}
/-- a call of a def whose first argument is called there -/
theorem de_callH (G : FnH X.prog X.w X.K X.mg X.base T k x n S) (hT : At X.mg T J) (hr : Room (k + kA) X.A) (hg : Gl X x) (hV : ∀ ρ d A, V ρ d A → Cal X J ρ d kA A)
    (ha : PA X (e :: es) (dA X.K J (n + 1) t)) (hdb : (x == ("__debug__" : Str)) = false := by decide) (he : starEach (e :: es) X.env = (false, eval e X.env) :: starEach es X.env := by rfl) (hpl : (backTo pos (starEach es X.env)).any (·.1) = false := by rfl) :
    PE X (.Call (.Name x p) (e :: es) [] pos) (dE X.K J (dHo V (S J) t)) := by
  obtain ⟨g, run, hm, hk⟩ := G
  refine ⟨fun pins s σ H Q I ⟨j, F, ρ, P, sr, q, kk⟩ => ?_⟩
  refine wpAny_Call_Name_kw (ld_glob I hg hm ?_ hdb)
  refine PySem.W.callWith_K (h₀ := X.base) I.ok.mod.kin hk (thn (ha.run pos pins s σ H _ I ⟨j, F, ρ, _, sr, q, fun ds j1 l pd vs F1 H1 g1 r => (⟨j1, F1, ds, g1, r, l, pd⟩ : ∃ j1 F1 ds, Gt (J.at j) F H j1 F1 H1 ∧ RpAll X.K F1 vs ds ∧ ds.length = n + 1 ∧ (match ds with
    | d :: r => ∃ A, V ρ d A ∧ S J A r j1 P
    | [] => False))⟩) fun us s1 ⟨vs, H1, I1, rv, j1, F1, ds, g1, r, l, pd⟩ => ⟨I1.kIn, ?_⟩) he hpl
  cases r with
  | nil => exact pd.elim
  | cons r0 rr =>
    rename_i v0 vr d dr
    obtain ⟨A, hv, pd⟩ := pd
    have cal := hV ρ d A hv
    obtain ⟨f, rfl⟩ := cal.isRef F1 v0 r0
    match us, rv with
    | _ :: ur, .cons ru rus =>
      cases ru
      have act := cal.act pins σ H1 s1 f j1 F1 I1 (sr.grow g1) r0
      show wpAny _ _ (call (.ref g) (.ref f :: ur)) _ _ _
      refine wpAny_call (codeAny_mono (run J hT kA X.A X.stack s1 H1 ur vr Q (fun _ _ _ => False) f A j1 F1 dr P hr I1.env0 rus g1.base rr (by simpa using l) act pd fun d' j2 pd' v F2 H2 g2 r2 => kk d' j2 pd' v F2 H2 (g1.trans g2) r2) fun r s2 hq => ?_)
      cases r with
      | error e => exact (show False from hq).elim
      | ok fl =>
        cases fl with
        | ret u => exact I1.after hq
        | next => exact False.elim hq
        | brk => exact False.elim hq
        | cont => exact False.elim hq
end
/-- what is given on -/
theorem cal_ref {X : Cx} {J : Jst} {ρ : List SD} {kA : Nat} {A : Ac} {f : Addr} (act : ActD X.prog X.w X.K X.mg X.base X.outer X.s_0 X.H_0 kA f J J.ej J.eF A) (heH : J.eH = X.H_0) (hex : X.ex = []) (hs : X.stack = X.env :: X.outer) (hf : X.env.frame = some X.env.locals) : Cal X J ρ (.ref f) kA A := by
  refine ⟨fun F v r => by cases r; exact ⟨_, rfl⟩, fun pins σ H s f' j F I sr r => ?_⟩
  cases r
  have en := sr.ent
  rw [show (J.at j).eH = X.H_0 from heH] at en
  exact act.later (Later.of_inv I hex hs hf) en
def tActW (K : PySem.W.Frag) (J : Jst) (A : Ac) (f : Addr) (i : Nat) (W : WX) : TE := fun σ H Q => ∃ (j : JS) (F : Hp) (ρ : List SD) (R : D → JS → Prop) (xk : XW), SR K (J.at j) F H σ ρ ∧ slot ρ i = .val (.ref f) ∧ A xk j R ∧ (∀ d j', R d j' → ∀ v F2 H2, Gt (J.at j) F H j' F2 H2 → Rp K F2 v d → Q v H2) ∧
  ∀ c ns xs j', xk c ns xs j' → ∀ d F2 H2, Gt (J.at j) F H j' F2 H2 → ExR K F2 d ns xs → W (.ref c) d σ H2
section
variable {X : Cx} {J : Jst} {kA : Nat} {A : Ac} {f : Addr} {a : Str} {i : Nat} {W : WX} {p1 p2 : Pos}
/-- action() -/
theorem pe_actW (act : ActD X.prog X.w X.K X.mg X.base X.outer X.s_0 X.H_0 kA f J J.ej J.eF A) (heH : J.eH = X.H_0) (hex : X.ex = []) (hs : X.stack = X.env :: X.outer) (hf : X.env.frame = some X.env.locals) (hr : Room kA X.A) (tk : Takes X W)
    (hN : X.N[i]? = some a) (hv : Vis X.env.scope a) (hd : (a == ("__debug__" : Str)) = false := by decide) (hcd : (a == ("__classdict__" : Str)) = false := by decide) :
    PE X (.Call (.Name a p1) [] [] p2) (tActW X.K J A f i W) := by
  refine ⟨fun pins s σ H Q I ⟨j, F, ρ, R, xk, sr, hsl, q, kn, ke⟩ => ?_⟩
  obtain ⟨v0, hv0, r0⟩ := sr.vals i _ hsl
  cases r0
  refine wpAny_Call_Name_kw (thn ((pe_var (pos := p1) (i := i) hN hv hd hcd).run pins s σ H (fun v H1 => v = .ref f ∧ H1 = H) I ⟨.ref f, hv0, rfl, rfl⟩) fun u s1 ⟨v, H1, I1, r1, q1⟩ => ?_)
  obtain ⟨rfl, rfl⟩ := q1
  obtain rfl : u = Value.ref f := r1
  have lt := Later.of_inv I1 hex hs hf
  have en := sr.ent
  rw [show (J.at j).eH = X.H_0 from heH] at en
  refine PySem.W.callWith_F0 (act.fn X.A X.stack s1 _ I1.env0 lt) ?_
  refine wpAny_call (codeAny_mono (act.run xk X.A X.stack s1 _ Q (WE W σ) j F R hr I1.env0 lt en q kn ke) fun r s2 hq => ?_)
  cases r with
  | error e => exact passAt tk σ _ _ _ _ _ I1 hq
  | ok fl =>
    cases fl with
    | ret u => exact I1.after hq
    | next => exact False.elim hq
    | brk => exact False.elim hq
    | cont => exact False.elim hq
end
/-! try: action() / except x as n: y = n -/
@[simp] def dCaught (J : Jst) (A : Ac) (f : Addr) (ia ie ik : Nat) (ys : List Str) : DS := fun E j ρ => slot ρ ia = .val (.ref f) ∧ A (fun c ns xs j' => (∃ y ∈ ys, c = J.fa y) ∧ E.nx j' (put (put ρ ik (.val (.exc c ns xs))) ie .no)) j fun _ j' => E.nx j' ρ
section
variable {X : Cx} {B : Ent} {kA : Nat} {A : Ac} {f : Addr} {a x n y : Str} {ia ie ik : Nat} {CT : Addr} {ys : List Str} {np pos pos' p1 p2 p3 q1 q2 q3 : Pos}
theorem SB.wipe1 {K : PySem.W.Frag} {B : Ent} {j : JS} {F H : Hp} {σ : L2.St} {ρ : List SD} (s : SB K B j F H σ ρ) (i : Nat) : SB K B j F H (σ.set i none) (put ρ i .no) := by
  refine ⟨s.toSR.wipe1 i, fun l ds b h e => ?_⟩
  by_cases hj : i = l
  · subst hj
    by_cases hi : i < ρ.length
    · rw [slot_put_same _ _ _ hi] at h; cases h
    · rw [put_big _ _ _ (Nat.le_of_not_lt hi)] at h
      rw [List.set_eq_of_length_le (by rw [s.len]; exact Nat.le_of_not_lt hi)] at e
      exact s.fr _ _ _ h e
  · rw [slot_put_ne _ _ _ _ hj] at h
    rw [get_set_ne hj] at e
    exact s.fr _ _ _ h e
theorem ds_caught (act : ActD X.prog X.w X.K X.mg X.base X.outer X.s_0 X.H_0 kA f B.J B.J.ej B.J.eF A) (heH : B.J.eH = X.H_0) (hex : X.ex = []) (hs : X.stack = X.env :: X.outer) (hf : X.env.frame = some X.env.locals) (hr : Room kA X.A) (tk : Takes X (fun _ _ _ _ => False))
    (hFa : B.J.fa = faOf X.mg) (hN : X.N.Nodup) (hia : X.N[ia]? = some a) (hva : Vis X.env.scope a) (hi : X.N[ie]? = some n) (hln : X.env.kindOf n = some .local) (hk : X.N[ik]? = some y) (hly : X.env.scope.names.lookup y = some .local) (hne : ie ≠ ik)
    (hg : Gl X x) (hdx : (x == ("__debug__" : Str)) = false) (hm : X.mg x = some (.ref CT)) (hks : ∀ y ∈ ys, PySem.W.exmOne X.K (.ref (faOf X.mg y)) (.ref CT) = some true)
    (hd : (a == ("__debug__" : Str)) = false := by decide) (hcd : (a == ("__classdict__" : Str)) = false := by decide) (hdn : (n == ("__debug__" : Str)) = false := by decide) (hcn : (n == ("__classdict__" : Str)) = false := by decide) (hdy : (y == ("__debug__" : Str)) = false := by decide)
    (hsw : ∀ (X' : Cx), X'.env = X.env → swapsWith (.Name n p2) (some (.Name y p1)) p3.line X'.env = pure false := by intro _ _; rfl) (hsc : ∀ (X' : Cx), X'.env = X.env → swapsWith (.Call (.Name a q1) [] [] q2) none q3.line X'.env = pure false := by intro _ _; rfl) :
    PS X (.Try [.Expr (.Call (.Name a q1) [] [] q2) q3] [.ExceptHandler (some (.Name x np)) (some n) [.Assign [.Name y p1] (.Name n p2) p3] pos'] [] [] pos) (dS X.K B (dCaught B.J A f ia ie ik ys)) := by
  refine (ps_keep (i := ie) (k := ik) hs hex hf hN hi hln hk hly ⟨hg, hdx, .inl hm⟩ tk (tb := fun W => tDrop (tActW X.K B.J A f ia W)) (fun W pn xe tk2 _ => pss_one (ps_expr (pe_actW (X := X.tr pn xe) (i := ia) act heH hex hs hf hr tk2 hia hva hd hcd) (hsc _ rfl))) hdn hcn hdy hsw).imp ?_
  rintro D σ H ⟨j, F, ρ, E, s, g, ⟨h1, h2⟩, k⟩
  refine ⟨j, F, ρ, _, _, s.toSR, h1, h2, fun d j' r v F2 H2 g2 rv => k.nx j' σ F2 H2 ρ (s.grow g2) (g.trans g2) g2.ff r, fun c ns xs j' ⟨⟨y', hy, ec⟩, q⟩ d F2 H2 g2 er => ?_⟩
  refine ⟨true, by rw [ec, hFa]; exact hks y' hy, fun _ b oe nb oc od of => ?_, fun z => nomatch z⟩
  have s2 := s.grow g2
  have g3 := (Gr.laid g2.base nb (Kn oe b)).gt
  have fb : F2 b = none := g2.base.fnew nb
  have s3 := s2.grow g3
  have re : Rp X.K (L2.upd F2 b (Kn oe b)) (.ref b) (.exc c ns xs) := by
    match d, ns, xs, er with
    | none, [], [], _ => exact .exc0 L2.upd_same oc of od
    | some dd, [nm], [x1], er =>
      obtain ⟨v, e1, e2⟩ := er
      have hne : dd ≠ b := ne_of_none e1 fb
      exact .exc1 L2.upd_same oc of od (by rw [L2.upd_ne hne]; exact e1) (e2.mono (sub_upd fb))
  have s4 := (s3.setVal (i := ik) re).wipe1 ie
  have e : ((σ.set ie (some (.ref b))).set ik (some (.ref b))).set ie none = (σ.set ik (some (.ref b))).set ie none := by
    rw [List.set_comm _ _ hne, List.set_set]
  rw [e]
  exact k.nx j' _ _ _ _ s4 ((g.trans g2).trans g3) (g2.ff.trans g3.ff) q
end
end DL

/-! DL22 -/
/-! DL22: lambdas' bodies on data; calls of a name that holds a function; isinstance of errors. -/
namespace DL
open PySem PySem.Spec PyProof.Rows L2
def noOwn (ρ : List SD) : List SD := ρ.map fun
  | .own _ => .no
  | x => x
@[simp] theorem noOwn_nil : noOwn [] = [] := rfl
@[simp] theorem noOwn_own (ds : List D) (r : List SD) : noOwn (.own ds :: r) = .no :: noOwn r := rfl
@[simp] theorem noOwn_val (d : D) (r : List SD) : noOwn (.val d :: r) = .val d :: noOwn r := rfl
@[simp] theorem noOwn_no (r : List SD) : noOwn (.no :: r) = .no :: noOwn r := rfl
theorem noOwn_slot : ∀ (ρ : List SD) (i : Nat), (slot (noOwn ρ) i = slot ρ i ∨ slot (noOwn ρ) i = .no) ∧ ∀ ds, slot (noOwn ρ) i ≠ .own ds
  | [], i => ⟨.inl rfl, fun _ h => nomatch h⟩
  | x :: r, 0 => by
    cases x with
    | own d => exact ⟨.inr rfl, fun _ h => nomatch h⟩
    | val d => exact ⟨.inl rfl, fun _ h => nomatch h⟩
    | no => exact ⟨.inl rfl, fun _ h => nomatch h⟩
  | x :: r, i + 1 => noOwn_slot r i
/-- the slots, seen from a lambda that is entered here -/
theorem SR.lam {K : PySem.W.Frag} {J : Jst} {j : JS} {F H : Hp} {σ : L2.St} {ρ : List SD} {xk : XW} {fa : Str → Addr} {cl : List (Str × Addr)} (s : SR K (J.at j) F H σ ρ) : SR K ((J.re xk fa cl j F H).at j) F H σ (noOwn ρ) := by
  have b' : BaseOk ((J.re xk fa cl j F H).at j) F H := s.base.re
  refine ⟨b', Gt.refl b', by rw [s.len]; unfold noOwn; rw [List.length_map], fun i d e => ?_, fun i ds e => absurd e ((noOwn_slot ρ i).2 ds), fun i k ds es a _ e _ _ => absurd e ((noOwn_slot ρ i).2 ds), fun i ds a e _ => absurd e ((noOwn_slot ρ i).2 ds)⟩
  rcases (noOwn_slot ρ i).1 with q | q
  · exact s.vals i d (q ▸ e)
  · rw [q] at e; cases e
/-- the frame that made the lambdas was left at some state; now (s1, H1) -/
structure Nest (X : Cx) (J : Jst) (ρ : List SD) (outer : List Env) (s1 : Shared) (H1 : Hp) (j : JS) (F' : Hp) : Prop where
  ex : ∃ pins σ H s j0 F0, Inv X pins σ H s ∧ SR X.K (J.at j0) F0 H σ ρ ∧ Gt (J.at j0) F0 H j F' H1 ∧ Later X.stack s H outer s1 H1
section
variable {X : Cx} {J : Jst} {ρ : List SD} {T : LamT} {k : Nat} {tb : Jst → List SD → DE}
theorem clo_inv {K : PySem.W.Frag} {F : Hp} {v : V} {T : LamT} {cl : List (Str × Addr)} (r : Rp K F v (.clo T cl)) : ∃ f c pm ctv u, v = .ref f ∧ F f = some (.frz (cloObj T cl pm ctv c) u) ∧ F c = some (LamX.CodeO c T.qual) := by
  cases r with
  | clo a b => exact ⟨_, _, _, _, _, rfl, a, b⟩
/-- a lambda without parameters, handed to a def that calls it -/
theorem cal_lam (lp : LamP X.env.scope T.scope []) (hN : X.N.Nodup) (hbind : ∀ (q : Str) (cl : List (Str × Addr)) (pm cv ctv : Value) (us : List Value), us.length = ([] : List Str).length → bindArgs (PySem.W.kla_fn "<lambda>" q T.params T.body T.scope cl pm cv ctv) ⟨us, []⟩ = pure (([] : List Str).zip us)) (hq : X.env.qual ++ "<lambda>" = T.qual) (hcl : J.cl = X.env.cells)
    (hbody : ∀ (xk : XW) (A : Around) (outer : List Env) (s1 : Shared) (H1 : Hp) (E : XK) (f c : Addr) (j : JS) (F' : Hp), Rs (LamX.lamCx X A outer s1 H1 E T.scope f c) (J.re xk J.fa J.cl j F' H1) → Room k (A.deeper (LamX.lamEnv X T.scope s1.heap.objs.size f c)) → Nest X J ρ outer s1 H1 j F' → PE (LamX.lamCx X A outer s1 H1 E T.scope f c) T.body (dE X.K (J.re xk J.fa J.cl j F' H1) (tb (J.re xk J.fa J.cl j F' H1) ρ)))
    (hJ : ∀ (xk : XW) ej eF eH j R, tb (J.re xk J.fa J.cl J.ej J.eF J.eH) ρ j (noOwn ρ) R → tb (J.re xk J.fa J.cl ej eF eH) ρ j (noOwn ρ) R) :
    Cal X J ρ (.clo T J.cl) (k + 1) (fun xk j R => tb (J.re xk J.fa J.cl J.ej J.eF J.eH) ρ j (noOwn ρ) R) := by
  refine ⟨fun F v r => by obtain ⟨f, _, _, _, _, e, _⟩ := clo_inv r; exact ⟨f, e⟩, fun pins σ H s f0 j0 F0 I sr r => ?_⟩
  obtain ⟨f, c, pm, ctv, u, e, hf, hc⟩ := clo_inv r
  cases e
  rw [hcl] at hf
  refine ⟨fun A' outer s' H' e0 lt => ?_, fun xk A' outer s' H' Q E j F' R hr e0 lt g q kn ke => ?_⟩
  · have h1 := lt.un.frzs _ _ _ (sr.base.fh _ _ hf)
    obtain ⟨h2, _⟩ := (show ObjOk X.prog X.w H' s'.heap f0 (.frz (cloObj T X.env.cells pm ctv c) u) from e0.hok f0 _ h1)
    exact ⟨_, _, _, _, h2⟩
  · have hf' := g.base.fh _ _ (g.ff _ _ hf)
    have hc' := g.base.fh _ _ (g.ff _ _ hc)
    have s1 := sr.grow g
    refine lam_run (ps := []) (is := []) (us := []) (vs := []) (tb := dE X.K (J.re xk J.fa J.cl j F' H') (tb (J.re xk J.fa J.cl j F' H') ρ)) I lp hN (fun _ _ z => by simp at z) rfl .nil .nil hbind hr (fun hr' => ?_) hq e0 lt.un hf' hc' .nil rfl ?_
    · refine hbody xk A' outer s' H' E f0 c j F' ⟨fun cls d _ H2 => E cls d H2, takes_of rfl rfl rfl rfl, fun c' ns xs j2 hx σ2 F2 H2 ρ2 d sr2 er => ke c' ns xs j2 hx d F2 H2 (Gt.er (J := J) (j := j) sr2.ent) er⟩ hr' ⟨pins, σ, H, s, j0, F0, I, sr, g, lt⟩
    · exact ⟨j, F', noOwn ρ, R, SR.lam s1, hJ xk j F' H' j R q, fun d j' r v F2 H2 g2 rv => kn d j' r v F2 H2 (Gt.er g2) rv⟩
end
/-! ### a name that holds a function -/
structure CalN (Z : Cx) (J : Jst) (n : Nat) (d : D) (S : Spec) : Prop where
  isRef : ∀ (F : Hp) (v : V), Rp Z.K F v d → ∃ f, v = .ref f
  fnat : ∀ (pins : List (Addr × Obj)) (σ : L2.St) (H : Hp) (s : Shared) (f : Addr) (j : JS) (F : Hp) (ρ : List SD), Inv Z pins σ H s → SR Z.K (J.at j) F H σ ρ → Rp Z.K F (.ref f) d → PySem.W.FnAt f s.heap
  run : ∀ (pins : List (Addr × Obj)) (σ : L2.St) (H : Hp) (s : Shared) (f : Addr) (j : JS) (F : Hp) (ρ : List SD) (us : List Value) (vs : List V) (ds : List D) (R : D → JS → Prop) (Q : VK), Inv Z pins σ H s → SR Z.K (J.at j) F H σ ρ → Rp Z.K F (.ref f) d → RpAll Z.K F vs ds → Vals vs us → ds.length = n → S ds j R →
    (∀ d j', R d j' → ∀ v F' H', Gt (J.at j) F H j' F' H' → Rp Z.K F' v d → Q v H') → wpAny (model Z.prog Z.w) Z.A (call (.ref f) us) (EP Z pins σ Q) Z.xe s
@[simp] def dCallV (V : D → Spec → Prop) (i : Nat) (t : DL') : DE := fun j ρ P => ∃ d S, slot ρ i = .val d ∧ V d S ∧ t j ρ fun ds j1 => S ds j1 P
section
variable {Z : Cx} {J : Jst} {n i : Nat} {V : D → Spec → Prop} {a : Str} {p pos : Pos} {e : Expr} {es : List Expr} {t : DL'}
theorem de_callV (hV : ∀ d S, V d S → CalN Z J n d S) (hN : Z.N[i]? = some a) (hv : Vis Z.env.scope a) (ha : PA Z (e :: es) (dA Z.K J n t))
    (hd : (a == ("__debug__" : Str)) = false := by decide) (hcd : (a == ("__classdict__" : Str)) = false := by decide) (he : starEach (e :: es) Z.env = (false, eval e Z.env) :: starEach es Z.env := by rfl) (hpl : (backTo pos (starEach es Z.env)).any (·.1) = false := by rfl) :
    PE Z (.Call (.Name a p) (e :: es) [] pos) (dE Z.K J (dCallV V i t)) := by
  refine ⟨fun pins s σ H Q I ⟨j, F, ρ, P, sr, ⟨d, S, hsl, hVd, q⟩, k⟩ => ?_⟩
  have cal := hV d S hVd
  obtain ⟨v0, hv0, r0⟩ := sr.vals i _ hsl
  obtain ⟨f, rfl⟩ := cal.isRef F v0 r0
  refine wpAny_Call_Name_kw (thn ((pe_var (pos := p) (i := i) hN hv hd hcd).run pins s σ H (fun v H1 => v = .ref f ∧ H1 = H) I ⟨.ref f, hv0, rfl, rfl⟩) fun u s1 ⟨v, H1, I1, r1, q1⟩ => ?_)
  obtain ⟨rfl, rfl⟩ := q1
  obtain rfl : u = Value.ref f := r1
  refine PySem.W.callWith_F (cal.fnat pins σ _ s1 f j F ρ I1 sr r0) (thn (ha.run pos pins s1 σ _ _ I1 ⟨j, F, ρ, _, sr, q, fun ds j1 l pd vs F1 H2 g1 r => (⟨j1, F1, ds, g1, r, l, pd⟩ : ∃ j1 F1 ds, Gt (J.at j) F H1 j1 F1 H2 ∧ RpAll Z.K F1 vs ds ∧ ds.length = n ∧ S ds j1 P)⟩) fun us s2 ⟨vs, H2, I2, rv, j1, F1, ds, g1, r, l, pd⟩ => ?_) he hpl
  have sr2 := sr.grow g1
  have r2 := r0.mono g1.ff
  refine ⟨cal.fnat pins σ H2 s2 f j1 F1 ρ I2 sr2 r2, ?_⟩
  exact cal.run pins σ H2 s2 f j1 F1 ρ us vs ds P Q I2 sr2 r2 r rv l pd fun d' j2 pd' v F' H' g2 rv2 => k d' j2 pd' v F' H' (g1.trans g2) rv2
end
/-- a def that may raise -/
theorem calN_X {Z : Cx} {J : Jst} {T : List (Addr × Str)} {k n : Nat} {x : Str} {ps : List Str} {S : Jst → Spec} (G : FnX Z.prog Z.w Z.K Z.mg Z.base T k x ps n S) (hT : At Z.mg T J) (hx : Rs Z J) (hr : Room k Z.A) : CalN Z J n (.ref (J.fa x)) (S J) := by
  obtain ⟨g, fd, a, b, c, d, oc, od, osl, lk⟩ := G
  have e : J.fa x = g := by rw [hT.fa]; exact faOf_eq b
  rw [e]
  obtain ⟨W, tk, hW⟩ := hx.ex
  refine ⟨fun F v r => by cases r; exact ⟨_, rfl⟩, fun pins σ H s f j F ρ I sr r => ?_, fun pins σ H s f j F ρ us vs ds R Q I sr r ra rv l q kn => ?_⟩
  · cases r
    exact ⟨oc, od, fd, osl, I.kIn _ _ lk⟩
  · cases r
    exact run_fnS (E := WE W) (a J hT) hr d (passAt tk σ) I rv ⟨j, F, ds, R, sr.base, ra, l, q, kn, fun c ns xs j2 hx d F2 H2 g2 er => hW c ns xs j2 hx σ F2 H2 ρ d (sr.grow g2) er⟩
/-- a lambda of the frame X, called within another one of it -/
theorem calN_lam {X : Cx} {J0 : Jst} {ρX : List SD} {A : Around} {outer : List Env} {s1 : Shared} {H1 : Hp} {E : XK} {scope : Scope} {f0 c0 : Addr} {xk : XW} {j : JS} {F' : Hp} {T : LamT} {ps : List Str} {is : List Nat} {k : Nat} {tb : Jst → List SD → DE}
    (lp : LamP X.env.scope T.scope ps) (hN : X.N.Nodup) (his : ∀ (k : Nat) (p : Str), ps[k]? = some p → ∃ i : Nat, is[k]? = some i ∧ X.N[i]? = some p) (hil : is.length = ps.length) (hp : ps.Nodup) (hisn : is.Nodup)
    (hbind : ∀ (q : Str) (cl : List (Str × Addr)) (pm cv ctv : Value) (us : List Value), us.length = ps.length → bindArgs (PySem.W.kla_fn "<lambda>" q T.params T.body T.scope cl pm cv ctv) ⟨us, []⟩ = pure (ps.zip us)) (hq : X.env.qual ++ "<lambda>" = T.qual) (hcl : J0.cl = X.env.cells)
    (nest : Nest X J0 ρX outer s1 H1 j F') (hx : Rs (LamX.lamCx X A outer s1 H1 E scope f0 c0) (J0.re xk J0.fa J0.cl j F' H1)) (hr : Room (k + 1) (LamX.lamCx X A outer s1 H1 E scope f0 c0).A)
    (hbody : ∀ (A : Around) (outer : List Env) (s1 : Shared) (H1 : Hp) (E : XK) (f c : Addr) (j2 : JS) (F2 : Hp), Rs (LamX.lamCx X A outer s1 H1 E T.scope f c) (J0.re xk J0.fa J0.cl j2 F2 H1) → Room k (A.deeper (LamX.lamEnv X T.scope s1.heap.objs.size f c)) → PE (LamX.lamCx X A outer s1 H1 E T.scope f c) T.body (dE X.K (J0.re xk J0.fa J0.cl j2 F2 H1) (tb (J0.re xk J0.fa J0.cl j2 F2 H1) ρX)))
    (hJ : ∀ ej eF eH j ρ R, tb (J0.re xk J0.fa J0.cl J0.ej J0.eF J0.eH) ρX j ρ R → tb (J0.re xk J0.fa J0.cl ej eF eH) ρX j ρ R) :
    CalN (LamX.lamCx X A outer s1 H1 E scope f0 c0) (J0.re xk J0.fa J0.cl j F' H1) ps.length (.clo T J0.cl) (fun ds j R => tb (J0.re xk J0.fa J0.cl J0.ej J0.eF J0.eH) ρX j (bindD (noOwn ρX) is ds) R) := by
  obtain ⟨W, tk, hW⟩ := hx.ex
  obtain ⟨pinsX, σX, HX, sX, j0, F0, IX, srX, gX, ltX⟩ := nest.ex
  refine ⟨fun F v r => by obtain ⟨f, _, _, _, _, e, _⟩ := clo_inv r; exact ⟨f, e⟩, fun pins σ H s f j2 F ρ I sr r => ?_, fun pins σ H s f j2 F ρ us vs ds R Q I sr r ra rv l q kn => ?_⟩
  · obtain ⟨f', c, pm, ctv, u, e, hf, hc⟩ := clo_inv r
    cases e
    obtain ⟨h2, _⟩ := (show ObjOk X.prog X.w H s.heap f (.frz (cloObj T J0.cl pm ctv c) u) from I.hok f _ (sr.base.fh _ _ hf))
    exact ⟨_, _, _, _, h2⟩
  · obtain ⟨f', c, pm, ctv, u, e, hf, hc⟩ := clo_inv r
    cases e
    rw [hcl] at hf
    have en : Gt (J0.at j) F' H1 j2 F H := Gt.er (J := J0) (j := j) sr.ent
    have srn := srX.grow (gX.trans en)
    have lt := ltX.trans (Later.of_inv I rfl rfl rfl)
    have hl : us.length = ps.length := by rw [← rv.length, ra.length, l]
    refine wpAny_call (codeAny_mono (lam_run (X := X) (ps := ps) (is := is) (us := us) (vs := vs) (Q := Q) (E := WE W σ) (tb := dE X.K (J0.re xk J0.fa J0.cl j2 F H) (tb (J0.re xk J0.fa J0.cl j2 F H) ρX)) IX lp hN his hil hp hisn hbind hr (fun hr' => ?_) hq I.env0 lt.un (sr.base.fh _ _ hf) (sr.base.fh _ _ hc) rv hl ?_) fun r s2 hq => ?_)
    · exact hbody _ _ s H (WE W σ) f c j2 F ⟨fun cls d _ H2 => W cls d σ H2, takes_of rfl rfl rfl rfl, fun c' ns xs j3 hx' σ2 F2 H2 ρ2 d sr2 er => hW c' ns xs j3 hx' σ F2 H2 ρ d (sr.grow (Gt.re (Gt.er (J := J0) (j := j2) sr2.ent))) er⟩ hr'
    · exact ⟨j2, F, bindD (noOwn ρX) is ds, R, (SR.lam srn).bind ra, hJ j2 F H j2 _ R q, fun d j' r v F2 H2 g2 rv2 => kn d j' r v F2 H2 (Gt.re (Gt.er g2)) rv2⟩
    · cases r with
      | error e => exact passAt tk σ _ _ _ _ _ I hq
      | ok fl =>
        cases fl with
        | ret u => exact I.after hq
        | next => exact False.elim hq
        | brk => exact False.elim hq
        | cont => exact False.elim hq
/-! ### isinstance of an error -/
structure ClsI (K : PySem.W.Frag) (D : Addr) : Prop where
  cl : (PySem.W.clsIn K D).isSome = true
  ga : PySem.W.findIn K (.ref D) "__getattribute__" = some (some (.builtin "BaseException.__getattribute__"))
  gt : ∃ gt, PySem.W.findIn K (.ref D) "__getattr__" = some gt
  sb : PySem.W.subIn K (.ref D) (.type "BaseException") = some true
  ca : PySem.W.findIn K (.ref D) "__class__" = some (some (.builtin "object.__class__"))
  sp : PySem.W.specialIn K (.builtin "object.__class__") "__get__" = some (some (.builtin "getset_descriptor.__get__"))
  tk : PySem.W.takesIn K (.builtin "object.__class__") = some true
  mo : PySem.W.mroIn K D (.type "object") = some true
@[simp] def isErr (J : Jst) (ys : List Str) (sub : Str → Bool) : D → (D → Prop) → Prop
  | .non => fun P => P (.bl false)
  | .exc c _ _ => fun P => ∃ y ∈ ys, c = J.fa y ∧ P (.bl (sub y))
  | _ => fun _ => False
@[simp] def dIsC (J : Jst) (ys : List Str) (sub : Str → Bool) (t : DE) : DE := fun j ρ P => t j ρ fun d j1 => isErr J ys sub d fun d' => P d' j1
section
variable {X : Cx} {J : Jst}
theorem call_isErr {a D C : Addr} {o : Obj} {ou : HO} {b : Bool} (c : ClsI X.K D) : CallR X (.builtin "isinstance") (fun vs H Q => vs = [.ref a, .ref C] ∧ H a = some (.frz o ou) ∧ o.cls = .ref D ∧ (∃ ws, o.data = .fields ws) ∧ (o.dict = none ∨ ∃ d fs, o.dict = some d ∧ H d = some (.xd fs)) ∧ PySem.W.kitOne X.K (.ref D) (.ref C) = some b ∧ Q (.bl b) H) := by
  rintro pins s σ H vs us Q I rv ⟨rfl, ha, hc, ⟨ws, hw⟩, hd, e, q⟩
  obtain ⟨u1, u2, rfl, r1, r2⟩ := vals2 rv
  cases r1
  cases r2
  obtain ⟨gt, hgt⟩ := c.gt
  obtain ⟨hat, _⟩ := (show ObjOk X.prog X.w H s.heap a (.frz o ou) from I.hok a _ ha)
  have hn : PySem.W.notCls o = true := by unfold PySem.W.notCls; rw [hw]
  have inst : ∃ od, PySem.W.InstAt s.heap a o D od := by
    rcases hd with hd | ⟨d, u, hd, hu⟩
    · exact ⟨none, hat, hc, hn, by rw [hd]; exact True.intro⟩
    · have hlt : ∃ od, s.heap.get? d = some od := by
        obtain ⟨mA, ⟨o1, es, ep, h1, _⟩, _⟩ := I.hok d _ hu
        exact ⟨_, h1⟩
      obtain ⟨od, e⟩ := hlt
      exact ⟨some od, hat, hc, hn, by rw [hd]; exact e⟩
  obtain ⟨od, inst⟩ := inst
  exact PySem.W.kia_one (PySem.W.kitx_exc (ox := o) (od := od) c.cl c.ga hgt c.sb c.ca c.sp c.tk c.mo) I.kIn inst e (by intro z; cases z) fun tk => ⟨.bl b, H, I.tok tk, rfl, q⟩
def rIsE2 (K : PySem.W.Frag) (C : Addr) : List V → Hp → VK → Prop := fun vs H Q => ∃ x, vs = [x, .ref C] ∧ ((x = .non ∧ PySem.W.kitOne K (.type "NoneType") (.ref C) = some false ∧ Q (.bl false) H) ∨
  ∃ a D o ou b, x = .ref a ∧ ClsI K D ∧ H a = some (.frz o ou) ∧ o.cls = .ref D ∧ (∃ ws, o.data = .fields ws) ∧ (o.dict = none ∨ ∃ d fs, o.dict = some d ∧ H d = some (.xd fs)) ∧ PySem.W.kitOne K (.ref D) (.ref C) = some b ∧ Q (.bl b) H)
theorem call_isE2 {C : Addr} : CallR X (.builtin "isinstance") (rIsE2 X.K C) := by
  rintro pins s σ H vs us Q I rv ⟨x, rfl, h⟩
  rcases h with ⟨rfl, e, q⟩ | ⟨a, D, o, ou, b, rfl, c, h1, h2, h3, h4, h5, h6⟩
  · exact call_isi pins s σ H _ us Q I rv ⟨_, _, _, _, false, rfl, .own C, .base .non, e, q⟩
  · exact call_isErr (b := b) c pins s σ H _ us Q I rv ⟨rfl, h1, h2, h3, h4, h5, h6⟩
theorem de_isC {x : Str} {C : Addr} {ys : List Str} {sub : Str → Bool} {t : DE} {e : Expr} {p p2 pos : Pos} (hF : J.fa = faOf X.mg) (hg : Gl X "isinstance") (hm : X.mg "isinstance" = none) (hgx : Gl X x) (hmx : X.mg x = some (.ref C)) (hks : ∀ y ∈ ys, ClsI X.K (faOf X.mg y) ∧ PySem.W.kitOne X.K (.ref (faOf X.mg y)) (.ref C) = some (sub y)) (hno : PySem.W.kitOne X.K (.type "NoneType") (.ref C) = some false)
    (ha : PE X e (dE X.K J t)) (hdx : (x == ("__debug__" : Str)) = false := by decide)
    (he : starEach [e, .Name x p2] X.env = (false, eval e X.env) :: starEach [.Name x p2] X.env := by rfl) (he2 : starEach [.Name x p2] X.env = (false, eval (.Name x p2) X.env) :: starEach [] X.env := by rfl) (hpl : (backTo pos (starEach [.Name x p2] X.env)).any (·.1) = false := by rfl) :
    PE X (.Call (.Name "isinstance" p) [e, .Name x p2] [] pos) (dE X.K J (dIsC J ys sub t)) :=
  (pe_callB (call_isE2 (C := C)) hg hm boot_isinstance (pa_cons ha (pa_cons (pe_glob (v := .ref C) hgx hmx rfl hdx) pa_nil he2) he) (by decide) (by decide) he hpl).imp fun σ H Q ⟨j, F, ρ, P, s, q, k⟩ => ⟨j, F, ρ, _, s, q, fun d j1 pd v F1 H1 g r => by
    have fin : ∀ b : Bool, P (.bl b) j1 → Q (.bl b) H1 := fun b pb => k (.bl b) j1 pb _ F1 H1 g (.bl b)
    have ex : ∀ (c a : Addr) (o : Obj) (ou : HO), F1 a = some (.frz o ou) → o.cls = .ref c → (∃ ws, o.data = .fields ws) → (o.dict = none ∨ ∃ d fs, o.dict = some d ∧ H1 d = some (.xd fs)) → (∃ y ∈ ys, c = J.fa y ∧ P (.bl (sub y)) j1) → rIsE2 X.K C [.ref a, .ref C] H1 Q := fun c a o ou e1 e2 e3 e4 ⟨y, hy, ec, py⟩ => by
      obtain ⟨ci, ks⟩ := hks y hy
      rw [hF] at ec
      subst ec
      exact ⟨_, rfl, .inr ⟨a, _, o, ou, _, rfl, ci, g.base.fh _ _ e1, e2, e3, e4, ks, fin _ py⟩⟩
    cases r with
    | non => exact ⟨.non, rfl, .inl ⟨rfl, hno, fin false pd⟩⟩
    | exc0 e1 e2 e3 e4 => exact ex _ _ _ _ e1 e2 e3 (.inl e4) pd
    | exc1 e1 e2 e3 e4 e5 _ => exact ex _ _ _ _ e1 e2 e3 (.inr ⟨_, _, e4, g.base.fh _ _ e5⟩) pd
    | _ => exact pd.elim⟩
end
end DL

/-! DL23 -/
/-! DL23: keyword arguments; defs as values; xs[::-1]; dict displays; min and sum of a list. -/
namespace DL
open PySem PySem.Spec PyProof.Rows L2
/-! ### keyword arguments -/
@[simp] def permL {α : Type} (g : List Nat) (l : List α) : List α := g.filterMap fun i => l[i]?
theorem vals_perm {vs : List V} {us : List Value} (r : Vals vs us) : ∀ g : List Nat, Vals (permL g vs) (permL g us)
  | [] => .nil
  | i :: g => by
    have ih := vals_perm r g
    unfold permL at ih ⊢
    rw [List.filterMap_cons, List.filterMap_cons]
    cases e : vs[i]? with
    | none =>
      have : us[i]? = none := by rw [List.getElem?_eq_none_iff] at e ⊢; rw [← r.length]; exact e
      rw [this]
      exact ih
    | some v =>
      obtain ⟨u, e2, r2⟩ := r.get e
      rw [e2]
      exact .cons r2 ih
theorem rp_perm {K : PySem.W.Frag} {F : Hp} {vs : List V} {ds : List D} (r : RpAll K F vs ds) : ∀ g : List Nat, RpAll K F (permL g vs) (permL g ds)
  | [] => .nil
  | i :: g => by
    have ih := rp_perm r g
    unfold permL at ih ⊢
    rw [List.filterMap_cons, List.filterMap_cons]
    cases e : vs[i]? with
    | none =>
      have : ds[i]? = none := by rw [List.getElem?_eq_none_iff] at e ⊢; rw [← r.length]; exact e
      rw [this]
      exact ih
    | some v =>
      obtain ⟨d, e2, r2⟩ := r.getV e
      rw [e2]
      exact .cons r2 ih
@[simp] def dPerm (g : List Nat) (t : DL') : DL' := fun j ρ P => t j ρ fun ds j1 => P (permL g ds) j1
section
variable {X : Cx} {J : Jst} {e : Expr}
def PKd (X : Cx) (J : Jst) (kws : List Keyword) (n : Nat) (t : DL') : Prop := PK X kws (dA X.K J n t)
theorem _root_.L2.PK.imp {X : Cx} {e : List Keyword} {t t' : TA} (h : PK X e t) (i : ∀ σ H Q, t' σ H Q → t σ H Q) : PK X e t' := ⟨fun w pins s σ H Q I q => h.run w pins s σ H Q I (i σ H Q q)⟩
theorem dk_nil : PKd X J [] 0 dNil := pk_nil.imp fun σ H Q ⟨j, F, ρ, P, s, q, k⟩ => k [] j rfl q [] F H (Gt.refl s.base) .nil
theorem dk_cons {kws : List Keyword} {nm : Option Str} {kp : Pos} {ta : DE} {tr : DL'} {n : Nat} (ha : PE X e (dE X.K J ta)) (hr : PKd X J kws n tr) : PKd X J (⟨nm, e, kp⟩ :: kws) (n + 1) (dCons ta tr) :=
  (pk_cons ha hr).imp fun σ H Q ⟨j, F, ρ, P, s, q, k⟩ => ⟨j, F, ρ, _, s, q, fun d j1 p v F1 H1 g r => ⟨j1, F1, ρ, _, s.grow g, p, fun ds j2 l p vs F2 H2 g2 rs =>
    k (d :: ds) j2 (by rw [List.length_cons, l]) p (v :: vs) F2 H2 (g.trans g2) (.cons (r.mono g2.ff) rs)⟩⟩
/-- how a def's parameters are bound by keywords alone -/
def KwB (x : Str) (st : Stmt) (ps ks : List Str) (g : List Nat) : Prop := ∀ (kV doc pm : Value) (an : Option Addr) (cdv ct : Value) (ws : List Value), ws.length = ks.length → bindArgs (PySem.W.fnOf x x (defArgs st) (defBody st) (defScope st) .none kV doc pm an cdv ct) ⟨[], ks.zip ws⟩ = pure (ps.zip (permL g ws))
theorem kw_binds {K : PySem.W.Frag} {mg : Str → Option Value} {x : Str} {st : Stmt} {ps ks : List Str} {g : List Nat} {f : Addr} {fd : FuncData} {s : Shared} {oc : Value} {od : Option Addr} {osl : Array (Option Value)} (kb : KwB x st ps ks g) (Df : ∃ f, (∃ fd, FunD K x x (defArgs st) (defBody st) (defScope st) [] [] f fd) ∧ mg x = some (.ref f)) (hm : mg x = some (.ref f)) (lk : K.lookup f = some ⟨oc, od, .func fd, osl⟩) {ws : List Value} (hl : ws.length = ks.length) : BindsTo s fd ⟨[], ks.zip ws⟩ (ps.zip (permL g ws)) := by
  obtain ⟨f2, ⟨fd2, F⟩, hm2⟩ := Df
  rw [hm] at hm2
  cases hm2
  obtain ⟨oc2, od2, dV, kV, doc, pm, an, cdv, ct, osl2, rfl, lk2, hcd, hD, hK⟩ := F.ex
  rw [lk] at lk2
  cases lk2
  rcases hD with ⟨_, rfl⟩ | ⟨e, _⟩
  · exact .of_eq (kb kV doc pm an cdv ct ws hl)
  · exact absurd rfl e
variable {T : List (Addr × Str)} {k n : Nat} {S : Jst → Spec} {x : Str} {st : Stmt} {ps ks : List Str} {g : List Nat} {p pos : Pos} {kws : List Keyword} {t : DL'}
theorem pe_kw {CX : CXT} {f : Addr} {fd : FuncData} {sp : Sp} {E : L2.St → XK} {tk : TA} {oc : Value} {od : Option Addr} {osl : Array (Option Value)} (F : FnOk X.prog X.w X.K X.mg X.base CX k f fd ps sp) (hr : Room k X.A) (hg : Gl X x) (hm : X.mg x = some (.ref f)) (hk : PySem.W.keepIn X.K (.ref f) = true) (lk : X.K.lookup f = some ⟨oc, od, .func fd, osl⟩) (kb : KwB x st ps ks g) (Df : ∃ f, (∃ fd, FunD X.K x x (defArgs st) (defBody st) (defScope st) [] [] f fd) ∧ X.mg x = some (.ref f)) (hx : ∀ σ, PassesAt CX X σ (E σ))
    (ha : PK X kws tk) (hdb : (x == ("__debug__" : Str)) = false) (hall : (backToKw pos (keywordEach kws X.env)).all (·.1.isSome) = true) (hks : (backToKw pos (keywordEach kws X.env)).filterMap (·.1) = ks) (hpl : ((backTo pos (starEach [] X.env)).any (·.1) || (backToKw pos (keywordEach kws X.env)).any (·.1.isNone)) = false) :
    PE X (.Call (.Name x p) [] kws pos) (fun σ H Q => tk σ H fun zs H2 => zs.length = ks.length ∧ sp (permL g zs) H2 Q (E σ)) := by
  refine ⟨fun pins s σ H Q I h => ?_⟩
  refine wpAny_Call_Name_kw (ld_glob I hg hm ?_ hdb)
  refine PySem.W.callWith_KW0 (h₀ := X.base) I.ok.mod.kin hk hall (thn (ha.run pos pins s σ H _ I h) fun ws s2 ⟨zs, H2, I2, rz, l, q⟩ => ⟨I2.kIn, ?_⟩) hpl
  rw [hks]
  have hl : ws.length = ks.length := rz.length.symm.trans l
  show wpAny _ _ (call (.ref f) [] (ks.zip ws)) _ _ _
  refine wpAny_call (codeAny_mono (F.run X.A X.stack s2 H2 ⟨[], ks.zip ws⟩ (permL g ws) (permL g zs) Q (E σ) hr I2.env0 (kw_binds kb Df hm lk hl) (vals_perm rz g) q) fun r s' hq => ?_)
  cases r with
  | error e => exact hx σ pins H2 s2 e s' I2 hq
  | ok fl =>
    cases fl with
    | ret u => exact I2.after hq
    | next => exact False.elim hq
    | brk => exact False.elim hq
    | cont => exact False.elim hq
theorem de_kwX (hx : Rs X J) (G : FnX X.prog X.w X.K X.mg X.base T k x ps n S) (hT : At X.mg T J) (hr : Room k X.A) (hg : Gl X x) (Df : ∃ f, (∃ fd, FunD X.K x x (defArgs st) (defBody st) (defScope st) [] [] f fd) ∧ X.mg x = some (.ref f)) (kb : KwB x st ps ks g) (hn : ∀ l : List D, l.length = ks.length → (permL g l).length = n)
    (ha : PKd X J kws ks.length t) (hdb : (x == ("__debug__" : Str)) = false := by decide) (hall : (backToKw pos (keywordEach kws X.env)).all (·.1.isSome) = true := by rfl) (hks : (backToKw pos (keywordEach kws X.env)).filterMap (·.1) = ks := by rfl) (hpl : ((backTo pos (starEach [] X.env)).any (·.1) || (backToKw pos (keywordEach kws X.env)).any (·.1.isNone)) = false := by rfl) :
    PE X (.Call (.Name x p) [] kws pos) (dE X.K J (dCall (S J) (dPerm g t))) := by
  obtain ⟨f, fd, a, b, c, d, oc, od, osl, lk⟩ := G
  obtain ⟨W, tk, hW⟩ := hx.ex
  exact (pe_kw (st := st) (a J hT) hr hg b c lk kb Df (fun σ => passAt tk σ) ha hdb hall hks hpl).imp fun σ H Q ⟨j, F, ρ, P, s, q, kk⟩ => ⟨j, F, ρ, _, s, q, fun ds j1 l pd vs F1 H1 g1 r =>
    ⟨by rw [r.length, l], j1, F1, permL g ds, P, g1.base, rp_perm r g, hn ds l, pd, fun d j2 pd v F2 H2 g2 r2 => kk d j2 pd v F2 H2 (g1.trans g2) r2, fun c ns xs j2 hx d F2 H2 g2 er => hW c ns xs j2 hx σ F2 H2 ρ d ((s.grow g1).grow g2) er⟩⟩
theorem de_kwN (G : FnX X.prog X.w X.K X.mg X.base T k x ps n S) (hT : At X.mg T J) (hr : Room k X.A) (hg : Gl X x) (Df : ∃ f, (∃ fd, FunD X.K x x (defArgs st) (defBody st) (defScope st) [] [] f fd) ∧ X.mg x = some (.ref f)) (kb : KwB x st ps ks g) (hn : ∀ l : List D, l.length = ks.length → (permL g l).length = n)
    (ha : PKd X J kws ks.length t) (hdb : (x == ("__debug__" : Str)) = false := by decide) (hall : (backToKw pos (keywordEach kws X.env)).all (·.1.isSome) = true := by rfl) (hks : (backToKw pos (keywordEach kws X.env)).filterMap (·.1) = ks := by rfl) (hpl : ((backTo pos (starEach [] X.env)).any (·.1) || (backToKw pos (keywordEach kws X.env)).any (·.1.isNone)) = false := by rfl) :
    PE X (.Call (.Name x p) [] kws pos) (dE X.K J (dCall (S J.calm) (dPerm g t))) := by
  obtain ⟨f, fd, a, b, c, d, oc, od, osl, lk⟩ := G
  have hp : ∀ σ : L2.St, PassesAt (L2.CX X.prog X.w) X σ (fun _ _ _ => False) := fun σ _ _ _ _ _ _ ⟨_, _, _, _, _, _, _, _, _, _, _, _, z⟩ => z.elim
  exact (pe_kw (st := st) (E := fun _ _ _ _ => False) (a J.calm ⟨hT.tb, hT.fa⟩) hr hg b c lk kb Df hp ha hdb hall hks hpl).imp fun σ H Q ⟨j, F, ρ, P, s, q, kk⟩ => ⟨j, F, ρ, _, s, q, fun ds j1 l pd vs F1 H1 g1 r =>
    ⟨by rw [r.length, l], j1, F1, permL g ds, P, g1.base.re, rp_perm r g, hn ds l, pd, fun d j2 pd v F2 H2 g2 r2 => kk d j2 pd v F2 H2 (g1.trans g2.er) r2, fun c ns xs j2 hx => hx.elim⟩⟩
theorem de_kwG (G : FnG X.prog X.w X.K X.mg X.base T k x ps n S) (hT : At X.mg T J) (hr : Room k X.A) (hg : Gl X x) (Df : ∃ f, (∃ fd, FunD X.K x x (defArgs st) (defBody st) (defScope st) [] [] f fd) ∧ X.mg x = some (.ref f)) (kb : KwB x st ps ks g) (hn : ∀ l : List D, l.length = ks.length → (permL g l).length = n)
    (ha : PKd X J kws ks.length t) (hdb : (x == ("__debug__" : Str)) = false := by decide) (hall : (backToKw pos (keywordEach kws X.env)).all (·.1.isSome) = true := by rfl) (hks : (backToKw pos (keywordEach kws X.env)).filterMap (·.1) = ks := by rfl) (hpl : ((backTo pos (starEach [] X.env)).any (·.1) || (backToKw pos (keywordEach kws X.env)).any (·.1.isNone)) = false := by rfl) :
    PE X (.Call (.Name x p) [] kws pos) (dE X.K J (dCall (S J) (dPerm g t))) := by
  obtain ⟨f, fd, a, b, c, d, oc, od, osl, lk⟩ := G
  exact (pe_kw (st := st) (E := fun _ _ _ _ => False) (a J hT) hr hg b c lk kb Df (fun _ _ _ _ _ _ _ h => h.elim) ha hdb hall hks hpl).imp fun σ H Q ⟨j, F, ρ, P, s, q, kk⟩ => ⟨j, F, ρ, _, s, q, fun ds j1 l pd vs F1 H1 g1 r =>
    ⟨by rw [r.length, l], j1, F1, permL g ds, P, g1.base, rp_perm r g, hn ds l, pd, fun d j2 pd v F2 H2 g2 r2 => kk d j2 pd v F2 H2 (g1.trans g2) r2⟩⟩
/-! ### a def's name as a value -/
theorem de_fn (Df : ∃ f, (∃ fd, FunD X.K x x (defArgs st) (defBody st) (defScope st) [] [] f fd) ∧ X.mg x = some (.ref f)) (hF : J.fa = faOf X.mg) (hg : Gl X x) (hdb : (x == ("__debug__" : Str)) = false := by decide) : PE X (.Name x p) (dE X.K J (dC (.ref (J.fa x)))) := by
  obtain ⟨f, _, hm⟩ := Df
  have e : J.fa x = f := by rw [hF]; exact faOf_eq hm
  rw [e]
  exact de_ref (pe_glob (v := .ref f) hg hm rfl hdb)
/-! ### xs[::-1] -/
@[simp] def dBack : D → (D → Prop) → Prop
  | .tup xs => fun P => P (.tup xs.reverse)
  | _ => fun _ => False
@[simp] def dRevE (t : DE) : DE := fun j ρ P => t j ρ fun x j1 => dBack x fun d => P d j1
theorem getItem_tup_back {P : Program} {w : World} {A : Around} {E : Value → Shared → Prop} {s : Shared} {t sl : Addr} {items : Array Value} {vl vu vs : Value} {Q : Value → Shared → Prop} (ht : IsTup s.heap t items) (hs : s.heap.IsSliceOf sl vl vu vs) (pl : IsPart vl none) (pu : IsPart vu none) (ps : IsPart vs (some (-1))) (hsz : items.size ≤ sizeLine)
    (h : Q (.ref s.heap.objs.size) { s with heap := s.heap.push { cls := .type "tuple", data := .seq items.toList.reverse.toArray } }) : wpAny (model P w) A (getItem (.ref t) (.ref sl)) Q E s := by
  have htake : sizeOk (.seq items.toList.reverse.toArray) := by
    show items.toList.reverse.toArray.size ≤ sizeLine
    rw [List.size_toArray, List.length_reverse, Array.length_toList]; exact hsz
  obtain ⟨os, hos, hcs, hds⟩ := id hs
  have hTs : s.TypeIs (.ref sl) "slice" := ⟨os, hos, hcs⟩
  unfold getItem
  try with_reducible refine wpAny_holding ?_
  first | refine wpAny_bind (wpAny_pure ?_) | skip
  refine wpAny_bind (wpAny_sequenceKey ht.typeIs (by decide) ?_)
  refine wpAny_bind (wpAny_callSpecial?_slot (name := Str.ofString "__getitem__") ht.typeIs PyProof.Rows.slot_tuple_getitem
    (wpAny_call_entry PyProof.Rows.slot_tuple_getitem ht.typeIs entry_tuple_getitem ?_ (args_tuple_getitem _ _)))
  show wpAny _ _ (Builtin.Tuple.tupleItemsOf (.ref t) >>= _) _ _ s
  refine wpAny_bind (tupleItemsOf_ ht ?_)
  refine wpAny_bind (wpAny_typeOf hTs ?_)
  rw [if_pos (by decide)]
  have app : ∀ {Q : Int × Int × Nat → Shared → Prop}, Q (((items.size : Int) - 1), -1, items.size) s → wpAny (model P w) A.in1 (Builtin.Slice.sliceApplied (.ref sl) (pure (items.size : Int))) Q E s := fun {Q} q => by
    unfold Builtin.Slice.sliceApplied Builtin.Slice.sliceFields
    refine wpAny_bind (wpAny_bind (wpAny_field hos hds (x := vl) rfl (wpAny_bind (wpAny_field hos hds (x := vu) rfl (wpAny_bind (wpAny_field hos hds (x := vs) rfl (wpAny_pure ?_)))))))
    refine wpAny_bind (HT.slicePart_ ps ?_)
    show wpAny _ _ (if ((-1 : Int) == 0) = true then _ else _) _ _ s
    rw [if_neg (by decide)]
    refine wpAny_bind (HT.slicePart_ pl (wpAny_bind (HT.slicePart_ pu (wpAny_bind (wpAny_pure ?_)))))
    have e : Builtin.Slice.slicePlaces (Builtin.Slice.sliceAdjust none none (-1) (items.size : Int)).1 (Builtin.Slice.sliceAdjust none none (-1) (items.size : Int)).2 (-1) = items.size := by
      simp [Builtin.Slice.sliceAdjust, Builtin.Slice.slicePlaces]
      omega
    have e2 : (Builtin.Slice.sliceAdjust none none (-1) (items.size : Int)).1 = (items.size : Int) - 1 := by
      simp [Builtin.Slice.sliceAdjust]
    show wpAny _ _ (pure ((Builtin.Slice.sliceAdjust none none (-1) (items.size : Int)).1, (-1 : Int), Builtin.Slice.slicePlaces (Builtin.Slice.sliceAdjust none none (-1) (items.size : Int)).1 (Builtin.Slice.sliceAdjust none none (-1) (items.size : Int)).2 (-1))) _ _ s
    rw [e, e2]
    exact wpAny_pure q
  refine wpAny_bind (app ?_)
  show wpAny _ _ (if (((items.size : Int) - 1) == 0 && (-1 : Int) == 1 && items.size == items.size) = true then _ else _) _ _ s
  rw [if_neg (by simp)]
  have pick : ((List.range items.size).filterMap fun (m : Nat) => items[((items.size : Int) - 1 + (m : Int) * -1).toNat]?).toArray = items.toList.reverse.toArray := by
    have e : (fun (m : Nat) => items[((items.size : Int) - 1 + (m : Int) * -1).toNat]?) = (fun i => items[i]?) ∘ fun m => items.size - 1 - m := by
      funext m
      show items[_]? = items[_]?
      rw [show ((items.size : Int) - 1 + (m : Int) * -1).toNat = items.size - 1 - m by omega]
    rw [e, ← List.filterMap_map, PySem.W.krv_range, List.filterMap_reverse, PySem.W.krv_all]
  rw [pick]
  first
    | exact wpAny_bind (m := Builtin.Tuple.tupleExact _) (wpAny_newObj_type (wpAny_pure ⟨_, rfl, wpAny_pure h⟩) htake)
    | exact wpAny_bind (m := Builtin.Tuple.tupleExact _) (wpAny_newObj_type (wpAny_bind (wpAny_pure (wpAny_pure ⟨_, rfl, wpAny_pure h⟩))) htake)
    | exact wpAny_bind (wpAny_bind (m := Builtin.Tuple.tupleExact _) (wpAny_newObj_type (wpAny_pure (wpAny_pure ⟨_, rfl, wpAny_pure h⟩)) htake))
    | exact wpAny_bind (wpAny_bind (m := Builtin.Tuple.tupleExact _) (wpAny_newObj_type (wpAny_pure ⟨_, rfl, wpAny_pure h⟩) htake))
theorem de_revE {t : DE} {kk : Nat} {p1 p2 p3 : Pos} (he : PE X e (dE X.K J t)) : PE X (.Subscript e (.Slice none none (some (.UnaryOp .USub (.Constant (.int 1) kk p1) p2)) p3) pos) (dE X.K J (dRevE t)) := by
  refine ⟨fun pins s σ H Q I ⟨j, F, ρ, P, sr, q, k⟩ => ?_⟩
  refine Subscript_ (thn (he.run pins s σ H _ I ⟨j, F, ρ, _, sr, q, fun d j1 pd v F1 H1 g r => (⟨d, j1, F1, g, r, pd⟩ : ∃ d j1 F1, Gt (J.at j) F H j1 F1 H1 ∧ Rp X.K F1 v d ∧ dBack d fun d => P d j1)⟩) fun v s1 ⟨x, H1, I1, r1, d, j1, F1, g1, rd, pd⟩ => ?_)
  cases d with
  | tup xs =>
    obtain ⟨a, vs, rfl, ht, hl, ra⟩ := rd.tup_inv
    cases r1
    have hst : PO X (some (.UnaryOp .USub (.Constant (.int 1) kk p1) p2)) (tPart (tUn (rU fun i => .int (-i)) (tC (.int 1)))) := po_some (pe_un un_neg pe_int)
    refine wpAny_Slice (thn (po_none.run pins s1 σ H1 (fun o H2 => o = none ∧ H2 = H1) I1 ⟨rfl, rfl⟩) fun vl s2 ⟨l, H2, I2, pl, el, e2⟩ => ?_)
    subst el e2
    refine thn (po_none.run pins s2 σ H2 (fun o H3 => o = none ∧ H3 = H2) I2 ⟨rfl, rfl⟩) fun vu s3 ⟨u, H3, I3, pu, eu, e3⟩ => ?_
    subst eu e3
    refine thn (hst.run pins s3 σ H3 (fun o H4 => o = some (-1) ∧ H4 = H3) I3 ⟨1, rfl, -1, rfl, rfl, rfl⟩) fun vt s4 ⟨o, H4, I4, ps, eo, e4⟩ => ?_
    subst eo e4
    have I5 : L2.Inv X pins σ H4 { s4 with heap := s4.heap.push { cls := .type "slice", data := .fields #[vl, vu, vt] } } := I4.kept (t' := s4.toks) fun b ob q => Heap.get?_push_of_some _ q
    obtain ⟨its, r, hT, hz⟩ := I5.tuple (g1.base.fh.seqT ht.sq)
    have hlen := r.length
    show wpAny (model X.prog X.w) X.A (subscriptTail e (.Slice none none (some (.UnaryOp .USub (.Constant (.int 1) kk p1) p2)) p3) (.ref a) (.ref s4.heap.objs.size)) (EP X pins σ Q) X.xe { s4 with heap := s4.heap.push { cls := .type "slice", data := .fields #[vl, vu, vt] } }
    refine tail_any (ops := [.ref a, .ref s4.heap.objs.size]) hT.typeIs PyProof.Rows.slot_tuple_getitem.lookup ?_ (by with_unfolding_all rfl)
    refine getItem_tup_back hT (Heap.IsSliceOf.new _ vl vu vt) pl pu ps (by rw [List.size_toArray]; omega) ?_
    refine newT_at I5 (vs := vs.reverse) (us := its.reverse) r.reverse (by rw [List.length_reverse]; exact hl) ?_
    exact newT_go (J := J.at j1) (P := fun d => P d j1) (Gr.refl g1.base) (by rw [List.length_reverse]; exact hl) ra.rev pd fun d pd v F' H' g' r' => k d j1 pd v F' H' (g1.pure g') r'
  | _ => exact pd.elim
/-! ### min, sum -/
@[simp] def dMinL : DO1
  | .lst xs => fun P => ∃ ns : List Int, xs = ns.map D.int ∧ 0 < ns.length ∧ ∀ m, m ∈ ns → (∀ y, y ∈ ns → m ≤ y) → P (.int m)
  | _ => fun _ => False
@[simp] def dMaxL : DO1
  | .lst xs => fun P => ∃ ns : List Int, xs = ns.map D.int ∧ 0 < ns.length ∧ ∀ m, m ∈ ns → (∀ y, y ∈ ns → y ≤ m) → P (.int m)
  | _ => fun _ => False
@[simp] def dSumL : DO1
  | .lst xs => fun P => ∃ ns : List Int, xs = ns.map D.int ∧ P (.int ns.sum)
  | _ => fun _ => False
theorem ints_of : ∀ {K : PySem.W.Frag} {F : Hp} {ns : List Int} {vs : List V}, RpAll K F vs (ns.map D.int) → vs = ns.map V.int
  | _, _, [], _, .nil => rfl
  | _, _, n :: r, _, .cons a b => by cases a; rw [ints_of b]; rfl
theorem c_minL (hc : X.calm = true) : Cl1 X J (.builtin "min") dMinL := by
  intro j F H x dx P Q b rx h k
  cases dx with
  | lst xs =>
    obtain ⟨ns, rfl, h0, h⟩ := h
    obtain ⟨a, vs, rfl, t, l, r⟩ := rx.lst_inv b
    rw [ints_of r] at t
    exact callAt (cr_min hc) ⟨a, ns, rfl, t, h0, fun m h1 h2 => okk b (h m h1 h2) k (.int _)⟩
  | _ => exact h.elim
theorem c_maxL (hc : X.calm = true) : Cl1 X J (.builtin "max") dMaxL := by
  intro j F H x dx P Q b rx h k
  cases dx with
  | lst xs =>
    obtain ⟨ns, rfl, h0, h⟩ := h
    obtain ⟨a, vs, rfl, t, l, r⟩ := rx.lst_inv b
    rw [ints_of r] at t
    exact callAt (cr_max hc) ⟨a, ns, rfl, t, h0, fun m h1 h2 => okk b (h m h1 h2) k (.int _)⟩
  | _ => exact h.elim
theorem c_sumL (hc : X.calm = true) : Cl1 X J (.builtin "sum") dSumL := by
  intro j F H x dx P Q b rx h k
  cases dx with
  | lst xs =>
    obtain ⟨ns, rfl, h⟩ := h
    obtain ⟨a, vs, rfl, t, l, r⟩ := rx.lst_inv b
    rw [ints_of r] at t
    exact callAt (cr_sum hc) ⟨a, ns, rfl, t, okk b h k (.int _)⟩
  | _ => exact h.elim
end
end DL

/-! DL24 -/
/-! DL24: dict displays: {}, {(): v}. -/
namespace L2
open PySem PySem.Spec PyProof.Rows
section
variable {prog : Program} {w : World} {K : Type} [DecidableEq K] {knd : HeapKind prog w K} {A : Around} {E : Value → Shared → Prop} {s : Shared} {env : Env}
theorem wpAny_Dict_walkO {keys : List (Option Expr)} {values : List Expr} {pos : Pos} {Q : Value → Shared → Prop} (hu : knd.room A)
    (hall : keys.all (·.isSome) = true) (hl : keys.length = values.length) (h0 : keys ≠ []) (hlen : keys.length ≤ 15)
    (h : wpAny (model prog w) A (evalPairs (pairTrees keys values env pos)) (fun vs s₁ => ∃ ps, CarriesH knd s₁.heap vs ps ∧ s₁.heap.DictOfH knd s.heap.objs.size [] ∧
      ∀ h' tk, h'.DictOfH knd s.heap.objs.size (storedAllH [] ps) → Heap.SameBut s.heap.objs.size s₁.heap h' → Q (.ref s.heap.objs.size) { s₁ with heap := h', toks := tk }) E
      { s with heap := s.heap.push { cls := .type "dict", data := .dict #[] } }) :
    wpAny (model prog w) A (eval (.Dict keys values pos) env) Q E s := by
  have hn := pairTrees_length keys values env pos hall hl
  have hne : pairTrees keys values env pos ≠ [] := by
    intro he
    rw [he] at hn
    exact h0 (List.length_eq_zero_iff.mp hn.symm)
  rw [arm_eval_Dict, zip_pairTrees keys values env pos hall hl, dictDisplay_pairs _ hne (by rw [hn]; omega)]
  exact wpAny_bind (wpAny_standAt (wpAny_bind (wpAny_subDictH (knd := knd) (Q := fun d s' => wpAny (model prog w) A (pure (Value.ref d)) Q E s') hu (by rw [hn]; exact hlen)
    (wpAny_mono h (fun vs s₁ h₁ => by obtain ⟨ps, hc, hm, hq⟩ := h₁; exact ⟨ps, hc, hm, fun h' tk a b => wpAny_pure (hq h' tk a b)⟩) fun _ _ e => e))))
end
/-- {k: v}, k a tuple of ints and texts -/
def tDispT1 (tk tv : TE) : TE := fun σ H Q => ∀ p, H p = none → tk σ (upd H p (.dT [])) fun x H1 => tv σ H1 fun y H2 => H2 p = some (.dT []) ∧ ∃ (b : Addr) (ks : List Key), x = .ref b ∧ H2 b = some (.tup (ks.map kV)) ∧ Q (.ref p) (upd H2 p (.dT [(ks, y)]))
theorem pe_dispT1 {X : Cx} {pos : Pos} {k v : Expr} {tk tv : TE} (hu : X.A.units + 1 < cLine) (hk : PE X k tk) (hv : PE X v tv) : PE X (.Dict [some k] [v] pos) (tDispT1 tk tv) := by
  refine ⟨fun pins s σ H Q I q => ?_⟩
  have hn := I.hok.fresh (Nat.le_refl s.heap.objs.size)
  have I1 := I.laid (a := s.heap.objs.size) (o := .dT []) (h' := s.heap.push { cls := .type "dict", data := .dict #[] }) (t' := s.toks) (fun _ _ q => Heap.get?_push_of_some _ q) (Nat.le_refl _) (dt_empty s.heap I.big)
  refine wpAny_Dict_walkO (knd := tupleKind (mixKind X.prog X.w)) (show X.A.units < cLine by omega) rfl rfl (by simp) (by simp) (pairTrees_cons_walk (thn (hk.run pins _ σ _ _ I1 (q _ hn)) fun u s1 ⟨x, H1, J1, rx, q1⟩ => thn (hv.run pins s1 σ H1 _ J1 q1) fun w2 s2 ⟨y, H2, I2, ry, e, b, ks, eb, ek, q2⟩ => pairTrees_nil_walk ?_))
  subst eb
  obtain rfl : u = Value.ref b := rx
  obtain ⟨z, hd, xs0, r0, dd⟩ := dt_of I2.hok e
  cases r0
  refine ⟨[(ks, b, w2)], ⟨rfl, rfl, key_of I2.hok ek, True.intro⟩, dd, fun h' tk dd' hs => ⟨.ref s.heap.objs.size, _, ?_, rfl, q2⟩⟩
  obtain ⟨o, es, ep, h1, h2, h3, h4, h5, h6⟩ := dd'
  have nb : b ≠ s.heap.objs.size := ne_of ek e (fun z => nomatch z)
  exact d_write I2 (by rw [e]; exact True.intro) hs ⟨o, h1⟩ ⟨by show 1 ≤ sizeLine; decide, hd, [(ks, b, w2)], .cons ⟨rfl, by rw [upd_ne nb]; exact ek, ry⟩ .nil, o, es, ep, h1, h2, h3, h4, h6⟩
end L2
namespace DL
open PySem PySem.Spec PyProof.Rows L2
section
variable {X : Cx} {J : Jst} {pos : Pos}
theorem Gt.over {j j' : JS} {F H F' H' : Hp} {p : Addr} {o : HO} (g : Gt (J.at j) F H j' F' H') (hp : H p = none) (fp : F' p = none) (nj : J.has p = false) : Gt (J.at j) F H j' F' (upd H' p o) := by
  refine ⟨g.ff, fun b u e n => ?_, g.nw, ?_⟩
  · rw [upd_ne (ne_of_none e hp)]; exact g.hh b u e n
  · exact g.base.write fp nj o
/-- {} -/
theorem de_dnew : PE X (.Dict [] [] pos) (dE X.K J (dC (.dct [] []))) :=
  pe_dnewK.imp fun σ H Q ⟨j, F, ρ, P, s, q, k⟩ => fun p hp => by
    have g := Gr.laid s.base hp (.dK [])
    exact k _ j q _ _ _ g.gt (.dctK (kvs := []) upd_same .nil)
/-- {(): v} -/
@[simp] def dDctU (t : DE) : DE := fun j ρ P => t j ρ fun _ => P (.dct [.non] [])
theorem de_dctU {v : Expr} {k2 : Nat} {p : Pos} {t : DE} (hu : X.A.units + 100 < cLine) (h : PE X v (dE X.K J t)) : PE X (.Dict [some (.Tuple [] k2 p)] [v] pos) (dE X.K J (dDctU t)) :=
  (pe_dispT1 (by omega) (pe_tup pa_nil) h).imp fun σ H Q ⟨j, F, ρ, P, s, q, k⟩ => fun p hp => by
    have g1 := Gr.own s.base hp (.dT [])
    refine ⟨by decide, fun b hb => ?_⟩
    have g2 := g1.trans (Gr.own g1.base hb (.tup []))
    refine ⟨j, F, ρ, _, s.grow g2.gt, q, fun d j1 pd y F3 H3 g3 r => ?_⟩
    have np := s.base.new hp
    have nb := g1.base.new hb
    have pb : b ≠ p := fun e => by subst e; rw [upd_same] at hb; cases hb
    have h3p : H3 p = some (.dT []) := g3.hh p _ (by rw [upd_ne (Ne.symm pb)]; exact upd_same) np
    have h3b : H3 b = some (.tup []) := g3.hh b _ upd_same nb
    refine ⟨h3p, b, [], rfl, h3b, ?_⟩
    have fp3 : F3 p = none := by
      cases e : F3 p with
      | none => rfl
      | some u =>
        rcases g3.nw p u e with z | z
        · rw [s.base.fnew hp] at z; cases z
        · rw [upd_ne (Ne.symm pb), upd_same] at z; cases z
    have g4 : Gt (J.at j) F H j1 F3 (upd H3 p (.dT [([], y)])) := (g2.gt.trans g3).over hp fp3 np
    exact k _ j1 pd _ _ _ (g4.freeze hp upd_same s.base) (.dctT upd_same)
end
end DL

/-! DL25 -/
/-! DL25: a dict == a tuple. -/
namespace L2
open PySem PySem.Spec PyProof.Rows PySem.SeqAt
theorem dict_eq_declines_tuple (l b : Addr) (es : Array DictEntry) (ep n2 : Nat) (items2 : Array Value) (dd dd2 : Option Addr) (sl sl2 : Array (Option Value)) :
    Meets (Builtin.«dict.__eq__» ⟨[.ref l, .ref b], []⟩) (fun _ R s => s.heap.get? l = some { cls := .type "dict", dict := dd, data := .dict es ep, slots := sl } ∧ s.heap.get? b = some { cls := .type "tuple", dict := dd2, data := .seq items2 n2, slots := sl2 } ∧ R (.ok (.ret .notImplemented)) s) :=
  .of_wp fun prog w A R s h => by obtain ⟨hp, g, d, tk, os⟩ := s; obtain ⟨hl, hb, h⟩ := h; have f1 := F.sub_tuple_dict; wp_walk using AutoSeq1.wpAny_loadPart' hl, AutoSeq1.wpAny_loadPart' hb; exact ⟨_, rfl, h⟩
theorem tuple_eq_declines_dict (l b : Addr) (items : Array Value) (n ep : Nat) (es : Array DictEntry) (dd dd2 : Option Addr) (sl sl2 : Array (Option Value)) :
    Meets (Builtin.«tuple.__eq__» ⟨[.ref l, .ref b], []⟩) (fun _ R s => s.heap.get? l = some { cls := .type "tuple", dict := dd, data := .seq items n, slots := sl } ∧ s.heap.get? b = some { cls := .type "dict", dict := dd2, data := .dict es ep, slots := sl2 } ∧ R (.ok (.ret .notImplemented)) s) :=
  .of_wp fun prog w A R s h => by obtain ⟨hp, g, d, tk, os⟩ := s; obtain ⟨hl, hb, h⟩ := h; have f1 := F.sub_dict_tuple; wp_walk using AutoSeq1.wpAny_loadPart' hl, AutoSeq1.wpAny_loadPart' hb; exact ⟨_, rfl, h⟩
theorem rc_dict_tuple {l b : Addr} {items2 : Array Value} {A : Around} {s : Shared} {prog : Program} {w : World} {E Q : Value → Shared → Prop} (hl : ∃ o es ep, s.heap.get? l = some o ∧ o.cls = .type "dict" ∧ o.data = .dict es ep) (hb : IsTup s.heap b items2) (hu : A.units < cLine) (h : Q (.bool false) s) : wpAny (model prog w) A (richCompare .Eq (.ref l) (.ref b)) Q E s := by
  obtain ⟨⟨cls, dd, data, sl⟩, es, ep, ho, hc, hd⟩ := hl
  obtain ⟨⟨cls2, dd2, data2, sl2⟩, ho2, hc2, n2, hd2⟩ := hb
  simp only at hc hd hc2 hd2
  subst hc hd hc2 hd2
  have hne : b ≠ l := fun e => by subst e; rw [ho] at ho2; exact absurd (congrArg Obj.cls (Option.some.inj ho2)) (by simp)
  exact (rc_eq_decline_or (k := false) ⟨_, ho, rfl⟩ ⟨_, ho2, rfl⟩ (by decide) F.sub_tuple_dict PySem.F.slot_dict_eq F.slot_tuple_eq_refl
    (fun _ hq => call_meets PySem.F.slot_dict_eq ⟨_, ho, rfl⟩ PySem.F.entry_dict_eq (PySem.F.args_dict_eq_2 _ _) (dict_eq_declines_tuple l b es ep n2 items2 dd dd2 sl sl2) ⟨ho, ho2, hq⟩)
    (fun _ hq => call_meets F.slot_tuple_eq_refl ⟨_, ho2, rfl⟩ F.entry_tuple_eq (F.args_tuple_eq_2 _ _) (tuple_eq_declines_dict b l items2 n2 ep es dd2 dd sl2 sl) ⟨ho2, ho, hq⟩)
    (fun R hq => wpAny_isSame_ref_other (fun e => hne e.symm) ho ho2 (by simp) hq) (.inr hu) h)
end L2
namespace DL
open PySem PySem.Spec PyProof.Rows L2
/-- x == y, x a dict or y data -/
def dEqD : DO
  | .dct _ _, .tup _ => fun P => P (.bl false)
  | x, y => dEq x y
@[simp] theorem eqD_d (k v x : List D) (P : D → Prop) : dEqD (.dct k v) (.tup x) P = P (.bl false) := rfl
@[simp] theorem eqD_n (x : List D) (P : D → Prop) : dEqD .non (.tup x) P = dEq .non (.tup x) P := rfl
@[simp] theorem eqD_b (b : Bool) (x : List D) (P : D → Prop) : dEqD (.bl b) (.tup x) P = dEq (.bl b) (.tup x) P := rfl
@[simp] theorem eqD_i (b : Int) (x : List D) (P : D → Prop) : dEqD (.int b) (.tup x) P = dEq (.int b) (.tup x) P := rfl
@[simp] theorem eqD_s (b : Str) (x : List D) (P : D → Prop) : dEqD (.str b) (.tup x) P = dEq (.str b) (.tup x) P := rfl
@[simp] theorem eqD_t (b x : List D) (P : D → Prop) : dEqD (.tup b) (.tup x) P = dEq (.tup b) (.tup x) P := rfl
@[simp] theorem eqD_l (b x : List D) (P : D → Prop) : dEqD (.lst b) (.tup x) P = dEq (.lst b) (.tup x) P := rfl
theorem o_eqD {X : Cx} {J : Jst} (hu : X.A.units + 100 < cLine) : OpD X J (compareOp .Eq) dEqD := by
  intro j F H x y dx dy P Q b rx ry h k
  have gen : dEq dx dy P → OpAt X (compareOp .Eq) x y H Q := fun h => o_eq hu j F H x y dx dy P Q b rx ry h k
  cases dx with
  | dct ks vs => cases dy with
    | tup ys =>
      intro pins s σ v u I qx qy
      have rx : Rp X.K F x (.dct ks vs) := rx.elim id fun ⟨_, _, _, e, _⟩ => nomatch e
      have ry : Rp X.K F y (.tup ys) := ry.elim id fun ⟨_, _, _, e, _⟩ => nomatch e
      obtain ⟨c, vs', rfl, ht, hl, ra⟩ := ry.tup_inv
      cases qy
      obtain ⟨its, r, hT, hz⟩ := I.tuple (b.fh.seqT ht.sq)
      have hd : ∃ a, x = .ref a ∧ ∃ o es ep, s.heap.get? a = some o ∧ o.cls = .type "dict" ∧ o.data = .dict es ep := by
        cases rx with
        | dctK e _ =>
          obtain ⟨_, _, vs0, _, o, es, ep, h1, h2, h3, _⟩ := I.hok _ _ (b.fh _ _ e)
          exact ⟨_, rfl, o, es, ep, h1, h2.1, h3⟩
        | dctT e =>
          obtain ⟨_, _, xs0, _, o, es, ep, h1, h2, h3, _⟩ := I.hok _ _ (b.fh _ _ e)
          exact ⟨_, rfl, o, es, ep, h1, h2.1, h3⟩
      obtain ⟨a, rfl, hd⟩ := hd
      cases qx
      exact rc_dict_tuple hd hT (by omega) ⟨.bl false, H, I, rfl, okk b h k (.bl _)⟩
    | _ => exact gen h
  | _ => cases dy <;> exact gen h
end DL

/-! DL26 -/
/-! DL26: where lambdas stand in a text; the tables of the defs that make them. -/
namespace DL
open PySem PySem.Spec PyProof.Rows L2
def noE : Expr := .Tuple [] 0 ⟨0, 0, 0, 0⟩
def noS : Stmt := .Pass ⟨0, 0, 0, 0⟩
def kids : Expr → List Expr
  | .BoolOp _ vs _ => vs
  | .BinOp a _ b _ => [a, b]
  | .UnaryOp _ a _ => [a]
  | .Lambda _ b _ _ => [b]
  | .IfExp t a b _ => [t, a, b]
  | .Dict _ vs _ => vs
  | .List es _ => es
  | .Tuple es _ _ => es
  | .Set es _ _ => es
  | .Compare a _ cs _ => a :: cs
  | .Call f as ks _ => f :: as ++ ks.map (·.value)
  | .Attribute v _ _ => [v]
  | .Subscript v s _ => [v, s]
  | .ListComp e _ _ _ => [e]
  | _ => []
def skids : Stmt → List Expr
  | .Return (some v) _ => [v]
  | .Expr v _ => [v]
  | .Assign _ v _ => [v]
  | .AugAssign _ _ v _ => [v]
  | .For _ it _ _ _ => [it]
  | .While t _ _ _ => [t]
  | .If t _ _ _ => [t]
  | _ => []
def sbods : Stmt → List Stmt
  | .For _ _ b o _ => b ++ o
  | .While _ b o _ => b ++ o
  | .If _ b o _ => b ++ o
  | _ => []
def kid (e : Expr) (i : Nat) : Expr := (kids e).getD i noE
def skid (e : Stmt) (i : Nat) : Expr := (skids e).getD i noE
def sbod (e : Stmt) (i : Nat) : Stmt := (sbods e).getD i noS
def fbod (e : Stmt) (i : Nat) : Stmt := (defBody e).getD i noS
def lamT (q : Str) : Expr → LamT
  | .Lambda a b s _ => ⟨a, b, s, q⟩
  | e => ⟨defArgs noS, e, defScope noS, q⟩
/-- the table of the code object of the def at f -/
def TbF (K : PySem.W.Frag) (base : Heap) (mg : Str → Option Value) (T : List (Addr × Str)) (f : Addr) (q : Str) : Prop :=
  ∃ oc od fd osl c P, K.lookup f = some ⟨oc, od, .func fd, osl⟩ ∧ fd.code = .ref c ∧ LamX.TabB base mg c P ∧ (P, q) ∈ T ∧ ∀ p ∈ T, p.1 = P → p.2 = q
theorem mk_of {X : Cx} {J : Jst} {T : List (Addr × Str)} {cl : List (Str × Addr)} {f : Addr} {q : Str} (hE : EntOk X.mg T cl J) (hC : CodeAt X.K f X.env.code) (h : TbF X.K X.base X.mg T f q) (hcl : cl = X.env.cells := by rfl) : Mk X J q := by
  obtain ⟨oc, od, fd, osl, c, P, h1, h2, h3, h4, h5⟩ := h
  obtain ⟨oc', od', fd', osl', h6, h7⟩ := hC
  rw [h1] at h6
  cases h6
  refine ⟨⟨c, P, by rw [← h7]; exact h2, h3, by rw [hE.tb]; exact h4, by rw [hE.tb]; exact h5⟩, by rw [hE.cl]; exact hcl⟩
theorem his_by {N : List Str} : ∀ {ps : List Str} {is : List Nat}, ps.length = is.length → (ps.zip is).all (fun p => N[p.2]? == some p.1) = true → ∀ (k : Nat) (p : Str), ps[k]? = some p → ∃ i : Nat, is[k]? = some i ∧ N[i]? = some p
  | [], _, _, _, _, _, h => by simp at h
  | _ :: _, [], h, _, _, _, _ => by cases h
  | a :: ps, i :: is, hl, h, 0, p, e => by
    rw [List.zip_cons_cons, List.all_cons, Bool.and_eq_true, beq_iff_eq] at h
    simp at e
    subst e
    exact ⟨i, rfl, h.1⟩
  | a :: ps, i :: is, hl, h, k + 1, p, e => by
    rw [List.zip_cons_cons, List.all_cons, Bool.and_eq_true] at h
    obtain ⟨i', h1, h2⟩ := his_by (by simpa using hl) h.2 k p (by simpa using e)
    exact ⟨i', by simpa using h1, h2⟩
end DL

/-! M1 -/
/-! M1: texts in order, ascending lists. -/
namespace DL
open PySem PySem.Spec PyProof.Rows L2
abbrev key (s : Str) : List Nat := s.cps.toList
theorem key_inj {a b : Str} (h : key a = key b) : a = b := by
  cases a with | mk a => cases b with | mk b => exact congrArg Str.mk (Array.toList_inj.mp h)
theorem leD_str (a b : Str) : leD (.str a) (.str b) = decide (key a ≤ key b) := congrFun (congrFun (PySem.W.dataLe_str (fun s : Str => s)) a) b
theorem dlt_str (a b : Str) : dltv (.str a) (.str b) = decide (key a < key b) := by
  have h := leD_str b a
  rw [le_lt] at h
  rw [← Bool.not_not (dltv (.str a) (.str b)), h]
  by_cases q : key a < key b
  · rw [decide_eq_true q, decide_eq_false (List.not_le.mpr q)]; rfl
  · rw [decide_eq_false q, decide_eq_true (List.not_lt.mp q)]; rfl
def leS (a b : Str) : Bool := decide (key a ≤ key b)
def asc (l : List Str) : Prop := l.Pairwise fun a b => key a < key b
def sortS (l : List Str) : List Str := l.mergeSort leS
theorem leS_trans (a b c : Str) (h : leS a b = true) (h2 : leS b c = true) : leS a c = true := by
  unfold leS at *
  exact decide_eq_true (List.le_trans (of_decide_eq_true h) (of_decide_eq_true h2))
theorem leS_total (a b : Str) : (leS a b || leS b a) = true := by
  unfold leS
  rcases List.le_total (key a) (key b) with h | h
  · rw [decide_eq_true h]; rfl
  · rw [decide_eq_true h, Bool.or_true]
theorem sortS_perm (l : List Str) : (sortS l).Perm l := List.mergeSort_perm l leS
theorem sortS_mem {l : List Str} {x : Str} : x ∈ sortS l ↔ x ∈ l := (sortS_perm l).mem_iff
theorem sortS_le (l : List Str) : (sortS l).Pairwise fun a b => leS a b = true := List.pairwise_mergeSort leS_trans leS_total l
theorem asc_nodup {l : List Str} (h : asc l) : l.Nodup := h.imp fun {a b} h e => by
  subst e; exact List.lt_irrefl _ h
theorem asc_of {l : List Str} (h : l.Pairwise fun a b => leS a b = true) (n : l.Nodup) : asc l := by
  unfold asc
  refine (h.and n).imp fun {a b} ⟨h1, h2⟩ => ?_
  have h1 := of_decide_eq_true h1
  rcases List.le_iff_lt_or_eq.mp h1 with q | q
  · exact q
  · exact absurd (key_inj q) h2
theorem sortS_asc {l : List Str} (n : l.Nodup) : asc (sortS l) := asc_of (sortS_le l) ((sortS_perm l).nodup_iff.mpr n)
theorem asc_ext : ∀ {l m : List Str}, asc l → asc m → (∀ x, x ∈ l ↔ x ∈ m) → l = m
  | [], [], _, _, _ => rfl
  | [], y :: m, _, _, h => by have := (h y).mpr List.mem_cons_self; cases this
  | x :: l, [], _, _, h => by have := (h x).mp List.mem_cons_self; cases this
  | x :: l, y :: m, hl, hm, h => by
    obtain ⟨a1, a2⟩ := List.pairwise_cons.mp hl
    obtain ⟨b1, b2⟩ := List.pairwise_cons.mp hm
    have hxy : x = y := by
      rcases List.mem_cons.mp ((h x).mp List.mem_cons_self) with e | e
      · exact e
      · rcases List.mem_cons.mp ((h y).mpr List.mem_cons_self) with e2 | e2
        · exact e2.symm
        · exact absurd (List.lt_trans (b1 x e) (a1 y e2)) (List.lt_irrefl _)
    subst hxy
    have nx : x ∉ l := fun q => List.lt_irrefl _ (a1 x q)
    have ny : x ∉ m := fun q => List.lt_irrefl _ (b1 x q)
    have e : l = m := asc_ext a2 b2 fun z => by
      constructor
      · intro q
        rcases List.mem_cons.mp ((h z).mp (List.mem_cons_of_mem _ q)) with e | e
        · subst e; exact absurd q nx
        · exact e
      · intro q
        rcases List.mem_cons.mp ((h z).mpr (List.mem_cons_of_mem _ q)) with e | e
        · subst e; exact absurd q ny
        · exact e
    rw [e]
theorem asc_filter {l : List Str} (p : Str → Bool) (h : asc l) : asc (l.filter p) := List.Pairwise.filter p h
theorem asc_sort {l : List Str} (h : asc l) : sortS l = l := asc_ext (sortS_asc (asc_nodup h)) h fun x => sortS_mem
/-! data of texts -/
abbrev stD (l : List Str) : List D := l.map D.str
theorem sorted_stD (l : List Str) : (stD l).mergeSort leD = stD (sortS l) := by
  unfold sortS
  exact (List.map_mergeSort (r := leS) (s := leD) (f := D.str) fun a _ b _ => (leD_str a b).symm).symm
theorem sortOk_stD (l : List Str) : sortOk (stD l) = true := by
  unfold sortOk
  simp only [List.all_map, Bool.and_eq_true, Bool.or_eq_true, List.all_eq_true]
  refine ⟨⟨fun x _ => ?_, .inr fun x _ => rfl⟩, fun x _ => rfl⟩
  show l.all ((fun y => lk (.str x) y) ∘ D.str) = true
  rw [List.all_eq_true]
  exact fun y _ => rfl
theorem hasIn_stD (l : List Str) (x : Str) : hasIn (stD l) (.str x) = decide (x ∈ l) := by
  unfold hasIn
  induction l with
  | nil => rfl
  | cons y r ih =>
    show (deqv (.str y) (.str x) || (stD r).any fun z => deqv z (.str x)) = _
    rw [ih, deqv_str, show (y == x) = decide (y = x) from rfl]
    by_cases e : y = x
    · subst e; simp
    · have : x ≠ y := fun z => e z.symm
      simp [e, this]
theorem lv_stD (n : Nat) (l : List Str) : lv (n + 1) (.tup (stD l)) = true := by
  rw [lv_tup, List.all_map, List.all_eq_true]; exact fun x _ => lv_str n x
theorem lv_stDL (n : Nat) (l : List Str) : lv (n + 1) (.lst (stD l)) = true := by
  rw [lv_lst, List.all_map, List.all_eq_true]; exact fun x _ => lv_str n x
theorem nb_stD (n : Nat) (l : List Str) : nb (n + 1) (.tup (stD l)) = true := by
  rw [nb_tup, List.all_map, List.all_eq_true]; exact fun x _ => nb_str n x
theorem nb_stDL (n : Nat) (l : List Str) : nb (n + 1) (.lst (stD l)) = true := by
  rw [nb_lst, List.all_map, List.all_eq_true]; exact fun x _ => nb_str n x
theorem stD_inj : ∀ {l m : List Str}, stD l = stD m → l = m
  | [], [], _ => rfl
  | [], _ :: _, h => by cases h
  | _ :: _, [], h => by cases h
  | x :: l, y :: m, h => by
    obtain ⟨h1, h2⟩ := List.cons.inj h
    rw [D.str.inj h1, stD_inj h2]
theorem deqv_stD (l m : List Str) : deqv (.tup (stD l)) (.tup (stD m)) = decide (l = m) := by
  by_cases e : l = m
  · subst e; rw [decide_eq_true rfl]; exact (deqv_iff (nb_stD 0 l) (nb_stD 0 l)).mpr rfl
  · rw [decide_eq_false e]
    cases h : deqv (.tup (stD l)) (.tup (stD m)) with
    | false => rfl
    | true => exact absurd (stD_inj (D.tup.inj ((deqv_iff (nb_stD 0 l) (nb_stD 0 m)).mp h))) e
theorem strsOf_stD : ∀ l : List Str, strsOf (stD l) = some l
  | [] => rfl
  | x :: r => by show (strsOf (stD r)).map (x :: ·) = _; rw [strsOf_stD r]; rfl
mutual
/-- data without objects and truth values -/
def plainD : D → Bool
  | .non => true
  | .int _ => true
  | .str _ => true
  | .tup xs => plainAllD xs
  | .lst xs => plainAllD xs
  | .bl _ => true
  | _ => false
def plainAllD : List D → Bool
  | [] => true
  | x :: r => plainD x && plainAllD r
end
mutual
def sizeD : D → Nat
  | .tup xs => 1 + sizeAllD xs
  | .lst xs => 1 + sizeAllD xs
  | _ => 1
def sizeAllD : List D → Nat
  | [] => 0
  | x :: r => sizeD x + sizeAllD r
end
/-! the check of neighbours -/
theorem asc_tail_zip {l : List Str} (h : asc l) : ∀ p ∈ l.zip l.tail, key p.1 < key p.2 := by
  induction l with
  | nil => intro p hp; cases hp
  | cons x r ih =>
    cases r with
    | nil => intro p hp; cases hp
    | cons y s =>
      intro p hp
      rcases List.mem_cons.mp hp with e | e
      · subst e; exact (List.pairwise_cons.mp h).1 y List.mem_cons_self
      · exact ih (List.pairwise_cons.mp h).2 p e
end DL

/-! SetS -/
/-! SetS: a set of texts, made of a list or a tuple, that can be walked. -/
namespace DL
open PySem PySem.Spec PyProof.Rows L2 PySem.Froz
section
variable {P : Program} {w : World} {A : Around} {E : Value → Shared → Prop} {s : Shared}
theorem tail_ris {ep : Nat} {es : Array (Int × Value)} {t : SetTable} {b : Bool} (r : Ris t.place.toList) : Ris (tailTx ep es t b).2.2.place.toList ∧ (tailTx ep es t b).2.2.led = t.led := by
  unfold tailTx
  split
  · exact ⟨relayAll_ris _ _ _, relayAll_led _ _ _⟩
  · exact ⟨r, rfl⟩
theorem add_ris {h : Int} {v : Value} {D : PySem.Froz.SD} (r : Ris D.2.2.place.toList) : Ris (addTx h v D).2.2.place.toList ∧ (addTx h v D).2.2.led = D.2.2.led := by
  obtain ⟨es, ep, t⟩ := D
  unfold addTx
  have r1 := layNew_ris t es h v r
  have l1 := layNew_led t es h v
  split
  · obtain ⟨a, b⟩ := tail_ris (ep := ep) (es := (layNew t es h v).1) (t := { (layNew t es h v).2.1 with plain := false }) (b := (layNew t es h v).2.2.1) r1
    exact ⟨a, b.trans l1⟩
  · obtain ⟨a, b⟩ := tail_ris (ep := ep) (es := (layNew t es h v).1) (t := (layNew t es h v).2.1) (b := (layNew t es h v).2.2.1) r1
    exact ⟨a, b.trans l1⟩
/-- the set of texts at a -/
structure SetS (P : Program) (w : World) (h : Heap) (a : Addr) (D : PySem.Froz.SD) (l : List Str) : Prop where
  ob : h.get? a = some (sObj "set" D)
  ok : TxOk P w D l
  nd : l.Nodup
  ris : Ris D.2.2.place.toList
  led : w.params.followText "set-order" = true ∨ D.2.2.led = true
/-- a text that is there already -/
theorem had_x {a : Addr} {D : PySem.Froz.SD} {l : List Str} {k : Str} {u : Tok} {Q : Bool → Shared → Prop} (ho : s.heap.get? a = some (sObj "set" D)) (F : TxOk P w D l) (hk : k ∈ l) (hb : l.length < scanBound)
    (h : Q false s) : wpAny (model P w) A (setAddHashed a (.str k u) (hashStr w k)) Q E s := by
  obtain ⟨es, ep, t⟩ := D
  have hd : (sObj "set" (es, ep, t)).data = .set es ep t := rfl
  have hf : t.fits es.size = true := F.fit
  have hel : ElemsOf (strKind P w) es.toList := F.el
  have hb0 : es.size < scanBound := by have : es.size = l.length := F.sz; omega
  have hkey : (strKind P w).is k (.str k u) = true := is_str k u
  obtain ⟨e, he, q⟩ := (F.mem k).mp hk
  unfold setAddHashed setAddHashedIn
  refine wpAny_holding (wpAny_bind (wpAny_setState_of ho hd hf ?_))
  dsimp only
  rw [byScan_of rfl hb0 hel]
  simp only [↓reduceIte]
  unfold setAddByScan
  refine wpAny_bind ?_
  refine wpAny_bind (wpAny_rule ?_)
  refine wpAny_bind (wpAny_setScan_of (knd := strKind P w) (k := k) hkey ho hd hf hel ?_)
  cases hr : List.findIdx? (fun e => (strKind P w).is k e.2) es.toList with
  | none =>
    have c := List.findIdx?_eq_none_iff.mp hr e he
    rw [q] at c; cases c
  | some j =>
    dsimp only
    exact wpAny_pure (wpAny_pure h)
theorem SetS.at {h h' : Heap} {a : Addr} {D : PySem.Froz.SD} {l : List Str} (R : SetS P w h a D l) (k : ∀ o, h.get? a = some o → h'.get? a = some o) : SetS P w h' a D l := ⟨k _ R.ob, R.ok, R.nd, R.ris, R.led⟩
end
section
variable {prog : Program} {w : World} {A : Around} {R : Result → Shared → Prop} {I : Addr} {fp wr : List Addr} {G : Array GenState → Array GenState → Prop} {n : Nat} {Pv : Nat → Value → Prop} {St : Nat → Shared → Prop}
theorem take_mem {xs : List Str} {i : Nat} (h : i < xs.length) (x : Str) : x ∈ xs.take (i + 1) ↔ x ∈ xs.take i ∨ x = xs.getD i Str.empty := by
  rw [List.take_succ, List.getElem?_eq_getElem h, List.mem_append]
  simp [List.getD, List.getElem?_eq_getElem h]
theorem loopSet (W : WalksS prog w A.in1 I fp wr G n Pv St) (S : Addr) (hSf : S ∉ fp) (xs : List Str) (hsz : xs.length = n) (hb : n < 64) (hval : ∀ i v, Pv i v → ∃ t, v = .str (xs.getD i Str.empty) t) :
    ∀ (k i : Nat) (s : Shared), n - i = k → i ≤ n → St i s → (∃ D l, SetS prog w s.heap S D l ∧ l.length ≤ i ∧ ∀ x, x ∈ l ↔ x ∈ xs.take i) →
      (∀ s' D l, Moved (S :: wr) G s s' → SetS prog w s'.heap S D l → l.length ≤ n → (∀ x, x ∈ l ↔ x ∈ xs.take n) → R (.ok (.ret .none)) s') →
      codeAny (model prog w) A (.builtin "set.update.loop" ⟨[.ref S, .ref I], []⟩) R s := by
  have hSw : S ∉ wr := fun h => hSf (W.sub _ h)
  have hsub : ∀ b ∈ wr, b ∈ S :: wr := fun b hb => List.mem_cons_of_mem _ hb
  intro k
  induction k with
  | zero =>
    rintro i s hk hi hst ⟨D, l, hS, hl, hm⟩ hR
    have hin : i = n := by omega
    subst hin
    refine codeAny_builtin PyProof.Rows.F.entry_set_update_loop ?_
    rw [Around.under_plainId PyProof.Rows.F.plain_set_update_loop _]
    show wpAny _ A.in1 (pyNext (.ref I) >>= _) _ _ s
    refine wpAny_bind (W.done s _ _ hst fun s' mv => ?_)
    show wpAny _ A.in1 (ret Value.none) _ _ s'
    exact wpAny_pure (hR s' D l (mv.mono hsub) (hS.at (mv.heap S · hSw)) hl hm)
  | succ k ih =>
    rintro i s hk hi hst ⟨D, l, hS, hl, hm⟩ hR
    have hlt : i < n := by omega
    refine codeAny_builtin PyProof.Rows.F.entry_set_update_loop ?_
    rw [Around.under_plainId PyProof.Rows.F.plain_set_update_loop _]
    show wpAny _ A.in1 (pyNext (.ref I) >>= _) _ _ s
    refine wpAny_bind (W.item i s _ _ hlt hst fun v s' hP hst' mv => ?_)
    obtain ⟨t, rfl⟩ := hval i v hP
    have hS' : SetS prog w s'.heap S D l := hS.at (mv.heap S · hSw)
    show wpAny _ A.in1 (holding [Value.str (xs.getD i Str.empty) t] (setAdd S (.str (xs.getD i Str.empty) t)) >>= _) _ _ s'
    refine wpAny_bind (wpAny_holding ?_)
    unfold setAdd
    refine wpAny_holding ?_
    refine wpAny_bind ((PySem.strKind prog w).pyHash (k := xs.getD i Str.empty) (strKind_is _ _ _ _) ?_)
    have tm := take_mem (xs := xs) (i := i) (by omega)
    have go : ∀ (h' : Heap) (D' : PySem.Froz.SD) (l' : List Str), (∀ b, b ≠ S → h'.get? b = s'.heap.get? b) → SetS prog w h' S D' l' → l'.length ≤ i + 1 → (∀ x, x ∈ l' ↔ x ∈ xs.take (i + 1)) → codeAny (model prog w) A (.builtin "set.update.loop" ⟨[.ref S, .ref I], []⟩) R { s' with heap := h', toks := s'.toks + 1 } := fun h' D' l' ne hD hl' hm' => by
      refine ih (i + 1) _ (by omega) hlt (W.frame _ s' _ _ hst' (Nat.le_succ _) fun b hb o e => ?_) ⟨D', l', hD, hl', hm'⟩ fun s'' D2 l2 mv2 hS2 hl2 hm2 => ?_
      · show h'.get? b = some o
        rw [ne b (fun h : b = S => hSf (by rw [← h]; exact hb))]; exact e
      · refine hR s'' D2 l2 (Moved.trans W.gtrans ((mv.mono hsub).then_heap (Nat.le_succ _) fun b o hb e => ?_) mv2) hS2 hl2 hm2
        rw [ne b (fun h : b = S => hb (by rw [h]; exact List.mem_cons_self))]; exact e
    by_cases hin : xs.getD i Str.empty ∈ l
    · refine had_x (s := { s' with toks := s'.toks + 1 }) hS'.ob hS'.ok hin (by unfold scanBound; omega) ?_
      refine wpAny_pure ⟨plainId_quiet PyProof.Rows.F.plain_set_update_loop _, go s'.heap D l (fun _ _ => rfl) hS' (by omega) fun x => ?_⟩
      rw [tm x, hm x]
      exact ⟨.inl, fun z => z.elim id fun e => by rw [e]; exact (hm _).mp hin⟩
    · refine add_x (s := { s' with toks := s'.toks + 1 }) hS'.ob hS'.ok hin (by unfold scanBound; omega) ?_
      obtain ⟨r1, r2⟩ := add_ris (h := hashStr w (xs.getD i Str.empty)) (v := .str (xs.getD i Str.empty) t) hS'.ris
      refine wpAny_pure ⟨plainId_quiet PyProof.Rows.F.plain_set_update_loop _, go _ (addTx (hashStr w (xs.getD i Str.empty)) (.str (xs.getD i Str.empty) t) D) (xs.getD i Str.empty :: l) (fun b hb => Heap.get?_update_other _ _ (Ne.symm hb)) ⟨get_upd _ hS'.ob rfl, add_ok t hS'.ok, List.nodup_cons.mpr ⟨hin, hS'.nd⟩, r1, hS'.led.imp id fun z => by rw [r2]; exact z⟩ (by simp; omega) fun x => ?_⟩
      rw [tm x, List.mem_cons, hm x]
      exact Or.comm
end
end DL

/-! SetS2 -/
/-! SetS2: set(list), set(tuple) of texts. -/
namespace DL
open PySem PySem.Spec PyProof.Rows L2 PySem.Froz
section
variable {prog : Program} {w : World} {A : Around} {E : Value → Shared → Prop} {s : Shared}
theorem call_set_tuple {l : Addr} {items : Array Value} {xs : List Str} {Q : Value → Shared → Prop}
    (hh : A.handled = none) (hl : s.heap.IsTuple l items) (hi : PyProof.Rows.StrsAre items.toList xs) (hn1 : xs.length < 64)
    (h : ∀ (h' : Heap) (tk : Nat) (D : PySem.Froz.SD) (m : List Str), SetS prog w h' s.heap.objs.size D m → m.length ≤ xs.length → (∀ x, x ∈ m ↔ x ∈ xs) →
      (∀ b o, b < s.heap.objs.size → s.heap.get? b = some o → h'.get? b = some o) → Q (.ref s.heap.objs.size) { s with heap := h', toks := tk }) :
    wpAny (model prog w) A (call (.type "set") [.ref l]) Q E s := by
  have hmade := PySem.F.called_set.made
  have hsub := PySem.F.called_set.sub
  obtain ⟨c, tl, hmro⟩ := PySem.F.called_set.mro
  refine wpAny_call (codeAny_of_tree ?_)
  show wpAny _ _ (callAny (.type "set") _) _ _ _
  refine wpAny_pure ⟨Code.quiet_builtin _ (by decide +kernel), codeAny_builtin PySem.F.entry_type_call ?_⟩
  rw [Around.under_plain (weight_type_call_type "set" [.ref l] []) rfl]
  have h1 := PySem.F.called_set.notType
  have h2 := PySem.F.called_set.canCreate
  have hct := PySem.F.typeCall_set_1 (.ref l)
  repeat (any_goals (first | assumption | wp_step))
  generalize hled : (!w.params.followText "set-order") = led
  have hld : w.params.followText "set-order" = true ∨ led = true := by
    rw [← hled]
    cases w.params.followText "set-order"
    · exact .inr rfl
    · exact .inl rfl
  refine codeAny_mono (L2.code_set_led1 (.ref l) (E := E) (Q₁ := fun obj s₁ => obj = .ref s.heap.objs.size ∧ s₁ = { s with heap := s.heap.push { cls := .type "set", dict := none, data := .set #[] 0 (.fresh 0 0 led) } }) (by rw [hled]; exact ⟨rfl, rfl⟩)) fun r s₁ hr => ?_
  cases r with
  | error e => exact hr
  | ok fl =>
    cases fl with
    | ret obj =>
      obtain ⟨rfl, rfl⟩ := hr
      have hS : (s.heap.push { cls := .type "set", dict := none, data := .set #[] 0 (.fresh 0 0 led) }).get? s.heap.objs.size = some { cls := .type "set", dict := none, data := .set #[] 0 (.fresh 0 0 led) } := Heap.get?_push_size _ rfl
      have hT : Shared.TypeIs { s with heap := s.heap.push { cls := .type "set", dict := none, data := .set #[] 0 (.fresh 0 0 led) } } (.ref s.heap.objs.size) "set" := ⟨_, hS, rfl⟩
      have hli := PySem.F.called_set.init.lookup
      have hbi := PySem.F.called_set.init.bind (.ref s.heap.objs.size)
      repeat (any_goals (first | assumption | wp_step))
      refine codeAny_mono (codeAny_call_builtin (R := wants (fun r s₂ => r = .none ∧ ∃ h' tk D m, s₂ = { s with heap := h', toks := tk } ∧ SetS prog w h' s.heap.objs.size D m ∧ m.length ≤ xs.length ∧ (∀ x, x ∈ m ↔ x ∈ xs) ∧
          (∀ b o, b < s.heap.objs.size → s.heap.get? b = some o → h'.get? b = some o)) E) PySem.F.called_set.init.plain PySem.F.entry_set_init (check_set_init_1 hT ?_)) fun r₂ s₂ hr₂ => ?_
      · obtain ⟨ol, hol, hcl, nl, hdl⟩ := hl
        obtain ⟨ocls, odict, odata, oslots⟩ := ol
        simp only at hcl hdl
        subst hcl; subst hdl
        have hol' : (s.heap.push { cls := .type "set", dict := none, data := .set #[] 0 (.fresh 0 0 led) }).get? l = some { cls := .type "tuple", dict := odict, data := .seq items nl, slots := oslots } := Heap.get?_push_of_some _ hol
        have hsls := PySem.F.sub_tuple_set
        have hslf := PySem.F.sub_tuple_frozenset
        have hne : (Value.type "tuple" == Value.type "dict") = false := by decide
        have hl1 : (s.heap.push { cls := .type "set", dict := none, data := .set #[] 0 (.fresh 0 0 led) }).IsTuple l items := ⟨_, hol', rfl, nl, rfl⟩
        unfold Builtin.«set.__init__» noKeywords Builtin.Frozenset.updateFrom
        generalize hPI : pyIter = PI
        wp_walk
        subst hPI
        refine wpAny_pyIter_tuple hl1 ?_
        refine wpAny_bind (wpAny_runValue ?_)
        have hlS : l < s.heap.objs.size := Heap.lt_size hol
        have hh3 : A.in1.in1.in1.handled = none := by simp [hh]
        have hneI : l ≠ (s.heap.push { cls := .type "set", dict := none, data := .set #[] 0 (.fresh 0 0 led) }).objs.size := by
          rw [Heap.size_push]; exact Nat.ne_of_lt (Nat.lt_succ_of_lt hlS)
        have hSf : s.heap.objs.size ∉ [(s.heap.push { cls := .type "set", dict := none, data := .set #[] 0 (.fresh 0 0 led) }).objs.size, l] := by
          rw [Heap.size_push]; simp only [List.mem_cons, List.mem_singleton, List.not_mem_nil, or_false, not_or]
          exact ⟨Nat.ne_of_lt (Nat.lt_succ_self _), Nat.ne_of_gt hlS⟩
        have hsz : xs.length = items.size := by rw [← StrsAre.len_eq hi, Array.length_toList]
        have hval : ∀ (i : Nat) (v : Value), items[i]? = some v → ∃ t, v = .str (xs.getD i Str.empty) t := fun i v hv => SS.strs_at hi i v (by rw [Array.getElem?_toList]; exact hv)
        refine loopSet ((Walks.tuple hh3 _ l hneI items).toS) s.heap.objs.size hSf xs hsz (by rw [← hsz]; exact hn1) hval (items.size - 0) 0 _ (by omega) (Nat.zero_le _) ⟨⟨_, Heap.get?_push_size _ rfl, rfl, rfl⟩, (hl1.push _)⟩ ?hS0 ?hR
        case hS0 =>
          exact ⟨(#[], 0, .fresh 0 0 led), [], ⟨Heap.get?_push_of_some _ hS, TxOk.nil rfl, .nil, List.Pairwise.nil, hld⟩, Nat.le_refl _, fun x => by simp⟩
        case hR =>
          intro s' D m hm hS' hml hmm
          obtain ⟨h', g', d', tk', os'⟩ := s'
          have eg : g' = s.gens := hm.gens
          have ed : d' = s.drawn := hm.drawn
          have eo : os' = s.os := hm.os
          subst eg; subst ed; subst eo
          show wpAny _ _ _ _ _ _
          refine wpAny_pure ?_
          show wpAny _ _ (ret Value.none) _ _ _
          refine wpAny_pure ⟨rfl, h', tk', D, m, rfl, hS', by omega, fun x => by rw [hmm x, List.take_of_length_le (by omega)], fun b o hb e => ?_⟩
          have hb1 : b ≠ s.heap.objs.size := Nat.ne_of_lt hb
          have hb2 : b ≠ (s.heap.push { cls := .type "set", dict := none, data := .set #[] 0 (.fresh 0 0 led) }).objs.size := by
            rw [Heap.size_push]; exact Nat.ne_of_lt (Nat.lt_succ_of_lt hb)
          exact hm.heap b o (by simp only [List.mem_cons, List.mem_singleton, List.not_mem_nil, or_false, not_or]; exact ⟨hb1, hb2⟩) (Heap.get?_push_of_some _ (Heap.get?_push_of_some _ e))
      · cases r₂ with
        | error e => exact hr₂
        | ok fl₂ =>
          cases fl₂ with
          | ret r =>
            obtain ⟨rfl, h', tk, D, m, rfl, a1, a2, a3, a4⟩ := hr₂
            repeat (any_goals (first | assumption | wp_step))
            exact h _ _ _ _ a1 a2 a3 a4
          | _ => exact hr₂.elim
    | _ => exact hr.elim
theorem call_set_list {l : Addr} {items : Array Value} {xs : List Str} {Q : Value → Shared → Prop}
    (hh : A.handled = none) (hl : s.heap.IsList l items) (hi : PyProof.Rows.StrsAre items.toList xs) (hn1 : xs.length < 64)
    (h : ∀ (h' : Heap) (tk : Nat) (D : PySem.Froz.SD) (m : List Str), SetS prog w h' s.heap.objs.size D m → m.length ≤ xs.length → (∀ x, x ∈ m ↔ x ∈ xs) →
      (∀ b o, b < s.heap.objs.size → s.heap.get? b = some o → h'.get? b = some o) → Q (.ref s.heap.objs.size) { s with heap := h', toks := tk }) :
    wpAny (model prog w) A (call (.type "set") [.ref l]) Q E s := by
  have hmade := PySem.F.called_set.made
  have hsub := PySem.F.called_set.sub
  obtain ⟨c, tl, hmro⟩ := PySem.F.called_set.mro
  refine wpAny_call (codeAny_of_tree ?_)
  show wpAny _ _ (callAny (.type "set") _) _ _ _
  refine wpAny_pure ⟨Code.quiet_builtin _ (by decide +kernel), codeAny_builtin PySem.F.entry_type_call ?_⟩
  rw [Around.under_plain (weight_type_call_type "set" [.ref l] []) rfl]
  have h1 := PySem.F.called_set.notType
  have h2 := PySem.F.called_set.canCreate
  have hct := PySem.F.typeCall_set_1 (.ref l)
  repeat (any_goals (first | assumption | wp_step))
  generalize hled : (!w.params.followText "set-order") = led
  have hld : w.params.followText "set-order" = true ∨ led = true := by
    rw [← hled]
    cases w.params.followText "set-order"
    · exact .inr rfl
    · exact .inl rfl
  refine codeAny_mono (L2.code_set_led1 (.ref l) (E := E) (Q₁ := fun obj s₁ => obj = .ref s.heap.objs.size ∧ s₁ = { s with heap := s.heap.push { cls := .type "set", dict := none, data := .set #[] 0 (.fresh 0 0 led) } }) (by rw [hled]; exact ⟨rfl, rfl⟩)) fun r s₁ hr => ?_
  cases r with
  | error e => exact hr
  | ok fl =>
    cases fl with
    | ret obj =>
      obtain ⟨rfl, rfl⟩ := hr
      have hS : (s.heap.push { cls := .type "set", dict := none, data := .set #[] 0 (.fresh 0 0 led) }).get? s.heap.objs.size = some { cls := .type "set", dict := none, data := .set #[] 0 (.fresh 0 0 led) } := Heap.get?_push_size _ rfl
      have hT : Shared.TypeIs { s with heap := s.heap.push { cls := .type "set", dict := none, data := .set #[] 0 (.fresh 0 0 led) } } (.ref s.heap.objs.size) "set" := ⟨_, hS, rfl⟩
      have hli := PySem.F.called_set.init.lookup
      have hbi := PySem.F.called_set.init.bind (.ref s.heap.objs.size)
      repeat (any_goals (first | assumption | wp_step))
      refine codeAny_mono (codeAny_call_builtin (R := wants (fun r s₂ => r = .none ∧ ∃ h' tk D m, s₂ = { s with heap := h', toks := tk } ∧ SetS prog w h' s.heap.objs.size D m ∧ m.length ≤ xs.length ∧ (∀ x, x ∈ m ↔ x ∈ xs) ∧
          (∀ b o, b < s.heap.objs.size → s.heap.get? b = some o → h'.get? b = some o)) E) PySem.F.called_set.init.plain PySem.F.entry_set_init (check_set_init_1 hT ?_)) fun r₂ s₂ hr₂ => ?_
      · obtain ⟨ol, hol, hcl, nl, hdl⟩ := hl
        obtain ⟨ocls, odict, odata, oslots⟩ := ol
        simp only at hcl hdl
        subst hcl; subst hdl
        have hol' : (s.heap.push { cls := .type "set", dict := none, data := .set #[] 0 (.fresh 0 0 led) }).get? l = some { cls := .type "list", dict := odict, data := .seq items nl, slots := oslots } := Heap.get?_push_of_some _ hol
        have hsls := PySem.F.sub_list_set
        have hslf := PySem.F.sub_list_frozenset
        have hne : (Value.type "list" == Value.type "dict") = false := by decide
        have hl1 : (s.heap.push { cls := .type "set", dict := none, data := .set #[] 0 (.fresh 0 0 led) }).IsList l items := ⟨_, hol', rfl, nl, rfl⟩
        unfold Builtin.«set.__init__» noKeywords Builtin.Frozenset.updateFrom
        generalize hPI : pyIter = PI
        wp_walk
        subst hPI
        refine wpAny_pyIter_list hl1 ?_
        refine wpAny_bind (wpAny_runValue ?_)
        have hlS : l < s.heap.objs.size := Heap.lt_size hol
        have hh3 : A.in1.in1.in1.handled = none := by simp [hh]
        have hneI : l ≠ (s.heap.push { cls := .type "set", dict := none, data := .set #[] 0 (.fresh 0 0 led) }).objs.size := by
          rw [Heap.size_push]; exact Nat.ne_of_lt (Nat.lt_succ_of_lt hlS)
        have hSf : s.heap.objs.size ∉ [(s.heap.push { cls := .type "set", dict := none, data := .set #[] 0 (.fresh 0 0 led) }).objs.size, l] := by
          rw [Heap.size_push]; simp only [List.mem_cons, List.mem_singleton, List.not_mem_nil, or_false, not_or]
          exact ⟨Nat.ne_of_lt (Nat.lt_succ_self _), Nat.ne_of_gt hlS⟩
        have hsz : xs.length = items.size := by rw [← StrsAre.len_eq hi, Array.length_toList]
        have hval : ∀ (i : Nat) (v : Value), items[i]? = some v → ∃ t, v = .str (xs.getD i Str.empty) t := fun i v hv => SS.strs_at hi i v (by rw [Array.getElem?_toList]; exact hv)
        refine loopSet ((Walks.list hh3 _ l hneI items).toS) s.heap.objs.size hSf xs hsz (by rw [← hsz]; exact hn1) hval (items.size - 0) 0 _ (by omega) (Nat.zero_le _) ⟨⟨_, Heap.get?_push_size _ rfl, rfl, rfl⟩, (hl1.push _)⟩ ?hS0 ?hR
        case hS0 =>
          exact ⟨(#[], 0, .fresh 0 0 led), [], ⟨Heap.get?_push_of_some _ hS, TxOk.nil rfl, .nil, List.Pairwise.nil, hld⟩, Nat.le_refl _, fun x => by simp⟩
        case hR =>
          intro s' D m hm hS' hml hmm
          obtain ⟨h', g', d', tk', os'⟩ := s'
          have eg : g' = s.gens := hm.gens
          have ed : d' = s.drawn := hm.drawn
          have eo : os' = s.os := hm.os
          subst eg; subst ed; subst eo
          show wpAny _ _ _ _ _ _
          refine wpAny_pure ?_
          show wpAny _ _ (ret Value.none) _ _ _
          refine wpAny_pure ⟨rfl, h', tk', D, m, rfl, hS', by omega, fun x => by rw [hmm x, List.take_of_length_le (by omega)], fun b o hb e => ?_⟩
          have hb1 : b ≠ s.heap.objs.size := Nat.ne_of_lt hb
          have hb2 : b ≠ (s.heap.push { cls := .type "set", dict := none, data := .set #[] 0 (.fresh 0 0 led) }).objs.size := by
            rw [Heap.size_push]; exact Nat.ne_of_lt (Nat.lt_succ_of_lt hb)
          exact hm.heap b o (by simp only [List.mem_cons, List.mem_singleton, List.not_mem_nil, or_false, not_or]; exact ⟨hb1, hb2⟩) (Heap.get?_push_of_some _ (Heap.get?_push_of_some _ e))
      · cases r₂ with
        | error e => exact hr₂
        | ok fl₂ =>
          cases fl₂ with
          | ret r =>
            obtain ⟨rfl, h', tk, D, m, rfl, a1, a2, a3, a4⟩ := hr₂
            repeat (any_goals (first | assumption | wp_step))
            exact h _ _ _ _ a1 a2 a3 a4
          | _ => exact hr₂.elim
    | _ => exact hr.elim
end
end DL

/-! DL16 -/
/-! DL16: sorted(set(texts)). -/
namespace DL
open PySem PySem.Spec PyProof.Rows L2 PySem.Froz
/-- the set at p holds the texts xs -/
def SetX (P : Program) (w : World) (p : Addr) (xs : List Str) : Heap → Prop := fun h => ∃ D m, SetS P w h p D m ∧ m.length ≤ xs.length ∧ ∀ x, x ∈ m ↔ x ∈ xs
theorem perm_of_sub : ∀ {l bs : List Str}, l.Nodup → (∀ x ∈ l, x ∈ bs) → bs.length ≤ l.length → bs.Perm l
  | [], bs, _, _, h => by
    cases bs with
    | nil => exact .refl _
    | cons => cases h
  | x :: l, bs, n, s, h => by
    obtain ⟨a, b, rfl⟩ := List.append_of_mem (s x List.mem_cons_self)
    obtain ⟨n1, n2⟩ := List.nodup_cons.mp n
    have ih := perm_of_sub (l := l) (bs := a ++ b) n2 (fun y hy => by
      have := s y (List.mem_cons_of_mem _ hy)
      simp only [List.mem_append, List.mem_cons] at this ⊢
      rcases this with q | q | q
      · exact .inl q
      · subst q; exact absurd hy n1
      · exact .inr q) (by simp only [List.length_append, List.length_cons] at h ⊢; omega)
    exact List.perm_middle.trans (ih.cons x)
section
variable {X : Cx} {J : Jst}
def rSetX (X : Cx) : List V → Hp → VK → Prop := fun vs H Q => ∃ a xs, vs = [.ref a] ∧ (SqL X.K H a (xs.map V.str) ∨ SqT X.K H a (xs.map V.str)) ∧ xs.length < 64 ∧ ∀ p, H p = none → Q (.ref p) (upd H p (.ext (SetX X.prog X.w p xs)))
theorem setX_ok {w : World} {P : Program} {H : Hp} {h : Heap} {p : Addr} {xs : List Str} (x : SetX P w p xs h) : ObjOk P w H h p (.ext (SetX P w p xs)) := by
  refine ⟨x, ?_, fun h1 h2 ⟨D, m, R, l, e⟩ st => ⟨D, m, R.at st, l, e⟩⟩
  obtain ⟨D, m, R, _⟩ := x
  exact ⟨_, R.ob⟩
theorem call_setX (hc : X.calm = true) : CallR X (.type "set") (rSetX X) := by
  rintro pins s σ H vs us Q I rs ⟨a, xs, rfl, hs, hl, q⟩
  obtain ⟨u, rfl, ru⟩ := vals1 rs
  cases ru
  have fin : ∀ (h' : Heap) (tk : Nat) (D : PySem.Froz.SD) (m : List Str), SetS X.prog X.w h' s.heap.objs.size D m → m.length ≤ xs.length → (∀ x, x ∈ m ↔ x ∈ xs) →
      (∀ b o, b < s.heap.objs.size → s.heap.get? b = some o → h'.get? b = some o) → EP X pins σ Q (.ref s.heap.objs.size) { s with heap := h', toks := tk } := fun h' tk D m R ml mm kp => by
    have k' : ∀ b o, s.heap.get? b = some o → h'.get? b = some o := fun b o e => kp b o (Heap.lt_size e) e
    have hn : H s.heap.objs.size = none := I.hok.fresh (Nat.le_refl _)
    have Jv : Inv X pins σ (upd H s.heap.objs.size (.ext (SetX X.prog X.w s.heap.objs.size xs))) { s with heap := h', gens := s.gens, drawn := s.drawn, toks := tk } :=
      I.call (ch := []) (Un.laid k' (Nat.le_refl _) hn) (I.hok.laid k' (Nat.le_refl _) (setX_ok ⟨D, m, R, ml, mm⟩)) I.bare (fun _ z => nomatch z)
    exact ⟨.ref s.heap.objs.size, _, Jv, rfl, q _ hn⟩
  rcases hs with hs | hs
  · obtain ⟨its, rv, pl, hz⟩ := I.list hs
    exact call_set_list (items := its.toArray) (xs := xs) (I.ok.hd hc) pl.isList (by simpa using Vals.strs rv) hl fin
  · obtain ⟨its, rv, pl, hz⟩ := I.tuple hs
    exact call_set_tuple (items := its.toArray) (xs := xs) (I.ok.hd hc) pl (by simpa using Vals.strs rv) hl fin
def rSortX (X : Cx) : List V → Hp → VK → Prop := fun vs H Q => ∃ p xs, vs = [.ref p] ∧ H p = some (.ext (SetX X.prog X.w p xs)) ∧ xs.length < 64 ∧ ∀ zs q, asc zs → (∀ s, s ∈ zs ↔ s ∈ xs) → zs.length ≤ xs.length → H q = none → Q (.ref q) (upd H q (.lst (zs.map V.str)))
def strOf : Value → Str
  | .str x _ => x
  | _ => Str.empty
theorem each_strs : ∀ {out : List Value}, (∀ v ∈ out, ∃ x t, v = Value.str x t) → PySem.W.EachIs (fun u (x : Str) => ∃ t, u = Value.str x t) out (out.map strOf)
  | [], _ => .nil
  | v :: r, h => .cons (by obtain ⟨x, t, rfl⟩ := h v List.mem_cons_self; exact ⟨t, rfl⟩) (each_strs fun u hu => h u (List.mem_cons_of_mem _ hu))
theorem each_vals : ∀ {out : List Value} {zs : List Str}, PySem.W.EachIs (fun u (x : Str) => ∃ t, u = Value.str x t) out zs → Vals (zs.map V.str) out
  | _, _, .nil => .nil
  | _, _, .cons ⟨t, e⟩ r => .cons ⟨t, e⟩ (each_vals r)
theorem sortS_merge (l : List Str) : l.mergeSort (PySem.W.dataLe false fun x : Str => enc (.str x)) = sortS l := by
  unfold sortS
  congr 1
  funext a b
  exact leD_str a b
theorem call_sortX (hu : X.A.units + 100 < cLine) (hc : X.calm = true) : CallR X (.builtin "sorted") (rSortX X) := by
  rintro pins s σ H vs us Q I rs ⟨p, xs, rfl, hp, hl, q⟩
  obtain ⟨u, rfl, ru⟩ := vals1 rs
  cases ru
  obtain ⟨⟨D, m, R, ml, mm⟩, _, _⟩ := I.hok p _ hp
  have hh : X.A.in1.handled = none := by
    have := I.ok.hd hc
    simp [this]
  have hsz : D.1.size = m.length := R.ok.sz
  refine sorted_coll (β := Str) (R := fun u x => ∃ t, u = .str x t) (enc' := fun x => enc (.str x)) fun Q' hQ' => collect_set (A := X.A.in1) hh (es := D.1) (ep := D.2.1) (t := D.2.2) ⟨_, R.ob, rfl, rfl⟩ R.ok.fit (by unfold scanBound; omega) R.ris R.led fun s' out kp sz g o pm => ?_
  have hout : ∀ v ∈ out, ∃ x t, v = Value.str x t := fun v hv => by
    obtain ⟨e, he, rfl⟩ := List.mem_map.mp (pm.mem_iff.mp hv)
    obtain ⟨⟨k, hk, _⟩, _⟩ := R.ok.el e he
    have hk : Value.isStrOf k e.2 = true := hk
    cases h : e.2 with
    | str x t => exact ⟨x, t, rfl⟩
    | _ => rw [h] at hk; cases hk
  have hlen : out.length = m.length := by rw [pm.length_eq, List.length_map, Array.length_toList, hsz]
  have bp : (out.map strOf).Perm m := perm_of_sub R.nd (fun x hx => by
    obtain ⟨e, he, q⟩ := (R.ok.mem x).mp hx
    have q : Value.isStrOf x e.2 = true := q
    refine List.mem_map.mpr ⟨e.2, pm.mem_iff.mpr (List.mem_map.mpr ⟨e, he, rfl⟩), ?_⟩
    cases h : e.2 with
    | str y t =>
      rw [h] at q
      simp [Value.isStrOf] at q
      exact q
    | _ => rw [h] at q; cases q) (by rw [List.length_map, hlen]; exact Nat.le_refl _)
  have ea := each_strs hout
  have I1 : Inv X pins σ H s' := by
    have es : s' = { s with heap := s'.heap, gens := s'.gens, drawn := s'.drawn, toks := s'.toks } := by
      cases s'
      cases s
      cases o
      rfl
    rw [es]
    exact I.call (ch := []) (Un.kept kp) (I.hok.kept kp) (by rw [g]; exact I.bare) (fun _ z => nomatch z)
  refine hQ' s' out (out.map strOf) kp g o sz ea (ea.mono fun v x ⟨t, e⟩ => Dp.reads I1 _ _ _ (Rp.dp (F := H) (.str x) (lv_str 19 x)) ⟨t, e⟩) ?_ ?_ ?_ ?_ ?_
  · intro d hd d' hd'
    obtain ⟨x, _, rfl⟩ := List.mem_map.mp hd
    obtain ⟨y, _, rfl⟩ := List.mem_map.mp hd'
    rfl
  · refine .inr fun d hd => ?_
    obtain ⟨x, _, rfl⟩ := List.mem_map.mp hd
    exact ⟨fun e => (by cases e), fun _ e => (by cases e)⟩
  · rw [List.length_map, hlen, sizeLine_eq]; omega
  · intro b _
    show X.A.units + 2 + (enc (.str b)).depth < cLine
    have := (enc_lv (lv_str 19 b)).2
    omega
  · intro out' q' c s'' k' g' os' hq ho hlen' e
    rw [sortS_merge] at e
    have zp : (sortS (out.map strOf)).Perm m := (sortS_perm _).trans bp
    have zl : (sortS (out.map strOf)).length = m.length := zp.length_eq
    have hn : H q' = none := I.hok.fresh hq
    have hz : ((sortS (out.map strOf)).map V.str).length ≤ sizeLine := by rw [List.length_map, zl, sizeLine_eq]; omega
    have Jv : Inv X pins σ (upd H q' (.lst ((sortS (out.map strOf)).map V.str))) { s with heap := s''.heap, gens := s''.gens, drawn := s''.drawn, toks := s''.toks } :=
      I.call (ch := []) (Un.laid k' hq hn) (I.hok.laid k' hq ⟨hz, out', c, each_vals e, ho⟩) (by rw [g']; exact I.bare) (fun _ z => nomatch z)
    have es : s'' = { s with heap := s''.heap, gens := s''.gens, drawn := s''.drawn, toks := s''.toks } := by
      cases s''
      cases s
      cases os'
      rfl
    rw [es]
    exact ⟨.ref q', _, Jv, rfl, q _ q' (sortS_asc (bp.nodup_iff.mpr R.nd)) (fun x => by rw [zp.mem_iff, mm x]) (by omega) hn⟩
def dSortSet (x : D) (P : List D → Prop) : Prop := ∃ ys : List Str, (x = .tup (ys.map D.str) ∨ x = .lst (ys.map D.str)) ∧ ys.length < 64 ∧ ∀ zs : List Str, zs.Pairwise (fun a b => a.cps.toList < b.cps.toList) → (∀ s, s ∈ zs ↔ s ∈ ys) → P (zs.map D.str)
theorem strs_of : ∀ {K : PySem.W.Frag} {F : Hp} {ys : List Str} {vs : List V}, RpAll K F vs (ys.map D.str) → vs = ys.map V.str
  | _, _, [], _, .nil => rfl
  | _, _, y :: r, _, .cons a b => by cases a; rw [strs_of b]; rfl
theorem rpAll_strs {K : PySem.W.Frag} {F : Hp} : ∀ zs : List Str, RpAll K F (zs.map V.str) (zs.map D.str)
  | [] => .nil
  | z :: r => .cons (.str z) (rpAll_strs r)
theorem df_sortSet {e : Expr} {t : DE} {p p2 pos pos2 : Pos} (hu : X.A.units + 100 < cLine) (hc : X.calm = true) (hg : Gl X "sorted") (hm : X.mg "sorted" = none) (hg2 : Gl X "set") (hm2 : X.mg "set" = none) (ha : PE X e (dR X.K J t))
    (he : starEach [.Call (.Name "set" p2) [e] [] pos2] X.env = (false, eval (.Call (.Name "set" p2) [e] [] pos2) X.env) :: starEach [] X.env := by rfl) (hpl : (backTo pos (starEach [] X.env)).any (·.1) = false := by rfl)
    (he2 : starEach [e] X.env = (false, eval e X.env) :: starEach [] X.env := by rfl) (hpl2 : (backTo pos2 (starEach [] X.env)).any (·.1) = false := by rfl) :
    PE X (.Call (.Name "sorted" p) [.Call (.Name "set" p2) [e] [] pos2] [] pos) (dF X.K J (dF1 dSortSet t)) :=
  (pe_callB (call_sortX hu hc) hg hm bt_sorted (pa_cons (pe_callTy (call_setX hc) hg2 hm2 bt_set (pa_cons ha pa_nil he2) (by decide) (by decide) he2 hpl2) pa_nil he) (by decide) (by decide) he hpl).imp
    fun σ H Q ⟨j, F, ρ, P, s, q, k⟩ => ⟨j, F, ρ, _, s, q, fun d j1 ⟨ys, hd, hl, pd⟩ v F1 H1 g r => by
      have main : ∀ a, (SqL X.K H1 a (ys.map V.str) ∨ SqT X.K H1 a (ys.map V.str)) → v = .ref a → rSetX X [v] H1 fun v H2 => rSortX X [v] H2 Q := fun a hs e => ⟨a, ys, by rw [e], hs, hl, fun p hp => ⟨p, ys, rfl, upd_same, hl, fun zs q ha hm hzl hq => by
        have g2 := g.pure (Gr.own g.base hp (.ext (SetX X.prog X.w p ys)))
        have g3 := g2.pure (Gr.own g2.base hq (.lst (zs.map V.str)))
        exact k (zs.map D.str) j1 (pd zs ha hm) q F1 _ g3 (gr_new g2 hq) ⟨g2.base.fnew hq, g2.base.new hq, _, upd_same, by rw [List.length_map, sizeLine_eq]; omega, rpAll_strs zs⟩⟩⟩
      rcases hd with rfl | rfl
      · obtain ⟨a, vs, rfl, t, l, r⟩ := r.tup_inv g.base
        rw [strs_of r] at t
        exact main a (.inr t.sq) rfl
      · obtain ⟨a, vs, rfl, t, l, r⟩ := r.lst_inv g.base
        rw [strs_of r] at t
        exact main a (.inl t) rfl⟩
end
end DL

/-! C1 -/
/-! C1: crowds and their rounds, in plain Lean. -/
namespace DL
open PySem PySem.Spec PyProof.Rows L2
structure Cr where
  P : List Str
  T : List (Str × Str)
  W : List (Int × Int)
def pairS (p : Str × Str) : D := .tup [.str p.1, .str p.2]
def qD (q : Int × Int) : D := .tup [.int q.1, .int q.2]
def crD (c : Cr) : D := .tup [.str (Str.ofString "crowd"), .tup (stD c.P), .tup (c.T.map pairS), .tup (c.W.map qD)]
def okW (s : Str) : Prop := 1 ≤ s.length ∧ s.length ≤ 8 ∧ ∀ ch ∈ s.cps.toList, 97 ≤ ch ∧ ch < 123
def okQ (q : Int × Int) : Prop := 0 < q.2 ∧ Nat.gcd q.1.natAbs q.2.natAbs = 1
def okC (q : Int × Int) : Prop := okQ q ∧ 0 ≤ q.1 ∧ q.1 ≤ q.2 ∧ q.2 ≤ 1000
def okD (q : Int × Int) : Prop := okC q ∧ q.2 ≤ 300
def okN (most : Int) (P : List Str) : Prop := 1 ≤ P.length ∧ (P.length : Int) ≤ most ∧ (∀ s ∈ P, okW s) ∧ asc P
def okP (P : List Str) (p : Str × Str) : Prop := p.1 ∈ P ∧ p.2 ∈ P ∧ key p.1 < key p.2
/-- pairs in order -/
def ltP (a b : Str × Str) : Prop := key a.1 < key b.1 ∨ (a.1 = b.1 ∧ key a.2 < key b.2)
structure GoodC (c : Cr) : Prop where
  names : okN 6 c.P
  ties : ∀ t ∈ c.T, okP c.P t
  asc : c.T.Pairwise ltP
  len : c.W.length = c.P.length
  needs : ∀ q ∈ c.W, okC q
def okL (P lot : List Str) : Prop := asc lot ∧ ∀ x ∈ lot, x ∈ P
def tied (c : Cr) (p : Str) : List Str := (c.T.filterMap fun t => if t.1 = p then some t.2 else none) ++ c.T.filterMap fun t => if t.2 = p then some t.1 else none
def near (c : Cr) (p : Str) : List Str := c.T.filterMap fun t => if p = t.1 ∨ p = t.2 then some (if t.2 = p then t.1 else t.2) else none
def inL (lot l : List Str) : List Str := l.filter fun x => decide (x ∈ lot)
def needOf (c : Cr) (p : Str) : Int × Int := ((firstAt c.P p).bind fun i => c.W[i]?).getD (1, 1)
def takes (c : Cr) (lot : List Str) (p : Str) : Bool := decide (0 < (inL lot (tied c p)).length) && decide ((needOf c p).1 * ((tied c p).length : Int) ≤ ((inL lot (tied c p)).length : Int) * (needOf c p).2)
def taken (c : Cr) (lot : List Str) : List Str := c.P.filter fun p => decide (p ∉ lot) && takes c lot p
def next (c : Cr) (lot : List Str) : List Str := sortS (lot ++ taken c lot)
def rds (c : Cr) : Nat → List Str → List (List Str)
  | 0, lot => [lot]
  | n + 1, lot => if taken c lot = [] then [lot] else lot :: rds c n (next c lot)
def lastR (c : Cr) : Nat → List Str → List Str
  | 0, lot => lot
  | n + 1, lot => if taken c lot = [] then lot else lastR c n (next c lot)
/-- in lowest terms -/
def gcdI (n d : Int) : Int := (Nat.gcd n.natAbs d.natAbs : Nat)
def redQ (n d : Int) : Int × Int := (n.fdiv (gcdI n d), d.fdiv (gcdI n d))
theorem gcdI_pos {n d : Int} (h : 0 < d) : 0 < gcdI n d := by
  unfold gcdI
  have := Nat.gcd_pos_of_pos_right n.natAbs (show 0 < d.natAbs by omega)
  exact_mod_cast this
theorem redQ_mul {n d : Int} (h : 0 < d) : (redQ n d).1 * gcdI n d = n ∧ (redQ n d).2 * gcdI n d = d := by
  have g := gcdI_pos (n := n) h
  unfold redQ
  simp only
  rw [Int.fdiv_eq_ediv_of_nonneg _ (Int.le_of_lt g), Int.fdiv_eq_ediv_of_nonneg _ (Int.le_of_lt g)]
  constructor
  · exact Int.ediv_mul_cancel (by unfold gcdI; exact Int.ofNat_dvd_left.mpr (Nat.gcd_dvd_left _ _))
  · exact Int.ediv_mul_cancel (by unfold gcdI; exact Int.ofNat_dvd_left.mpr (Nat.gcd_dvd_right _ _))
theorem redQ_pos {n d : Int} (h : 0 < d) : 0 < (redQ n d).2 := by
  have g := gcdI_pos (n := n) h
  have := (redQ_mul (n := n) h).2
  rw [← this] at h
  exact Int.pos_of_mul_pos_left h g
theorem redQ_le {n d : Int} (h : 0 < d) : (redQ n d).2 ≤ d := by
  have g := gcdI_pos (n := n) h
  have p := redQ_pos (n := n) h
  have := (redQ_mul (n := n) h).2
  calc (redQ n d).2 = (redQ n d).2 * 1 := (Int.mul_one _).symm
    _ ≤ (redQ n d).2 * gcdI n d := Int.mul_le_mul_of_nonneg_left (by omega) (Int.le_of_lt p)
    _ = d := this
theorem redQ_okQ {n d : Int} (h : 0 < d) : okQ (redQ n d) := by
  refine ⟨redQ_pos h, ?_⟩
  have g := gcdI_pos (n := n) h
  obtain ⟨h1, h2⟩ := redQ_mul (n := n) h
  have e : Nat.gcd n.natAbs d.natAbs = Nat.gcd (redQ n d).1.natAbs (redQ n d).2.natAbs * (gcdI n d).natAbs := by
    rw [← Nat.gcd_mul_right, ← Int.natAbs_mul, ← Int.natAbs_mul, h1, h2]
  have e2 : (gcdI n d).natAbs = Nat.gcd n.natAbs d.natAbs := rfl
  rw [e2] at e
  have gp : 0 < Nat.gcd n.natAbs d.natAbs := Nat.gcd_pos_of_pos_right _ (by omega)
  exact Nat.eq_of_mul_eq_mul_right gp (by rw [Nat.one_mul]; exact e.symm)
section
variable {c : Cr} {lot : List Str}
theorem near_perm (h : ∀ t ∈ c.T, t.1 ≠ t.2) (p : Str) : (near c p).Perm (tied c p) := by
  unfold near tied
  generalize c.T = T at *
  induction T with
  | nil => exact .nil
  | cons t r ih =>
    have ih := ih fun x hx => h x (List.mem_cons_of_mem _ hx)
    have hne := h t List.mem_cons_self
    rw [List.filterMap_cons, List.filterMap_cons, List.filterMap_cons]
    by_cases h1 : t.1 = p
    · have h2 : t.2 ≠ p := fun e => hne (h1.trans e.symm)
      rw [if_pos (.inl h1.symm), if_pos h1, if_neg h2, if_neg h2]
      exact List.Perm.cons _ ih
    · by_cases h2 : t.2 = p
      · rw [if_pos (.inr h2.symm), if_neg h1, if_pos h2, if_pos h2]
        exact (List.Perm.cons _ ih).trans List.perm_middle.symm
      · rw [if_neg (fun z => z.elim (fun z => h1 z.symm) (fun z => h2 z.symm)), if_neg h1, if_neg h2]
        exact ih
theorem inL_mono {lot lot' : List Str} (h : ∀ x ∈ lot, x ∈ lot') (l : List Str) : (inL lot l).length ≤ (inL lot' l).length := by
  unfold inL
  induction l with
  | nil => exact Nat.le_refl _
  | cons y r ih =>
    rw [List.filter_cons, List.filter_cons]
    by_cases q : y ∈ lot
    · rw [decide_eq_true q, decide_eq_true (h y q), if_pos rfl, if_pos rfl]
      exact Nat.succ_le_succ ih
    · rw [decide_eq_false q, if_neg Bool.false_ne_true]
      split
      · exact Nat.le_succ_of_le ih
      · exact ih
theorem need_pos (g : GoodC c) (p : Str) : 0 < (needOf c p).2 ∧ 0 ≤ (needOf c p).1 := by
  unfold needOf
  cases h : (firstAt c.P p).bind fun i => c.W[i]? with
  | none => exact ⟨by decide, by decide⟩
  | some q =>
    cases h2 : firstAt c.P p with
    | none => rw [h2] at h; cases h
    | some i =>
      rw [h2] at h
      have := g.needs q (List.mem_of_getElem? h)
      exact ⟨this.1.1, this.2.1⟩
theorem takes_mono (g : GoodC c) {lot lot' : List Str} (h : ∀ x ∈ lot, x ∈ lot') {p : Str} (t : takes c lot p = true) : takes c lot' p = true := by
  unfold takes at *
  rw [Bool.and_eq_true] at *
  obtain ⟨t1, t2⟩ := t
  have t1 := of_decide_eq_true t1
  have t2 := of_decide_eq_true t2
  have m := inL_mono h (tied c p)
  refine ⟨decide_eq_true (Nat.lt_of_lt_of_le t1 m), decide_eq_true (Int.le_trans t2 ?_)⟩
  exact Int.mul_le_mul_of_nonneg_right (by exact_mod_cast m) (Int.le_of_lt (need_pos g p).1)
theorem taken_mem {p : Str} : p ∈ taken c lot ↔ p ∈ c.P ∧ p ∉ lot ∧ takes c lot p = true := by
  unfold taken
  rw [List.mem_filter, Bool.and_eq_true, decide_eq_true_iff]
theorem next_mem {p : Str} : p ∈ next c lot ↔ p ∈ lot ∨ p ∈ taken c lot := by
  unfold next
  rw [sortS_mem, List.mem_append]
theorem nd_next (ap : asc c.P) (h : asc lot) : (lot ++ taken c lot).Nodup := by
  refine List.nodup_append.mpr ⟨asc_nodup h, asc_nodup (asc_filter _ ap), fun a ha b hb e => ?_⟩
  subst e
  exact (taken_mem.mp hb).2.1 ha
theorem next_ok (ap : asc c.P) (h : okL c.P lot) : okL c.P (next c lot) :=
  ⟨sortS_asc (nd_next ap h.1), fun x hx => (next_mem.mp hx).elim (h.2 x) fun q => (taken_mem.mp q).1⟩
theorem nodup_len {α : Type} [DecidableEq α] : ∀ (l m : List α), l.Nodup → (∀ x ∈ l, x ∈ m) → l.length ≤ m.length
  | [], _, _, _ => Nat.zero_le _
  | x :: l, m, n, h => by
    obtain ⟨n1, n2⟩ := List.nodup_cons.mp n
    have hx := h x List.mem_cons_self
    have := nodup_len l (m.erase x) n2 fun y hy => (List.mem_erase_of_ne (fun e : y = x => n1 (e ▸ hy))).mpr (h y (List.mem_cons_of_mem _ hy))
    rw [List.length_erase_of_mem hx] at this
    have p := List.length_pos_of_mem hx
    rw [List.length_cons]
    omega
theorem len_le {P lot : List Str} (h : okL P lot) : lot.length ≤ P.length := nodup_len _ _ (asc_nodup h.1) h.2
theorem next_len (lot : List Str) : (next c lot).length = lot.length + (taken c lot).length := by
  unfold next
  rw [(sortS_perm _).length_eq, List.length_append]
/-- nothing more is taken -/
def fix (c : Cr) (lot : List Str) : Prop := taken c lot = []
theorem fix_stays (g : GoodC c) {lot S : List Str} (h : ∀ x ∈ lot, x ∈ S) (f : fix c S) {p : Str} (t : p ∈ taken c lot) : p ∈ S := by
  obtain ⟨h1, h2, h3⟩ := taken_mem.mp t
  apply Classical.byContradiction
  intro n
  have : p ∈ taken c S := taken_mem.mpr ⟨h1, n, takes_mono g h h3⟩
  rw [f] at this
  cases this
theorem lastR_spec (g : GoodC c) : ∀ (n : Nat) (lot : List Str), okL c.P lot → c.P.length ≤ lot.length + n → okL c.P (lastR c n lot) ∧ (∀ x ∈ lot, x ∈ lastR c n lot) ∧ fix c (lastR c n lot) ∧ ∀ S, (∀ x ∈ lot, x ∈ S) → fix c S → ∀ x ∈ lastR c n lot, x ∈ S
  | 0, lot, h, hl => by
    refine ⟨h, fun x hx => hx, ?_, fun S hS _ => hS⟩
    have e := next_len (c := c) lot
    have l := len_le (next_ok g.names.2.2.2 h)
    show taken c lot = []
    exact List.eq_nil_of_length_eq_zero (by omega)
  | n + 1, lot, h, hl => by
    unfold lastR
    by_cases f : taken c lot = []
    · rw [if_pos f]
      exact ⟨h, fun x hx => hx, f, fun S hS _ => hS⟩
    · rw [if_neg f]
      have e := next_len (c := c) lot
      have l : 0 < (taken c lot).length := List.length_pos_iff.mpr f
      obtain ⟨a1, a2, a3, a4⟩ := lastR_spec g n (next c lot) (next_ok g.names.2.2.2 h) (by omega)
      refine ⟨a1, fun x hx => a2 x (next_mem.mpr (.inl hx)), a3, fun S hS fS x hx => a4 S (fun y hy => ?_) fS x hx⟩
      rcases next_mem.mp hy with q | q
      · exact hS y q
      · exact fix_stays g hS fS q
theorem rds_last (c : Cr) : ∀ (n : Nat) (lot : List Str), (rds c n lot).getLast? = some (lastR c n lot)
  | 0, _ => rfl
  | n + 1, lot => by
    unfold rds lastR
    by_cases f : taken c lot = []
    · rw [if_pos f, if_pos f]; rfl
    · rw [if_neg f, if_neg f]
      have := rds_last c n (next c lot)
      cases h : rds c n (next c lot) with
      | nil => rw [h] at this; cases this
      | cons y r => rw [h] at this; rw [List.getLast?_cons_cons]; exact this
end
end DL

/-! C2 -/
/-! C2: what the law says of crowds, in plain Lean. -/
namespace DL
open PySem PySem.Spec PyProof.Rows L2
section
variable {c : Cr}
/-- the lot that is reached -/
def reach (c : Cr) (lot : List Str) : List Str := lastR c c.P.length lot
theorem reach_ok (g : GoodC c) {lot : List Str} (h : okL c.P lot) : okL c.P (reach c lot) := (lastR_spec g _ lot h (Nat.le_add_left _ _)).1
theorem reach_sub (g : GoodC c) {lot : List Str} (h : okL c.P lot) : ∀ x ∈ lot, x ∈ reach c lot := (lastR_spec g _ lot h (Nat.le_add_left _ _)).2.1
theorem reach_fix (g : GoodC c) {lot : List Str} (h : okL c.P lot) : fix c (reach c lot) := (lastR_spec g _ lot h (Nat.le_add_left _ _)).2.2.1
theorem reach_least (g : GoodC c) {lot : List Str} (h : okL c.P lot) {S : List Str} (hS : ∀ x ∈ lot, x ∈ S) (f : fix c S) : ∀ x ∈ reach c lot, x ∈ S := (lastR_spec g _ lot h (Nat.le_add_left _ _)).2.2.2 S hS f
theorem reach_eq (g : GoodC c) {lot S : List Str} (h : okL c.P lot) (hs : okL c.P S) (h1 : ∀ x ∈ lot, x ∈ S) (h2 : ∀ x ∈ S, x ∈ reach c lot) (f : fix c S) : S = reach c lot :=
  asc_ext hs.1 (reach_ok g h).1 fun x => ⟨h2 x, reach_least g h h1 f x⟩
theorem reach_again (g : GoodC c) {lot : List Str} (h : okL c.P lot) : reach c (reach c lot) = reach c lot :=
  (reach_eq g (reach_ok g h) (reach_ok g h) (fun _ q => q) (reach_sub g (reach_ok g h)) (reach_fix g h)).symm
theorem reach_mono (g : GoodC c) {lot more : List Str} (h : okL c.P lot) (h' : okL c.P more) (hs : ∀ x ∈ lot, x ∈ more) : ∀ x ∈ reach c lot, x ∈ reach c more :=
  reach_least g h (fun x hx => reach_sub g h' x (hs x hx)) (reach_fix g h')
/-- needs that are not higher -/
theorem takes_low {c' : Cr} (hT : c'.T = c.T) (g : GoodC c) (g' : GoodC c') {lot : List Str} {p : Str} (hn : (needOf c' p).1 * (needOf c p).2 ≤ (needOf c p).1 * (needOf c' p).2) (t : takes c lot p = true) : takes c' lot p = true := by
  have e : tied c' p = tied c p := by unfold tied; rw [hT]
  unfold takes at *
  rw [e]
  rw [Bool.and_eq_true] at *
  obtain ⟨t1, t2⟩ := t
  refine ⟨t1, decide_eq_true ?_⟩
  have t2 := of_decide_eq_true t2
  have d := (need_pos g p).1
  have d' := (need_pos g' p).1
  have L0 : 0 ≤ ((tied c p).length : Int) := Int.natCast_nonneg _
  generalize (needOf c p).1 = n at *
  generalize (needOf c p).2 = D at *
  generalize (needOf c' p).1 = n' at *
  generalize (needOf c' p).2 = D' at *
  generalize ((tied c p).length : Int) = L at *
  generalize ((inL lot (tied c p)).length : Int) = K at *
  have a : n' * D * L ≤ n * D' * L := Int.mul_le_mul_of_nonneg_right hn L0
  have b : n * L * D' ≤ K * D * D' := Int.mul_le_mul_of_nonneg_right t2 (Int.le_of_lt d')
  have e1 : n' * L * D = n' * D * L := by rw [Int.mul_assoc, Int.mul_comm L, ← Int.mul_assoc]
  have e2 : n * D' * L = n * L * D' := by rw [Int.mul_assoc, Int.mul_comm D', ← Int.mul_assoc]
  have e3 : K * D * D' = K * D' * D := by rw [Int.mul_assoc, Int.mul_comm D, ← Int.mul_assoc]
  refine Int.le_of_mul_le_mul_right ?_ d
  rw [e1, ← e3]
  exact Int.le_trans (e2 ▸ a) b
theorem reach_low {c' : Cr} (hP : c'.P = c.P) (hT : c'.T = c.T) (g : GoodC c) (g' : GoodC c') (hn : ∀ p ∈ c.P, (needOf c' p).1 * (needOf c p).2 ≤ (needOf c p).1 * (needOf c' p).2) {lot : List Str} (h : okL c.P lot) : ∀ x ∈ reach c lot, x ∈ reach c' lot := by
  have h' : okL c'.P lot := by rw [hP]; exact h
  refine reach_least g h (reach_sub g' h') ?_
  apply List.eq_nil_iff_forall_not_mem.mpr
  intro p hp
  obtain ⟨h1, h2, h3⟩ := taken_mem.mp hp
  have f := reach_fix g' h'
  have : p ∈ taken c' (reach c' lot) := taken_mem.mpr ⟨by rw [hP]; exact h1, h2, takes_low hT g g' (hn p h1) h3⟩
  rw [show taken c' (reach c' lot) = [] from f] at this
  cases this
/-- who is tied to nobody is not reached -/
theorem reach_alone (g : GoodC c) {lot : List Str} (h : okL c.P lot) {p : Str} (hp : p ∈ reach c lot) (ha : near c p = []) : p ∈ lot := by
  have ht : tied c p = [] := by
    have := near_perm (fun t ht e => by have := (g.ties t ht).2.2; rw [e] at this; exact List.lt_irrefl _ this) p
    rw [ha] at this
    exact this.symm.eq_nil
  have hl := reach_least g h (S := (reach c lot).filter fun x => decide (x ∈ lot) || decide (tied c x ≠ [])) (fun x hx => List.mem_filter.mpr ⟨reach_sub g h x hx, by simp [hx]⟩) ?_ p hp
  · have := (List.mem_filter.mp hl).2
    simpa [ht] using this
  · apply List.eq_nil_iff_forall_not_mem.mpr
    intro q hq
    obtain ⟨q1, q2, q3⟩ := taken_mem.mp hq
    have hsub : ∀ x ∈ (reach c lot).filter (fun x => decide (x ∈ lot) || decide (tied c x ≠ [])), x ∈ reach c lot := fun x hx => (List.mem_filter.mp hx).1
    have qr := fix_stays g hsub (reach_fix g h) hq
    refine q2 (List.mem_filter.mpr ⟨qr, ?_⟩)
    have : tied c q ≠ [] := fun e => by
      unfold takes at q3
      rw [e] at q3
      simp [inL] at q3
    simp [this]
/-! ties alone -/
def link (c : Cr) (l : List Str) : List Str := l ++ c.P.filter fun p => decide (p ∉ l) && decide (∃ x ∈ near c p, x ∈ l)
def linkN (c : Cr) : Nat → List Str → List Str
  | 0, l => l
  | n + 1, l => linkN c n (link c l)
def free (c : Cr) : Prop := ∀ p ∈ c.P, needOf c p = (0, 1)
theorem takes_free (f : free c) {l : List Str} {p : Str} (hp : p ∈ c.P) : takes c l p = decide (0 < (inL l (tied c p)).length) := by
  unfold takes
  rw [f p hp]
  simp
theorem near_tied (g : GoodC c) {l : List Str} {p : Str} : (∃ x ∈ near c p, x ∈ l) ↔ 0 < (inL l (tied c p)).length := by
  have pm := near_perm (fun t ht e => by have := (g.ties t ht).2.2; rw [e] at this; exact List.lt_irrefl _ this) p
  unfold inL
  rw [List.length_pos_iff_exists_mem]
  constructor
  · rintro ⟨x, hx, hl⟩
    exact ⟨x, List.mem_filter.mpr ⟨pm.mem_iff.mp hx, decide_eq_true hl⟩⟩
  · rintro ⟨x, hx⟩
    obtain ⟨h1, h2⟩ := List.mem_filter.mp hx
    exact ⟨x, pm.mem_iff.mpr h1, of_decide_eq_true h2⟩
theorem link_eq (g : GoodC c) (f : free c) (l : List Str) : link c l = l ++ taken c l := by
  unfold link taken
  congr 1
  refine List.filter_congr fun p hp => ?_
  rw [takes_free f hp]
  congr 1
  exact decide_eq_decide.mpr (near_tied g)
theorem taken_same {l m : List Str} (h : ∀ x, x ∈ l ↔ x ∈ m) : taken c l = taken c m := by
  unfold taken
  refine List.filter_congr fun p _ => ?_
  have e : ∀ q, inL l q = inL m q := fun q => List.filter_congr fun x _ => decide_eq_decide.mpr (h x)
  unfold takes
  rw [e]
  congr 1
  exact decide_eq_decide.mpr (not_congr (h p))
theorem linkN_spec (g : GoodC c) (f : free c) {S : List Str} (hS : fix c S) : ∀ (n : Nat) (l : List Str), l.Nodup → (∀ x ∈ l, x ∈ c.P) → (∀ x ∈ l, x ∈ S) → c.P.length ≤ l.length + n → (linkN c n l).Nodup ∧ (∀ x ∈ linkN c n l, x ∈ c.P) ∧ (∀ x ∈ l, x ∈ linkN c n l) ∧ (∀ x ∈ linkN c n l, x ∈ S) ∧ fix c (linkN c n l)
  | 0, l, nd, hp, hs, hl => by
    refine ⟨nd, hp, fun _ q => q, hs, ?_⟩
    show taken c l = []
    have n2 : (l ++ taken c l).Nodup := List.nodup_append.mpr ⟨nd, asc_nodup (asc_filter _ g.names.2.2.2), fun a ha b hb e => by subst e; exact (taken_mem.mp hb).2.1 ha⟩
    have := nodup_len _ c.P n2 fun x hx => (List.mem_append.mp hx).elim (hp x) fun q => (taken_mem.mp q).1
    rw [List.length_append] at this
    exact List.eq_nil_of_length_eq_zero (by omega)
  | n + 1, l, nd, hp, hs, hl => by
    unfold linkN
    have n2 : (link c l).Nodup := by
      rw [link_eq g f]
      exact List.nodup_append.mpr ⟨nd, asc_nodup (asc_filter _ g.names.2.2.2), fun a ha b hb e => by subst e; exact (taken_mem.mp hb).2.1 ha⟩
    have p2 : ∀ x ∈ link c l, x ∈ c.P := fun x hx => by
      rw [link_eq g f] at hx
      exact (List.mem_append.mp hx).elim (hp x) fun q => (taken_mem.mp q).1
    have s2 : ∀ x ∈ link c l, x ∈ S := fun x hx => by
      rw [link_eq g f] at hx
      exact (List.mem_append.mp hx).elim (hs x) fun q => fix_stays g hs hS q
    by_cases e : taken c l = []
    · have le : link c l = l := by rw [link_eq g f, e, List.append_nil]
      rw [le]
      have : ∀ m, linkN c m l = l := by
        intro m
        induction m with
        | zero => rfl
        | succ m ih => show linkN c m (link c l) = l; rw [le]; exact ih
      rw [this n]
      exact ⟨nd, hp, fun _ q => q, hs, e⟩
    · have l2 : (link c l).length = l.length + (taken c l).length := by rw [link_eq g f, List.length_append]
      have lp : 0 < (taken c l).length := List.length_pos_iff.mpr e
      obtain ⟨a1, a2, a3, a4, a5⟩ := linkN_spec g f hS n (link c l) n2 p2 s2 (by omega)
      exact ⟨a1, a2, fun x hx => a3 x (by unfold link; exact List.mem_append_left _ hx), a4, a5⟩
theorem linked (g : GoodC c) (f : free c) {lot : List Str} (h : okL c.P lot) : sortS (linkN c c.P.length lot) = reach c lot := by
  obtain ⟨a1, a2, a3, a4, a5⟩ := linkN_spec g f (reach_fix g h) c.P.length lot (asc_nodup h.1) h.2 (reach_sub g h) (Nat.le_add_left _ _)
  refine reach_eq g h ⟨sortS_asc a1, fun x hx => a2 x (sortS_mem.mp hx)⟩ (fun x hx => sortS_mem.mpr (a3 x hx)) (fun x hx => a4 x (sortS_mem.mp hx)) ?_
  show taken c (sortS _) = []
  rw [taken_same fun x => sortS_mem]
  exact a5
end
end DL

/-! M2 -/
/-! M2: the draws, in plain Lean. -/
namespace DL
open PySem PySem.Spec PyProof.Rows L2
structure JBs (o : Bool) (C : List Int) (M b : Int) (j : JS) : Prop where
  on : o = true
  cs : ∀ c ∈ C, 0 ≤ c
  bd : 2 ^ 96 ≤ M
  gs : ∀ g ∈ j.gs, 0 ≤ g ∧ g < M
  gl : j.gs.length ≤ 63
  r : 0 ≤ j.r
  rb : j.r < M
  t0 : 0 ≤ j.t
  t : j.t ≤ b
abbrev JB (J : Jst) (b : Int) (j : JS) : Prop := JBs J.on J.cs J.bd b j
theorem JB.mono {J : Jst} {b b' : Int} {j : JS} (h : JB J b j) (l : b ≤ b') : JB J b' j := ⟨h.on, h.cs, h.bd, h.gs, h.gl, h.r, h.rb, h.t0, Int.le_trans h.t l⟩
def mixS (turn p : Int) (b c : Int) : Int := (b * 69621 + c + turn).fmod p
def mixP (cs : List Int) (turn p : Int) : Int := cs.foldl (mixS turn p) (48271 * turn + p.fdiv 53)
def oneP (cs : List Int) (turn p : Int) : Int := (mixP cs turn p ^ 5).fmod p
def blend (cs : List Int) (turn : Int) : Int := ((0 * 2147483647 + oneP cs turn 2147483579) * 2147483647 + oneP cs turn 2147483629) * 2147483647 + oneP cs turn 2147483563
def refill (cs : List Int) (j : JS) : JS := if j.r = 0 then (match j.gs with | g :: r => ⟨r, g, j.t⟩ | [] => ⟨[], blend cs (j.t + 1), j.t + 1⟩) else j
def drawK (cs : List Int) (j : JS) (n : Int) : Int := (refill cs j).r.fmod n
def drawN (cs : List Int) (j : JS) (n : Int) : JS := { refill cs j with r := (refill cs j).r.fdiv n }
theorem oneP_bd (cs : List Int) (turn p : Int) (h : 0 < p) : 0 ≤ oneP cs turn p ∧ oneP cs turn p < p := by
  unfold oneP
  rw [Int.fmod_eq_emod_of_nonneg _ (Int.le_of_lt h)]
  exact ⟨Int.emod_nonneg _ (by omega), Int.emod_lt_of_pos _ h⟩
theorem blend_bd (cs : List Int) (turn : Int) : 0 ≤ blend cs turn ∧ blend cs turn < 2 ^ 96 := by
  have a := oneP_bd cs turn 2147483579 (by decide)
  have b := oneP_bd cs turn 2147483629 (by decide)
  have c := oneP_bd cs turn 2147483563 (by decide)
  unfold blend
  omega
theorem mixS_bd (turn p b c : Int) (h : 0 < p) : 0 ≤ mixS turn p b c ∧ mixS turn p b c < p := by
  unfold mixS
  rw [Int.fmod_eq_emod_of_nonneg _ (Int.le_of_lt h)]
  exact ⟨Int.emod_nonneg _ (by omega), Int.emod_lt_of_pos _ h⟩
theorem mixF_bd (turn p : Int) (h : 0 < p) (M : Int) (hM : p ≤ M) : ∀ (cs : List Int) (b : Int), 0 ≤ b → b < M → 0 ≤ cs.foldl (mixS turn p) b ∧ cs.foldl (mixS turn p) b < M
  | [], b, h0, h1 => ⟨h0, h1⟩
  | c :: r, b, h0, h1 => by
    have := mixS_bd turn p b c h
    exact mixF_bd turn p h M hM r _ this.1 (by omega)
theorem JB.refill {J : Jst} {b : Int} {j : JS} (h : JB J b j) : JB J (b + 1) (refill J.cs j) := by
  unfold DL.refill
  by_cases e : j.r = 0
  · rw [if_pos e]
    cases q : j.gs with
    | nil =>
      have bb := blend_bd J.cs (j.t + 1)
      exact ⟨h.on, h.cs, h.bd, (fun _ z => nomatch z), Nat.zero_le _, bb.1, by have := h.bd; show blend _ _ < J.bd; omega, by have := h.t0; show 0 ≤ j.t + 1; omega, by have := h.t; show j.t + 1 ≤ b + 1; omega⟩
    | cons g r =>
      have hg := h.gs
      have hl := h.gl
      rw [q] at hg hl
      have := hg g List.mem_cons_self
      exact ⟨h.on, h.cs, h.bd, fun x hx => hg x (List.mem_cons_of_mem _ hx), Nat.le_of_succ_le hl, this.1, this.2, h.t0, by have := h.t; show j.t ≤ b + 1; omega⟩
  · rw [if_neg e]
    exact h.mono (by omega)
theorem JB.draw {J : Jst} {b : Int} {j : JS} (h : JB J b j) {n : Int} (hn : 1 ≤ n) : JB J (b + 1) (drawN J.cs j n) ∧ 0 ≤ drawK J.cs j n ∧ drawK J.cs j n < n := by
  have q := h.refill
  unfold drawN drawK
  rw [Int.fdiv_eq_ediv_of_nonneg _ (by omega), Int.fmod_eq_emod_of_nonneg _ (by omega)]
  refine ⟨⟨q.on, q.cs, q.bd, q.gs, q.gl, Int.ediv_nonneg q.r (by omega), ?_, q.t0, q.t⟩, Int.emod_nonneg _ (by omega), Int.emod_lt_of_pos _ (by omega)⟩
  have : (DL.refill J.cs j).r / n ≤ (DL.refill J.cs j).r := Int.ediv_le_self _ q.r
  have := q.rb
  show (DL.refill J.cs j).r / n < _
  omega
end DL

/-! M3 -/
/-! M3: some later turn of the blends gives a run of any of six letters. -/
namespace DL
open PySem PySem.Spec PyProof.Rows L2
def crun (R c : Int) : Prop := ∀ k : Nat, k ≤ 8 → R / 26 ^ k / 8 % 26 = c
def runB (c : Nat) : Int := match c with
  | 1 => 4611691854275096248
  | 2 => 4611693591716273520
  | 3 => 4611695329157450792
  | 4 => 4611697066598628064
  | 5 => 4611698804039805336
  | _ => 4611700541480982608
def runX (c : Nat) : Int × Int × Int := match c with
  | 1 => (1, 1301542307, 1151715369)
  | 2 => (1, 469676128, 1801094928)
  | 3 => (1, 1966505703, 505662471)
  | 4 => (1, 1245294471, 204353108)
  | 5 => (1, 847851477, 1108176617)
  | _ => (1, 711911953, 1572358379)
theorem run_all : ∀ c : Fin 6, ∀ k : Fin 9, runB (c.val + 1) / 26 ^ k.val / 8 % 26 = (c.val : Int) + 1 := by decide +kernel
theorem run_is (c : Nat) (h1 : 1 ≤ c) (h6 : c ≤ 6) : crun (runB c) c := fun k hk => by
  have := run_all ⟨c - 1, by omega⟩ ⟨k, by omega⟩
  simp only at this
  rw [show c - 1 + 1 = c by omega] at this
  rw [this]
  omega
theorem run_pow : ∀ c : Fin 6, (((runX (c.val + 1)).1 ^ 5 % 2147483579) * 2147483647 + (runX (c.val + 1)).2.1 ^ 5 % 2147483629) * 2147483647 + (runX (c.val + 1)).2.2 ^ 5 % 2147483563 = runB (c.val + 1) := by decide +kernel
/-! the blend is linear in the turn -/
def coefA (p : Int) : Nat → Int
  | 0 => 48271
  | n + 1 => coefA p n * 69621 + 1
def coefA' (p : Int) : Nat → Int
  | 0 => 48271
  | n + 1 => (coefA' p n * 69621 + 1) % p
def coefF (a : Int) : Nat → Int
  | 0 => a
  | n + 1 => coefF (a * 69621 + 1) n
theorem coefF_eq (p : Int) : ∀ (n m : Nat), coefF (coefA p m) n = coefA p (m + n)
  | 0, m => rfl
  | n + 1, m => by
    show coefF (coefA p (m + 1)) n = _
    rw [coefF_eq p n (m + 1)]
    congr 1
    omega
theorem fold_lin (p turn : Int) (hp : 0 < p) : ∀ (cs : List Int) (a b0 b : Int), b % p = (a * turn + b0) % p → ∃ B, ∀ turn' b', b' % p = (a * turn' + b0) % p → cs.foldl (mixS turn' p) b' % p = (coefF a cs.length * turn' + B) % p
  | [], a, b0, b, h => ⟨b0, fun _ _ h => h⟩
  | c :: r, a, b0, b, h => by
    obtain ⟨B, hB⟩ := fold_lin p turn hp r (a * 69621 + 1) (b0 * 69621 + c) (mixS turn p b c) (by
      unfold mixS
      rw [Int.fmod_eq_emod_of_nonneg _ (Int.le_of_lt hp), Int.emod_emod_of_dvd _ (Int.dvd_refl p)]
      have : (b * 69621 + c + turn) % p = ((a * turn + b0) * 69621 + c + turn) % p := by
        rw [Int.add_assoc, Int.add_emod, Int.mul_emod, h, ← Int.mul_emod, ← Int.add_emod, ← Int.add_assoc]
      rw [this]
      congr 1
      rw [Int.add_mul, Int.add_mul, Int.mul_assoc, Int.mul_comm turn, ← Int.mul_assoc, Int.one_mul]
      omega)
    refine ⟨B, fun turn' b' h' => ?_⟩
    refine hB turn' (mixS turn' p b' c) ?_
    unfold mixS
    rw [Int.fmod_eq_emod_of_nonneg _ (Int.le_of_lt hp), Int.emod_emod_of_dvd _ (Int.dvd_refl p)]
    have : (b' * 69621 + c + turn') % p = ((a * turn' + b0) * 69621 + c + turn') % p := by
      rw [Int.add_assoc, Int.add_emod, Int.mul_emod, h', ← Int.mul_emod, ← Int.add_emod, ← Int.add_assoc]
    rw [this]
    congr 1
    rw [Int.add_mul, Int.add_mul, Int.mul_assoc, Int.mul_comm turn', ← Int.mul_assoc, Int.one_mul]
    omega
theorem mix_lin (cs : List Int) (p : Int) (hp : 0 < p) : ∃ B, ∀ turn, mixP cs turn p % p = (coefA p cs.length * turn + B) % p := by
  obtain ⟨B, h⟩ := fold_lin p 0 hp cs 48271 (p.fdiv 53) (48271 * 0 + p.fdiv 53) rfl
  refine ⟨B, fun turn => ?_⟩
  have := h turn (48271 * turn + p.fdiv 53) rfl
  rw [show coefF 48271 cs.length = coefA p cs.length from by have := coefF_eq p cs.length 0; rw [Nat.zero_add] at this; exact this] at this
  exact this
theorem pow5_emod (x p : Int) : x ^ 5 % p = (x % p) ^ 5 % p := by
  simp only [Int.pow_succ, Int.pow_zero, Int.one_mul]
  simp [Int.mul_emod]
theorem one_of (cs : List Int) (p turn x : Int) (hp : 0 < p) (h : mixP cs turn p % p = x % p) : oneP cs turn p = x ^ 5 % p := by
  unfold oneP
  rw [Int.fmod_eq_emod_of_nonneg _ (Int.le_of_lt hp), pow5_emod, h, ← pow5_emod]
/-! inverses -/
def powm : Nat → Nat → Nat → Nat → Nat
  | 0, _, _, _ => 1
  | f + 1, b, e, p => if e = 0 then 1 else (let h := powm f (b * b % p) (e / 2) p; if e % 2 = 1 then b * h % p else h)
def invA (p : Nat) (L : Nat) : Int := (powm 40 (coefA' p L % p).toNat (p - 2) p : Nat)
theorem inv_all (p : Nat) (h : p = 2147483579 ∨ p = 2147483629 ∨ p = 2147483563) : ∀ L : Fin 64, coefA' p L.val * invA p L.val % p = 1 := by
  rcases h with rfl | rfl | rfl <;> decide +kernel
theorem coefA_mod (p : Int) : ∀ L, coefA p L % p = coefA' p L % p
  | 0 => rfl
  | n + 1 => by
    show (coefA p n * 69621 + 1) % p = ((coefA' p n * 69621 + 1) % p) % p
    rw [Int.emod_emod_of_dvd _ (Int.dvd_refl p), Int.add_emod, Int.mul_emod, coefA_mod p n, ← Int.mul_emod, ← Int.add_emod]
theorem solve (p : Nat) (h : p = 2147483579 ∨ p = 2147483629 ∨ p = 2147483563) {L : Nat} (hL : L ≤ 63) (B x : Int) : ∃ y, ∀ T : Int, T % p = y % p → (coefA p L * T + B) % p = x % p := by
  have e := inv_all p h ⟨L, by omega⟩
  simp only at e
  refine ⟨(x - B) * invA p L, fun T hT => ?_⟩
  have e2 : (coefA p L * invA p L) % p = 1 % p := by
    rw [Int.mul_emod, coefA_mod, ← Int.mul_emod, e]
    rcases h with rfl | rfl | rfl <;> rfl
  have : (coefA p L * T) % p = (x - B) % p := by
    rw [Int.mul_emod, hT, ← Int.mul_emod, ← Int.mul_assoc, Int.mul_comm (coefA p L), Int.mul_assoc, Int.mul_emod, e2, ← Int.mul_emod, Int.mul_one]
  rw [Int.add_emod, this, ← Int.add_emod]
  congr 1
  omega
def per : Int := 2147483579 * 2147483629 * 2147483563
theorem crt (y1 y2 y3 t0 : Int) : ∃ T, t0 < T ∧ T ≤ t0 + per ∧ T % 2147483579 = y1 % 2147483579 ∧ T % 2147483629 = y2 % 2147483629 ∧ T % 2147483563 = y3 % 2147483563 := by
  let S := y1 * 235208588510193165138497345 + y2 * 1293459670181656490358913329 + y3 * 8374851257769530234286113860
  have hp : 0 < per := by decide
  refine ⟨t0 + 1 + (S - t0 - 1) % per, ?_, ?_, ?_, ?_, ?_⟩
  · have := Int.emod_nonneg (S - t0 - 1) (Int.ne_of_gt hp); omega
  · have := Int.emod_lt_of_pos (S - t0 - 1) hp; omega
  all_goals
    have hq : (S - t0 - 1) % per = S - t0 - 1 - per * ((S - t0 - 1) / per) := Int.emod_def _ _
    rw [hq]
    generalize (S - t0 - 1) / per = q
    show (t0 + 1 + (y1 * 235208588510193165138497345 + y2 * 1293459670181656490358913329 + y3 * 8374851257769530234286113860 - t0 - 1 - 9903519516461379889783524533 * q)) % _ = _
    omega
end DL

/-! M4 -/
/-! M4: drawn words; a word that begins with an unused letter comes at last. -/
namespace DL
open PySem PySem.Spec PyProof.Rows L2
theorem later (cs : List Int) (hl : cs.length ≤ 63) (t0 : Int) (c : Nat) (h1 : 1 ≤ c) (h6 : c ≤ 6) : ∃ T, t0 < T ∧ T ≤ t0 + per ∧ crun (blend cs T) c := by
  obtain ⟨B1, m1⟩ := mix_lin cs 2147483579 (by decide)
  obtain ⟨B2, m2⟩ := mix_lin cs 2147483629 (by decide)
  obtain ⟨B3, m3⟩ := mix_lin cs 2147483563 (by decide)
  obtain ⟨y1, s1⟩ := solve 2147483579 (.inl rfl) hl B1 (runX c).1
  obtain ⟨y2, s2⟩ := solve 2147483629 (.inr (.inl rfl)) hl B2 (runX c).2.1
  obtain ⟨y3, s3⟩ := solve 2147483563 (.inr (.inr rfl)) hl B3 (runX c).2.2
  obtain ⟨T, a, b, e1, e2, e3⟩ := crt y1 y2 y3 t0
  refine ⟨T, a, b, ?_⟩
  have o1 := one_of cs 2147483579 T (runX c).1 (by decide) ((m1 T).trans (s1 T e1))
  have o2 := one_of cs 2147483629 T (runX c).2.1 (by decide) ((m2 T).trans (s2 T e2))
  have o3 := one_of cs 2147483563 T (runX c).2.2 (by decide) ((m3 T).trans (s3 T e3))
  have e : blend cs T = runB c := by
    unfold blend
    rw [o1, o2, o3, Int.zero_mul, Int.zero_add]
    have := run_pow ⟨c - 1, by omega⟩
    simp only at this
    rw [show c - 1 + 1 = c by omega] at this
    exact this
  rw [e]
  exact run_is c h1 h6
def lettersF (cs : List Int) : Nat → JS → List Int × JS
  | 0, j => ([], j)
  | n + 1, j => (drawK cs j 26 :: (lettersF cs n (drawN cs j 26)).1, (lettersF cs n (drawN cs j 26)).2)
def wordF (cs : List Int) (j : JS) : List Int × JS := lettersF cs (1 + drawK cs j 8).toNat (drawN cs j 8)
def mu (X T : Int) (j : JS) : Int := (j.gs.length + (T - j.t)) * X + j.r
theorem mul_suc (A X : Int) : (A + 1) * X = A * X + X := by rw [Int.add_mul, Int.one_mul]
def hot (j : JS) (c : Int) : Prop := j.r / 8 % 26 = c
theorem refill_nz {cs : List Int} {j : JS} (h : j.r ≠ 0) : refill cs j = j := if_neg h
theorem div_lt {r n : Int} (h : 0 < r) (hn : 2 ≤ n) : r / n < r := by
  have := Int.ediv_lt_self_of_pos_of_ne_one h (show n ≠ 1 by omega)
  exact this
/-- one draw -/
theorem draw_step {J : Jst} {b T : Int} {j : JS} (h : JB J b j) (ht : j.t < T) {n : Int} (hn : 2 ≤ n) : ((drawN J.cs j n).t < T ∧ mu J.bd T (drawN J.cs j n) < mu J.bd T j) ∨ ((drawN J.cs j n).t = T ∧ (drawN J.cs j n).r = blend J.cs T / n ∧ drawK J.cs j n = blend J.cs T % n) := by
  have hf : ∀ r : Int, r.fdiv n = r / n := fun r => Int.fdiv_eq_ediv_of_nonneg _ (by omega)
  have hm : ∀ r : Int, r.fmod n = r % n := fun r => Int.fmod_eq_emod_of_nonneg _ (by omega)
  unfold drawN drawK
  rw [hf, hm]
  by_cases e : j.r = 0
  · have er : refill J.cs j = (match j.gs with | g :: r => ⟨r, g, j.t⟩ | [] => ⟨[], blend J.cs (j.t + 1), j.t + 1⟩) := if_pos e
    cases q : j.gs with
    | cons g r =>
      rw [q] at er
      rw [er]
      have hg := h.gs g (by rw [q]; exact List.mem_cons_self)
      left
      refine ⟨ht, ?_⟩
      unfold mu
      rw [q, e]
      have h1 : g / n ≤ g := Int.ediv_le_self _ hg.1
      have h2 := hg.2
      show ((r.length : Int) + (T - j.t)) * J.bd + g / n < (((r.length + 1 : Nat) : Int) + (T - j.t)) * J.bd + 0
      have := mul_suc ((r.length : Int) + (T - j.t)) J.bd
      rw [show (((r.length + 1 : Nat)) : Int) + (T - j.t) = (r.length : Int) + (T - j.t) + 1 by omega, this]
      omega
    | nil =>
      rw [q] at er
      rw [er]
      by_cases z : j.t + 1 = T
      · right
        rw [z]
        exact ⟨rfl, rfl, rfl⟩
      · left
        refine ⟨by show j.t + 1 < T; omega, ?_⟩
        unfold mu
        rw [q, e]
        have bd := blend_bd J.cs (j.t + 1)
        have bb := h.bd
        have h1 : blend J.cs (j.t + 1) / n ≤ blend J.cs (j.t + 1) := Int.ediv_le_self _ bd.1
        show (((0 : Nat) : Int) + (T - (j.t + 1))) * J.bd + blend J.cs (j.t + 1) / n < (((0 : Nat) : Int) + (T - j.t)) * J.bd + 0
        have := mul_suc (((0 : Nat) : Int) + (T - (j.t + 1))) J.bd
        rw [show ((0 : Nat) : Int) + (T - j.t) = ((0 : Nat) : Int) + (T - (j.t + 1)) + 1 by omega, this]
        omega
  · rw [refill_nz e]
    left
    refine ⟨ht, ?_⟩
    unfold mu
    have := div_lt (r := j.r) (n := n) (by have := h.r; omega) hn
    show (j.gs.length + (T - j.t)) * J.bd + j.r / n < (j.gs.length + (T - j.t)) * J.bd + j.r
    omega
theorem crun_pos {R c : Int} (h : crun R c) (hc : 1 ≤ c) (k : Nat) (hk : k ≤ 8) : R / 26 ^ k ≠ 0 := fun e => by
  have := h k hk
  rw [e] at this
  simp at this
  omega
theorem crun_hot {R c : Int} (h : crun R c) {k : Nat} (hk : k ≤ 8) {j : JS} (e : j.r = R / 26 ^ k) : hot j c := by
  unfold hot; rw [e]; exact h k hk
theorem letters_run {cs : List Int} {R c : Int} (h : crun R c) (hc : 1 ≤ c) : ∀ (L k : Nat) (j : JS), j.r = R / 26 ^ k → k + L ≤ 8 → (lettersF cs L j).2.r = R / 26 ^ (k + L) ∧ (lettersF cs L j).2.t = j.t
  | 0, k, j, e, _ => ⟨e, rfl⟩
  | L + 1, k, j, e, hl => by
    have nz : j.r ≠ 0 := by rw [e]; exact crun_pos h hc k (by omega)
    have e1 : (drawN cs j 26).r = R / 26 ^ (k + 1) := by
      unfold drawN
      rw [refill_nz nz, e, Int.fdiv_eq_ediv_of_nonneg _ (by decide), Int.ediv_ediv_of_nonneg (by exact Int.le_of_lt (Int.pow_pos (by decide))), ← Int.pow_succ]
    have e2 : (drawN cs j 26).t = j.t := by unfold drawN; rw [refill_nz nz]
    obtain ⟨a, b⟩ := letters_run h hc L (k + 1) _ e1 (by omega)
    exact ⟨by rw [show k + (L + 1) = k + 1 + L by omega]; exact a, b.trans e2⟩
theorem letters_step {J : Jst} {T c : Int} (hr : crun (blend J.cs T) c) (hc : 1 ≤ c) : ∀ (L : Nat) (b : Int) (j : JS), L ≤ 8 → JB J b j → j.t < T → ((lettersF J.cs L j).2.t < T ∧ mu J.bd T (lettersF J.cs L j).2 ≤ mu J.bd T j) ∨ ((lettersF J.cs L j).2.t = T ∧ hot (lettersF J.cs L j).2 c)
  | 0, b, j, _, h, ht => .inl ⟨ht, Int.le_refl _⟩
  | L + 1, b, j, hl, h, ht => by
    rcases draw_step h ht (n := 26) (by decide) with ⟨a1, a2⟩ | ⟨a1, a2, _⟩
    · have d := (h.draw (n := 26) (by decide)).1
      rcases letters_step hr hc L (b + 1) _ (by omega) d a1 with ⟨b1, b2⟩ | b1
      · exact .inl ⟨b1, by show mu J.bd T (lettersF J.cs L _).2 ≤ _; omega⟩
      · exact .inr b1
    · obtain ⟨c1, c2⟩ := letters_run (cs := J.cs) hr hc L 1 (drawN J.cs j 26) (by rw [a2]; rfl) (by omega)
      exact .inr ⟨c2.trans a1, crun_hot hr (k := 1 + L) (by omega) c1⟩
theorem word_hot {J : Jst} {b c : Int} {j : JS} (h : JB J b j) (hc : 1 ≤ c) (hh : hot j c) : ∃ r, (wordF J.cs j).1 = c :: r := by
  have dk := (h.draw (n := 8) (by decide)).2
  have nz : j.r ≠ 0 := fun e => by unfold hot at hh; rw [e] at hh; simp at hh; omega
  have e1 : (drawN J.cs j 8).r = j.r / 8 := by
    unfold drawN; rw [refill_nz nz, Int.fdiv_eq_ediv_of_nonneg _ (by decide)]
  have nz2 : (drawN J.cs j 8).r ≠ 0 := fun e => by unfold hot at hh; rw [e1] at e; rw [e] at hh; simp at hh; omega
  unfold wordF
  obtain ⟨L, hL⟩ : ∃ L, (1 + drawK J.cs j 8).toNat = L + 1 := ⟨(drawK J.cs j 8).toNat, by omega⟩
  rw [hL]
  refine ⟨(lettersF J.cs L (drawN J.cs (drawN J.cs j 8) 26)).1, ?_⟩
  show drawK J.cs (drawN J.cs j 8) 26 :: _ = _
  congr 1
  unfold drawK
  rw [refill_nz nz2, e1, Int.fmod_eq_emod_of_nonneg _ (by decide)]
  exact hh
theorem word_step {J : Jst} {b T c : Int} {j : JS} (h : JB J b j) (ht : j.t < T) (hr : crun (blend J.cs T) c) (hc : 1 ≤ c) : (∃ r, (wordF J.cs j).1 = c :: r) ∨ ((wordF J.cs j).2.t < T ∧ mu J.bd T (wordF J.cs j).2 < mu J.bd T j) ∨ ((wordF J.cs j).2.t = T ∧ hot (wordF J.cs j).2 c) := by
  have dk := (h.draw (n := 8) (by decide))
  rcases draw_step h ht (n := 8) (by decide) with ⟨a1, a2⟩ | ⟨a1, a2, _⟩
  · rcases letters_step hr hc (1 + drawK J.cs j 8).toNat (b + 1) _ (by omega) dk.1 a1 with ⟨b1, b2⟩ | b1
    · exact .inr (.inl ⟨b1, by show mu J.bd T (lettersF J.cs _ _).2 < _; omega⟩)
    · exact .inr (.inr b1)
  · left
    have nz2 : (drawN J.cs j 8).r ≠ 0 := fun e => by
      have := hr 0 (by omega)
      rw [Int.pow_zero, Int.ediv_one, ← a2, e] at this
      simp at this
      omega
    unfold wordF
    obtain ⟨L, hL⟩ : ∃ L, (1 + drawK J.cs j 8).toNat = L + 1 := ⟨(drawK J.cs j 8).toNat, by omega⟩
    rw [hL]
    refine ⟨(lettersF J.cs L (drawN J.cs (drawN J.cs j 8) 26)).1, ?_⟩
    show drawK J.cs (drawN J.cs j 8) 26 :: _ = _
    congr 1
    unfold drawK
    rw [refill_nz nz2, a2, Int.fmod_eq_emod_of_nonneg _ (by decide)]
    have := hr 0 (by omega)
    rw [Int.pow_zero, Int.ediv_one] at this
    exact this
theorem letters_JB {J : Jst} : ∀ (L : Nat) (b : Int) (j : JS), JB J b j → JB J (b + L) (lettersF J.cs L j).2 ∧ (lettersF J.cs L j).1.length = L ∧ ∀ k ∈ (lettersF J.cs L j).1, 0 ≤ k ∧ k < 26
  | 0, b, j, h => ⟨h.mono (by simp), rfl, fun _ z => nomatch z⟩
  | L + 1, b, j, h => by
    have d := h.draw (n := 26) (by decide)
    obtain ⟨a1, a2, a3⟩ := letters_JB L (b + 1) _ d.1
    refine ⟨a1.mono (by simp; omega), by show _ + 1 = _; rw [a2], fun k hk => ?_⟩
    rcases List.mem_cons.mp hk with e | e
    · rw [e]; exact d.2
    · exact a3 k e
theorem word_JB {J : Jst} {b : Int} {j : JS} (h : JB J b j) : JB J (b + 9) (wordF J.cs j).2 ∧ 1 ≤ (wordF J.cs j).1.length ∧ (wordF J.cs j).1.length ≤ 8 ∧ ∀ k ∈ (wordF J.cs j).1, 0 ≤ k ∧ k < 26 := by
  have d := h.draw (n := 8) (by decide)
  obtain ⟨a1, a2, a3⟩ := letters_JB (1 + drawK J.cs j 8).toNat (b + 1) _ d.1
  exact ⟨a1.mono (by omega), by show 1 ≤ (lettersF _ _ _).1.length; rw [a2]; omega, by show (lettersF _ _ _).1.length ≤ 8; rw [a2]; omega, a3⟩
end DL

/-! HB -/
/-! HB: helpers of no law. -/
namespace DL
open PySem PySem.Spec PyProof.Rows L2
theorem letters_in : ∀ k : Fin 26, subIn ⟨#[97 + k.val]⟩ (Str.ofString "abcdefghijklmnopqrstuvwxyz") = true := by decide +kernel
theorem all_bl {α : Type} {l : List α} {f : α → D} (h : ∀ a ∈ l, f a = .bl true) : (l.map f).all isBlD = true ∧ (l.map f).all isTr = true := by
  constructor <;>
  · rw [List.all_map, List.all_eq_true]
    intro a ha
    show _ = true
    simp [h a ha, isBlD, isTr]
theorem all_true {ds : List D} (h : ∀ d ∈ ds, d = .bl true) : ds.all isBlD = true ∧ ds.all isTr = true := by
  constructor <;>
  · rw [List.all_eq_true]
    intro a ha
    rw [h a ha]; rfl
theorem zip_strs (l m : List Str) : zipD (stD l) (stD m) = (l.zip m).map fun p => .tup [.str p.1, .str p.2] := by
  induction l generalizing m with
  | nil => rfl
  | cons x r ih =>
    cases m with
    | nil => rfl
    | cons y s => show _ :: zipD (stD r) (stD s) = _; rw [ih]; rfl
theorem es_facts {es : List D} (h : ∀ e ∈ es, e = .bl true) : (∀ x, x ∈ es → isBlD x = true) ∧ (¬∃ x, x ∈ es ∧ isTr x = false) ∧ es.all isTr = true := by
  refine ⟨(fun x hx => by rw [h x hx]; rfl), (fun ⟨x, hx, e⟩ => by rw [h x hx] at e; cases e), List.all_eq_true.mpr fun x hx => by rw [h x hx]; rfl⟩
theorem compW_bl {g : DG} {te : DE} {ρ : List SD} {j : JS} {P : List D → JS → Prop} {ds : List D} (hf : ∀ d ∈ ds, ∀ Q : D → JS → Prop, Q (.bl true) j → g d ρ fun ρ2 => te j ρ2 Q) (h : ∀ es : List D, (∀ e ∈ es, e = .bl true) → P es j) : compW g dTrue te ρ P ds [] j :=
  compW_map (fun _ => .bl true) hf (h _ fun e he => by obtain ⟨_, _, rfl⟩ := List.mem_map.mp he; rfl)
theorem zip_tail (l : List Str) : zipD (stD l) (stD l).tail = (l.zip l.tail).map fun p => .tup [.str p.1, .str p.2] := by
  rw [show (stD l).tail = stD l.tail from by cases l <;> rfl]
  exact zip_strs l l.tail
theorem dlt_pair {a b : Str × Str} (h : ltP a b) : dltv (pairS a) (pairS b) = true := by
  have e := PySem.W.dataLt_pair (x := enc (.str a.1)) (y := enc (.str a.2)) (x' := enc (.str b.1)) (y' := enc (.str b.2)) rfl rfl
  show PySem.W.dataLt (.tuple [enc (.str a.1), enc (.str a.2)]) (.tuple [enc (.str b.1), enc (.str b.2)]) = true
  rw [e]
  have d1 := deqv_str a.1 b.1
  have d2 := deqv_str a.2 b.2
  have l1 := dlt_str a.1 b.1
  have l2 := dlt_str a.2 b.2
  unfold deqv at d1 d2
  unfold dltv at l1 l2
  rw [d1, d2, l1, l2]
  rcases h with h | ⟨h1, h2⟩
  · have : a.1 ≠ b.1 := fun z => by rw [z] at h; exact List.lt_irrefl _ h
    rw [if_neg (by simpa using this), decide_eq_true h]
  · have : a.2 ≠ b.2 := fun z => by rw [z] at h2; exact List.lt_irrefl _ h2
    rw [if_pos (by simpa using h1), if_neg (by simpa using this), decide_eq_true h2]
theorem asc_zipG {α : Type} {r : α → α → Prop} {l : List α} (h : l.Pairwise r) : ∀ p ∈ l.zip l.tail, r p.1 p.2 := by
  induction l with
  | nil => intro p hp; cases hp
  | cons x s ih =>
    cases s with
    | nil => intro p hp; cases hp
    | cons y s =>
      intro p hp
      rcases List.mem_cons.mp hp with e | e
      · subst e; exact (List.pairwise_cons.mp h).1 y List.mem_cons_self
      · exact ih (List.pairwise_cons.mp h).2 p e
theorem zip_mapG {α : Type} (f : α → D) (l : List α) : zipD (l.map f) (l.map f).tail = (l.zip l.tail).map fun p => .tup [f p.1, f p.2] := by
  rw [show (l.map f).tail = l.tail.map f from by cases l <;> rfl]
  generalize l.tail = m
  induction l generalizing m with
  | nil => rfl
  | cons x r ih =>
    cases m with
    | nil => rfl
    | cons y s => show _ :: zipD (r.map f) (s.map f) = _; rw [ih]; rfl
theorem compW_sel {α : Type} (en : α → D) (f : α → Option D) {g : DG} {tt : DT} {te : DE} {ρ : List SD} {j : JS} {P : List D → JS → Prop} : ∀ {l : List α} {acc : List D}, (∀ a ∈ l, ∀ Q : Option D → JS → Prop, Q (f a) j → g (en a) ρ fun ρ2 => tt j ρ2 fun b j1 => if b = true then te j1 ρ2 fun y j2 => Q (some y) j2 else Q none j1) → P (acc ++ l.filterMap f) j → compW g tt te ρ P (l.map en) acc j
  | [], acc, _, h => by
    show P acc j
    simpa using h
  | d :: ds, acc, hf, h => by
    have ih : ∀ acc', P (acc' ++ ds.filterMap f) j → compW g tt te ρ P (ds.map en) acc' j := fun acc' h' => compW_sel en f (fun d hd => hf d (List.mem_cons_of_mem _ hd)) h'
    refine hf d List.mem_cons_self (fun o j' => match o with
      | some y => compW g tt te ρ P (ds.map en) (acc ++ [y]) j'
      | none => compW g tt te ρ P (ds.map en) acc j') ?_
    cases e : f d with
    | none =>
      rw [List.filterMap_cons_none e] at h
      exact ih acc h
    | some y =>
      rw [List.filterMap_cons_some e] at h
      exact ih (acc ++ [y]) (by rw [List.append_assoc]; exact h)
theorem fm_str {α : Type} (l : List α) (f : α → Option Str) : (l.filterMap fun a => (f a).map D.str) = stD (l.filterMap f) := by
  rw [stD, List.map_filterMap]
theorem T_len {c : Cr} (g : GoodC c) : c.T.length ≤ 36 := by
  have h := nodup_len c.T (c.P.flatMap fun a => c.P.map fun b => (a, b)) ?_ ?_
  · have e : (c.P.flatMap fun a => c.P.map fun b => (a, b)).length = c.P.length * c.P.length := by
      have : ∀ (l : List Str), (l.flatMap fun a => c.P.map fun b => (a, b)).length = l.length * c.P.length := by
        intro l
        induction l with
        | nil => simp
        | cons x r ih => rw [List.flatMap_cons, List.length_append, ih, List.length_map, List.length_cons, Nat.succ_mul, Nat.add_comm]
      exact this _
    have l6 : c.P.length ≤ 6 := by have := g.names.2.1; omega
    have := Nat.mul_le_mul l6 l6
    omega
  · exact g.asc.imp fun {a b} h e => by
      subst e
      rcases h with h | ⟨_, h⟩ <;> exact List.lt_irrefl _ h
  · intro t ht
    obtain ⟨h1, h2, _⟩ := g.ties t ht
    exact List.mem_flatMap.mpr ⟨t.1, h1, List.mem_map.mpr ⟨t.2, h2, rfl⟩⟩
theorem tied_len {c : Cr} (g : GoodC c) (p : Str) : (tied c p).length ≤ 72 := by
  unfold tied
  have h := T_len g
  have a := List.length_filterMap_le (fun t : Str × Str => if t.1 = p then some t.2 else none) c.T
  have b := List.length_filterMap_le (fun t : Str × Str => if t.2 = p then some t.1 else none) c.T
  rw [List.length_append]; omega
theorem first_mem : ∀ {l : List Str} {p : Str}, p ∈ l → ∃ i, firstAt l p = some i ∧ i < l.length
  | [], _, h => by cases h
  | x :: r, p, h => by
    unfold firstAt
    by_cases e : x = p
    · rw [if_pos e]; exact ⟨0, rfl, Nat.succ_pos _⟩
    · rw [if_neg e]
      obtain ⟨i, h1, h2⟩ := first_mem (l := r) (p := p) ((List.mem_cons.mp h).resolve_left fun z => e z.symm)
      exact ⟨i + 1, by rw [h1]; rfl, Nat.succ_lt_succ h2⟩
theorem need_at {c : Cr} (g : GoodC c) {p : Str} (h : p ∈ c.P) : ∃ i, firstAt c.P p = some i ∧ c.W[i]? = some (needOf c p) := by
  obtain ⟨i, h1, h2⟩ := first_mem h
  refine ⟨i, h1, ?_⟩
  have hi : i < c.W.length := by rw [g.len]; exact h2
  unfold needOf
  rw [h1]
  show c.W[i]? = some ((c.W[i]?).getD (1, 1))
  rw [List.getElem?_eq_getElem hi]; rfl
theorem mulOk {i j : Int} (h : -(2 ^ 64) < j ∧ j < 2 ^ 64) : IntMulOk i j := CMul.ok (.inr h)
theorem filter_str (l : List Str) (p : Str → Bool) : (l.filterMap fun a => if p a = true then some (D.str a) else none) = stD (l.filter p) := by
  induction l with
  | nil => rfl
  | cons x r ih =>
    rw [List.filterMap_cons, List.filter_cons]
    cases h : p x with
    | true => rw [if_pos rfl, if_pos rfl, ih]; rfl
    | false => rw [if_neg Bool.false_ne_true, if_neg Bool.false_ne_true, ih]
theorem compW_in {te : DE} {ρ : List SD} {j : JS} {P : List D → JS → Prop} {g : DG} {tt : DT} (p : Str → Bool) {l : List Str} (hf : ∀ a ∈ l, ∀ Q : Option D → JS → Prop, Q (if p a = true then some (D.str a) else none) j → g (.str a) ρ fun ρ2 => tt j ρ2 fun b j1 => if b = true then te j1 ρ2 fun y j2 => Q (some y) j2 else Q none j1) (h : P (stD (l.filter p)) j) : compW g tt te ρ P (stD l) [] j :=
  compW_sel D.str (fun a => if p a = true then some (D.str a) else none) hf (by rw [List.nil_append, filter_str]; exact h)
theorem rds_fix {c : Cr} {n : Nat} {lot : List Str} (h : taken c lot = []) : rds c n lot = [lot] := by
  cases n with
  | zero => rfl
  | succ n => unfold rds; rw [if_pos h]
theorem rds_go {c : Cr} {n : Nat} {lot : List Str} (h : taken c lot ≠ []) : rds c (n + 1) lot = lot :: rds c n (next c lot) := by
  conv => lhs; unfold rds
  rw [if_neg h]
theorem stD_nil_iff (l : List Str) : deqv (.tup (stD l)) (.tup []) = decide (l = []) := deqv_stD l []
theorem log60 {i : Int} (h0 : 0 ≤ i) (h : i < 2 ^ 60) : i.natAbs.log2 < 9000 := by
  by_cases z : i.natAbs = 0
  · rw [z]; decide
  · have := (Nat.log2_lt z (k := 60)).mpr (by omega)
    omega
theorem near_len {c : Cr} (g : GoodC c) (p : Str) : (near c p).length = (tied c p).length :=
  (near_perm (fun t ht e => by have := (g.ties t ht).2.2; rw [e] at this; exact List.lt_irrefl _ this) p).length_eq
theorem near_in {c : Cr} (g : GoodC c) (lot : List Str) (p : Str) : (inL lot (near c p)).length = (inL lot (tied c p)).length :=
  ((near_perm (fun t ht e => by have := (g.ties t ht).2.2; rw [e] at this; exact List.lt_irrefl _ this) p).filter _).length_eq
theorem need_ok {c : Cr} (g : GoodC c) {p : Str} (h : p ∈ c.P) : okC (needOf c p) := by
  obtain ⟨i, _, h2⟩ := need_at g h
  exact g.needs _ (List.mem_of_getElem? h2)
theorem less_red {k n d : Int} (h : 0 < d) : (k * (redQ n d).2 < (redQ n d).1) ↔ (k * d < n) := by
  obtain ⟨e1, e2⟩ := redQ_mul (n := n) h
  have g := gcdI_pos (n := n) h
  constructor
  · intro q
    have := Int.mul_lt_mul_of_pos_right q g
    rw [Int.mul_assoc, e2, e1] at this
    exact this
  · intro q
    rw [← e1] at q
    conv at q => lhs; rw [← e2, ← Int.mul_assoc]
    exact Int.lt_of_mul_lt_mul_right q (Int.le_of_lt g)
theorem deqv_nilL (xs : List D) : deqv (.lst xs) (.lst []) = xs.isEmpty := by cases xs <;> rfl
def twin (x : D) : D := .tup [x, x]
theorem zip_self (xs : List D) : zipD xs xs = xs.map twin := by
  induction xs with
  | nil => rfl
  | cons x r ih => show _ :: zipD r r = _; rw [ih]; rfl
theorem size_pos (x : D) : 1 ≤ sizeD x := by cases x <;> simp [sizeD]
theorem size_len (l : List D) : l.length ≤ sizeAllD l := by
  induction l with
  | nil => exact Nat.zero_le _
  | cons x r ih => simp only [List.length_cons, sizeAllD]; have := size_pos x; omega
theorem size_app (l m : List D) : sizeAllD (l ++ m) = sizeAllD l + sizeAllD m := by
  induction l with
  | nil => simp [sizeAllD]
  | cons x r ih => simp only [List.cons_append, sizeAllD, ih]; omega
theorem lv_twins {l : List D} (h : ∀ x ∈ l, lv 15 x = true) : lv 20 (.lst (l.map twin)) = true := by
  rw [lv_lst, List.all_map, List.all_eq_true]
  intro x hx
  have := lv_mono (h x hx) (show 15 ≤ 18 by decide)
  show lv 19 (.tup [x, x]) = true
  rw [lv_tup]
  simp [this]
theorem mul_r (i : Int) {j : Int} (h : -(2 ^ 64) < j ∧ j < 2 ^ 64) : IntMulOk i j := CMul.ok (.inr h)
theorem mul_l {i : Int} (j : Int) (h : -(2 ^ 64) < i ∧ i < 2 ^ 64) : IntMulOk i j := CMul.ok (.inl h)
theorem cells_loop {E : DEnds} {j : JS} {s0 : SD} {turn found p : Int} (hp : 0 < p) : ∀ (cs : List Int) (b : Int) (s5 : SD), (∀ s5', E.nx j [s0, .val (.int turn), .val (.int found), .val (.int p), .val (.int (cs.foldl (mixS turn p) b)), s5']) →
    forW (gN 5) (dSet 4 (dOp dMod (dO1 dInt (dOp dAdd (dOp dAdd (dOp dMul (dVar 4) (dC (.int 69621))) (dVar 5)) (dVar 1))) (dVar 3))) E (cs.map D.int) j [s0, .val (.int turn), .val (.int found), .val (.int p), .val (.int b), s5]
  | [], b, s5, h => h s5
  | c :: r, b, s5, h => by
    simp [forW]
    refine ⟨mul_r _ ⟨by omega, by omega⟩, by omega, ?_⟩
    exact cells_loop hp r _ _ h
theorem bits220 {x : Int} (h0 : 0 ≤ x) (h : x < 2 ^ 220) : (Builtin.Int.intBits x : Int) * 5 ≤ 2 ^ 27 := by
  have : Builtin.Int.intBits x ≤ 220 := PySem.intBits_le_iff.mpr (by omega)
  omega
theorem fdiv53 {p : Int} (h : 0 ≤ p) : 0 ≤ p.fdiv 53 ∧ p.fdiv 53 ≤ p := by
  rw [Int.fdiv_eq_ediv_of_nonneg _ (by decide)]; omega
theorem primes_loop {J : Jst} {E : DEnds} {j : JS} {turn : Int} (on : J.on = true) (t0 : 0 ≤ turn) (t1 : turn < 2 ^ 201) : ∀ (ps : List Int) (found : Int) (s3 s4 s5 : SD), (∀ p ∈ ps, 0 < p ∧ p < 2 ^ 40) →
    (∀ s3 s4 s5, E.nx j [.val (.ref J.ad), .val (.int turn), .val (.int (ps.foldl (fun f p => f * 2147483647 + oneP J.cs turn p) found)), s3, s4, s5]) →
    forW (gN 3) (dSeq (dSet 4 (dOp dAdd (dOp dMul (dC (.int 48271)) (dVar 1)) (dOp dFdiv (dVar 3) (dC (.int 53))))) (dSeq (dFor (dCells J 0) (gN 5) (dSet 4 (dOp dMod (dO1 dInt (dOp dAdd (dOp dAdd (dOp dMul (dVar 4) (dC (.int 69621))) (dVar 5)) (dVar 1))) (dVar 3)))) (dSet 2 (dOp dAdd (dOp dMul (dVar 2) (dC (.int 2147483647))) (dOp dMod (dO1 dInt (dOp dPow2 (dVar 4) (dC (.int 5)))) (dVar 3)))))) E (ps.map D.int) j [.val (.ref J.ad), .val (.int turn), .val (.int found), s3, s4, s5]
  | [], found, s3, s4, s5, _, h => h s3 s4 s5
  | p :: ps, found, s3, s4, s5, hp, h => by
    obtain ⟨p0, p1⟩ := hp p List.mem_cons_self
    have f53 := fdiv53 (Int.le_of_lt p0)
    have m1 := mixF_bd turn p p0 (2 ^ 220) (by omega) J.cs (48271 * turn + p.fdiv 53) (by omega) (by omega)
    have ih := fun found s3 s4 s5 => primes_loop (E := E) (j := j) on t0 t1 ps found s3 s4 s5 fun q hq => hp q (List.mem_cons_of_mem _ hq)
    simp [forW, onJ, on]
    refine ⟨mul_l _ ⟨by omega, by omega⟩, by decide, ?_⟩
    refine cells_loop p0 _ _ _ fun s5 => ?_
    simp
    refine ⟨mul_r _ ⟨by omega, by omega⟩, bits220 m1.1 m1.2, by omega, ?_⟩
    exact ih _ _ _ _ h
/-- the ties so far -/
structure TiesAt (people pre : List Str) (T : List (Str × Str)) : Prop where
  ok : ∀ t ∈ T, t.1 ∈ pre ∧ okP people t
  pw : T.Pairwise ltP
theorem TiesAt.more {people pre r : List Str} {one : Str} {T : List (Str × Str)} (h : TiesAt people pre T) (e : people = pre ++ one :: r) (a : asc people) {sel : List Str} (hs : sel.Sublist r) : TiesAt people (pre ++ [one]) (T ++ sel.map fun x => (one, x)) := by
  subst e
  obtain ⟨a1, a2, a3⟩ := List.pairwise_append.mp a
  obtain ⟨b1, b2⟩ := List.pairwise_cons.mp a2
  refine ⟨fun t ht => ?_, List.pairwise_append.mpr ⟨h.pw, ?_, fun t ht u hu => ?_⟩⟩
  · rcases List.mem_append.mp ht with q | q
    · exact ⟨List.mem_append_left _ (h.ok t q).1, (h.ok t q).2⟩
    · obtain ⟨x, hx, rfl⟩ := List.mem_map.mp q
      have hr := hs.subset hx
      exact ⟨by simp, by simp, List.mem_append_right _ (List.mem_cons_of_mem _ hr), b1 x hr⟩
  · rw [List.pairwise_map]
    exact (List.Pairwise.sublist hs b2).imp fun q => .inr ⟨rfl, q⟩
  · obtain ⟨x, hx, rfl⟩ := List.mem_map.mp hu
    exact .inl (a3 t.1 (h.ok t ht).1 one List.mem_cons_self)
instance (q : Int × Int) : Decidable (okD q) := by unfold okD okC okQ; infer_instance
theorem drawn_ok : ∀ k : Fin 7, okD (redQ (k.val : Int) 6) := by decide +kernel
def chrS (k : Int) : Str := ⟨#[97 + k.toNat]⟩
def abcS : Str := Str.ofString "abcdefghijklmnopqrstuvwxyz"
theorem abc_list : abcS.cps.toList = List.range' 97 26 := by decide +kernel
theorem abc_len : abcS.length ≤ sizeLine := by decide +kernel
def wS (ks : List Int) : Str := Txt.join (Str.ofString "") (ks.map chrS)
theorem joinL_nil : ∀ l : List (List Nat), TL.joinL [] l = l.flatten
  | [] => rfl
  | [p] => by simp [TL.joinL]
  | p :: q :: r => by
    show p ++ ([] ++ TL.joinL [] (q :: r)) = _
    rw [joinL_nil (q :: r)]; simp
theorem key_w (ks : List Int) : key (wS ks) = ks.map fun k => 97 + k.toNat := by
  unfold wS
  rw [TL.join_eq]
  have := TL.tl_join (Str.ofString "") (ks.map chrS)
  rw [show TL.tl (Str.ofString "") = [] by decide +kernel, joinL_nil] at this
  rw [show key (Str.join (Str.ofString "") (ks.map chrS)) = TL.tl (Str.join (Str.ofString "") (ks.map chrS)) from rfl, this]
  clear this
  induction ks with
  | nil => rfl
  | cons k r ih => rw [List.map_cons, List.map_cons, List.flatten_cons, ih]; rfl
theorem len_key (s : Str) : s.length = (key s).length := TL.len_tl s
theorem w_ok {ks : List Int} (h1 : 1 ≤ ks.length) (h8 : ks.length ≤ 8) (h : ∀ k ∈ ks, 0 ≤ k ∧ k < 26) : okW (wS ks) := by
  refine ⟨by rw [len_key, key_w, List.length_map]; exact h1, by rw [len_key, key_w, List.length_map]; exact h8, fun ch hc => ?_⟩
  rw [show (wS ks).cps.toList = key (wS ks) from rfl, key_w] at hc
  obtain ⟨k, hk, rfl⟩ := List.mem_map.mp hc
  have := h k hk
  omega
theorem key_app (a b : Str) : key (a ++ b) = key a ++ key b := by
  show (a.cps ++ b.cps).toList = _
  simp
def fbS (w : Str) (n : Nat) : Str := cutS w none (some 1) ++ Txt.mul (Str.ofString "q") n
theorem key_cut (w : Str) : key (cutS w none (some 1)) = (key w).take 1 := by
  unfold cutS
  have h1 : HT.sIx w.length w.length (some 1) = min 1 w.length := HT.sIx_nat _ _ 1
  rw [h1, HT.sIx_none]
  show ((w.cps.toList.drop 0).take (min 1 w.length - 0)) = _
  rw [List.drop_zero, Nat.sub_zero, len_key]
  cases e : key w with
  | nil => rw [show w.cps.toList = key w from rfl, e]; rfl
  | cons x r => rw [show w.cps.toList = key w from rfl, e]; simp
theorem q_key : ∀ n : Fin 9, key (Txt.mul (Str.ofString "q") n.val) = List.replicate n.val 113 := by decide +kernel
theorem q_mul : ∀ n : Fin 9, PySem.MulOk (Str.ofString "q") n.val := by unfold PySem.MulOk; decide +kernel
theorem key_fb (w : Str) {n : Nat} (hn : n ≤ 8) : key (fbS w n) = (key w).take 1 ++ List.replicate n 113 := by
  unfold fbS
  rw [key_app, key_cut, q_key ⟨n, by omega⟩]
theorem fb_ok {w : Str} (h : okW w) {n : Nat} (hn : n ≤ 7) : okW (fbS w n) := by
  have hw : 1 ≤ (key w).length := by rw [← len_key]; exact h.1
  have hl : (key (fbS w n)).length = 1 + n := by
    rw [key_fb w (by omega), List.length_append, List.length_take, List.length_replicate, Nat.min_eq_left hw]
  refine ⟨by rw [len_key, hl]; omega, by rw [len_key, hl]; omega, fun ch hc => ?_⟩
  rw [show (fbS w n).cps.toList = key (fbS w n) from rfl, key_fb w (by omega)] at hc
  rcases List.mem_append.mp hc with q | q
  · exact h.2.2 ch (List.mem_of_mem_take q)
  · rw [(List.mem_replicate.mp q).2]; decide
theorem unused (F : List Str) (h : F.length ≤ 5) : ∃ c : Nat, 1 ≤ c ∧ c ≤ 6 ∧ ∀ s ∈ F, (key s).head? ≠ some (97 + c) := by
  apply Classical.byContradiction
  intro n
  have all : ∀ c : Nat, 1 ≤ c → c ≤ 6 → ∃ s ∈ F, (key s).head? = some (97 + c) := fun c h1 h6 => by
    apply Classical.byContradiction
    intro m
    exact n ⟨c, h1, h6, fun s hs e => m ⟨s, hs, e⟩⟩
  have := nodup_len [some 98, some 99, some 100, some 101, some 102, some 103] (F.map fun s => (key s).head?) (by decide) fun x hx => by
    simp only [List.mem_cons, List.mem_nil_iff, or_false] at hx
    rcases hx with rfl | rfl | rfl | rfl | rfl | rfl
    · obtain ⟨s, hs, e⟩ := all 1 (by decide) (by decide); exact List.mem_map.mpr ⟨s, hs, e⟩
    · obtain ⟨s, hs, e⟩ := all 2 (by decide) (by decide); exact List.mem_map.mpr ⟨s, hs, e⟩
    · obtain ⟨s, hs, e⟩ := all 3 (by decide) (by decide); exact List.mem_map.mpr ⟨s, hs, e⟩
    · obtain ⟨s, hs, e⟩ := all 4 (by decide) (by decide); exact List.mem_map.mpr ⟨s, hs, e⟩
    · obtain ⟨s, hs, e⟩ := all 5 (by decide) (by decide); exact List.mem_map.mpr ⟨s, hs, e⟩
    · obtain ⟨s, hs, e⟩ := all 6 (by decide) (by decide); exact List.mem_map.mpr ⟨s, hs, e⟩
  rw [List.length_map] at this
  simp at this
  omega
def HG (J : Jst) : Nat := (2 ^ 100 * J.bd).toNat
/-- the loop's state -/
structure WAt (J : Jst) (b : Int) (many : Nat) (m : Nat) (F : List Str) (j : JS) : Prop where
  nd : F.Nodup
  ok : ∀ s ∈ F, okW s
  le : F.length ≤ many
  jb : JB J (b + F.length * 2 ^ 95 + 2 ^ 94) j
  st : F.length = many ∨ ∃ (c : Nat) (T : Int), 1 ≤ c ∧ (∀ s ∈ F, (key s).head? ≠ some (97 + c)) ∧ crun (blend J.cs T) c ∧ T ≤ b + F.length * 2 ^ 95 + 2 ^ 94 ∧ ((j.t < T ∧ m = (6 - F.length) * HG J + (mu J.bd T j).toNat) ∨ (j.t = T ∧ hot j c ∧ m = (6 - F.length) * HG J))
theorem mu_bd {J : Jst} {b T : Int} {j : JS} (h : JB J b j) (ht : j.t < T) (hT : T ≤ j.t + per) : 0 ≤ mu J.bd T j ∧ (mu J.bd T j).toNat < HG J := by
  have h1 := h.gl
  have h2 := h.r
  have h3 := h.rb
  have h4 := h.bd
  have hp : per < 2 ^ 93 := by decide
  have p : 0 ≤ ((j.gs.length : Int) + (T - j.t)) * J.bd := Int.mul_nonneg (by omega) (by omega)
  have q : ((j.gs.length : Int) + (T - j.t)) * J.bd ≤ (2 ^ 99) * J.bd := Int.mul_le_mul_of_nonneg_right (by omega) (by omega)
  unfold mu HG
  constructor <;> omega
theorem WAt.mk' {J : Jst} {b : Int} {many : Nat} (h6 : many ≤ 6) (hc : J.cs.length ≤ 63) {F : List Str} {j : JS} (nd : F.Nodup) (ok : ∀ s ∈ F, okW s) (le : F.length ≤ many) (jb : JB J (b + F.length * 2 ^ 95) j) : ∃ m, WAt J b many m F j ∧ m < (6 - F.length + 1) * HG J := by
  have hpos : 0 < HG J := by unfold HG; have := jb.bd; omega
  have sm := Nat.succ_mul (6 - F.length) (HG J)
  by_cases e : F.length = many
  · exact ⟨0, ⟨nd, ok, le, jb.mono (by omega), .inl e⟩, by rw [Nat.succ_eq_add_one] at sm; omega⟩
  · obtain ⟨c, c1, c6, hu⟩ := unused F (by omega)
    obtain ⟨T, t1, t2, hr⟩ := later J.cs hc j.t c c1 c6
    have hp : per < 2 ^ 93 := by decide
    have hb := jb.t
    have := mu_bd jb t1 t2
    exact ⟨_, ⟨nd, ok, le, jb.mono (by omega), .inr ⟨c, T, c1, hu, hr, by omega, .inl ⟨t1, rfl⟩⟩⟩, by rw [Nat.succ_eq_add_one] at sm; omega⟩
theorem head_w {ks r : List Int} {c : Nat} (e : ks = (c : Int) :: r) : (key (wS ks)).head? = some (97 + c) := by
  rw [key_w, e]; simp
/-- one turn of the loop that finds nothing new -/
theorem WAt.stuck {J : Jst} {b : Int} {many m : Nat} {F : List Str} {j : JS} (w : WAt J b many m F j) (lt : F.length < many) (hin : wS (wordF J.cs j).1 ∈ F) : ∃ m', m' < m ∧ WAt J b many m' F (wordF J.cs j).2 := by
  rcases w.st with e | ⟨c, T, c1, hu, hr, tb, ph⟩
  · omega
  have no : ∀ r, (wordF J.cs j).1 ≠ (c : Int) :: r := fun r e => hu _ hin (head_w e)
  have wj := (word_JB w.jb).1
  have mk : (wordF J.cs j).2.t ≤ T → JB J (b + F.length * 2 ^ 95 + 2 ^ 94) (wordF J.cs j).2 := fun h => ⟨wj.on, wj.cs, wj.bd, wj.gs, wj.gl, wj.r, wj.rb, wj.t0, by omega⟩
  rcases ph with ⟨ht, em⟩ | ⟨ht, hh, em⟩
  · rcases word_step w.jb ht hr (by omega) with ⟨r, e⟩ | ⟨a1, a2⟩ | ⟨a1, a2⟩
    · exact absurd e (no r)
    · have p0 : 0 ≤ mu J.bd T (wordF J.cs j).2 := by
        unfold mu
        have := wj.r
        have := Int.mul_nonneg (show 0 ≤ (((wordF J.cs j).2.gs.length : Int) + (T - (wordF J.cs j).2.t)) by omega) (show 0 ≤ J.bd by have := wj.bd; omega)
        omega
      refine ⟨(6 - F.length) * HG J + (mu J.bd T (wordF J.cs j).2).toNat, by omega, w.nd, w.ok, w.le, mk (by omega), .inr ⟨c, T, c1, hu, hr, tb, .inl ⟨a1, rfl⟩⟩⟩
    · have p0 : 0 < mu J.bd T j := by
        unfold mu
        have := w.jb.r
        have := Int.mul_pos (show 0 < ((j.gs.length : Int) + (T - j.t)) by omega) (show 0 < J.bd by have := wj.bd; omega)
        omega
      refine ⟨(6 - F.length) * HG J, by omega, w.nd, w.ok, w.le, mk (by omega), .inr ⟨c, T, c1, hu, hr, tb, .inr ⟨a1, a2, rfl⟩⟩⟩
  · obtain ⟨r, e⟩ := word_hot w.jb (by omega) hh
    exact absurd e (no r)
/-- .. that finds one -/
theorem WAt.more {J : Jst} {b : Int} {many m : Nat} {F : List Str} {j : JS} (h6 : many ≤ 6) (hc : J.cs.length ≤ 63) (w : WAt J b many m F j) (lt : F.length < many) {s : Str} (ok : okW s) (hs : s ∉ F) : ∃ m', m' < m ∧ WAt J b many m' (F ++ [s]) (wordF J.cs j).2 := by
  have wj := (word_JB w.jb).1
  have hl : (F ++ [s]).length = F.length + 1 := by simp
  have hm : (6 - F.length) * HG J ≤ m := by
    rcases w.st with e | ⟨c, T, _, _, _, _, ⟨_, em⟩ | ⟨_, _, em⟩⟩ <;> omega
  obtain ⟨m', w', lt'⟩ := WAt.mk' (b := b) h6 hc (F := F ++ [s]) (j := (wordF J.cs j).2) (List.nodup_append.mpr ⟨w.nd, by simp, fun x hx y hy e => hs (by rw [← List.mem_singleton.mp hy, ← e]; exact hx)⟩)
    (fun x hx => (List.mem_append.mp hx).elim (w.ok x) fun z => by rw [List.mem_singleton.mp z]; exact ok) (by omega) (wj.mono (by rw [hl]; simp; omega))
  rw [hl, show 6 - (F.length + 1) + 1 = 6 - F.length by omega] at lt'
  exact ⟨m', by omega, w'⟩
theorem sum_chr (ks : List Int) : ((ks.map chrS).map (·.length)).sum = ks.length := by
  induction ks with
  | nil => rfl
  | cons k r ih => simp only [List.map_cons, List.sum_cons, ih, List.length_cons]; show 1 + _ = _; omega
theorem strsOf_chr (ks : List Int) : strsOf (ks.map fun k => D.str (chrS k)) = some (ks.map chrS) := by
  have := strsOf_stD (ks.map chrS)
  rw [stD, List.map_map] at this
  exact this
theorem upto_len (n : Nat) : (upto n).length = n := by unfold upto; rw [List.length_map, List.length_range]
end DL

/-! C3 -/
/-! C3: lots that keep to themselves, lots from which all are reached. -/
namespace DL
open PySem PySem.Spec PyProof.Rows L2
def lotD (l : List Str) : D := .tup (stD l)
def others (c : Cr) (lot : List Str) : List Str := c.P.filter fun p => decide (p ∉ lot)
def apart (c : Cr) (lot : List Str) : Bool := !(lot.any fun p => takes c (others c lot) p)
def isPart (a b : List Str) : Bool := decide (a.length < b.length) && a.all fun x => decide (x ∈ b)
def leastL (ls : List (List Str)) : List (List Str) := ls.filter fun l => !(ls.any fun m => isPart m l)
def grow (acc : List (List Str)) (p : Str) : List (List Str) := acc ++ acc.map (· ++ [p])
def pw (l : List Str) : List (List Str) := l.foldl grow [[]]
def leLot (a b : List Str) : Bool := leD (lotD a) (lotD b)
def lotsOf (l : List Str) : List (List Str) := (pw l).mergeSort leLot
def keepL (c : Cr) : List (List Str) := leastL ((lotsOf c.P).filter fun l => decide (l ≠ []) && apart c l)
def startL (c : Cr) : List (List Str) := leastL ((lotsOf c.P).filter fun l => decide (reach c l = c.P))
def minLen (ls : List (List Str)) (m : Int) : Prop := (∃ l ∈ ls, (l.length : Int) = m) ∧ ∀ l ∈ ls, m ≤ (l.length : Int)
def fewL (ls : List (List Str)) (m : Int) : List (List Str) := ls.filter fun l => decide ((l.length : Int) = m)
def meets (lot : List Str) (ls : List (List Str)) : Bool := ls.all fun k => k.any fun p => decide (p ∈ lot)
theorem asc_app {l : List Str} {p : Str} : asc (l ++ [p]) ↔ asc l ∧ ∀ x ∈ l, key x < key p := by
  unfold asc
  rw [List.pairwise_append]
  simp
theorem pw_go : ∀ (r pre : List Str) (acc : List (List Str)), asc (pre ++ r) → (∀ l, l ∈ acc ↔ okL pre l) → ∀ l, l ∈ r.foldl grow acc ↔ okL (pre ++ r) l
  | [], pre, acc, _, h, l => by rw [List.append_nil]; exact h l
  | p :: r, pre, acc, a, h, l => by
    have e : pre ++ p :: r = (pre ++ [p]) ++ r := by simp
    rw [e] at a ⊢
    refine pw_go r (pre ++ [p]) (grow acc p) a (fun l => ?_) l
    have ap : asc (pre ++ [p]) := (List.pairwise_append.mp a).1
    obtain ⟨a1, a2⟩ := asc_app.mp ap
    unfold grow
    rw [List.mem_append, List.mem_map, h]
    constructor
    · rintro (⟨h1, h2⟩ | ⟨m, hm, rfl⟩)
      · exact ⟨h1, fun x hx => List.mem_append_left _ (h2 x hx)⟩
      · obtain ⟨h1, h2⟩ := (h m).mp hm
        refine ⟨asc_app.mpr ⟨h1, fun x hx => a2 x (h2 x hx)⟩, fun x hx => ?_⟩
        rcases List.mem_append.mp hx with z | z
        · exact List.mem_append_left _ (h2 x z)
        · exact List.mem_append_right _ z
    · rintro ⟨h1, h2⟩
      by_cases hp : p ∈ l
      · right
        -- p is the greatest: it stands last
        have hne : l ≠ [] := by rintro rfl; cases hp
        obtain ⟨m, q, rfl⟩ : ∃ m q, l = m ++ [q] := ⟨l.dropLast, l.getLast hne, (List.dropLast_concat_getLast hne).symm⟩
        obtain ⟨b1, b2⟩ := asc_app.mp h1
        have hq : q = p := by
          rcases List.mem_append.mp hp with z | z
          · have hk := b2 p z
            have hq := h2 q (by simp)
            rcases List.mem_append.mp hq with y | y
            · exact absurd (List.lt_trans hk (a2 q y)) (List.lt_irrefl _)
            · simp at y; exact y
          · simp at z; exact z.symm
        subst hq
        refine ⟨m, (h m).mpr ⟨b1, fun x hx => ?_⟩, rfl⟩
        rcases List.mem_append.mp (h2 x (List.mem_append_left _ hx)) with z | z
        · exact z
        · simp at z
          subst z
          exact absurd (b2 x hx) (List.lt_irrefl _)
      · left
        refine ⟨h1, fun x hx => ?_⟩
        rcases List.mem_append.mp (h2 x hx) with z | z
        · exact z
        · simp at z; subst z; exact absurd hx hp
theorem mem_lots {P l : List Str} (a : asc P) : l ∈ lotsOf P ↔ okL P l := by
  unfold lotsOf
  rw [List.mem_mergeSort]
  have := pw_go P [] [[]] (by simpa using a) (fun l => by
    unfold okL
    constructor
    · intro h; simp at h; subst h; exact ⟨.nil, fun x hx => nomatch hx⟩
    · rintro ⟨_, h⟩
      cases l with
      | nil => simp
      | cons x r => exact absurd (h x List.mem_cons_self) (by simp)) l
  unfold pw
  simpa using this
theorem least_sub {ls : List (List Str)} {l : List Str} (h : l ∈ leastL ls) : l ∈ ls := (List.mem_filter.mp h).1
theorem least_ex {ls : List (List Str)} : ∀ (n : Nat) (l : List Str), l.length ≤ n → l ∈ ls → ∃ m ∈ leastL ls, ∀ x ∈ m, x ∈ l := by
  intro n
  induction n with
  | zero =>
    intro l hn hl
    refine ⟨l, List.mem_filter.mpr ⟨hl, ?_⟩, fun x h => h⟩
    rw [Bool.not_eq_true', List.any_eq_false]
    intro m hm
    unfold isPart
    have : ¬ m.length < l.length := by omega
    simp [this]
  | succ n ih =>
    intro l hn hl
    by_cases q : (ls.any fun m => isPart m l) = true
    · obtain ⟨m, hm, hp⟩ := List.any_eq_true.mp q
      unfold isPart at hp
      rw [Bool.and_eq_true, decide_eq_true_eq, List.all_eq_true] at hp
      obtain ⟨m', h1, h2⟩ := ih m (by omega) hm
      exact ⟨m', h1, fun x hx => of_decide_eq_true (hp.2 x (h2 x hx))⟩
    · exact ⟨l, List.mem_filter.mpr ⟨hl, by simpa using q⟩, fun x h => h⟩
section
variable {c : Cr}
theorem apart_iff {lot : List Str} : apart c lot = true ↔ ∀ p ∈ lot, takes c (others c lot) p = false := by
  unfold apart
  rw [Bool.not_eq_true', List.any_eq_false]
  exact ⟨fun h p hp => by simpa using h p hp, fun h p hp => by simpa using h p hp⟩
theorem others_ok (g : GoodC c) (lot : List Str) : okL c.P (others c lot) := ⟨asc_filter _ g.names.2.2.2, fun x hx => (List.mem_filter.mp hx).1⟩
theorem mem_others {lot : List Str} {x : Str} : x ∈ others c lot ↔ x ∈ c.P ∧ x ∉ lot := by
  unfold others
  rw [List.mem_filter, decide_eq_true_eq]
/-- a lot that keeps to itself: the others are closed -/
theorem apart_fix {K : List Str} (h : apart c K = true) : fix c (others c K) := by
  unfold fix
  rw [List.eq_nil_iff_forall_not_mem]
  intro p hp
  obtain ⟨h1, h2, h3⟩ := taken_mem.mp hp
  have hk : p ∈ K := by
    by_cases z : p ∈ K
    · exact z
    · exact absurd (mem_others.mpr ⟨h1, z⟩) h2
  rw [apart_iff.mp h p hk] at h3
  cases h3
theorem fix_apart {S : List Str} (g : GoodC c) (ok : okL c.P S) (h : fix c S) : apart c (others c S) = true := by
  rw [apart_iff]
  intro p hp
  obtain ⟨h1, h2⟩ := mem_others.mp hp
  have e : others c (others c S) = S := asc_ext (others_ok g _).1 ok.1 fun x => by
    rw [mem_others, mem_others]
    constructor
    · rintro ⟨a, b⟩
      by_cases z : x ∈ S
      · exact z
      · exact absurd ⟨a, z⟩ b
    · exact fun hx => ⟨ok.2 x hx, fun z => z.2 hx⟩
  rw [e]
  cases q : takes c S p with
  | false => rfl
  | true =>
    have : p ∈ taken c S := taken_mem.mpr ⟨h1, h2, q⟩
    rw [show taken c S = [] from h] at this
    cases this
theorem meets_iff {lot : List Str} {ls : List (List Str)} : meets lot ls = true ↔ ∀ k ∈ ls, ∃ p ∈ k, p ∈ lot := by
  unfold meets
  simp [List.all_eq_true, List.any_eq_true]
theorem mem_keep0 (g : GoodC c) {l : List Str} : l ∈ ((lotsOf c.P).filter fun l => decide (l ≠ []) && apart c l) ↔ okL c.P l ∧ l ≠ [] ∧ apart c l = true := by
  rw [List.mem_filter, mem_lots g.names.2.2.2, Bool.and_eq_true, decide_eq_true_eq]
theorem mem_start0 (g : GoodC c) {l : List Str} : l ∈ ((lotsOf c.P).filter fun l => decide (reach c l = c.P)) ↔ okL c.P l ∧ reach c l = c.P := by
  rw [List.mem_filter, mem_lots g.names.2.2.2, decide_eq_true_eq]
theorem all_ok (g : GoodC c) : okL c.P c.P := ⟨g.names.2.2.2, fun _ h => h⟩
theorem ex_not {A B : List Str} (h : ¬ ∀ x ∈ A, x ∈ B) : ∃ x ∈ A, x ∉ B := by
  by_cases q : ∃ x ∈ A, x ∉ B
  · exact q
  · exact absurd (fun x hx => by
      by_cases z : x ∈ B
      · exact z
      · exact absurd ⟨x, hx, z⟩ q) h
/-- a lot reaches all just if it meets each lot that keeps to itself -/
theorem whole_iff (g : GoodC c) {lot : List Str} (h : okL c.P lot) : reach c lot = c.P ↔ meets lot (keepL c) = true := by
  rw [meets_iff]
  constructor
  · intro e k hk
    obtain ⟨k1, k2, k3⟩ := (mem_keep0 g).mp (least_sub hk)
    by_cases q : ∃ p ∈ k, p ∈ lot
    · exact q
    · have hs : ∀ x ∈ lot, x ∈ others c k := fun x hx => mem_others.mpr ⟨h.2 x hx, fun z => q ⟨x, z, hx⟩⟩
      have hl := reach_least g h hs (apart_fix k3)
      rw [e] at hl
      cases hc : k with
      | nil => exact absurd hc k2
      | cons x r =>
        have hx : x ∈ k := by rw [hc]; exact List.mem_cons_self
        exact absurd hx (mem_others.mp (hl x (k1.2 x hx))).2
  · intro hm
    have ro := reach_ok g h
    by_cases q : ∀ x ∈ c.P, x ∈ reach c lot
    · exact asc_ext ro.1 g.names.2.2.2 fun x => ⟨ro.2 x, q x⟩
    · obtain ⟨x, hx, nx⟩ := ex_not q
      have ho : others c (reach c lot) ∈ ((lotsOf c.P).filter fun l => decide (l ≠ []) && apart c l) := (mem_keep0 g).mpr ⟨others_ok g _, (fun z => by
        have := mem_others.mpr ⟨hx, nx⟩
        rw [z] at this
        cases this), fix_apart g ro (reach_fix g h)⟩
      obtain ⟨k, k1, k2⟩ := least_ex _ _ (Nat.le_refl _) ho
      obtain ⟨p, p1, p2⟩ := hm k k1
      exact absurd (reach_sub g h p p2) (mem_others.mp (k2 p p1)).2
/-- a lot holds one that keeps to itself just if it meets each least lot that reaches all -/
theorem holds_iff (g : GoodC c) {lot : List Str} (h : okL c.P lot) : (∃ k ∈ keepL c, ∀ x ∈ k, x ∈ lot) ↔ meets lot (startL c) = true := by
  rw [meets_iff]
  constructor
  · rintro ⟨k, k1, k2⟩ s hs
    obtain ⟨s1, s2⟩ := (mem_start0 g).mp (least_sub hs)
    obtain ⟨p, p1, p2⟩ := meets_iff.mp ((whole_iff g s1).mp s2) k k1
    exact ⟨p, p2, k2 p p1⟩
  · intro hm
    by_cases q : ∃ k ∈ keepL c, ∀ x ∈ k, x ∈ lot
    · exact q
    · have oo := others_ok g lot
      have hw : reach c (others c lot) = c.P := (whole_iff g oo).mpr (meets_iff.mpr fun k hk => by
        obtain ⟨x, hx, nx⟩ := ex_not (fun z => q ⟨k, hk, z⟩)
        obtain ⟨k1, _, _⟩ := (mem_keep0 g).mp (least_sub hk)
        exact ⟨x, hx, mem_others.mpr ⟨k1.2 x hx, nx⟩⟩)
      obtain ⟨s, s1, s2⟩ := least_ex _ _ (Nat.le_refl _) ((mem_start0 g).mpr ⟨oo, hw⟩)
      obtain ⟨p, p1, p2⟩ := hm s s1
      exact absurd p2 (mem_others.mp (s2 p p1)).2
theorem start_ne (g : GoodC c) : startL c ≠ [] := by
  have hw : reach c c.P = c.P := (asc_ext (reach_ok g (all_ok g)).1 g.names.2.2.2 fun x => ⟨(reach_ok g (all_ok g)).2 x, reach_sub g (all_ok g) x⟩)
  obtain ⟨m, h1, _⟩ := least_ex _ _ (Nat.le_refl _) ((mem_start0 g).mpr ⟨all_ok g, hw⟩)
  intro e
  have h1 : m ∈ startL c := h1
  rw [e] at h1
  cases h1
end
end DL
namespace DL
open PySem PySem.Spec PyProof.Rows L2
/-- values of which it is seen at once that they are no crowd -/
def noCr : D → Prop
  | .tup xs => xs.length ≠ 4 ∧ xs.length ≤ 20
  | d => noRef d = true
def noLot (l : List Str) : D → Prop
  | .tup xs => (∃ ys, xs = stD ys ∧ (∀ y ∈ ys, y ∈ l) ∧ ys.length ≤ 20 ∧ ∃ p ∈ ys.zip ys.tail, ¬ key p.1 < key p.2) ∨ (xs.length ≤ 20 ∧ (∀ x ∈ xs, (∃ i, x = .int i) ∨ ∃ s, x = .str s) ∧ ∃ x ∈ xs, ∀ s ∈ l, x ≠ .str s)
  | .lst xs => lv 20 (.lst xs) = true
  | d => noRef d = true
/-- comprehensions of truths -/
theorem compW_bB {α : Type} (en : α → D) (f : α → Bool) {g : DG} {te : DE} {ρ : List SD} {j : JS} {P : List D → JS → Prop} {l : List α} (hf : ∀ a ∈ l, ∀ Q : D → JS → Prop, Q (.bl (f a)) j → g (en a) ρ fun ρ2 => te j ρ2 Q) (h : P ((l.map f).map D.bl) j) : compW g dTrue te ρ P (l.map en) [] j := by
  refine compW_sel en (fun a => some (.bl (f a))) (fun a ha Q q => ?_) ?_
  · exact hf a ha _ q
  · rw [List.nil_append, List.filterMap_eq_map']
    rw [List.map_map] at h
    exact h
@[simp] theorem bl_all (bs : List Bool) : (bs.map D.bl).all isBlD = true := by
  rw [List.all_map, List.all_eq_true]; intro _ _; rfl
@[simp] theorem bl_tr (bs : List Bool) : (bs.map D.bl).all isTr = bs.all id := by
  rw [List.all_map]; rfl
@[simp] theorem bl_an (bs : List Bool) : (bs.map D.bl).any isTr = bs.any id := by
  rw [List.any_map]; rfl
theorem bl_f1 (bs : List Bool) : ∀ x : D, x ∈ bs.map D.bl → isBlD x = true := fun x h => by obtain ⟨b, _, rfl⟩ := List.mem_map.mp h; rfl
theorem bl_f2 (bs : List Bool) : (∃ x : D, x ∈ bs.map D.bl ∧ isTr x = false) ↔ bs.all id = false := by
  rw [List.all_eq_false]
  constructor
  · rintro ⟨x, h, e⟩
    obtain ⟨b, hb, rfl⟩ := List.mem_map.mp h
    exact ⟨b, hb, by simp [isTr] at e; simp [e]⟩
  · rintro ⟨b, hb, e⟩
    exact ⟨.bl b, List.mem_map.mpr ⟨b, hb, rfl⟩, by simp [isTr]; simpa using e⟩
theorem fm_if {α β : Type} (l : List α) (p : α → Bool) (en : α → β) : (l.filterMap fun a => if p a = true then some (en a) else none) = (l.filter p).map en := by
  induction l with
  | nil => rfl
  | cons x r ih =>
    rw [List.filterMap_cons, List.filter_cons]
    by_cases q : p x = true
    · simp [q, ih]
    · simp [q, ih]
theorem compW_selB {α : Type} (en : α → D) (p : α → Bool) {g : DG} {tt : DT} {te : DE} {ρ : List SD} {j : JS} {P : List D → JS → Prop} {l : List α} (hf : ∀ a ∈ l, ∀ Q : Option D → JS → Prop, Q (if p a = true then some (en a) else none) j → g (en a) ρ fun ρ2 => tt j ρ2 fun b j1 => if b = true then te j1 ρ2 fun y j2 => Q (some y) j2 else Q none j1) (h : P ((l.filter p).map en) j) : compW g tt te ρ P (l.map en) [] j := by
  refine compW_sel en (fun a => if p a = true then some (en a) else none) hf ?_
  rw [List.nil_append, fm_if]
  exact h
/-- [1 for ..] -/
def ones (n : Nat) : List D := List.replicate n (.int 1)
theorem lv_ones (k n : Nat) : lv (k + 1) (.lst (ones n)) = true := by
  rw [lv_lst, List.all_eq_true]
  intro d hd
  rw [(List.mem_replicate.mp hd).2]
  exact lv_int k 1
theorem deqv_ones (n : Nat) : deqv (.lst (ones n)) (.lst []) = decide (n = 0) := by cases n <;> rfl
theorem fm_ones {α : Type} (l : List α) (p : α → Bool) : (l.filterMap fun a => if p a = true then some (D.int 1) else none) = ones (l.countP p) := by
  induction l with
  | nil => rfl
  | cons x r ih =>
    rw [List.filterMap_cons, List.countP_cons]
    by_cases q : p x = true
    · simp [q, ih, ones, List.replicate_succ]
    · simp [q, ih]
theorem compW_ones {α : Type} (en : α → D) (p : α → Bool) {g : DG} {tt : DT} {te : DE} {ρ : List SD} {j : JS} {P : List D → JS → Prop} {l : List α} (hf : ∀ a ∈ l, ∀ Q : Option D → JS → Prop, Q (if p a = true then some (.int 1) else none) j → g (en a) ρ fun ρ2 => tt j ρ2 fun b j1 => if b = true then te j1 ρ2 fun y j2 => Q (some y) j2 else Q none j1) (h : P (ones (l.countP p)) j) : compW g tt te ρ P (l.map en) [] j := by
  refine compW_sel en (fun a => if p a = true then some (.int 1) else none) hf ?_
  rw [List.nil_append, fm_ones]
  exact h
theorem count0 {α : Type} (l : List α) (p : α → Bool) : (l.countP p = 0) ↔ ∀ a ∈ l, p a = false := by
  rw [List.countP_eq_zero]
  exact ⟨fun h a ha => by simpa using h a ha, fun h a ha => by simp [h a ha]⟩
theorem alike_strs : ∀ a b : List Str, PySem.W.alikeAll (encAll (stD a)) (encAll (stD b)) = true
  | [], [] => rfl
  | [], _ :: _ => rfl
  | _ :: _, [] => rfl
  | x :: a, y :: b => by
    show PySem.W.alikeAll (enc (.str x) :: encAll (stD a)) (enc (.str y) :: encAll (stD b)) = true
    have := alike_strs a b
    simp only [enc, PySem.W.alikeAll, PySem.W.alike]
    simpa using this
theorem sortOk_lots (ls : List (List Str)) : sortOk (ls.map lotD) = true := by
  unfold sortOk
  simp only [Bool.and_eq_true, Bool.or_eq_true, List.all_eq_true]
  refine ⟨⟨fun x hx y hy => ?_, .inl fun x hx => ?_⟩, fun x hx => ?_⟩
  · obtain ⟨a, _, rfl⟩ := List.mem_map.mp hx
    obtain ⟨b, _, rfl⟩ := List.mem_map.mp hy
    exact alike_strs a b
  · obtain ⟨a, _, rfl⟩ := List.mem_map.mp hx
    rfl
  · obtain ⟨a, _, rfl⟩ := List.mem_map.mp hx
    exact lv_stD 19 a
theorem sorted_lots (ls : List (List Str)) : (ls.map lotD).mergeSort leD = (ls.mergeSort leLot).map lotD := (List.map_mergeSort (r := leLot) (s := leD) (f := lotD) (l := ls) fun a _ b _ => rfl).symm
theorem pw_len : ∀ (l : List Str) (acc : List (List Str)), (l.foldl grow acc).length = acc.length * 2 ^ l.length
  | [], acc => by simp
  | p :: r, acc => by
    rw [List.foldl_cons, pw_len r, grow, List.length_append, List.length_map, List.length_cons, Nat.pow_succ]
    rw [show acc.length + acc.length = acc.length * 2 by omega, Nat.mul_assoc, Nat.mul_comm 2]
theorem lots_loop {E : DEnds} {j : JS} {s0 : SD} : ∀ (l : List Str) (acc : List (List Str)) (s2 s3 : SD), acc.length * 2 ^ l.length ≤ 1000000 → (∀ m ∈ acc, m.length + l.length ≤ 1000) → (∀ s2 s3, E.nx j [s0, .val (.lst ((l.foldl grow acc).map lotD)), s2, s3]) →
    forW (gN 2) (dSet 1 (dOp dAdd (dVar 1) (dLst (dLc (dI seqR (dVar 1)) (gN 3) dTrue (dOp dAdd (dVar 3) (dTup (dCons (dVar 2) dNil))) [3])))) E (stD l) j [s0, .val (.lst (acc.map lotD)), s2, s3]
  | [], acc, s2, s3, _, _, k => k s2 s3
  | p :: r, acc, s2, s3, hl, hb, k => by
    have hg : (grow acc p).length * 2 ^ r.length ≤ 1000000 := by
      unfold grow
      rw [List.length_append, List.length_map, show acc.length + acc.length = acc.length * 2 by omega, Nat.mul_assoc, Nat.mul_comm 2, ← Nat.pow_succ]
      exact hl
    have h2 : 1 ≤ 2 ^ r.length := Nat.one_le_two_pow
    have h3 : (grow acc p).length ≤ 1000000 := Nat.le_trans (Nat.le_mul_of_pos_right _ h2) hg
    have h4 : acc.length + acc.length ≤ 1000000 := by unfold grow at h3; rw [List.length_append, List.length_map] at h3; exact h3
    show gN 2 (.str p) _ _
    simp
    refine compW_sel lotD (fun l => some (lotD (l ++ [p]))) (fun l hl' Q q => ?_) ?_
    · have := hb l hl'
      rw [List.length_cons] at this
      simp [lotD]
      refine ⟨by rw [sizeLine_eq]; omega, ?_⟩
      have e : D.tup (stD l ++ [D.str p]) = lotD (l ++ [p]) := by simp [lotD]
      rw [e]; exact q
    · rw [List.nil_append, List.filterMap_eq_map']
      refine ⟨by rw [List.length_map, sizeLine_eq]; omega, ?_⟩
      have e : List.map lotD acc ++ List.map (fun l => lotD (l ++ [p])) acc = (grow acc p).map lotD := by unfold grow; rw [List.map_append, List.map_map]; rfl
      rw [e]
      refine lots_loop r (grow acc p) _ _ hg (fun m hm => ?_) k
      unfold grow at hm
      rcases List.mem_append.mp hm with z | z
      · have := hb m z
        rw [List.length_cons] at this
        omega
      · obtain ⟨m', h1, rfl⟩ := List.mem_map.mp z
        have := hb m' h1
        rw [List.length_cons] at this
        rw [List.length_append]
        simp
        omega
theorem bl_f3 (bs : List Bool) : (∀ x : D, x ∈ bs.map D.bl → isTr x = false) ↔ bs.any id = false := by
  rw [List.any_eq_false]
  constructor
  · intro h b hb
    have := h (.bl b) (List.mem_map.mpr ⟨b, hb, rfl⟩)
    simp [isTr] at this
    simp [this]
  · intro h x hx
    obtain ⟨b, hb, rfl⟩ := List.mem_map.mp hx
    have := h b hb
    simpa [isTr] using this
def noCrB : D → Bool
  | .tup xs => decide (xs.length ≠ 4) && decide (xs.length ≤ 20)
  | d => noRef d
theorem noCr_of {d : D} (h : noCrB d = true) : noCr d := by
  cases d with
  | tup xs =>
    unfold noCrB at h
    rw [Bool.and_eq_true, decide_eq_true_eq, decide_eq_true_eq] at h
    exact h
  | _ => exact h
theorem noLot_tup {l : List Str} {xs : List D} (h : noLot l (.tup xs)) : lv 20 (.tup xs) = true ∧ xs ≠ [] := by
  rcases h with ⟨ys, rfl, _, _, p, hp, _⟩ | ⟨_, h2, x, hx, _⟩
  · refine ⟨lv_stD 19 ys, fun e => ?_⟩
    cases ys with
    | nil => cases hp
    | cons y r => cases e
  · refine ⟨?_, List.ne_nil_of_mem hx⟩
    rw [lv_tup, List.all_eq_true]
    intro d hd
    rcases h2 d hd with ⟨i, rfl⟩ | ⟨s, rfl⟩
    · exact lv_int 19 i
    · exact lv_str 19 s
theorem asc_of_adj : ∀ {l : List Str}, (∀ p ∈ l.zip l.tail, key p.1 < key p.2) → asc l
  | [], _ => .nil
  | [a], _ => .cons (fun _ h => nomatch h) .nil
  | a :: b :: r, h => by
    have h1 : key a < key b := h (a, b) (by simp)
    have h2 : asc (b :: r) := asc_of_adj fun p hp => h p (by simp at hp ⊢; exact .inr hp)
    refine .cons (fun x hx => ?_) h2
    rcases List.mem_cons.mp hx with rfl | hx
    · exact h1
    · exact List.lt_trans h1 ((List.pairwise_cons.mp h2).1 x hx)
theorem not_adj {l : List Str} (h : ¬ asc l) : ∃ p ∈ l.zip l.tail, ¬ key p.1 < key p.2 := by
  apply Classical.byContradiction
  intro n
  refine h (asc_of_adj fun p hp => ?_)
  apply Classical.byContradiction
  intro m
  exact n ⟨p, hp, m⟩
theorem noLot_not {l ys : List Str} (h : ∀ y ∈ ys, y ∈ l) (h2 : ys.length ≤ 20) (n : ¬ asc ys) : noLot l (.tup (stD ys)) := .inl ⟨ys, rfl, h, h2, not_adj n⟩
theorem not_asc_rev {x y : Str} {r : List Str} (h : asc (x :: y :: r)) : ¬ asc (x :: y :: r).reverse := fun z => by
  have h1 := (List.pairwise_cons.mp h).1 y (by simp)
  have h2 := (List.pairwise_cons.mp (List.pairwise_reverse.mp z)).1 y (by simp)
  exact absurd (List.lt_trans h1 h2) (List.lt_irrefl _)
theorem not_asc_more {x : Str} {r : List Str} : ¬ asc (x :: (r ++ [x])) := fun z => absurd ((List.pairwise_cons.mp z).1 x (by simp)) (List.lt_irrefl _)
theorem part_iff {m l : List Str} (hm : asc m) (hl : asc l) : isPart m l = (decide (m ≠ l) && m.all fun x => decide (x ∈ l)) := by
  unfold isPart
  by_cases s : (m.all fun x => decide (x ∈ l)) = true
  · rw [s, Bool.and_true, Bool.and_true]
    have sub : ∀ x ∈ m, x ∈ l := fun x hx => of_decide_eq_true (List.all_eq_true.mp s x hx)
    have le := nodup_len _ _ (asc_nodup hm) sub
    by_cases e : m = l
    · subst e; simp
    · have : m.length < l.length := by
        apply Classical.byContradiction
        intro n
        refine e (asc_ext hm hl fun x => ⟨sub x, fun hx => ?_⟩)
        apply Classical.byContradiction
        intro nx
        have := nodup_len (x :: m) l (List.nodup_cons.mpr ⟨nx, asc_nodup hm⟩) (fun y hy => by
          rcases List.mem_cons.mp hy with rfl | hy
          · exact hx
          · exact sub y hy)
        rw [List.length_cons] at this
        omega
      simp [this, e]
  · rw [Bool.not_eq_true] at s
    rw [s, Bool.and_false, Bool.and_false]
theorem leLot_eq : leLot = PySem.W.dataLe false (fun l : List Str => enc (lotD l)) := rfl
theorem leLot_trans (a b c : List Str) (h : leLot a b = true) (h2 : leLot b c = true) : leLot a c = true := by
  rw [leLot_eq] at *
  exact (PySem.W.sortLe_total _ _ _).trans _ _ _ h h2
theorem leLot_total (a b : List Str) : (leLot a b || leLot b a) = true := by
  rw [leLot_eq]
  rw [Bool.or_eq_true]; exact (PySem.W.sortLe_total _ _ _).total _ _
theorem lots_is {l : List Str} {ls : List (List Str)} (h1 : (pw l).Perm ls) (h2 : ls.Pairwise fun a b => leLot a b = true) (h3 : ∀ a ∈ ls, ∀ b ∈ ls, leLot a b = true → leLot b a = true → a = b) : lotsOf l = ls := by
  refine List.Perm.eq_of_pairwise (le := fun a b => leLot a b = true) (fun a b ha hb => h3 a (h1.subset (List.mem_mergeSort.mp ha)) b hb) (List.pairwise_mergeSort leLot_trans leLot_total _) h2 ((List.mergeSort_perm _ _).trans h1)
end DL

/-! DLB -/
/-! DLB: what each law's beginning makes; the law's call. -/
namespace DL
open PySem PySem.Spec PyProof.Rows L2
def N_begun : List Str := ([(Str.ofString "script"), (Str.ofString "great"), (Str.ofString "cell")] : List Str)
def t_great : DS := (dSetF 1 (dLc (dI seqR (dVar 0)) (gN 2) (dTest (dOp dGe (dO1 dAbs (dVar 2)) (dOp dPow2 (dC (.int 10)) (dC (.int 18))))) (dOp dSub (dO1 dAbs (dVar 2)) (dOp dPow2 (dC (.int 10)) (dC (.int 18)))) [2]))
def t_cells : DL' := (dLc (dI seqR (dVar 0)) (gN 2) dTrue (dO1 dAbs (dVar 2)) [2])
def t_disp (K : PySem.W.Frag) (J : Jst) : TE := tDisp [(tC (.str (Str.ofString "great")), tVar 1), (tC (.str (Str.ofString "cells")), dF K J t_cells), (tC (.str (Str.ofString "rest")), tC (.int 0)), (tC (.str (Str.ofString "turn")), tC (.int 0))]
def isGreat (n : Int) : Option Int := if 1000000000000000000 ≤ (if n < 0 then -n else n) then some ((if n < 0 then -n else n) - 1000000000000000000) else none
def absI (n : Int) : Int := if n < 0 then -n else n
theorem great_ok {E : DEnds} {j : JS} {ns : List Int} (k : E.nx j [.val (.lst (ns.map D.int)), .own ((ns.filterMap isGreat).map D.int), .no]) : t_great E j [.val (.lst (ns.map D.int)), .no, .no] := by
  simp [t_great]
  refine compW_sel D.int (fun n => (isGreat n).map D.int) (fun n hn Q q => ?_) ?_
  · have hb : (Builtin.Int.intBits 10 : Int) * 18 ≤ 134217728 := by decide +kernel
    unfold isGreat at q
    simp [hb]
    by_cases z : 1000000000000000000 ≤ (if n < 0 then -n else n)
    · rw [if_pos z] at q ⊢; exact q
    · rw [if_neg z] at q ⊢; exact q
  · rw [List.nil_append, ← List.map_filterMap]
    exact k
theorem cells_ok {j : JS} {ns : List Int} {s1 : SD} {P : List D → JS → Prop} (k : P ((ns.map absI).map D.int) j) : t_cells j [.val (.lst (ns.map D.int)), s1, .no] P := by
  simp [t_cells]
  refine compW_sel D.int (fun n => some (D.int (absI n))) (fun n hn Q q => ?_) ?_
  · simp
    exact q
  · rw [List.nil_append, List.filterMap_eq_map', List.map_map] at *
    exact k
theorem merge_tab (J : Jst) : mergeK [] (jTab J) = jTab J := by
  simp [mergeK, jTab, putK, kgc, kgr, kgt, kcr, kct, krt]
theorem ints_inv {K : PySem.W.Frag} {F : Hp} : ∀ {ns : List Int} {vs : List V}, RpAll K F vs (ns.map D.int) → vs = ns.map V.int
  | [], _, .nil => rfl
  | n :: r, _, .cons (.int _) t => by rw [ints_inv t]; rfl
def spBegun (K : PySem.W.Frag) : Sp := fun vs H Q _ => ∃ (J : Jst) (j : JS) (F : Hp) (v : V) (ns : List Int), J.on = false ∧ Gt (J.at J.ej) J.eF J.eH j F H ∧ BaseOk (J.at j) F H ∧ vs = [v] ∧ Rp K F v (.lst (ns.map D.int)) ∧ ns.length ≤ 63 ∧
  ∀ (J' : Jst) (F' H' : Hp), J'.tbs = J.tbs → JB J' 0 J'.js → J'.cs.length ≤ 63 → Sub F F' → BaseOk J' F' H' → Q (.ref J'.ad) H'
def bigOf (ns : List Int) : Int := 2 ^ 96 + (ns.map absI).sum
theorem abs_nn (n : Int) : 0 ≤ absI n := by unfold absI; split <;> omega
theorem big_ge : ∀ (ns : List Int), 2 ^ 96 ≤ bigOf ns ∧ ∀ n ∈ ns, absI n < bigOf ns
  | [] => ⟨by unfold bigOf; simp, fun _ h => nomatch h⟩
  | x :: r => by
    obtain ⟨h1, h2⟩ := big_ge r
    have hx := abs_nn x
    have e : bigOf (x :: r) = absI x + bigOf r := by unfold bigOf; rw [List.map_cons, List.sum_cons]; omega
    refine ⟨by omega, fun n hn => ?_⟩
    rcases List.mem_cons.mp hn with z | z
    · rw [z]; omega
    · have := h2 n z; omega
theorem great_bd {ns : List Int} : ∀ g ∈ ns.filterMap isGreat, 0 ≤ g ∧ g < bigOf ns := fun g hg => by
  obtain ⟨n, hn, e⟩ := List.mem_filterMap.mp hg
  have b := (big_ge ns).2 n hn
  unfold isGreat at e
  unfold absI at b
  by_cases z : 1000000000000000000 ≤ (if n < 0 then -n else n)
  · rw [if_pos z] at e
    cases e
    omega
  · rw [if_neg z] at e; cases e
theorem begun_pure {K : PySem.W.Frag} (vs : List V) (H : Hp) (Q : VK) (E : XK) (h : spBegun K vs H Q E) : ∃ B, tSeq (dS K B t_great) (tRet (t_disp K B.J)) { nx := fun _ H' => Q .non H', rt := Q } (L2.start N_begun vs) H := by
  obtain ⟨J, j, F, v, ns, off, en, b, rfl, rv, hl, k⟩ := h
  refine ⟨⟨J, j, F, H⟩, j, F, st0 3 [.lst (ns.map D.int)], { nx := fun j' ρ' => ρ' = [.val (.lst (ns.map D.int)), .own ((ns.filterMap isGreat).map D.int), .no], rt := fun _ _ => False }, start_SB (B := ⟨J, j, F, H⟩) (N := N_begun) b en (.cons rv .nil) (show 1 ≤ 3 by decide), Gt.refl b, great_ok rfl, ⟨fun j2 σ2 F2 H2 ρ2 s2 g2 u2 q2 => ?_, fun _ _ _ _ _ _ _ z => z.elim, fun _ _ _ _ _ _ _ _ z => z.elim, fun _ _ _ _ _ _ _ _ z => z.elim⟩⟩
  subst q2
  intro p hp
  obtain ⟨g, eg, og, _⟩ := s2.ownAt (i := 1) (ds := (ns.filterMap isGreat).map D.int) rfl
  have gp := (Gr.own s2.base hp (.dK [])).gt
  refine ⟨.ref g, eg, j2, F2, _, fun ds _ => ds = (ns.map absI).map D.int, s2.toSR.grow gp, cells_ok rfl, fun ds j3 pds a F3 H3 g3 na oa => ?_⟩
  subst pds
  have og3 := (og.grow gp).grow g3
  obtain ⟨o1, o2, ws, o3, o4, o5⟩ := og3
  obtain ⟨q1, q2, us, q3, q4, q5⟩ := oa
  have ew := ints_inv o5
  have eu := ints_inv q5
  subst ew eu
  have np : (J.at j2).has p = false := s2.base.new hp
  have hp3 : H3 p = some (.dK []) := g3.hh p _ upd_same np
  have fp2 : F2 p = none := s2.base.fnew hp
  have fp3 : F3 p = none := by
    cases e : F3 p with
    | none => rfl
    | some u =>
      rcases g3.nw p u e with z | z
      · rw [fp2] at z; cases z
      · rw [upd_same] at z; cases z
  have pa : p ≠ a := fun e => by subst e; rw [upd_same] at na; cases na
  have pg : p ≠ g := fun e => by
    obtain ⟨_, _, xs, h3, _⟩ := og
    rw [← e, hp] at h3; cases h3
  have ga : g ≠ a := fun e => by
    obtain ⟨_, _, xs, h3, _⟩ := og.grow gp
    rw [e, na] at h3; cases h3
  refine ⟨hp3, jTab { js := ⟨ns.filterMap isGreat, 0, 0⟩, cs := ns.map absI, bd := bigOf ns, on := true, ad := p, lg := g, lc := a, tbs := J.tbs }, rfl, (show 4 ≤ 15 by decide), ?_⟩
  rw [merge_tab]
  have gl : (ns.filterMap isGreat).length ≤ 63 := Nat.le_trans (List.length_filterMap_le _ _) hl
  have ccl : (ns.map absI).length ≤ 63 := by rw [List.length_map]; exact hl
  have c0 : ∀ c ∈ ns.map absI, 0 ≤ c := fun c hc => by obtain ⟨n, _, rfl⟩ := List.mem_map.mp hc; exact abs_nn n
  refine k { js := ⟨ns.filterMap isGreat, 0, 0⟩, cs := ns.map absI, bd := bigOf ns, on := true, ad := p, lg := g, lc := a, tbs := J.tbs } F3 _ rfl ⟨rfl, c0, (big_ge ns).1, great_bd, gl, Int.le_refl 0, by have := (big_ge ns).1; show (0 : Int) < bigOf ns; omega, Int.le_refl 0, Int.le_refl 0⟩ ccl ((u2.trans (Sub.refl _)).trans g3.ff) ⟨fun c u e => ?_, fun c hc => ?_, fun _ => ⟨pg, pa, ga, upd_same, ?_, ?_, gl, ccl, fun x hx => (great_bd x hx).1, c0, Int.le_refl 0, Int.le_refl 0⟩, fun q hq => ?_⟩
  · rw [upd_ne (ne_of_none e fp3)]
    exact g3.base.fh c u e
  · unfold Jst.has at hc
    rcases Bool.or_eq_true_iff.mp hc with z | z
    · unfold Jst.hd at z
      simp only [Bool.true_and, Bool.or_eq_true, beq_iff_eq] at z
      rcases z with (rfl | rfl) | rfl
      · exact fp3
      · exact o1
      · exact q1
    · exact g3.base.nj c (by unfold Jst.has; exact Bool.or_eq_true_iff.mpr (.inr z))
  · rw [upd_ne (Ne.symm pg)]; exact o3
  · rw [upd_ne (Ne.symm pa)]; exact q3
  · obtain ⟨ps, e1, e2, e3⟩ := g3.base.tb q hq
    exact ⟨ps, by rw [upd_ne (fun z => by rw [z, hp3] at e1; cases e1)]; exact e1, e2, e3⟩
/-! ### the law -/
theorem pss_some {X : Cx} {sts : List Stmt} {R : Ent → Prop} {t : Ent → TS} (h : ∀ B, R B → PSs X sts (t B)) : PSs X sts (fun D σ H => ∃ B, R B ∧ t B D σ H) := ⟨fun pins s σ H D I ⟨B, r, q⟩ => (h B r).run pins s σ H D I q⟩
def spLaw (K : PySem.W.Frag) (T : List (Addr × Str)) : Sp := fun vs H Q _ => ∃ (a : Addr) (ns : List Int), vs = [.ref a] ∧ SqL K H a (ns.map V.int) ∧ ns.length ≤ 63 ∧ (∀ p ∈ T, H p.1 = some (.tbl #[])) ∧ ∀ H', Q (.bl true) H'
def t_all (K : PySem.W.Frag) (mg : Str → Option Value) (T : List (Addr × Str)) (cl : List (Str × Addr)) (tl : Jst → DS) : TS := tSeq (tAsg (tCall (spBegun K) [] E0 (tCons (tVar 0) tNil)) (gName 1)) (fun D σ H => ∃ B, EntOk mg T cl B.J ∧ dS K B (tl B.J) D σ H)
theorem law_pure {K : PySem.W.Frag} {mg : Str → Option Value} {T : List (Addr × Str)} {cl : List (Str × Addr)} {tl : Jst → DS} {N : List Str} (h2 : 2 ≤ N.length)
    (law : ∀ (J : Jst) (E : DEnds) (j : JS) (ns : List Int), At mg T J → JB J 0 j → J.cs.length ≤ 63 → (∀ j, E.rt (.bl true) j) → tl J E j (put (st0 N.length [.lst (ns.map D.int)]) 1 (.val (.ref J.ad))))
    (vs : List V) (H : Hp) (Q : VK) (E : XK) (h : spLaw K T vs H Q E) : t_all K mg T cl tl { nx := fun _ H' => Q .non H', rt := Q } (L2.start N vs) H := by
  obtain ⟨a, ns, rfl, hs, hl, hT, hQ⟩ := h
  have hz : (ns.map V.int).length ≤ sizeLine := by rw [List.length_map, sizeLine_eq]; omega
  have sF : SqL K (fun b => if b ∈ T.map (·.1) then none else H b) a (ns.map V.int) := by
    have key : ∀ o, H a = some o → o ≠ .tbl #[] → (fun b => if b ∈ T.map (·.1) then none else H b) a = some o := fun o e n => by
      show (if a ∈ T.map (·.1) then none else H a) = some o
      rw [if_neg]
      · exact e
      · intro z
        obtain ⟨p, hp, e2⟩ := List.mem_map.mp z
        have := hT p hp
        rw [e2, e] at this
        exact n (Option.some.inj this)
    rcases hs with (e | ⟨o, e⟩) | r
    · exact .inl (.inl (key _ e (fun z => nomatch z)))
    · exact .inl (.inr ⟨o, key _ e (fun z => nomatch z)⟩)
    · exact .inr r
  have rv : Rp K (fun b => if b ∈ T.map (·.1) then none else H b) (.ref a) (.lst (ns.map D.int)) := .lst sF hz (RpAll.ints ns)
  have b0 : BaseOk (({ js := ⟨[], 0, 0⟩, cs := [], bd := 0, on := false, ad := 0, lg := 0, lc := 0, tbs := T, eF := fun b => if b ∈ T.map (·.1) then none else H b, eH := H } : Jst).at ⟨[], 0, 0⟩) (fun b => if b ∈ T.map (·.1) then none else H b) H := by
    refine ⟨fun b o e => ?_, fun b z => ?_, (fun z => by cases z), fun p hp => ?_⟩
    · have e : (if b ∈ T.map (·.1) then none else H b) = some o := e
      split at e
      · cases e
      · exact e
    · unfold Jst.has Jst.hd at z
      simp only [Bool.false_and, Bool.false_or] at z
      obtain ⟨p, hp, e⟩ := List.any_eq_true.mp z
      show (if b ∈ T.map (·.1) then none else H b) = none
      rw [if_pos]
      rw [beq_iff_eq.mp e]
      exact List.mem_map.mpr ⟨p, hp, rfl⟩
    · exact ⟨#[], hT p hp, by simp [TriplesOk], fun pos cv z => by simp [codeAmong] at z⟩
  refine ⟨.ref a, by unfold L2.start; rfl, ?_⟩
  refine ⟨{ js := ⟨[], 0, 0⟩, cs := [], bd := 0, on := false, ad := 0, lg := 0, lc := 0, tbs := T, eF := fun b => if b ∈ T.map (·.1) then none else H b, eH := H }, ⟨[], 0, 0⟩, _, .ref a, ns, rfl, Gt.refl b0, b0, rfl, rv, hl, fun J' F' H' et jb hc sub bo => ?_⟩
  have bo' : BaseOk ((J'.re J'.xk (faOf mg) cl J'.js F' H').at J'.js) F' H' := BaseOk.re (J := J') (j := J'.js) bo
  have s1 := start_SB (K := K) (B := ⟨J'.re J'.xk (faOf mg) cl J'.js F' H', J'.js, F', H'⟩) (j := J'.js) (N := N) (vs := [.ref a]) (ds := [.lst (ns.map D.int)]) bo' (Gt.refl bo') (.cons (rv.mono sub) .nil) (by show 1 ≤ N.length; omega)
  have s2 := s1.setVal (i := 1) (v := .ref J'.ad) (d := .ref J'.ad) (.ref _)
  refine ⟨⟨J'.re J'.xk (faOf mg) cl J'.js F' H', J'.js, F', H'⟩, ⟨et, rfl, rfl⟩, J'.js, F', _, { nx := fun _ _ => False, rt := fun d _ => d = .bl true }, s2, Gt.refl bo', law (J'.re J'.xk (faOf mg) cl J'.js F' H') _ J'.js ns ⟨et, rfl⟩ jb hc fun _ => rfl, ⟨fun _ _ _ _ _ _ _ _ z => z.elim, fun j v F1 H1 d g r e => ?_, fun _ _ _ _ _ _ _ _ z => z.elim, fun _ _ _ _ _ _ _ _ z => z.elim⟩⟩
  subst e
  cases r.bl_inv
  exact hQ H1
end DL

/-! DL27 -/
/-! DL27: a module's tuple constants. -/
namespace DL
open PySem PySem.Spec PyProof.Rows L2
/-- a tuple of the fragment, its data -/
def CstT (K : PySem.W.Frag) (a : Addr) (ds : List D) : Prop :=
  ∃ vs, (∃ (o : Obj) (its : Array Value) (n : Nat), K.lookup a = some o ∧ o.cls = .type "tuple" ∧ o.dict = none ∧ o.data = .seq its n ∧ its.size ≤ sizeLine ∧ Vals vs its.toList) ∧ vs.length ≤ sizeLine ∧ RpAll K (fun _ => none) vs ds
section
variable {X : Cx} {J : Jst}
theorem de_glT {x : Str} {p : Pos} {ds : List D} (hm : ∃ a, X.mg x = some (.ref a) ∧ CstT X.K a ds) (hg : Gl X x) (hdb : (x == ("__debug__" : Str)) = false := by decide) : PE X (.Name x p) (dE X.K J (dC (.tup ds))) := by
  obtain ⟨a, hm, vs, h1, h2, h3⟩ := hm
  exact (pe_glob (v := .ref a) hg hm rfl hdb).imp fun σ H Q ⟨j, F, ρ, P, s, q, k⟩ => k _ j q _ F H (Gt.refl s.base) (.tup (.inr h1) h2 (h3.mono fun _ _ e => by cases e))
end
end DL

/-! DL28 -/
/-! DL28: errors with an attribute: raise X(v), X's __init__ by super().__init__(..); reading it. -/
namespace DL
open PySem PySem.Spec PyProof.Rows L2
/-- super().__init__(a1); self.f = par -/
def iniBody (a1 : Expr) (par f : Str) (p : Nat → Pos) : List Stmt :=
  [.Expr (.Call (.Attribute (.Call (.Name "super" (p 0)) [] [] (p 1)) "__init__" (p 2)) [a1] [] (p 3)) (p 4), .Assign [.Attribute (.Name "self" (p 5)) f (p 6)] (.Name par (p 7)) (p 8)]
def iniArgs (par : Str) (q0 q1 : Pos) : Arguments := { posonlyargs := [], args := [⟨"self", none, q0⟩, ⟨par, none, q1⟩], vararg := none, kwonlyargs := [], kw_defaults := [], kwarg := none, defaults := [] }
def iniScope (par : Str) : Scope := { kind := .function, names := [("self", .local), (par, .local), ("__class__", .free), ("super", .globalImplicit)], isGenerator := false, isCoroutine := false }
/-- what is handed to super().__init__: the parameter, or a text -/
def IniArg (par : Str) (a1 : Expr) : Prop := (∃ q, a1 = .Name par q) ∨ ∃ m j q, a1 = .Constant (.str m) j q
structure IniF (P : Program) (K : PySem.W.Frag) (C : Addr) (par f : Str) : Prop where
  T : OexC K C
  su : PySem.W.ks_superIn K C C "__init__" = some (some (.builtin "ValueError.__init__"))
  sb : PySem.W.subIn K (.ref C) (.type "ValueError") = some true
  mr : PySem.W.mroIn K C (.ref C) = some true
  fr : PySem.W.nsIn K mainGlobals "super" = some none
  op : PySem.W.nsIn K cStatics "thirdparty.any" = some none
  no : PySem.W.findIn K (.ref C) f = some none
  tp : (P.main.scope.names.lookup ("super" : Str)).isSome = false
  pn : par ≠ ("self" : Str) ∧ (par == ("__debug__" : Str)) = false ∧ (iniScope par).names.lookup par = some .local ∧ (iniScope par).names.lookup ("__class__" : Str) = some .free ∧ (iniScope par).names.lookup ("super" : Str) = some .globalImplicit
  bd : ∀ (q : Str) (body : List Stmt) (q0 q1 : Pos) (kV doc pm cdv ct : Value) (an : Option Addr) (cc : Addr) (u1 u2 : Value), bindArgs (PySem.W.ksFn "__init__" q (iniArgs par q0 q1) body (iniScope par) .none kV doc pm an cdv ct cc) ⟨[u1, u2], []⟩ = pure [(("self" : Str), u1), (par, u2)]
  ex : ∃ (fI cda cc : Addr) (q : Str) (a1 : Expr) (p : Nat → Pos) (q0 q1 : Pos) (kV doc pm ct oc ccl cl : Value) (an od cdd cld : Option Addr) (osl ccs csl : Array (Option Value)) (vs : Array Value) (file : Str) (tf : Tok),
    PySem.W.findIn K (.ref C) "__init__" = some (some (.ref fI)) ∧ PySem.W.typeIn K (.ref fI) = some (.type "function") ∧
    K.lookup fI = some ⟨oc, od, .func (PySem.W.ksFn "__init__" q (iniArgs par q0 q1) (iniBody a1 par f p) (iniScope par) .none kV doc pm an (.ref cda) ct cc), osl⟩ ∧ PySem.W.codeIn K (.ref cda) q = true ∧
    IniArg par a1 ∧ K.lookup cda = some ⟨ccl, cdd, .fields vs, ccs⟩ ∧ vs[2]? = some (.str file tf) ∧ ((P.main.file : Str) == file) = true ∧
    K.lookup cc = some ⟨cl, cld, .cell (some (.ref C)), csl⟩ ∧ ((p 2).endLine == (p 3).line) = true
section
open PySem.W PySem.Calls
variable {prog : Program} {w : World} {A : Around} {E : Value → Shared → Prop} {R : Result → Shared → Prop}
/-- super().__init__(u), the wrapper called -/
theorem ini_call {K : Frag} {C x u t0 : Addr} {rest : List Value} {hp : Heap} {g : Array GenState} {d : Drawn} {t : Nat} {os : OsState} {Q : Value → Shared → Prop} (T : OexC K C) (X : K.In hp) (hu : hp.get? u = some (kxs_mw "ValueError.__init__" x))
    (he : hp.get? x = some (HandSPX.excO C t0)) (hz : rest.length ≤ sizeLine)
    (hq : ∀ h' t1, (∀ b o, b ≠ x → hp.get? b = some o → h'.get? b = some o) → h'.get? x = some (HandSPX.excO C t1) → Q .none ⟨h', g, d, t, os⟩) :
    wpAny (model prog w) A (call (.ref u) rest) Q E ⟨hp, g, d, t, os⟩ := by
  obtain ⟨nm, q, N, bs, bm, sn, sub, ab, col, dd, k0, k1, k2, k3, k5, hC, hbm⟩ := T.cls
  have hC' := X _ _ hC
  refine wpAny_call (codeAny_of_tree ?_)
  show wpAny _ A.in1 (callAny (.ref u) ⟨rest, []⟩) _ _ _
  simp only [callAny]
  refine wpAny_bind (wpAny_load hu ?_)
  simp only [kxs_mw, show (Value.type "method-wrapper" == Value.type "method" || Value.type "method-wrapper" == Value.type "builtin_function_or_method" || Value.type "method-wrapper" == Value.type "method-wrapper") = true by decide, if_true]
  refine KFB.if_so (by decide) ?_
  have F := PySem.F.excBase_ValueError
  refine wpAny_bind (check_bound_init F.toExcCallFacts hC' he rfl ?_)
  refine wpAny_bind (wpAny_pure (wpAny_pure ?_))
  refine ⟨plainId_quiet F.init.plain _, codeAny_builtin F.initEntry ?_⟩
  rw [Around.under_plainId F.init.plain _]
  exact exc_init_tree (cls := .ref C) (t0 := t0) (dv := none) (c2 := .none) (c3 := .none) (b4 := .bool false) he hz fun h' k e1 _ => hq h' _ k e1

/-- a name of the frame -/
theorem ini_name {env : Env} {m : Str → Option Value} {s : Shared} {x : Str} {pos : Pos} {v : Value} {Q : Value → Shared → Prop} (hk : env.scope.kind = .function) (hl : env.kindOf x = some .local) (hn : s.heap.Ns env.locals m) (hv : m x = some v) (hd : (x == ("__debug__" : Str)) = false) (h : Q v s) :
    wpAny (model prog w) A (eval (.Name x pos) env) Q E s := wpAny_Name (wpAny_loadName_local hk hl hn hv h) hd
theorem ini_star {par : Str} {a1 : Expr} (ha : IniArg par a1) (env : Env) : starEach [a1] env = [(false, eval a1 env)] := by
  rcases ha with ⟨q, rfl⟩ | ⟨m, j, q, rfl⟩ <;> rfl
theorem ini_meth {par : Str} {a1 o : Expr} (ha : IniArg par a1) {env : Env} {name : Str} {ap pos : Pos} (hpos : (ap.endLine == pos.line) = true) : eval (.Call (.Attribute o name ap) [a1] [] pos) env = (do
      let ov ← attributeBase o name env (eval o env)
      standAt ap.atName
      let (f, first) ← holding [ov] (getMethod ov name (do return (← importBound o env).getD true))
      callWith pos f first (backTo pos (starEach [a1] env)) []) := by
  have form : methodCallForm 1 (backTo pos (starEach [a1] env)) [] = true := by
    rw [ini_star ha]
    rfl
  show (do
    let ov ← attributeBase o name env (eval o env)
    standAt ap.atName
    methodCall o name ap pos env ov 1 (backTo pos (starEach [a1] env)) []) = _
  unfold methodCall methodCallPos calleeOf
  simp only [form, hpos, if_true, Bool.not_true, Bool.or_true, pure_bind]
theorem ini_arg {env : Env} {m : Str → Option Value} {s : Shared} {par : Str} {a1 : Expr} {y : Value} {Q : Value → Shared → Prop} (ha : IniArg par a1) (hk : env.scope.kind = .function) (hl : env.kindOf par = some .local) (hn : s.heap.Ns env.locals m) (hv : m par = some y) (hd : (par == ("__debug__" : Str)) = false)
    (h : ∀ v tk, Q v { s with toks := tk }) : wpAny (model prog w) A (eval a1 env) Q E s := by
  rcases ha with ⟨qq, rfl⟩ | ⟨m, jj, qq, rfl⟩
  · exact ini_name hk hl hn hv hd (h y s.toks)
  · exact Calls.Constant_str (h _ _)
/-- __init__ as a whole -/
theorem ini_run {K : Frag} {C fI cda cc x t0 : Addr} {par f q : Str} {a1 : Expr} {p : Nat → Pos} {q0 q1 : Pos} {kV doc pm ct oc ccl cl : Value} {an od cdd cld : Option Addr} {osl ccs csl : Array (Option Value)} {vs : Array Value} {file : Str} {tf : Tok} {mg mb : Str → Option Value}
    {hp : Heap} {g : Array GenState} {d : Drawn} {t : Nat} {os : OsState} {y : Value} (I : IniF prog K C par f)
    (lk : K.lookup fI = some ⟨oc, od, .func (ksFn "__init__" q (iniArgs par q0 q1) (iniBody a1 par f p) (iniScope par) .none kV doc pm an (.ref cda) ct cc), osl⟩) (hcd : codeIn K (.ref cda) q = true) (ha : IniArg par a1)
    (hcode : K.lookup cda = some ⟨ccl, cdd, .fields vs, ccs⟩) (hvs : vs[2]? = some (.str file tf)) (hfile : ((prog.main.file : Str) == file) = true) (hcell : K.lookup cc = some ⟨cl, cld, .cell (some (.ref C)), csl⟩) (hpos : ((p 2).endLine == (p 3).line) = true)
    (X : K.In hp) (lim : hp.NoLimit) (glob : hp.Ns mainGlobals mg) (blt : hp.Ns builtinsNs mb) (hb : mb "super" = some (.type "super")) (room : A.depth < recursionLimit) (hx : hp.get? x = some (HandSPX.excO C t0)) (nx : ∀ o, K.lookup x ≠ some o)
    (hq : ∀ h' t' dx t1, (∀ b o, b ≠ x → hp.get? b = some o → h'.get? b = some o) → hp.objs.size ≤ dx → dx ≠ x → h'.get? x = some { cls := .ref C, dict := some dx, data := .fields #[.ref t1, .none, .none, .none, .bool false, .none] } →
      h'.Ns1 dx (fun z => if z = f then some y else none) → R (.ok (.ret .none)) ⟨h', g, d, t', os⟩) :
    codeAny (model prog w) A (.call (.ref fI) ⟨[.ref x, y], []⟩) R ⟨hp, g, d, t, os⟩ := by
  obtain ⟨n1, n4, kpar, kcls, ksup⟩ := I.pn
  obtain ⟨nm, qn, N, bs, bm, sn, sub, ab, col, dd, k0, k1, k2, k3, k5, hC, hbm⟩ := I.T.cls
  have hcl : clsIn K C = some { name := nm, bases := bs, mro := .ref C :: bm, ns := N, qualname := qn, hasDict := true, slotNames := sn, subclasses := sub, abstract := ab, collection := col, hasDel := false } := by unfold clsIn; rw [hC] <;> rfl
  have kself : (iniScope par).names.lookup ("self" : Str) = some .local := rfl
  refine ks_codeAny_call_defAt (binds := [("self", .ref x), (par, y)]) room (X _ _ lk) rfl lim (codeRec_of X hcd) rfl (BindsTo.of_eq ?_) ?_ ?_ (fun h₀ hns k0 => ?_) rfl rfl rfl
  · exact I.bd _ _ _ _ _ _ _ _ _ _ _ _ _
  · intro z hz
    simp [iniScope] at hz
    rcases hz with rfl | rfl | rfl | rfl <;> simp
  · intro z hz
    simp at hz
    rcases hz with rfl | rfl
    · exact kself
    · exact kpar
  · have X0 : K.In h₀ := X.keeps k0
    have m1 : List.lookup ("self" : Str) ([(("self" : Str), Value.ref x), (par, y)] : List (Str × Value)).reverse = some (.ref x) := by
      have e : (("self" : Str) == par) = false := beq_eq_false_iff_ne.mpr (Ne.symm n1)
      simp [List.lookup, e]
    have m2 : List.lookup par ([(("self" : Str), Value.ref x), (par, y)] : List (Str × Value)).reverse = some y := by
      simp [List.lookup]
    refine ks_wpAt_execs_cons (ks_wpAt_Expr_any (ks_wpAt_MethodCall ?_ (ini_meth ha hpos)) rfl (by rfl))
    refine ks_wpAt_super_base (env := ksEnv q (iniScope par) hp.objs.size fI (.ref cda) cc) ksup kcls (by decide) rfl (X0 _ _ lk) rfl rfl rfl (X0 _ _ hcode) rfl hvs hfile I.tp ?_
    refine ks_loadName_global rfl ksup (loadGlobal_builtin (env := ksEnv q (iniScope par) hp.objs.size fI (.ref cda) cc) (glob.keeps k0) (mg_none_of X glob I.fr) (blt.keeps k0) hb ⟨rfl, ?_⟩)
    refine wpAny_loadName_free rfl kcls rfl ⟨_, X0 _ _ hcell, rfl⟩ ?_
    refine wpAny_loadName_local rfl kself hns m1 ?_
    refine ks_wpAny_isType_cls (X0 _ _ hC) rfl ⟨rfl, ?_⟩
    refine ks_wpAny_call_super (X0 _ _ hC) rfl (k0 _ _ hx) rfl (fun c => by simp) (looks_mroIn X0 I.mr) (fun h1 es k1 => ?_)
    have X1 : K.In h1 := X0.keeps k1
    have hx1 := k1 _ _ (k0 _ _ hx)
    have xC : x ≠ C := fun z => by
      have a := X _ _ hC
      rw [← z, hx] at a
      cases a
    have In1 : InstAt h1 x (HandSPX.excO C t0) C none := ⟨hx1, rfl, rfl, trivial⟩
    have su := I.su
    unfold ks_superIn at su
    rw [hcl] at su
    refine kxs_getMethod kxs_ValueError es (looks_opaque X1 I.op) (fun A Q E s k q => wpAny_bind ((looks_clsIn X1 hcl) A _ E s k (wpAny_pure q))) rfl X1 su (In1.type.andThen (looks_subIn X1 I.sb)) xC (by decide) ?_
    have k2 : ∀ b o, h₀.get? b = some o → (h1.push (kxs_mw "ValueError.__init__" x)).get? b = some o := fun b o e => Heap.get?_push_of_some _ (k1 _ _ e)
    have hu : (h1.push (kxs_mw "ValueError.__init__" x)).get? h1.objs.size = some (kxs_mw "ValueError.__init__" x) := Heap.get?_push_at rfl rfl
    have X2 : K.In (h1.push (kxs_mw "ValueError.__init__" x)) := X0.keeps k2
    rw [ini_star ha]
    refine kxs_callWith (i := "ValueError.__init__") (x := x) rfl (evalArgs_plain (Calls.spliced_cons (ini_arg ha rfl kpar (hns.keeps k2) m2 n4 fun v tk => Calls.spliced_nil ⟨hu, ?_⟩)))
    refine ini_call I.T X2 hu (k2 _ _ (k0 _ _ hx)) (show 1 ≤ sizeLine by rw [sizeLine_eq]; omega) fun h3 t1 k3 hx3 => ?_
    have L3 : hp.objs.size ≠ x := fun z => absurd (Heap.lt_size hx) (by rw [z]; exact Nat.lt_irrefl _)
    have ns3 : h3.Ns hp.objs.size (fun z => List.lookup z ([(("self" : Str), Value.ref x), (par, y)] : List (Str × Value)).reverse) := (hns.keeps k2).at fun o z => k3 _ _ L3 z
    have k4 : ∀ b o, b ≠ x → hp.get? b = some o → h3.get? b = some o := fun b o hb e => k3 _ _ hb (k2 _ _ (k0 _ _ e))
    have X3 : K.In h3 := fun b o e => k4 b o (fun z => by
      rw [z] at e
      exact nx _ e) (X _ _ e)
    refine wpAt_of_wpAny ?_
    refine wpAny_execs_cons (plainObj_wpAny_Assign_Attribute (ini_name rfl kpar ns3 m2 n4 (ini_name rfl kself ns3 m1 (by decide) ?_)) (by rfl))
    refine set_plain X3 (ox := { cls := .ref C, dict := none, data := .fields #[.ref t1, .none, .none, .none, .bool false, .none] }) (od := none) ⟨hx3, rfl, rfl, trivial⟩ I.T.sa ?_
    refine PySem.HandSPX.exc_osa X3 hx3 hcl (show PySem.HandSPX.refsVE (.ref C :: bm) = true from hbm) rfl I.no (fun h4 tk4 dx k5 dn dne hx4 hn4 => ?_)
    refine wpAny_execs_nil ?_
    refine hq h4 _ dx t1 (fun b o hb e => k5 _ _ hb (k4 _ _ hb e)) ?_ dne hx4 hn4
    obtain ⟨oL, _, _, eL, _⟩ := ns3
    exact Nat.le_of_lt (Nat.lt_of_lt_of_le (Heap.lt_size eL) dn)
end
/-- X(e) -/
def tMk1 (C : Addr) (f : Str) (ta : TA) : L2.St → Hp → XK → Prop := fun σ H Q => ta σ H fun vs H1 => ∃ y, vs = [y] ∧ ∀ dx, H1 dx = none → Q (.ref C) (some dx) (upd H1 dx (.xd [(f, y)]))
theorem pmk_ini {X : Cx} {x par f : Str} {C : Addr} {e : Expr} {ta : TA} {p pos : Pos} (Z : IniF X.prog X.K C par f) (hr : Room 2 X.A) (hg : Gl X x) (hm : X.mg x = some (.ref C)) (ha : PA X [e] ta)
    (hdb : (x == ("__debug__" : Str)) = false := by decide) (he : starEach [e] X.env = (false, eval e X.env) :: starEach [] X.env := by rfl) (hpl : (backTo pos (starEach [] X.env)).any (·.1) = false := by rfl) :
    PMk X (.Call (.Name x p) [e] [] pos) (tMk1 C f ta) := by
  intro pins s σ H Q I h
  obtain ⟨nm, q, N, bs, bm, sn, sub, ab, col, dd, k0, k1, k2, k3, k5, hC, hbm⟩ := Z.T.cls
  obtain ⟨fI, cda, cc, qq, a1, pp, q0, q1, kV, doc, pm, ct, oc, ccl, cl, an, od, cdd, cld, osl, ccs, csl, vs, file, tf, iC, tI, lk, hcd, hia, hcode, hvs, hfile, hcell, hpos⟩ := Z.ex
  refine wpAny_Call_Name_kw (ld_glob I hg hm ?_ hdb)
  refine PySem.W.callWith_K (h₀ := X.base) I.ok.mod.kin Z.T.kC (thn (ha.run pos pins s σ H _ I h) fun us s1 ⟨vs, H1, I1, r1, y, ev, q1⟩ => ⟨I1.kIn, ?_⟩) he hpl
  show wpAny _ _ (call (.ref C) us) _ _ _
  subst ev
  obtain ⟨u, rfl, ru⟩ : ∃ u, us = [u] ∧ RelV y u := by
    cases r1 with
    | cons ru rn =>
      cases rn
      exact ⟨_, rfl, ru⟩
  obtain ⟨hp, g, dr, tk, os⟩ := s1
  have kk : ∀ b o, hp.get? b = some o → ((hp.push (PySem.W.kdv_tup [u])).push (PySem.HandSPX.excO C hp.objs.size)).get? b = some o := fun b o e => Heap.get?_push_of_some _ (Heap.get?_push_of_some _ e)
  have hget : ((hp.push (PySem.W.kdv_tup [u])).push (PySem.HandSPX.excO C hp.objs.size)).get? (hp.objs.size + 1) = some (PySem.HandSPX.excO C hp.objs.size) := by heap_get
  have lt : ∀ b o, hp.get? b = some o → b ≠ hp.objs.size + 1 := fun b o e => Nat.ne_of_lt (Nat.lt_succ_of_lt (Heap.lt_size e))
  obtain ⟨mb, h1, h2⟩ := I1.mod.blt
  refine wpAny_call (PySem.HandSPX.call_own F.excBase_ValueError (fun Y => PySem.HandSPX.refsVE_contains Y bm hbm) (I1.kIn _ _ hC) (PySem.W.looks_findIn I1.kIn iC) (fun self => PySem.W.bind_fn I1.kIn self tI) (show 1 ≤ sizeLine by rw [sizeLine_eq]; omega)
    (ini_run Z lk hcd hia hcode hvs hfile hcell hpos (I1.kIn.keeps kk) (I1.mod.nolimit.keeps fun b o e => kk _ _ (I1.bk _ _ e)) (I1.mod.glob.keeps fun b o e => kk _ _ (I1.bk _ _ e)) (h1.keeps fun b o e => kk _ _ (I1.bk _ _ e)) ((h2 "super" (by decide)).trans (by kernel_rfl)) (hr.make C [u] []).depth hget
      (fun o e => lt _ _ (I1.kIn _ _ e) rfl) fun h' t' dx t1 k dn dne hx hns => ?_))
  refine ⟨rfl, ?_⟩
  obtain ⟨G, g1, g2⟩ := restrict h' fun b => decide (b ≠ hp.objs.size + 1)
  have gk : ∀ b, b ≠ hp.objs.size + 1 → G.get? b = h'.get? b := fun b hb => g1 b (decide_eq_true hb)
  have ge : G.get? (hp.objs.size + 1) = none := g2 _ (by simp)
  have gs : ∀ b o, G.get? b = some o → h'.get? b = some o := fun b o z => by
    by_cases hb : b = hp.objs.size + 1
    · rw [hb, ge] at z
      cases z
    · exact (gk b hb).symm.trans z
  have kG : ∀ b o, hp.get? b = some o → G.get? b = some o := fun b o z => (gk b (lt b o z)).trans (k b o (lt b o z) (kk b o z))
  have sz : hp.objs.size ≤ dx := Nat.le_trans (by rw [Heap.size_push, Heap.size_push]; omega) dn
  have hd : H1 dx = none := I1.hok.fresh sz
  have hnG : G.Ns1 dx (fun z => if z = f then some u else none) := hns.at fun o z => (gk dx dne).trans z
  have ok : ObjOk X.prog X.w (upd H1 dx (.xd [(f, y)])) G dx (.xd [(f, y)]) := ⟨_, hnG, relO_put (fs := []) ru fun g => True.intro⟩
  have J := I1.laid (t' := t') kG sz ok
  refine ⟨hp.objs.size + 1, _, _, _, upd H1 dx (.xd [(f, y)]), .ref C, some dx, rfl, J, gs, ge, hx, ⟨rfl, rfl⟩, rfl, rfl, ?_, rfl, I1.bare, raises_own Z.T.exC Z.T.tyC, q1 dx hd⟩
  rw [upd_ne (Ne.symm dne)]
  exact I1.hok.fresh (Nat.le_succ _)
section
variable {X : Cx} {B : Ent} {J : Jst} {x par f : Str} {C : Addr} {e : Expr} {t : DE} {p pos pos' : Pos}
/-- raise X(e) -/
@[simp] def dRaise1 (J : Jst) (x f : Str) (t : DE) : DS := fun _ j ρ => t j ρ fun d j1 => J.xk (J.fa x) [f] [d] j1
theorem ds_raise1 (hc : X.calm = true) (hx : Rs X B.J) (hF : B.J.fa = faOf X.mg) (gC : X.mg x = some (.ref C)) (Z : IniF X.prog X.K C par f) (hr : Room 2 X.A) (hg : Gl X x) (h : PE X e (dE X.K B.J t))
    (hdb : (x == ("__debug__" : Str)) = false := by decide) (he : starEach [e] X.env = (false, eval e X.env) :: starEach [] X.env := by rfl) (hpl : (backTo pos (starEach [] X.env)).any (·.1) = false := by rfl) :
    PS X (.Raise (some (.Call (.Name x p) [e] [] pos)) none pos') (dS X.K B (dRaise1 B.J x f t)) := by
  obtain ⟨W, tk, hW⟩ := hx.ex
  exact (ps_raise hc tk (pmk_ini Z hr hg gC (pa_cons h pa_nil he) hdb he hpl)).imp fun D σ H ⟨j, F, ρ, E, s, g, q, k⟩ => ⟨j, F, ρ, _, s.toSR, q, fun d j1 pd v F1 H1 g1 r1 => ⟨v, rfl, fun dx hd => by
    have pd : B.J.xk (B.J.fa x) [f] [d] j1 := pd
    rw [hF, faOf_eq gC] at pd
    have g2 := Gr.laid g1.base hd (.xd [(f, v)])
    exact hW C [f] [d] j1 pd σ _ _ ρ (some dx) ((s.toSR.grow g1).grow g2.gt) ⟨v, upd_same, r1.mono g2.ff⟩⟩⟩
/-! reading an attribute -/
@[simp] def isAt (J : Jst) (ys : List Str) (n : Str) : D → (D → Prop) → Prop
  | .exc c [m] [x], P => m = n ∧ (∃ y ∈ ys, c = J.fa y) ∧ P x
  | _, _ => False
@[simp] def dAttr (J : Jst) (ys : List Str) (n : Str) (t : DE) : DE := fun j ρ P => t j ρ fun d j1 => isAt J ys n d fun x => P x j1
theorem de_attr {ys : List Str} {n : Str} (hF : J.fa = faOf X.mg) (hy : ∀ y ∈ ys, XfC X.K (faOf X.mg y) ∧ PySem.W.findIn X.K (.ref (faOf X.mg y)) n = some none) (h : PE X e (dE X.K J t)) (hb : attributeBase e n X.env (eval e X.env) = eval e X.env := by rfl) :
    PE X (.Attribute e n pos) (dE X.K J (dAttr J ys n t)) := by
  refine ⟨fun pins s σ H Q I ⟨j, F, ρ, P, sr, q, k⟩ => ?_⟩
  refine attr_of hb (thn (h.run pins s σ H (fun v H1 => ∃ d j1 F1, Gt (J.at j) F H j1 F1 H1 ∧ Rp X.K F1 v d ∧ isAt J ys n d fun x => P x j1) I ⟨j, F, ρ, _, sr, q, fun d j1 pd v F1 H1 g r => ⟨d, j1, F1, g, r, pd⟩⟩) fun u s1 ⟨v, H1, I1, rv, d, j1, F1, g, r, pd⟩ => ?_)
  match d, r, pd with
  | .exc c [m] [x], .exc1 (a := a) (o := o) (d := dx) (v := w) e1 e2 ⟨ws, e3⟩ e4 e5 rx, ⟨em, ⟨y, hys, ec⟩, px⟩ =>
    subst em
    obtain rfl : u = Value.ref a := rv
    rw [hF] at ec
    obtain ⟨T, hno⟩ := hy y hys
    rw [← ec] at T hno
    obtain ⟨hat, _⟩ := (show ObjOk X.prog X.w H1 s1.heap a (.frz o _) from I1.hok a _ (g.base.fh _ _ e1))
    obtain ⟨mA, hns, hr⟩ := (show ObjOk X.prog X.w H1 s1.heap dx (.xd [(m, w)]) from I1.hok dx _ (g.base.fh _ _ e5))
    obtain ⟨od, ho, hl⟩ := lookIn_ns hns
    have lk : ([(m, w)] : List (Str × V)).lookup m = some w := by simp [List.lookup]
    obtain ⟨z, hz, rz⟩ := RelO.some_of (v := w) (o := mA m) (by rw [← lk]; exact hr m)
    have Jn : PySem.W.InstAt s1.heap a o c (some od) := ⟨hat, e2, by unfold PySem.W.notCls; rw [e3], by rw [e4]; exact ho⟩
    exact HandSPX.exc_get I1.kIn Jn T.ga T.gg T.exC (PySem.W.findObj_own T.hdC hno rfl (by rw [hl, hz])) (handed_of rz) ⟨w, H1, I1.tok _, rz, k x j1 px w F1 H1 g rx⟩
end
end DL

/-! DL29 -/
/-! DL29: the facts of DL28 as Bools of the part; a look at the top that knows the statics, too. -/
namespace DL
open PySem PySem.Spec PyProof.Rows L2
/-! ### an error class with its own __init__ -/
def ocB (K : PySem.W.Frag) (C : Addr) : Bool := match K.lookup C with
  | some ⟨.type t, _, .cls cd, sl⟩ => (match cd.mro, sl.toList with
    | .ref C' :: bm, [_, _, _, _, some (.builtin n), _] => decide (t = "type") && (decide (C' = C) && (decide (n = "ValueError.__new__") && (cd.hasDict && (!cd.hasDel && PySem.HandSPX.refsVE bm))))
    | _, _ => false)
  | _ => false
theorem ocB_ok {K : PySem.W.Frag} {C : Addr} (h : ocB K C = true) : ∃ nm q N bs bm sn sub ab col dd k0 k1 k2 k3 k5, K.lookup C = some (excClassObj nm q C N bs bm true sn sub ab col dd k0 k1 k2 k3 k5 "ValueError.__new__") ∧ PySem.HandSPX.refsVE bm = true := by
  unfold ocB at h
  split at h
  · rename_i t dd cd sl ho
    split at h
    · rename_i C' bm k0 k1 k2 k3 n k5 hm hs
      simp only [Bool.and_eq_true, decide_eq_true_eq, Bool.not_eq_true'] at h
      obtain ⟨rfl, rfl, rfl, h1, h2, h3⟩ := h
      obtain ⟨nm, bs, mro, ns, qn, hd, sn, sub, ab, col, dl⟩ := cd
      dsimp only at hm h1 h2
      subst hm h1 h2
      have hsl : sl = #[k0, k1, k2, k3, some (.builtin "ValueError.__new__"), k5] := by
        obtain ⟨l⟩ := sl
        exact congrArg Array.mk hs
      subst hsl
      exact ⟨nm, qn, ns, bs, bm, sn, sub, ab, col, dd, k0, k1, k2, k3, k5, ho, h3⟩
    · cases h
  · cases h
def argB (par : Str) : Expr → Bool
  | .Name z _ => decide (z = par)
  | .Constant (.str _) _ _ => true
  | _ => false
theorem argB_ok {par : Str} {a1 : Expr} (h : argB par a1 = true) : IniArg par a1 := by
  unfold argB at h
  split at h
  · rename_i z q
    exact .inl ⟨q, by rw [of_decide_eq_true h]⟩
  · exact .inr ⟨_, _, _, rfl⟩
  · cases h
/-- the text of such an __init__, its code's text, its cell -/
def txB (P : Program) (K : PySem.W.Frag) (C : Addr) (par f : Str) : Obj → Bool
  | ⟨_, _, .func ⟨n, q, ⟨[], [⟨a, none, _⟩, ⟨b, none, _⟩], none, [], [], none, []⟩, .stmts [.Expr (.Call (.Attribute (.Call (.Name s0 _) [] [] _) m0 p2) [a1] [] p3) _, .Assign [.Attribute (.Name s1 _) g _] (.Name z _) _], sc, gl, [(cn, cc)], .none, _, _, _, _, .ref cda, _, bl⟩, _⟩ =>
    decide (n = "__init__") && (decide (a = "self") && (decide (b = par) && (decide (s0 = "super") && (decide (m0 = "__init__") && (argB par a1 && ((p2.endLine == p3.line) && (decide (s1 = "self") && (decide (g = f) && (decide (z = par) &&
    (decide (sc = iniScope par) && (decide (gl = mainGlobals) && (decide (cn = "__class__") && (decide (bl = builtinsNs) && (PySem.W.codeIn K (.ref cda) q && ((match K.lookup cda with
      | some ⟨_, _, .fields vs, _⟩ => (match vs[2]? with
        | some (Value.str fl _) => (P.main.file : Str) == fl
        | _ => false)
      | _ => false) && (match K.lookup cc with
      | some ⟨_, _, .cell (some (.ref D)), _⟩ => decide (D = C)
      | _ => false))))))))))))))))
  | _ => false
def iniX (P : Program) (K : PySem.W.Frag) (C : Addr) (par f : Str) : Bool := match PySem.W.findIn K (.ref C) "__init__" with
  | some (some (.ref fI)) => decide (PySem.W.typeIn K (.ref fI) = some (.type "function")) && (match K.lookup fI with
    | some o => txB P K C par f o
    | none => false)
  | _ => false
theorem iniX_ok {P : Program} {K : PySem.W.Frag} {C : Addr} {par f : Str} (h : iniX P K C par f = true) : ∃ (fI cda cc : Addr) (q : Str) (a1 : Expr) (p : Nat → Pos) (q0 q1 : Pos) (kV doc pm ct oc ccl cl : Value) (an od cdd cld : Option Addr) (osl ccs csl : Array (Option Value)) (vs : Array Value) (file : Str) (tf : Tok),
    PySem.W.findIn K (.ref C) "__init__" = some (some (.ref fI)) ∧ PySem.W.typeIn K (.ref fI) = some (.type "function") ∧
    K.lookup fI = some ⟨oc, od, .func (PySem.W.ksFn "__init__" q (iniArgs par q0 q1) (iniBody a1 par f p) (iniScope par) .none kV doc pm an (.ref cda) ct cc), osl⟩ ∧ PySem.W.codeIn K (.ref cda) q = true ∧
    IniArg par a1 ∧ K.lookup cda = some ⟨ccl, cdd, .fields vs, ccs⟩ ∧ vs[2]? = some (.str file tf) ∧ ((P.main.file : Str) == file) = true ∧
    K.lookup cc = some ⟨cl, cld, .cell (some (.ref C)), csl⟩ ∧ ((p 2).endLine == (p 3).line) = true := by
  unfold iniX at h
  split at h
  · rename_i fI hf
    rw [Bool.and_eq_true] at h
    obtain ⟨h0, h⟩ := h
    split at h
    · rename_i o ho
      unfold txB at h
      split at h
      · rename_i oc od n q a qa b qb s0 p0 p1 m0 p2 a1 p3 p4 s1 p5 g p6 z p7 p8 sc gl cn cc kV doc pm an cda ct bl osl
        simp only [Bool.and_eq_true, decide_eq_true_eq] at h
        obtain ⟨rfl, rfl, rfl, rfl, rfl, h1, h2, rfl, rfl, rfl, rfl, rfl, rfl, rfl, h3, h4, h5⟩ := h
        split at h4
        · rename_i ccl cdd vs ccs hcd
          split at h4
          · rename_i fl tf hv
            split at h5
            · rename_i cl cld D csl hcc
              rw [of_decide_eq_true h5] at hcc
              exact ⟨fI, cda, cc, q, a1, fun | 0 => p0 | 1 => p1 | 2 => p2 | 3 => p3 | 4 => p4 | 5 => p5 | 6 => p6 | 7 => p7 | _ => p8, qa, qb, kV, doc, pm, ct, oc, ccl, cl, an, od, cdd, cld, osl, ccs, csl, vs, fl, tf, hf, of_decide_eq_true h0, ho, h3, argB_ok h1, hcd, hv, h4, hcc, h2⟩
            · cases h5
          · cases h4
        · cases h4
      · cases h
    · cases h
  · cases h
def iniB (P : Program) (K : PySem.W.Frag) (C : Addr) (par f : Str) : Bool :=
  ocB K C && (He.eqO (PySem.W.findIn K (.ref C) "__setattr__") (some (some (.builtin "object.__setattr__"))) && (decide (PySem.W.subIn K (.ref C) (.type "BaseException") = some true) && (decide (PySem.W.typeIn K (.ref C) = some (.type "type")) && (PySem.W.keepIn K (.ref C) &&
  (He.eqO (PySem.W.ks_superIn K C C "__init__") (some (some (.builtin "ValueError.__init__"))) && (decide (PySem.W.subIn K (.ref C) (.type "ValueError") = some true) && (decide (PySem.W.mroIn K C (.ref C) = some true) && (He.eqO (PySem.W.nsIn K mainGlobals "super") (some none) &&
  (He.eqO (PySem.W.nsIn K cStatics "thirdparty.any") (some none) && (He.eqO (PySem.W.findIn K (.ref C) f) (some none) && (!(P.main.scope.names.lookup ("super" : Str)).isSome && iniX P K C par f)))))))))))
theorem iniB_ok {P : Program} {K : PySem.W.Frag} {C : Addr} {par f : Str} (h : iniB P K C par f = true)
    (pn : par ≠ ("self" : Str) ∧ (par == ("__debug__" : Str)) = false ∧ (iniScope par).names.lookup par = some .local ∧ (iniScope par).names.lookup ("__class__" : Str) = some .free ∧ (iniScope par).names.lookup ("super" : Str) = some .globalImplicit)
    (bd : ∀ (q : Str) (body : List Stmt) (q0 q1 : Pos) (kV doc pm cdv ct : Value) (an : Option Addr) (cc : Addr) (u1 u2 : Value), bindArgs (PySem.W.ksFn "__init__" q (iniArgs par q0 q1) body (iniScope par) .none kV doc pm an cdv ct cc) ⟨[u1, u2], []⟩ = pure [(("self" : Str), u1), (par, u2)]) : IniF P K C par f := by
  obtain ⟨h0, h⟩ := He.ba h
  obtain ⟨h1, h⟩ := He.ba h
  obtain ⟨h2, h⟩ := He.ba h
  obtain ⟨h3, h⟩ := He.ba h
  obtain ⟨h4, h⟩ := He.ba h
  obtain ⟨h5, h⟩ := He.ba h
  obtain ⟨h6, h⟩ := He.ba h
  obtain ⟨h7, h⟩ := He.ba h
  obtain ⟨h8, h⟩ := He.ba h
  obtain ⟨h9, h⟩ := He.ba h
  obtain ⟨h10, h⟩ := He.ba h
  obtain ⟨h11, h12⟩ := He.ba h
  exact ⟨⟨ocB_ok h0, He.eqO_ok h1, of_decide_eq_true h2, of_decide_eq_true h3, h4⟩, He.eqO_ok h5, of_decide_eq_true h6, of_decide_eq_true h7, He.eqO_ok h8, He.eqO_ok h9, He.eqO_ok h10, by simpa using h11, pn, bd, iniX_ok h12⟩
example : (("person" : Str) ≠ ("self" : Str) ∧ (("person" : Str) == ("__debug__" : Str)) = false ∧ (iniScope "person").names.lookup ("person" : Str) = some .local ∧ (iniScope "person").names.lookup ("__class__" : Str) = some .free ∧ (iniScope "person").names.lookup ("super" : Str) = some .globalImplicit) := ⟨by decide, by decide, rfl, rfl, rfl⟩
example : ∀ (q : Str) (body : List Stmt) (q0 q1 : Pos) (kV doc pm cdv ct : Value) (an : Option Addr) (cc : Addr) (u1 u2 : Value), bindArgs (PySem.W.ksFn "__init__" q (iniArgs "person" q0 q1) body (iniScope "person") .none kV doc pm an cdv ct cc) ⟨[u1, u2], []⟩ = pure [(("self" : Str), u1), (("person" : Str), u2)] := fun _ _ _ _ _ _ _ _ _ _ _ _ _ => rfl
/-! ### the look -/
section
variable {fa : List He.Fa} {fn : List He.DefD} {ts : List He.Tab} {tf : List He.Defn} {ex : PySem.W.Frag → Bool} {w : World} {h : Heap} {n : Nat}
/-- the part that is looked at: what the names reach, the statics -/
def partY (g : Addr → Option Obj) (n : Nat) : PySem.W.Frag := He.frT g (cStatics :: He.asD g n)
def obsYK (fa : List He.Fa) (fn : List He.DefD) (ts : List He.Tab) (tf : List He.Defn) (ex : PySem.W.Frag → Bool) (g : Addr → Option Obj) (K : PySem.W.Frag) : He.AlX := (He.obsT fa fn ts K, ex K && He.tabsB g tf K)
def obsY (n : Nat) (fa : List He.Fa) (fn : List He.DefD) (ts : List He.Tab) (tf : List He.Defn) (ex : PySem.W.Frag → Bool) (g : Addr → Option Obj) : He.AlX := obsYK fa fn ts tf ex g (partY g n)
theorem saysY_of (e : obsY n fa fn ts tf ex h.get? = He.valX fn ts w) : He.SaysX fa fn ts tf ex w h (partY h.get? n) := by
  have e1 := congrArg (fun z : He.AlX => z.1) e
  have e2 := congrArg (fun z : He.AlX => z.2) e
  obtain ⟨m1, m2⟩ := He.ba (show (ex (partY h.get? n) && He.tabsB h.get? tf (partY h.get? n)) = true from e2)
  have each : ∀ p ∈ tf, ∃ o, h.get? (He.cT (partY h.get? n) p).2 = some o ∧ He.emptyTab o = true := fun p hp => by
    have m3 := (He.ba (List.all_eq_true.mp m2 p hp)).2
    cases q : h.get? (He.cT (partY h.get? n) p).2 with
    | some o => rw [q] at m3; exact ⟨o, rfl, m3⟩
    | none => rw [q] at m3; cases m3
  exact {
    t := e1
    more := m1
    hd := fun p hp => (He.ba (List.all_eq_true.mp m2 p hp)).1
    out := fun p hp => (each p hp).elim fun o z => He.frT_none z.1 z.2
    empty := fun p hp => (each p hp).elim fun o z => by rw [z.1, He.emptyTab_eq z.2] }
def hookY (n : Nat) (fa : List He.Fa) (fn : List He.DefD) (ts : List He.Tab) (tf : List He.Defn) (ex : PySem.W.Frag → Bool) : PySem.W.Hook where
  α := He.AlX
  obs s := obsY n fa fn ts tf ex s.heap.get?
  val w := He.valX fn ts w
  says w h := ∃ K : PySem.W.Frag, K.In h ∧ He.SaysX fa fn ts tf ex w h K
  of _ _ e := ⟨_, He.frT_in, saysY_of e⟩
  keeps _ _ _ y k := y.elim fun K z => ⟨K, PySem.W.Frag.In.keeps z.1 k, { z.2 with empty := fun p hp => k _ _ (z.2.empty p hp) }⟩
theorem obsY_eq {g : Addr → Option Obj} {s : Shared} (h : ∀ a, g a = s.heap.get? a) : obsY n fa fn ts tf ex g = (hookY n fa fn ts tf ex).obs s := by
  obtain rfl : g = s.heap.get? := funext h
  rfl
end
end DL

/-! DL30 -/
/-! DL30: [..] * n; a, b = x, y with new lists. -/
namespace DL
open PySem PySem.Spec PyProof.Rows L2
section
variable {X : Cx} {J : Jst} {a b : Expr} {pos : Pos}
@[simp] def dRepL (t : DL') (tb : DE) : DL' := fun j ρ P => t j ρ fun ds j1 => tb j1 ρ fun y j2 => ∃ k : Int, y = .int k ∧ 0 ≤ k ∧ k ≤ 1000 ∧ ds.length ≤ 1000 ∧ P (List.replicate k.toNat ds).flatten j2
theorem df_rep {t : DL'} {tb : DE} (ha : PE X a (dF X.K J t)) (hb : PE X b (dE X.K J tb)) : PE X (.BinOp a .Mult b pos) (dF X.K J (dRepL t tb)) :=
  (pe_op op_rep ha hb).imp fun σ H Q ⟨j, F, ρ, P, s, q, k⟩ => ⟨j, F, ρ, _, s, q, fun ds j1 pd l F1 H1 g1 n1 o1 => ⟨j1, F1, ρ, _, s.grow g1, pd, fun y j2 py v F2 H2 g2 r2 => by
    obtain ⟨i, ey, h0, h1, h2, p⟩ := py
    subst ey
    cases r2.int_inv
    obtain ⟨_, _, vs, e1, e2, e3⟩ := o1.grow g2
    have hl : vs.length = ds.length := e3.length
    have a1 : i.toNat * vs.length ≤ 1000 * 1000 := Nat.mul_le_mul (by omega) (by omega)
    have z : (List.replicate i.toNat vs).flatten.length ≤ sizeLine := by
      rw [PyProof.Rows.lm_len_rep_flat, sizeLine_eq]
      omega
    refine ⟨l, i, vs, rfl, rfl, e1, by omega, by omega, by rw [sizeLine_eq, Nat.mul_comm]; omega, fun p' hp => ?_⟩
    exact k _ j2 p p' F2 _ ((g1.trans g2).pure (Gr.own g2.base hp _)) (gr_new (g1.trans g2) hp) ⟨g2.base.fnew hp, g2.base.new hp, _, upd_same, z, e3.rep _⟩⟩⟩
/-! ### a, b = x, y, where a list is owned by its name from now on -/
/-- a value, or a new list -/
def SdN (K : PySem.W.Frag) (J : Jst) (H F' H' : Hp) (v : V) : SD → Prop
  | .val d => Rp K F' v d
  | .own ds => ∃ a, v = .ref a ∧ H a = none ∧ OwnAt K J F' H' a ds
  | .no => False
abbrev DO2 := JS → List SD → (SD → JS → Prop) → Prop
def dO (K : PySem.W.Frag) (J : Jst) (t : DO2) : TE := fun σ H Q => ∃ j F ρ P, SR K (J.at j) F H σ ρ ∧ t j ρ P ∧ ∀ sd j', P sd j' → ∀ v F' H', Gt (J.at j) F H j' F' H' → SdN K (J.at j') H F' H' v sd → Q v H'
@[simp] def oF (t : DL') : DO2 := fun j ρ P => t j ρ fun ds => P (.own ds)
@[simp] def oE (t : DE) : DO2 := fun j ρ P => t j ρ fun d => P (.val d)
theorem do_f {t : DL'} (h : PE X a (dF X.K J t)) : PE X a (dO X.K J (oF t)) :=
  h.imp fun σ H Q ⟨j, F, ρ, P, s, q, k⟩ => ⟨j, F, ρ, _, s, q, fun ds j1 p l F1 H1 g n o => k (.own ds) j1 p _ F1 H1 g ⟨l, rfl, n, o⟩⟩
theorem do_e {t : DE} (h : PE X a (dE X.K J t)) : PE X a (dO X.K J (oE t)) :=
  h.imp fun σ H Q ⟨j, F, ρ, P, s, q, k⟩ => ⟨j, F, ρ, _, s, q, fun d j1 p v F1 H1 g r => k (.val d) j1 p _ F1 H1 g r⟩
theorem SB.setSd {K : PySem.W.Frag} {B : Ent} {j j1 : JS} {F H F1 H1 : Hp} {σ : L2.St} {ρ : List SD} {i : Nat} {v : V} {sd : SD} (s : SB K B j F H σ ρ) (g : Gt (B.J.at B.j0) B.F0 B.H0 j F H) (g1 : Gt (B.J.at j) F H j1 F1 H1) (h : SdN K (B.J.at j1) H F1 H1 v sd) : SB K B j1 F1 H1 (σ.set i (some v)) (put ρ i sd) := by
  cases sd with
  | val d => exact (s.grow g1).setVal h
  | own ds =>
    obtain ⟨l, rfl, n, o⟩ := h
    exact s.setNew g g1 n o
  | no => exact h.elim
@[simp] def dParO (i j : Nat) (ta tb : DO2) : DS := fun E jj ρ => ta jj ρ fun x j1 => tb j1 ρ fun y j2 => E.nx j2 (put (put ρ i x) j y)
theorem ds_parO {B : Ent} {i j : Nat} {x y : Str} {ta tb : DO2} {px py pt : Pos} {kt k2 pt2} (hc : X.calm = true) (hN : X.N.Nodup) (hi : X.N[i]? = some x) (hj : X.N[j]? = some y) (hij : i ≠ j)
    (hx : X.env.scope.names.lookup x = some .local) (hy : X.env.scope.names.lookup y = some .local) (ha : PE X a (dO X.K B.J ta)) (hb : PE X b (dO X.K B.J tb))
    (hw : swappedStores [.Tuple [.Name x px, .Name y py] kt pt] (.Tuple [a, b] k2 pt2) X.env = pure (some [x, y]))
    (hs : swapsWithSole [.Tuple [.Name x px, .Name y py] kt pt] (.Tuple [a, b] k2 pt2) pos.line X.env = pure false := by rfl)
    (he : starEach [a, b] X.env = (false, eval a X.env) :: starEach [b] X.env := by rfl) (he2 : starEach [b] X.env = (false, eval b X.env) :: starEach [] X.env := by rfl) :
    PS X (.Assign [.Tuple [.Name x px, .Name y py] kt pt] (.Tuple [a, b] k2 pt2) pos) (dS X.K B (dParO i j ta tb)) :=
  (ps_par hc hN hi hj hij hx hy (pa_cons ha (pa_cons hb pa_nil he2) he) hw hs).imp fun D σ H ⟨jj, F, ρ, E, s, g, q, k⟩ => ⟨jj, F, ρ, _, s, q, fun x j1 px v F1 H1 g1 n1 => ⟨j1, F1, ρ, _, s.toSR.grow g1, px, fun y j2 py w F2 H2 g2 n2 =>
    ⟨v, w, rfl, k.nx j2 _ F2 H2 _ ((s.setSd g g1 n1).setSd (g.trans g1) g2 n2) ((g.trans g1).trans g2) (g1.ff.trans g2.ff) py⟩⟩⟩
end
end DL

/-! DL31 -/
/-! DL31: xs.insert(i, v), xs[i] = v of an owned list; defs that call themselves. -/
namespace DL
open PySem PySem.Spec PyProof.Rows L2
theorem _root_.L2.PG.imp' {X : Cx} {e : Expr} {t t' : TG} (h : PG X e t) (i : ∀ v σ H Q, t' v σ H Q → t v σ H Q) : PG X e t' := h.imp i
section
variable {X : Cx} {B : Ent} {i : Nat} {o e ix : Expr} {ap cp pos pos' : Pos}
@[simp] def mIns (i : Nat) (t : DL') : DM := fun j ρ P => (∃ ds, slot ρ i = .own ds) ∧ t j ρ fun es j1 => ∃ (ds : List D) (l : Int) (y : D), slot ρ i = .own ds ∧ es = [.int l, y] ∧ 0 ≤ l ∧ l < 2 ^ 40 ∧ ds.length < sizeLine ∧ P .non j1 (put ρ i (.own (ds.take l.toNat ++ [y] ++ ds.drop l.toNat)))
theorem dm_ins {a b : Expr} {t : DL'} (ho : PE X o (tVar i)) (he : PA X [a, b] (dA X.K B.J 2 t))
    (hbase : attributeBase o "insert" X.env (eval o X.env) = eval o X.env := by rfl)
    (hfew : ((backTo cp (starEach [a, b] X.env)).all (fun x => !x.1) && (backToKw cp (keywordEach [] X.env)).all (fun x => x.1.isSome)
      && decide (([a, b] : List Expr).length + ([] : List Keyword).length + (if ([] : List Keyword).isEmpty then 0 else 1) < 30)) = true := by rfl)
    (hline : (ap.endLine == cp.line) = true := by rfl) (hs : starEach [a, b] X.env = (false, eval a X.env) :: starEach [b] X.env := by rfl) (hplain : (backTo cp (starEach [b] X.env)).any (·.1) = false := by rfl) :
    PE X (.Call (.Attribute o "insert" ap) [a, b] [] cp) (dM X.K B (mIns i t)) :=
  (pe_bm PySem.F.plainAttrs_list PySem.F.slot_list_insert PySem.F.type_list_insert (fun pins s σ H x xs v us Q I r1 r2 q => mt_insert pins s σ H x xs v us Q I r1 r2 q) ho he hbase hfew hline hs hplain).imp fun σ H Q ⟨jj, F, ρ, P, s, g, ⟨⟨ds0, e0⟩, q⟩, k⟩ => by
    obtain ⟨a, e2, ⟨o1, o2, vs, o3, o4, o5⟩, h0⟩ := s.ownAt e0
    refine ⟨.ref a, e2, .inl ⟨rfl, vs, .inl (.inl o3)⟩, jj, F, ρ, _, s.toSR, q, fun es j1 le ⟨ds, l, y, e3, ej, l0, l1, hz, pd⟩ ws F1 H1 g1 r => ?_⟩
    subst ej
    match ws, r with
    | [w1, w2], .cons r1 (.cons r2 .nil) =>
      cases r1.int_inv
      have s1 := s.grow g1
      obtain ⟨a', e4, ⟨p1, p2, zs, p3, p4, p5⟩, h1⟩ := s1.ownAt e3
      rw [e2] at e4
      cases e4
      have lz := p5.length
      refine ⟨a, zs, l, w2, rfl, rfl, p3, by omega, l0, by omega, ?_⟩
      have rp : RpAll X.K F1 (zs.take l.toNat ++ [w2] ++ zs.drop l.toNat) (ds.take l.toNat ++ [y] ++ ds.drop l.toNat) := ((p5.take _).append (.cons r2 .nil)).append (p5.drop _)
      have len : (zs.take l.toNat ++ [w2] ++ zs.drop l.toNat).length ≤ sizeLine := by
        simp only [List.length_append, List.length_take, List.length_drop, List.length_singleton]
        omega
      exact k .non j1 _ pd .non F1 _ (s1.upd e3 e2 len rp) ((g.trans g1).wnew h1 p1 p2 _) g1.ff .non
/-- a + b of lists, a new one -/
@[simp] def catLL (P : List D → Prop) : D → D → Prop
  | .lst xs, .lst ys => xs.length + ys.length ≤ sizeLine ∧ P (xs ++ ys)
  | _, _ => False
@[simp] def dCat (ta tb : DE) : DL' := fun j ρ P => ta j ρ fun x j1 => tb j1 ρ fun y j2 => catLL (fun ds => P ds j2) x y
theorem df_cat {J : Jst} {a b : Expr} {ta tb : DE} (ha : PE X a (dR X.K J ta)) (hb : PE X b (dR X.K J tb)) : PE X (.BinOp a .Add b pos) (dF X.K J (dCat ta tb)) :=
  (pe_op op_catL ha hb).imp fun σ H Q ⟨j, F, ρ, P, s, q, k⟩ => ⟨j, F, ρ, _, s, q, fun x j1 px v F1 H1 g1 r1 => ⟨j1, F1, ρ, _, s.grow g1, px, fun y j2 py w F2 H2 g2 r2 => by
    match x, y, py with
    | .lst xs, .lst ys, ⟨hl, pd⟩ =>
      obtain ⟨a1, vs, rfl, t1, l1, e1⟩ := (r1.grow g2).lst_inv g2.base
      obtain ⟨a2, ws, rfl, t2, l2, e2⟩ := r2.lst_inv g2.base
      have z : (vs ++ ws).length ≤ sizeLine := by rw [List.length_append, e1.length, e2.length]; exact hl
      refine ⟨a1, a2, vs, ws, rfl, rfl, t1, t2, by rw [← List.length_append]; exact z, fun p hp => ?_⟩
      exact k _ j2 pd p F2 _ ((g1.trans g2).pure (Gr.own g2.base hp _)) (gr_new (g1.trans g2) hp) ⟨g2.base.fnew hp, g2.base.new hp, _, upd_same, z, e1.append e2⟩⟩⟩
/-- xs[ix] = e -/
@[simp] def dSetAt (i : Nat) (ti te : DE) : DS := fun E j ρ => te j ρ fun d j1 => (∃ ds, slot ρ i = .own ds) ∧ ti j1 ρ fun y j2 => ∃ (ds : List D) (n : Nat), slot ρ i = .own ds ∧ y = .int n ∧ n < ds.length ∧ E.nx j2 (put ρ i (.own (ds.set n d)))
theorem ds_setAt {ti te : DE} (ho : PE X o (tVar i)) (hi : PE X ix (dE X.K B.J ti)) (he : PE X e (dE X.K B.J te)) (hs : swapsWithSole [.Subscript o ix pos'] e pos.line X.env = pure false := by rfl) (hw : swappedStores [.Subscript o ix pos'] e X.env = pure none := by rfl)
    (h1 : (assignEach [.Subscript o ix pos'] X.env).map (·.2) = [assign (.Subscript o ix pos') X.env] := by rfl)
    (hz : ∀ v, assign (.Subscript o ix pos') X.env v = (do let ov ← holding [v] (eval o X.env); let iv ← holding [v, ov] (eval ix X.env); standAt pos'; holding [v, ov, iv] (setItem ov iv v); release [v, ov, iv] []) := by intro _; rfl) : PS X (.Assign [.Subscript o ix pos'] e pos) (dS X.K B (dSetAt i ti te)) :=
  (ps_asg he (pg_sub ho hi set_list hz) hs hw h1).imp fun D σ H ⟨j, F, ρ, E, s, g, q, k⟩ => ⟨j, F, ρ, _, s.toSR, q, fun d j1 ⟨⟨ds0, e0⟩, q1⟩ v F1 H1 g1 r => by
    have s1 := s.grow g1
    obtain ⟨a, e2, _, _⟩ := s1.ownAt e0
    refine ⟨.ref a, e2, j1, F1, ρ, _, s1.toSR, q1, fun y j2 ⟨ds, n, e3, ey, hn, pd⟩ w F2 H2 g2 r2 => ?_⟩
    subst ey
    cases r2.int_inv
    have s2 := s1.grow g2
    obtain ⟨a', e4, ⟨p1, p2, zs, p3, p4, p5⟩, h1⟩ := s2.ownAt e3
    rw [e2] at e4
    cases e4
    have lz := p5.length
    refine ⟨a, zs, n, n, rfl, rfl, p3, ?_, ?_⟩
    · unfold ixN
      rw [if_pos (by omega), if_pos (by omega)]
      simp
    · exact k.nx j2 σ F2 _ _ (s2.upd e3 e2 (by rw [List.length_set]; omega) (p5.set n (r.mono g2.ff))) (((g.trans g1).trans g2).wnew h1 p1 p2 _) (g1.ff.trans g2.ff) pd⟩
end
/-- a def that is not called -/
theorem fnG_none {P : Program} {w : World} {K : PySem.W.Frag} {mg : Str → Option Value} {base : Heap} {T : List (Addr × Str)} {x : Str} {st : Stmt} {ps : List Str} {n k : Nat}
    (Df : ∃ f, (∃ fd, FunD K x x (defArgs st) (defBody st) (defScope st) [] [] f fd) ∧ mg x = some (.ref f))
    (hb : ∀ (kV doc pm : Value) (an : Option Addr) (cdv ct : Value) (us : List Value), us.length = ps.length → bindArgs (PySem.W.fnOf x x (defArgs st) (defBody st) (defScope st) .none kV doc pm an cdv ct) ⟨us, []⟩ = pure (ps.zip us)) : FnG P w K mg base T k x ps n (fun _ _ _ _ => False) := by
  obtain ⟨f, ⟨fd, F⟩, hm⟩ := Df
  exact ⟨f, fd, fun J _ => ⟨fun vs H Q E h => (by obtain ⟨j, F, ds, P, _, _, _, h, _⟩ := h; exact h.elim), fun A outer s H args us vs Q E _ _ _ _ h => (by obtain ⟨j, F, ds, P, _, _, _, h, _⟩ := h; exact h.elim)⟩, hm, F.kp, F.bindsN hb, funD_at F⟩
/-! x == (), whatever x holds -/
def dEq0 : DO
  | .tup xs, .tup [] => fun P => P (.bl xs.isEmpty)
  | x, y => dEqD x y
@[simp] theorem eq0_d (k v : List D) (P : D → Prop) : dEq0 (.dct k v) (.tup []) P = P (.bl false) := rfl
@[simp] theorem eq0_t (xs : List D) (P : D → Prop) : dEq0 (.tup xs) (.tup []) P = P (.bl xs.isEmpty) := rfl
@[simp] theorem eq0_n (P : D → Prop) : dEq0 .non (.tup []) P = P (.bl false) := by
  show (lv 20 .non = true ∧ lv 20 (.tup []) = true ∧ P (.bl (deqv .non (.tup [])))) = _
  rw [show deqv .non (.tup []) = false from rfl]; simp [lv]
@[simp] theorem eq0_b (b : Bool) (P : D → Prop) : dEq0 (.bl b) (.tup []) P = P (.bl false) := by
  show (lv 20 (.bl b) = true ∧ lv 20 (.tup []) = true ∧ P (.bl (deqv (.bl b) (.tup [])))) = _
  rw [show deqv (.bl b) (.tup []) = false from rfl]; simp [lv]
@[simp] theorem eq0_i (b : Int) (P : D → Prop) : dEq0 (.int b) (.tup []) P = P (.bl false) := by
  show (lv 20 (.int b) = true ∧ lv 20 (.tup []) = true ∧ P (.bl (deqv (.int b) (.tup [])))) = _
  rw [show deqv (.int b) (.tup []) = false from rfl]; simp [lv]
@[simp] theorem eq0_s (b : Str) (P : D → Prop) : dEq0 (.str b) (.tup []) P = P (.bl false) := by
  show (lv 20 (.str b) = true ∧ lv 20 (.tup []) = true ∧ P (.bl (deqv (.str b) (.tup [])))) = _
  rw [show deqv (.str b) (.tup []) = false from rfl]; simp [lv]
theorem o_eq0 {X : Cx} {J : Jst} (hu : X.A.units + 100 < cLine) : OpD X J (compareOp .Eq) dEq0 := by
  intro j F H x y dx dy P Q b rx ry h k
  have gen : dEqD dx dy P → OpAt X (compareOp .Eq) x y H Q := fun h => o_eqD hu j F H x y dx dy P Q b rx ry h k
  match dx, dy, h with
  | .tup xs, .tup [], h =>
    intro pins s σ v u I qx qy
    obtain ⟨a1, vs, rfl, t1, l1, r1⟩ := rx.tup_inv b
    obtain ⟨a2, ws, rfl, t2, l2, r2⟩ := ry.tup_inv b
    cases qx
    cases qy
    cases r2
    obtain ⟨its, e1, hT, _⟩ := I.tuple t1.sq
    obtain ⟨its2, e2, hT2, _⟩ := I.tuple t2.sq
    cases e2
    have sz : its.toArray.size = xs.length := by rw [List.size_toArray, ← e1.length, r1.length]
    have key := PySem.SeqAt.RcAt.tuples (A := X.A) (e := fun _ => true) hT hT2 (by omega) (fun j _ h2 => absurd h2 (by simp))
    refine key X.prog X.w _ _ ?_
    refine ⟨.bl _, H, I, rfl, okk b h k ?_⟩
    have e : ((List.range (min its.toArray.size (#[] : Array Value).size)).all (fun _ => true) && its.toArray.size == (#[] : Array Value).size) = xs.isEmpty := by
      rw [sz]
      cases xs <;> simp
    rw [show (([] : List Value).toArray) = (#[] : Array Value) from rfl, e]
    exact .bl _
  | .non, dy, h => exact gen (by cases dy <;> exact h)
  | .bl _, dy, h => exact gen (by cases dy <;> exact h)
  | .int _, dy, h => exact gen (by cases dy <;> exact h)
  | .str _, dy, h => exact gen (by cases dy <;> exact h)
  | .lst _, dy, h => exact gen (by cases dy <;> exact h)
  | .ref _, dy, h => exact gen (by cases dy <;> exact h)
  | .ty _, dy, h => exact gen (by cases dy <;> exact h)
  | .exc _ _ _, dy, h => exact gen (by cases dy <;> exact h)
  | .clo _ _, dy, h => exact gen (by cases dy <;> exact h)
  | .dct _ _, dy, h => exact gen (by cases dy <;> exact h)
  | .tup xs, .tup (y :: r), h => exact gen h
  | .tup xs, .non, h => exact gen h
  | .tup xs, .bl _, h => exact gen h
  | .tup xs, .int _, h => exact gen h
  | .tup xs, .str _, h => exact gen h
  | .tup xs, .lst _, h => exact gen h
  | .tup xs, .ref _, h => exact gen h
  | .tup xs, .ty _, h => exact gen h
  | .tup xs, .exc _ _ _, h => exact gen h
  | .tup xs, .clo _ _, h => exact gen h
  | .tup xs, .dct _ _, h => exact gen h
end DL

/-! LB -/
/-! LB: a law's loops and sizes. -/
namespace DL
open PySem PySem.Spec PyProof.Rows L2
theorem seq_ab {a b : DS} {E : DEnds} {j : JS} {ρ : List SD} (h : ∀ E' : DEnds, (∀ j ρ, b E j ρ → E'.nx j ρ) → a E' j ρ) : dSeq a b E j ρ := h _ fun _ _ h => h
/-- a loop that keeps what is said of the slots -/
theorem for_ok {α : Type} (en : α → D) {g : DG} {tb : DS} {E : DEnds} {j : JS} (I : List SD → Prop) : ∀ (l : List α) (ρ : List SD), I ρ → (∀ a ∈ l, ∀ ρ, I ρ → ∀ E' : DEnds, (∀ ρ', I ρ' → E'.nx j ρ') → g (en a) ρ (tb E' j)) → (∀ ρ, I ρ → E.nx j ρ) → forW g tb E (l.map en) j ρ
  | [], ρ, h, _, k => k ρ h
  | a :: l, ρ, h, st, k => st a List.mem_cons_self ρ h _ fun ρ' h' => for_ok en I l ρ' h' (fun b hb => st b (List.mem_cons_of_mem _ hb)) k
theorem for_okD {g : DG} {tb : DS} {E : DEnds} {j : JS} (I : List SD → Prop) (l : List D) (ρ : List SD) (h : I ρ) (st : ∀ a ∈ l, ∀ ρ, I ρ → ∀ E' : DEnds, (∀ ρ', I ρ' → E'.nx j ρ') → g a ρ (tb E' j)) (k : ∀ ρ, I ρ → E.nx j ρ) : forW g tb E l j ρ := by
  have := for_ok (en := id) (tb := tb) (g := g) (E := E) (j := j) I l ρ h st k
  rwa [List.map_id] at this
/-- .. and the draws go on -/
theorem for_inv {α : Type} (en : α → D) {g : DG} {tb : DS} {E : DEnds} (I : Nat → JS → List SD → Prop) : ∀ (l : List α) (i : Nat) (j : JS) (ρ : List SD), I i j ρ → (∀ a ∈ l, ∀ i j ρ, I i j ρ → ∀ E' : DEnds, (∀ j' ρ', I (i + 1) j' ρ' → E'.nx j' ρ') → g (en a) ρ (tb E' j)) → (∀ j' ρ', I (i + l.length) j' ρ' → E.nx j' ρ') → forW g tb E (l.map en) j ρ
  | [], i, j, ρ, h, _, k => k j ρ h
  | a :: l, i, j, ρ, h, st, k => st a List.mem_cons_self i j ρ h _ fun j' ρ' h' => for_inv en I l (i + 1) j' ρ' h' (fun b hb => st b (List.mem_cons_of_mem _ hb)) fun j2 ρ2 h2 => k j2 ρ2 (by rw [List.length_cons, Nat.add_comm l.length 1, ← Nat.add_assoc]; exact h2)
theorem for_invD {g : DG} {tb : DS} {E : DEnds} (I : Nat → JS → List SD → Prop) (l : List D) (j : JS) (ρ : List SD) (h : I 0 j ρ) (st : ∀ a ∈ l, ∀ i j ρ, i < l.length → I i j ρ → ∀ E' : DEnds, (∀ j' ρ', I (i + 1) j' ρ' → E'.nx j' ρ') → g a ρ (tb E' j)) (k : ∀ j' ρ', I l.length j' ρ' → E.nx j' ρ') : forW g tb E l j ρ := by
  have key := for_inv (en := id) (tb := tb) (g := g) (E := E) (fun i j ρ => i ≤ l.length ∧ (i = l.length ∨ I i j ρ) ∧ I i j ρ)
  clear key
  have go : ∀ (l' : List D) (i : Nat) (j : JS) (ρ : List SD), (∀ a ∈ l', a ∈ l) → i + l'.length = l.length → I i j ρ → forW g tb E l' j ρ := by
    intro l'
    induction l' with
    | nil =>
      intro i j ρ _ e h
      have e : i = l.length := by simpa using e
      subst e
      exact k j ρ h
    | cons a r ih =>
      intro i j ρ hm e h
      rw [List.length_cons] at e
      exact st a (hm a List.mem_cons_self) i j ρ (by omega) h _ fun j' ρ' h' => ih (i + 1) j' ρ' (fun b hb => hm b (List.mem_cons_of_mem _ hb)) (by omega) h'
  exact go l 0 j ρ (fun a h => h) (Nat.zero_add _) h
/-! sizes -/
theorem size_stD : ∀ l : List Str, sizeAllD (stD l) = l.length
  | [] => rfl
  | x :: r => by simp only [stD, List.map_cons, sizeAllD, sizeD, List.length_cons]; have := size_stD r; unfold stD at this; omega
theorem size_lots : ∀ ls : List (List Str), (∀ l ∈ ls, l.length ≤ 6) → sizeAllD (ls.map lotD) ≤ 7 * ls.length
  | [], _ => by simp [sizeAllD]
  | x :: r, h => by
    have h1 := h x List.mem_cons_self
    have h2 := size_lots r fun l hl => h l (List.mem_cons_of_mem _ hl)
    have h3 := size_stD x
    have h4 : sizeD (lotD x) = 1 + sizeAllD (stD x) := by unfold lotD; rw [sizeD]
    rw [List.map_cons, sizeAllD, List.length_cons]
    omega
theorem lv_lots (n : Nat) (ls : List (List Str)) : lv (n + 2) (.tup (ls.map lotD)) = true := by
  rw [lv_tup, List.all_eq_true]
  intro d hd
  obtain ⟨l, _, rfl⟩ := List.mem_map.mp hd
  exact lv_stD n l
theorem lv_lotsL (n : Nat) (ls : List (List Str)) : lv (n + 2) (.lst (ls.map lotD)) = true := by
  rw [lv_lst, List.all_eq_true]
  intro d hd
  obtain ⟨l, _, rfl⟩ := List.mem_map.mp hd
  exact lv_stD n l
theorem lv_lot (n : Nat) (l : List Str) : lv (n + 1) (lotD l) = true := lv_stD n l
theorem P6 {c : Cr} (g : GoodC c) : c.P.length ≤ 6 := by have := g.names.2.1; omega
theorem lots_few {c : Cr} (g : GoodC c) : (lotsOf c.P).length ≤ 64 ∧ ∀ l ∈ lotsOf c.P, l.length ≤ 6 := by
  refine ⟨?_, fun l hl => Nat.le_trans (len_le ((mem_lots g.names.2.2.2).mp hl)) (P6 g)⟩
  unfold lotsOf
  rw [List.length_mergeSort]
  unfold pw
  rw [pw_len]
  have : 2 ^ c.P.length ≤ 2 ^ 6 := Nat.pow_le_pow_right (by decide) (P6 g)
  simp
  omega
theorem sub_few {c : Cr} (g : GoodC c) {ls : List (List Str)} (h : ls.Sublist (lotsOf c.P)) : sizeAllD (ls.map lotD) ≤ 7 * 64 := by
  have h1 := lots_few g
  have h2 := size_lots ls fun l hl => h1.2 l (h.subset hl)
  have h3 := h.length_le
  omega
theorem deqv_lot (a b : List Str) : deqv (lotD a) (lotD b) = decide (a = b) := deqv_stD a b
theorem deqv_lotE (a : List Str) : deqv (lotD a) (.tup []) = decide (a = []) := deqv_stD a []
theorem hasIn_lots (ls : List (List Str)) (l : List Str) : hasIn (ls.map lotD) (lotD l) = decide (l ∈ ls) := by
  unfold hasIn
  rw [Bool.eq_iff_iff, List.any_map, List.any_eq_true, decide_eq_true_eq]
  constructor
  · rintro ⟨x, h1, h2⟩
    have h3 : deqv (lotD x) (lotD l) = true := h2
    rw [deqv_lot, decide_eq_true_eq] at h3
    rw [← h3]; exact h1
  · intro h
    refine ⟨l, h, ?_⟩
    show deqv (lotD l) (lotD l) = true
    rw [deqv_lot]; simp
theorem dEq_same {x : D} {P : D → Prop} {xs : List D} (e : x = .tup xs) (h : lv 20 (.tup xs) = true) (h2 : deqv (.tup xs) (.tup xs) = true) (k : P (.bl true)) : dEq x (.tup xs) P := by
  subst e
  refine ⟨h, h, ?_⟩
  rw [h2]; exact k
/-- a slice of what is written by en -/
theorem cut_map {α : Type} (en : α → D) (l : List α) (lo hi : Option Int) : ∃ l' : List α, cutD (l.map en) lo hi = l'.map en ∧ ∀ a ∈ l', a ∈ l := by
  refine ⟨(l.drop (HT.sIx (l.map en).length 0 lo)).take (HT.sIx (l.map en).length (l.map en).length hi - HT.sIx (l.map en).length 0 lo), ?_, fun a ha => List.mem_of_mem_drop (List.mem_of_mem_take ha)⟩
  unfold cutD
  rw [← List.map_drop, ← List.map_take]
theorem cut_mem {l : List D} {lo hi : Option Int} {d : D} (h : d ∈ cutD l lo hi) : d ∈ l := List.mem_of_mem_drop (List.mem_of_mem_take h)
theorem cut_len (l : List D) (lo hi : Option Int) : (cutD l lo hi).length ≤ l.length := by
  unfold cutD
  rw [List.length_take, List.length_drop]
  omega
/-- data with texts and numbers below lists of lots -/
theorem lot_tup (l : List Str) : lotD l = .tup (stD l) := rfl
/-! lots and texts compared, in closed form -/
@[simp high] theorem dEq_lot (a b : List Str) (P : D → Prop) : dEq (lotD a) (lotD b) P = P (.bl (decide (a = b))) := by
  show (lv 20 (lotD a) = true ∧ lv 20 (lotD b) = true ∧ P (.bl (deqv (lotD a) (lotD b)))) = _
  rw [lv_lot, lv_lot, deqv_lot]; simp
@[simp high] theorem dNe_lot (a b : List Str) (P : D → Prop) : dNe (lotD a) (lotD b) P = P (.bl (!decide (a = b))) := by
  show (lv 20 (lotD a) = true ∧ lv 20 (lotD b) = true ∧ P (.bl (!deqv (lotD a) (lotD b)))) = _
  rw [lv_lot, lv_lot, deqv_lot]; simp
@[simp high] theorem dEq_lot0 (a : List Str) (P : D → Prop) : dEq (lotD a) (.tup []) P = P (.bl (decide (a = []))) := dEq_lot a [] P
@[simp high] theorem dNe_lot0 (a : List Str) (P : D → Prop) : dNe (lotD a) (.tup []) P = P (.bl (!decide (a = []))) := dNe_lot a [] P
@[simp high] theorem dIn_lot (x : Str) (l : List Str) (P : D → Prop) : dIn (.str x) (lotD l) P = P (.bl (decide (x ∈ l))) := by
  show (lv 20 (.str x) = true ∧ lv 20 (lotD l) = true ∧ P (.bl (hasIn (stD l) (.str x)))) = _
  rw [lv_lot, lv_str, hasIn_stD]; simp
@[simp high] theorem dNin_lot (x : Str) (l : List Str) (P : D → Prop) : dNin (.str x) (lotD l) P = P (.bl (!decide (x ∈ l))) := by
  show (lv 20 (.str x) = true ∧ lv 20 (lotD l) = true ∧ P (.bl (!hasIn (stD l) (.str x)))) = _
  rw [lv_lot, lv_str, hasIn_stD]; simp
@[simp high] theorem dIn_lots (l : List Str) (ls : List (List Str)) (P : D → Prop) : dIn (lotD l) (.lst (ls.map lotD)) P = P (.bl (decide (l ∈ ls))) := by
  show (lv 20 (lotD l) = true ∧ lv 20 (.lst (ls.map lotD)) = true ∧ P (.bl (hasIn (ls.map lotD) (lotD l)))) = _
  rw [lv_lot, lv_lotsL, hasIn_lots]; simp
@[simp high] theorem dNin_lots (l : List Str) (ls : List (List Str)) (P : D → Prop) : dNin (lotD l) (.lst (ls.map lotD)) P = P (.bl (!decide (l ∈ ls))) := by
  show (lv 20 (lotD l) = true ∧ lv 20 (.lst (ls.map lotD)) = true ∧ P (.bl (!hasIn (ls.map lotD) (lotD l)))) = _
  rw [lv_lot, lv_lotsL, hasIn_lots]; simp
@[simp high] theorem dNe_strs0 (l : List Str) (P : D → Prop) : dNe (.lst (stD l)) (.lst []) P = P (.bl (!decide (l = []))) := by
  show (lv 20 (.lst (stD l)) = true ∧ lv 20 (.lst []) = true ∧ P (.bl (!deqv (.lst (stD l)) (.lst [])))) = _
  rw [lv_stDL, deqv_nilL]
  cases l <;> simp [lv]
@[simp high] theorem dEq_strs0 (l : List Str) (P : D → Prop) : dEq (.lst (stD l)) (.lst []) P = P (.bl (decide (l = []))) := by
  show (lv 20 (.lst (stD l)) = true ∧ lv 20 (.lst []) = true ∧ P (.bl (deqv (.lst (stD l)) (.lst [])))) = _
  rw [lv_stDL, deqv_nilL]
  cases l <;> simp [lv]
@[simp high] theorem dNe_ones0 (n : Nat) (P : D → Prop) : dNe (.lst (ones n)) (.lst []) P = P (.bl (!decide (n = 0))) := by
  show (lv 20 (.lst (ones n)) = true ∧ lv 20 (.lst []) = true ∧ P (.bl (!deqv (.lst (ones n)) (.lst [])))) = _
  rw [lv_ones, deqv_ones]
  simp [lv]
@[simp high] theorem dEq_ones0 (n : Nat) (P : D → Prop) : dEq (.lst (ones n)) (.lst []) P = P (.bl (decide (n = 0))) := by
  show (lv 20 (.lst (ones n)) = true ∧ lv 20 (.lst []) = true ∧ P (.bl (deqv (.lst (ones n)) (.lst [])))) = _
  rw [lv_ones, deqv_ones]
  simp [lv]
theorem atI_nn {α : Type} (l : List α) (n : Nat) : atI l (n : Int) = l[n]? := DL.atI_nat l n
end DL

/-! PV -/
/-! PV: any values: what is asked of them, lots judged. -/
namespace DL
open PySem PySem.Spec PyProof.Rows L2
/-- no objects, short tuples, so deep -/
def pv : Nat → D → Prop
  | 0, x => noRef x = true
  | n + 1, x => noRef x = true ∧ ∀ xs, x = .tup xs → xs.length ≤ 60 ∧ ∀ y ∈ xs, pv n y ∧ isLstD y = false
theorem pv_ref {n : Nat} {x : D} (h : pv n x) : noRef x = true := by
  cases n with
  | zero => exact h
  | succ n => exact h.1
theorem pv_tup {n : Nat} {xs : List D} (h : pv (n + 1) (.tup xs)) : xs.length ≤ 60 ∧ ∀ y ∈ xs, pv n y := ⟨(h.2 xs rfl).1, fun y hy => ((h.2 xs rfl).2 y hy).1⟩
theorem pv_nl {n : Nat} {xs : List D} (h : pv (n + 1) (.tup xs)) : ∀ y ∈ xs, isLstD y = false := fun y hy => ((h.2 xs rfl).2 y hy).2
theorem pv_less : ∀ {n : Nat} {x : D}, pv (n + 1) x → pv n x
  | 0, _, h => h.1
  | n + 1, x, h => ⟨h.1, fun xs e => ⟨(h.2 xs e).1, fun y hy => ⟨pv_less ((h.2 xs e).2 y hy).1, ((h.2 xs e).2 y hy).2⟩⟩⟩
theorem pv_leaf {x : D} (h : noRef x = true) (t : ∀ xs, x ≠ .tup xs) : ∀ n, pv n x
  | 0 => h
  | n + 1 => ⟨h, fun xs e => absurd e (t xs)⟩
theorem pv_mk {n : Nat} {xs : List D} (h : xs.length ≤ 60) (h2 : ∀ y ∈ xs, pv n y ∧ isLstD y = false) : pv (n + 1) (.tup xs) := ⟨rfl, fun ys e => by cases e; exact ⟨h, h2⟩⟩
theorem pv_str (n : Nat) (s : Str) : pv n (.str s) := pv_leaf rfl (fun _ e => by cases e) n
theorem pv_lot (n : Nat) {l : List Str} (h : l.length ≤ 60) : pv (n + 1) (lotD l) := pv_mk (by simpa using h) fun y hy => by
  obtain ⟨s, _, rfl⟩ := List.mem_map.mp hy
  exact ⟨pv_str n s, rfl⟩
/-! values, wholly plain: w bounds the widths -/
mutual
def hpw (w : Nat) : D → Bool
  | .non => true
  | .bl _ => true
  | .str s => decide (s.length ≤ 1000)
  | .int i => decide (i.natAbs ≤ 1000000 + w)
  | .tup xs => decide (xs.length ≤ w) && hpwAll w xs
  | .dct [] [] => true
  | _ => false
def hpwAll (w : Nat) : List D → Bool
  | [] => true
  | x :: r => hpw w x && hpwAll w r
end
mutual
def dep : D → Nat
  | .tup xs => depAll xs + 1
  | _ => 0
def depAll : List D → Nat
  | [] => 0
  | x :: r => max (dep x) (depAll r)
end
theorem hpwAll_iff {w : Nat} : ∀ {xs : List D}, hpwAll w xs = true ↔ ∀ x ∈ xs, hpw w x = true
  | [] => by simp [hpwAll]
  | x :: r => by simp only [hpwAll, Bool.and_eq_true, hpwAll_iff (xs := r), List.forall_mem_cons]
theorem hpw_tup {w : Nat} {xs : List D} : hpw w (.tup xs) = true ↔ xs.length ≤ w ∧ ∀ x ∈ xs, hpw w x = true := by
  simp only [hpw, Bool.and_eq_true, decide_eq_true_eq, hpwAll_iff]
mutual
theorem hpw_mono {w w' : Nat} (h : w ≤ w') : ∀ {x : D}, hpw w x = true → hpw w' x = true
  | .non, _ => rfl
  | .bl _, _ => rfl
  | .str _, q => q
  | .int _, q => by simp only [hpw, decide_eq_true_eq] at q ⊢; omega
  | .tup xs, q => by
    simp only [hpw, Bool.and_eq_true, decide_eq_true_eq] at q ⊢
    exact ⟨Nat.le_trans q.1 h, hpwAll_mono h q.2⟩
  | .dct [] [], _ => rfl
  | .dct (_ :: _) _, q => nomatch q
  | .dct [] (_ :: _), q => nomatch q
  | .lst _, q => nomatch q
  | .ref _, q => nomatch q
  | .ty _, q => nomatch q
  | .exc _ _ _, q => nomatch q
  | .clo _ _, q => nomatch q
theorem hpwAll_mono {w w' : Nat} (h : w ≤ w') : ∀ {xs : List D}, hpwAll w xs = true → hpwAll w' xs = true
  | [], _ => rfl
  | x :: r, q => by
    simp only [hpwAll, Bool.and_eq_true] at q ⊢
    exact ⟨hpw_mono h q.1, hpwAll_mono h q.2⟩
end
theorem dep_mem : ∀ {xs : List D} {x : D}, x ∈ xs → dep x ≤ depAll xs
  | y :: r, x, h => by
    simp only [depAll]
    rcases List.mem_cons.mp h with rfl | h
    · omega
    · have := dep_mem h
      omega
theorem pv_hpw {w : Nat} (hw : w ≤ 60) : ∀ (n : Nat) {x : D}, hpw w x = true → pv n x
  | 0, x, h => by
    show noRef x = true
    cases x <;> first | rfl | cases h
  | n + 1, x, h => ⟨pv_hpw hw 0 h, fun xs e => by
    subst e
    obtain ⟨h1, h2⟩ := hpw_tup.mp h
    exact ⟨Nat.le_trans h1 hw, fun y hy => ⟨pv_hpw hw n (h2 y hy), by
      have := h2 y hy
      cases y <;> first | rfl | cases this⟩⟩⟩
/-! texts among values -/
theorem strs_all : ∀ {xs : List D}, (∀ x ∈ xs, isStrD x = true) → ∃ l, xs = stD l
  | [], _ => ⟨[], rfl⟩
  | x :: r, h => by
    obtain ⟨l, rfl⟩ := strs_all fun y hy => h y (List.mem_cons_of_mem _ hy)
    have := h x List.mem_cons_self
    cases x with
    | str s => exact ⟨s :: l, rfl⟩
    | _ => cases this
theorem strsOf_some : ∀ {xs : List D} {l : List Str}, strsOf xs = some l → xs = stD l
  | [], l, h => by cases h; rfl
  | x :: r, l, h => by
    cases x with
    | str s =>
      have h : (strsOf r).map (s :: ·) = some l := h
      cases e : strsOf r with
      | none => rw [e] at h; cases h
      | some m =>
        rw [e] at h
        cases h
        rw [strsOf_some e]
        rfl
    | _ => cases h
theorem strsOf_none {xs : List D} (h : strsOf xs = none) : ∃ x ∈ xs, isStrD x = false := by
  apply Classical.byContradiction
  intro z
  obtain ⟨l, rfl⟩ := strs_all (xs := xs) fun x hx => by
    cases q : isStrD x with
    | true => rfl
    | false => exact absurd ⟨x, hx, q⟩ z
  rw [strsOf_stD] at h
  cases h
def adjB (l : List Str) : Bool := (l.zip l.tail).all fun p => decide (key p.1 < key p.2)
theorem adjB_iff {l : List Str} : adjB l = true ↔ asc l := by
  unfold adjB
  rw [List.all_eq_true]
  exact ⟨fun h => asc_of_adj fun p hp => of_decide_eq_true (h p hp), fun h p hp => decide_eq_true (asc_tail_zip h p hp)⟩
def isLotB (P : List Str) : D → Bool
  | .tup xs => (match strsOf xs with
    | some l => l.all (fun x => decide (x ∈ P)) && adjB l
    | none => false)
  | _ => false
theorem isLotB_lot (P l : List Str) : isLotB P (lotD l) = (l.all (fun x => decide (x ∈ P)) && adjB l) := by
  show (match strsOf (stD l) with | some l => l.all (fun x => decide (x ∈ P)) && adjB l | none => false) = _
  rw [strsOf_stD]
theorem isLotB_ok {P l : List Str} : isLotB P (lotD l) = true ↔ okL P l := by
  rw [isLotB_lot, Bool.and_eq_true, adjB_iff, List.all_eq_true]
  exact ⟨fun ⟨h1, h2⟩ => ⟨h2, fun x hx => of_decide_eq_true (h1 x hx)⟩, fun ⟨h1, h2⟩ => ⟨fun x hx => decide_eq_true (h2 x hx), h1⟩⟩
theorem isLotB_iff {P : List Str} {v : D} : isLotB P v = true ↔ ∃ l, v = lotD l ∧ okL P l := by
  constructor
  · intro h
    cases v with
    | tup xs =>
      cases e : strsOf xs with
      | none =>
        have : isLotB P (.tup xs) = false := by simp only [isLotB, e]
        rw [this] at h; cases h
      | some l =>
        have e := strsOf_some e
        subst e
        exact ⟨l, rfl, isLotB_ok.mp h⟩
    | _ => cases h
  · rintro ⟨l, rfl, h⟩
    exact isLotB_ok.mpr h
theorem leaf_judged {P : List Str} {v : D} (t : ∀ xs, v ≠ .tup xs) (r : noRef v = true) (q : isLotB P v = false) : isLotB P v = false ∧ (∀ xs, v = .tup xs → xs.length ≤ 20) ∧ noRef v = true ∧ ∀ xs, v = .tup xs → ∀ x ∈ xs, noRef x = true ∧ isLstD x = false := ⟨q, fun xs e => absurd e (t xs), r, fun xs e => absurd e (t xs)⟩
theorem noLot_judged {P : List Str} {v : D} (h : noLot P v) : isLotB P v = false ∧ (∀ xs, v = .tup xs → xs.length ≤ 20) ∧ noRef v = true ∧ ∀ xs, v = .tup xs → ∀ x ∈ xs, noRef x = true ∧ isLstD x = false := by
  cases v with
  | tup xs =>
    rcases h with ⟨ys, rfl, h1, h2, p, hp, h3⟩ | ⟨h1, h2, x, hx, h3⟩
    · refine ⟨?_, fun xs e => by cases e; simpa using h2, rfl, fun xs e x hx => ?_⟩
      · rw [show D.tup (stD ys) = lotD ys from rfl, isLotB_lot]
        have : adjB ys = false := by
          unfold adjB
          rw [List.all_eq_false]
          exact ⟨p, hp, by simpa using h3⟩
        rw [this, Bool.and_false]
      · cases e
        obtain ⟨s, _, rfl⟩ := List.mem_map.mp hx
        exact ⟨rfl, rfl⟩
    · refine ⟨?_, fun ys e => by cases e; exact h1, rfl, fun ys e y hy => ?_⟩
      · cases q : isLotB P (.tup xs) with
        | false => rfl
        | true =>
          obtain ⟨l, e, ok⟩ := isLotB_iff.mp q
          have e : xs = stD l := by unfold lotD at e; injection e
          rw [e] at hx
          obtain ⟨s, hs, rfl⟩ := List.mem_map.mp hx
          exact absurd rfl (h3 s (ok.2 s hs))
      · cases e
        rcases h2 y hy with ⟨i, rfl⟩ | ⟨s, rfl⟩ <;> exact ⟨rfl, rfl⟩
  | lst xs => exact leaf_judged (fun _ e => by cases e) rfl rfl
  | ref _ => cases h
  | ty _ => cases h
  | exc _ _ _ => cases h
  | clo _ _ => cases h
  | non => exact leaf_judged (fun _ e => by cases e) rfl rfl
  | bl _ => exact leaf_judged (fun _ e => by cases e) rfl rfl
  | int _ => exact leaf_judged (fun _ e => by cases e) rfl rfl
  | str _ => exact leaf_judged (fun _ e => by cases e) rfl rfl
  | dct _ _ => exact leaf_judged (fun _ e => by cases e) rfl rfl
theorem pv1_of {v : D} (h : noRef v = true) (h1 : ∀ xs, v = .tup xs → xs.length ≤ 20) (h2 : ∀ xs, v = .tup xs → ∀ x ∈ xs, noRef x = true ∧ isLstD x = false) : pv 1 v := ⟨h, fun xs e => ⟨Nat.le_trans (h1 xs e) (by decide), h2 xs e⟩⟩
/-- == () -/
def isNilT : D → Bool
  | .tup [] => true
  | _ => false
theorem eq0_any {y : D} (h : noRef y = true) (h2 : isLstD y = false) (P : D → Prop) : dEq0 y (.tup []) P = P (.bl (isNilT y)) := by
  cases y with
  | tup xs =>
    rw [eq0_t]
    cases xs <;> rfl
  | lst _ => cases h2
  | ref _ => cases h
  | ty _ => cases h
  | exc _ _ _ => cases h
  | clo _ _ => cases h
  | non => exact eq0_n P
  | bl _ => exact eq0_b _ P
  | int _ => exact eq0_i _ P
  | str _ => exact eq0_s _ P
  | dct _ _ => exact eq0_d _ _ P
end DL

/-! C5 -/
/-! C5: rows in which all others take a habit, or a lot that keeps to itself. -/
namespace DL
open PySem PySem.Spec PyProof.Rows L2
/-- who take the habit one by one -/
def rowB (c : Cr) : Nat → List Str → List Str
  | 0, _ => []
  | n + 1, here => match taken c here with
    | [] => []
    | x :: _ => x :: rowB c n (sortS (here ++ [x]))
/-- each of a row takes it from those ahead -/
def goT (c : Cr) : List Str → List Str → Bool
  | _, [] => true
  | pre, p :: r => takes c pre p && goT c (pre ++ [p]) r
def rowOk (c : Cr) (lot : List Str) : D → Bool
  | .tup xs => (match strsOf xs with
    | some l => decide (sortS l = others c lot) && goT c lot l
    | none => false)
  | _ => false
def keptOk (c : Cr) (lot : List Str) (v : D) : Bool := isLotB c.P v && (match v with
  | .tup xs => (match strsOf xs with
    | some l => decide (l ≠ []) && (apart c l && l.all fun x => decide (x ∉ lot))
    | none => false)
  | _ => false)
/-- any value is a row in which all others take the habit, or a lot of others that keeps to itself -/
def reachB (c : Cr) (lot : List Str) : D → Bool
  | .tup [.str w, y] => if w = Str.ofString "row" then rowOk c lot y else if w = Str.ofString "kept" then keptOk c lot y else false
  | _ => false
def reachV (c : Cr) (lot : List Str) : D := if others c (reach c lot) = [] then .tup [.str (Str.ofString "row"), lotD (rowB c c.P.length lot)] else .tup [.str (Str.ofString "kept"), lotD (others c (reach c lot))]
section
variable {c : Cr}
theorem row_fix {n : Nat} {l : List Str} (h : taken c l = []) : rowB c n l = [] := by
  cases n with
  | zero => rfl
  | succ n => simp [rowB, h]
theorem row_go {n : Nat} {l : List Str} {x : Str} {r : List Str} (h : taken c l = x :: r) : rowB c (n + 1) l = x :: rowB c n (sortS (l ++ [x])) := by simp [rowB, h]
theorem one_ok (g : GoodC c) {l : List Str} (h : okL c.P l) {x : Str} (h1 : x ∈ c.P) (h2 : x ∉ l) : okL c.P (sortS (l ++ [x])) := by
  refine ⟨sortS_asc ?_, fun y hy => ?_⟩
  · rw [List.nodup_append]
    refine ⟨asc_nodup h.1, by simp, fun a ha b hb e => ?_⟩
    simp at hb
    subst hb e
    exact h2 ha
  · rcases List.mem_append.mp (sortS_mem.mp hy) with z | z
    · exact h.2 y z
    · simp at z; subst z; exact h1
theorem one_len (l : List Str) (x : Str) : (sortS (l ++ [x])).length = l.length + 1 := by rw [(sortS_perm _).length_eq]; simp
theorem takes_same (g : GoodC c) {a b : List Str} (h : ∀ x, x ∈ a ↔ x ∈ b) (p : Str) : takes c a p = takes c b p := by
  rw [Bool.eq_iff_iff]
  exact ⟨takes_mono g fun x hx => (h x).mp hx, takes_mono g fun x hx => (h x).mpr hx⟩
theorem go_same (g : GoodC c) : ∀ (l : List Str) {a b : List Str}, (∀ x, x ∈ a ↔ x ∈ b) → goT c a l = goT c b l
  | [], _, _, _ => rfl
  | p :: r, a, b, h => by
    simp only [goT]
    rw [takes_same g h p, go_same g r (a := a ++ [p]) (b := b ++ [p]) fun x => by simp [h x]]
/-- the told row -/
theorem row_spec (g : GoodC c) : ∀ (n : Nat) (here : List Str), okL c.P here → c.P.length ≤ here.length + n →
    goT c here (rowB c n here) = true ∧ (rowB c n here).Nodup ∧ (∀ x ∈ rowB c n here, x ∈ c.P ∧ x ∉ here) ∧ ∃ S, fix c S ∧ ∀ x, x ∈ S ↔ x ∈ here ∨ x ∈ rowB c n here := by
  intro n
  induction n with
  | zero =>
    intro here ok hn
    refine ⟨rfl, .nil, (fun x hx => absurd hx List.not_mem_nil), here, ?_, fun x => by simp [rowB]⟩
    unfold fix
    rw [List.eq_nil_iff_forall_not_mem]
    intro p hp
    obtain ⟨h1, h2, _⟩ := taken_mem.mp hp
    have := len_le (one_ok g ok h1 h2)
    rw [one_len] at this
    omega
  | succ n ih =>
    intro here ok hn
    cases e : taken c here with
    | nil =>
      rw [row_fix e]
      exact ⟨rfl, .nil, (fun x hx => absurd hx List.not_mem_nil), here, e, fun x => by simp⟩
    | cons x r =>
      rw [row_go e]
      obtain ⟨h1, h2, h3⟩ := taken_mem.mp (show x ∈ taken c here by rw [e]; exact List.mem_cons_self)
      have ok' := one_ok g ok h1 h2
      obtain ⟨a1, a2, a3, S, a4, a5⟩ := ih _ ok' (by rw [one_len]; omega)
      have m : ∀ y, y ∈ sortS (here ++ [x]) ↔ y ∈ here ++ [x] := fun y => sortS_mem
      refine ⟨?_, ?_, ?_, S, a4, ?_⟩
      · simp only [goT]
        rw [h3, Bool.true_and, ← go_same g _ m]
        exact a1
      · rw [List.nodup_cons]
        exact ⟨fun hx => (a3 x hx).2 ((m x).mpr (by simp)), a2⟩
      · intro y hy
        rcases List.mem_cons.mp hy with rfl | hy
        · exact ⟨h1, h2⟩
        · exact ⟨(a3 y hy).1, fun z => (a3 y hy).2 ((m y).mpr (by simp [z]))⟩
      · intro y
        rw [a5, m]
        simp
        constructor
        · rintro ((a | a) | a)
          · exact .inl a
          · exact .inr (.inl a)
          · exact .inr (.inr a)
        · rintro (a | a | a)
          · exact .inl (.inl a)
          · exact .inl (.inr a)
          · exact .inr a
theorem row_right (g : GoodC c) {lot : List Str} (ok : okL c.P lot) (h : others c (reach c lot) = []) : rowOk c lot (lotD (rowB c c.P.length lot)) = true := by
  obtain ⟨h1, h2, h3, S, h4, h5⟩ := row_spec g _ lot ok (Nat.le_add_left _ _)
  have e : sortS (rowB c c.P.length lot) = others c lot := asc_ext (sortS_asc h2) (others_ok g lot).1 fun x => by
    rw [sortS_mem, mem_others]
    constructor
    · exact fun hx => h3 x hx
    · rintro ⟨a, b⟩
      have : x ∈ reach c lot := by
        apply Classical.byContradiction
        intro z
        have := mem_others.mpr ⟨a, z⟩
        rw [h] at this
        cases this
      have := reach_least g ok (S := S) (fun y hy => (h5 y).mpr (.inl hy)) h4 x this
      rcases (h5 x).mp this with z | z
      · exact absurd z b
      · exact z
  show (match strsOf (stD _) with | some l => decide (sortS l = others c lot) && goT c lot l | none => false) = true
  rw [strsOf_stD]
  simp [e, h1]
theorem kept_lot {lot l : List Str} : keptOk c lot (lotD l) = (isLotB c.P (lotD l) && (decide (l ≠ []) && (apart c l && l.all fun x => decide (x ∉ lot)))) := by
  show (isLotB c.P (lotD l) && (match strsOf (stD l) with | some l => decide (l ≠ []) && (apart c l && l.all fun x => decide (x ∉ lot)) | none => false)) = _
  rw [strsOf_stD]
theorem row_lot {lot l : List Str} : rowOk c lot (lotD l) = (decide (sortS l = others c lot) && goT c lot l) := by
  show (match strsOf (stD l) with | some l => decide (sortS l = others c lot) && goT c lot l | none => false) = _
  rw [strsOf_stD]
theorem kept_right (g : GoodC c) {lot : List Str} (ok : okL c.P lot) (h : others c (reach c lot) ≠ []) : keptOk c lot (lotD (others c (reach c lot))) = true := by
  rw [kept_lot, isLotB_ok.mpr (others_ok g _), fix_apart g (reach_ok g ok) (reach_fix g ok)]
  simp [h]
  intro x hx z
  exact (mem_others.mp hx).2 (reach_sub g ok x z)
theorem told_right (g : GoodC c) {lot : List Str} (ok : okL c.P lot) : reachB c lot (reachV c lot) = true := by
  unfold reachV
  split
  · rename_i h
    simp [reachB]
    exact row_right g ok h
  · rename_i h
    simp [reachB, show Str.ofString "kept" ≠ Str.ofString "row" by decide]
    exact kept_right g ok h
/-- a row of another hand: all are reached -/
theorem go_reach (g : GoodC c) {lot : List Str} (ok : okL c.P lot) : ∀ (l pre : List Str), (∀ x ∈ pre, x ∈ reach c lot) → (∀ x ∈ l, x ∈ c.P) → goT c pre l = true → ∀ x ∈ l, x ∈ reach c lot
  | [], _, _, _, _ => fun x hx => nomatch hx
  | p :: r, pre, h, hp, t => by
    simp only [goT, Bool.and_eq_true] at t
    have pr : p ∈ reach c lot := by
      apply Classical.byContradiction
      intro z
      have tk : p ∈ taken c (reach c lot) := taken_mem.mpr ⟨hp p List.mem_cons_self, z, takes_mono g h t.1⟩
      rw [show taken c (reach c lot) = [] from reach_fix g ok] at tk
      cases tk
    have := go_reach g ok r (pre ++ [p]) (fun x hx => by
      rcases List.mem_append.mp hx with z | z
      · exact h x z
      · simp at z; subst z; exact pr) (fun x hx => hp x (List.mem_cons_of_mem _ hx)) t.2
    intro x hx
    rcases List.mem_cons.mp hx with rfl | hx
    · exact pr
    · exact this x hx
theorem row_all (g : GoodC c) {lot l : List Str} (ok : okL c.P lot) (h : rowOk c lot (lotD l) = true) : others c (reach c lot) = [] := by
  rw [row_lot, Bool.and_eq_true, decide_eq_true_eq] at h
  rw [List.eq_nil_iff_forall_not_mem]
  intro x hx
  obtain ⟨h1, h2⟩ := mem_others.mp hx
  have m : ∀ y, y ∈ l ↔ y ∈ others c lot := fun y => by rw [← h.1, sortS_mem]
  have hl : x ∈ l := (m x).mpr (mem_others.mpr ⟨h1, fun z => h2 (reach_sub g ok x z)⟩)
  exact h2 (go_reach g ok l lot (fun y hy => reach_sub g ok y hy) (fun y hy => (mem_others.mp ((m y).mp hy)).1) h.2 x hl)
theorem kept_in (g : GoodC c) {lot l : List Str} (ok : okL c.P lot) (h : keptOk c lot (lotD l) = true) : l ≠ [] ∧ ∀ x ∈ l, x ∈ others c (reach c lot) := by
  rw [kept_lot] at h
  simp only [Bool.and_eq_true, decide_eq_true_eq, List.all_eq_true] at h
  obtain ⟨h1, h2, h3, h4⟩ := h
  have okl := isLotB_ok.mp h1
  refine ⟨h2, fun x hx => mem_others.mpr ⟨okl.2 x hx, fun z => ?_⟩⟩
  have := reach_least g ok (S := others c l) (fun y hy => mem_others.mpr ⟨ok.2 y hy, fun yl => h4 y yl hy⟩) (apart_fix h3) x z
  exact (mem_others.mp this).2 hx
/-! a row with its places -/
def enN : Nat → List Str → List (Nat × Str)
  | _, [] => []
  | n, x :: r => (n, x) :: enN (n + 1) r
def pN (p : Nat × Str) : D := .tup [.int (p.1 : Nat), .str p.2]
theorem enum_str : ∀ (l : List Str) (n : Nat), enumD n (stD l) = (enN n l).map pN
  | [], _ => rfl
  | x :: r, n => by
    show D.tup [.int ((n : Nat) : Int), .str x] :: enumD (n + 1) (stD r) = _
    rw [enum_str r (n + 1)]
    rfl
theorem en_mem : ∀ {l : List Str} {n : Nat} {p : Nat × Str}, p ∈ enN n l → p.2 ∈ l ∧ p.1 < n + l.length
  | x :: r, n, p, h => by
    rcases List.mem_cons.mp h with rfl | h
    · exact ⟨List.mem_cons_self, by simp⟩
    · obtain ⟨h1, h2⟩ := en_mem h
      exact ⟨List.mem_cons_of_mem _ h1, by simp only [List.length_cons]; omega⟩
theorem go_en (lot : List Str) : ∀ (l done : List Str), goT c (lot ++ done) l = (enN done.length l).all fun p => takes c (lot ++ (done ++ l).take p.1) p.2
  | [], _ => rfl
  | x :: r, done => by
    have ih := go_en lot r (done ++ [x])
    simp only [goT, enN, List.all_cons]
    rw [List.append_assoc, ih]
    simp only [List.length_append, List.length_singleton, List.append_assoc, List.singleton_append]
    congr 2
    simp
theorem go_en0 (lot l : List Str) : goT c lot l = (enN 0 l).all fun p => takes c (lot ++ l.take p.1) p.2 := by
  have := go_en (c := c) lot l []
  simpa using this
theorem app_take (lot l : List Str) (n : Nat) : D.tup (stD lot ++ (stD l).take n) = .tup (stD (lot ++ l.take n)) := by simp [List.map_take]
theorem cut_take (l : List Str) (n : Nat) : cutD (stD l) none (some (n : Int)) = stD (l.take n) := by rw [cutD_to]; simp [List.map_take]
theorem reachB_len {lot : List Str} {xs : List D} (h : xs.length ≠ 2) : reachB c lot (.tup xs) = false := by
  unfold reachB
  split
  · rename_i e
    injection e with e
    rw [e] at h
    exact absurd rfl h
  · rfl
theorem reachB_head {lot : List Str} {a y : D} (h : isStrD a = false) : reachB c lot (.tup [a, y]) = false := by
  cases a <;> first | rfl | cases h
theorem reachB_pair {lot : List Str} {w : Str} {y : D} : reachB c lot (.tup [.str w, y]) = if w = Str.ofString "row" then rowOk c lot y else if w = Str.ofString "kept" then keptOk c lot y else false := rfl
theorem kept_nil {lot : List Str} {y : D} (h : isNilT y = true) : keptOk c lot y = false := by
  unfold isNilT at h
  split at h
  · rw [show D.tup [] = lotD [] from rfl, kept_lot]; simp
  · cases h
theorem kept_no {lot : List Str} {y : D} (h : isLotB c.P y = false) : keptOk c lot y = false := by
  unfold keptOk
  rw [h, Bool.false_and]
end
end DL

/-! K57R -/
namespace K57
open PySem PySem.Spec PyProof.Rows L2 DL

abbrev pr := PySem.Challenge.pw_tiesmade_k57_whole_reached_or_a_lot_that
def top (i : Nat) : Stmt := pr.main.body.getD i (.Pass ⟨0, 0, 0, 0⟩)
def errs : List Str := ([(Str.ofString "BadCrowd"), (Str.ofString "BadLot")] : List Str)
def sub_BadCrowd (y : Str) : Bool := decide (y ∈ ([(Str.ofString "BadCrowd")] : List Str))
def sub_BadLot (y : Str) : Bool := decide (y ∈ ([(Str.ofString "BadLot")] : List Str))
def S_is_whole (J : Jst) : DL.Spec := fun ds j P => ∃ i : Int, ds = [.int i] ∧ P (.bl true) j
def N_is_whole : List Str := ([(Str.ofString "value")] : List Str)
def t_is_whole (J : Jst) : DS := (dRet (dAnd (dIsi isIntD (dVar 0)) (dNot (dIsi isBoolD (dVar 0)))))
abbrev H_is_whole : Prop := ∀ (J : Jst) (d0 : D) (j : JS) (Q : D → JS → Prop), S_is_whole J [d0] j Q → t_is_whole J { nx := fun j' _ => Q .non j', rt := Q } j [.val d0]
def S_is_ratio (J : Jst) : DL.Spec := fun ds j P => ∃ q : Int × Int, ds = [qD q] ∧ okQ q ∧ P (.bl true) j
def N_is_ratio : List Str := ([(Str.ofString "value"), (Str.ofString "part")] : List Str)
def t_is_ratio (J : Jst) : DS := (dSeq (dIfS (dOrT (dNotT (dTest (dIsi isTupD (dVar 0)))) (dOrT (dTest (dOp dNe (dO1 dLen (dVar 0)) (dC (.int 2)))) (dNotT (dTest (dO1 dAll (dLst (dLc (dI seqR (dVar 0)) (gN 1) dTrue (dCall (S_is_whole J) (dCons (dVar 1) dNil)) [1]))))))) (dRet (dC (.bl false))) dNext) (dRet (dAnd (dOp dGt (dOp dIx (dVar 0) (dC (.int 1))) (dC (.int 0))) (dOp dEq (d2 oGcd (dCons (dOp dIx (dVar 0) (dC (.int 0))) (dCons (dOp dIx (dVar 0) (dC (.int 1))) dNil))) (dC (.int 1))))))
abbrev H_is_ratio : Prop := ∀ (J : Jst) (d0 : D) (j : JS) (Q : D → JS → Prop), S_is_ratio J [d0] j Q → t_is_ratio J { nx := fun j' _ => Q .non j', rt := Q } j [.val d0, .no]
def S_is_chance (J : Jst) : DL.Spec := fun ds j P => ∃ q : Int × Int, ds = [qD q] ∧ okC q ∧ P (.bl true) j
def N_is_chance : List Str := ([(Str.ofString "value")] : List Str)
def t_is_chance (J : Jst) : DS := (dRet (dAnd (dCall (S_is_ratio J) (dCons (dVar 0) dNil)) (dChain dLe dLe (dC (.int 0)) (dOp dIx (dVar 0) (dC (.int 0))) (dOp dIx (dVar 0) (dC (.int 1))))))
abbrev H_is_chance : Prop := ∀ (J : Jst) (d0 : D) (j : JS) (Q : D → JS → Prop), S_is_chance J [d0] j Q → t_is_chance J { nx := fun j' _ => Q .non j', rt := Q } j [.val d0]
def S_is_word (J : Jst) : DL.Spec := fun ds j P => ∃ s : Str, ds = [.str s] ∧ okW s ∧ P (.bl true) j
def N_is_word : List Str := ([(Str.ofString "value"), (Str.ofString "letter")] : List Str)
def t_is_word (J : Jst) : DS := (dRet (dAnd (dIsi isStrD (dVar 0)) (dAnd (dChain dLe dLe (dC (.int 1)) (dO1 dLen (dVar 0)) (dC (.int 8))) (dO1 dAll (dLst (dLc (dI dItS (dVar 0)) (gN 1) dTrue (dOp dIn (dVar 1) (dC (.str (Str.ofString "abcdefghijklmnopqrstuvwxyz")))) [1]))))))
abbrev H_is_word : Prop := ∀ (J : Jst) (d0 : D) (j : JS) (Q : D → JS → Prop), S_is_word J [d0] j Q → t_is_word J { nx := fun j' _ => Q .non j', rt := Q } j [.val d0, .no]
def S_are_names (J : Jst) : DL.Spec := fun ds j P => ∃ (l : List Str) (most : Int), ds = [.tup (stD l), .int most] ∧ okN most l ∧ P (.bl true) j
def N_are_names : List Str := ([(Str.ofString "value"), (Str.ofString "most"), (Str.ofString "one"), (Str.ofString "other"), (Str.ofString "word")] : List Str)
def t_are_names (J : Jst) : DS := (dSeq (dIfS (dOrT (dNotT (dTest (dIsi isTupD (dVar 0)))) (dOrT (dNotT (dTest (dChain dLe dLe (dC (.int 1)) (dO1 dLen (dVar 0)) (dVar 1)))) (dNotT (dTest (dO1 dAll (dLst (dLc (dI seqR (dVar 0)) (gN 4) dTrue (dCall (S_is_word J) (dCons (dVar 4) dNil)) [4]))))))) (dRet (dC (.bl false))) dNext) (dRet (dO1 dAll (dLst (dLc (dZip (dCons (dVar 0) (dCons (dSl (dVar 0) (dSomeP (dC (.int 1))) dNoP) dNil))) (gTp (gCn (gN 2) (gCn (gN 3) gNl))) dTrue (dOp dLt (dVar 2) (dVar 3)) [2, 3])))))
abbrev H_are_names : Prop := ∀ (J : Jst) (d0 : D) (d1 : D) (j : JS) (Q : D → JS → Prop), S_are_names J [d0, d1] j Q → t_are_names J { nx := fun j' _ => Q .non j', rt := Q } j [.val d0, .val d1, .no, .no, .no]
def S_is_pair_of (J : Jst) : DL.Spec := fun ds j P => ∃ (l : List Str) (p : Str × Str), ds = [.tup (stD l), pairS p] ∧ okP l p ∧ P (.bl true) j
def N_is_pair_of : List Str := ([(Str.ofString "people"), (Str.ofString "value"), (Str.ofString "word")] : List Str)
def t_is_pair_of (J : Jst) : DS := (dSeq (dIfS (dOrT (dNotT (dTest (dIsi isTupD (dVar 1)))) (dOrT (dTest (dOp dNe (dO1 dLen (dVar 1)) (dC (.int 2)))) (dNotT (dTest (dO1 dAll (dLst (dLc (dI seqR (dVar 1)) (gN 2) dTrue (dIsi isStrD (dVar 2)) [2]))))))) (dRet (dC (.bl false))) dNext) (dRet (dAnd (dOp dIn (dOp dIx (dVar 1) (dC (.int 0))) (dVar 0)) (dAnd (dOp dIn (dOp dIx (dVar 1) (dC (.int 1))) (dVar 0)) (dOp dLt (dOp dIx (dVar 1) (dC (.int 0))) (dOp dIx (dVar 1) (dC (.int 1))))))))
abbrev H_is_pair_of : Prop := ∀ (J : Jst) (d0 : D) (d1 : D) (j : JS) (Q : D → JS → Prop), S_is_pair_of J [d0, d1] j Q → t_is_pair_of J { nx := fun j' _ => Q .non j', rt := Q } j [.val d0, .val d1, .no]
def S_is_crowd (J : Jst) : DL.Spec := fun ds j P => ∃ d, ds = [d] ∧ ((∃ c, d = crD c ∧ GoodC c ∧ P (.bl true) j) ∨ (noCr d ∧ P (.bl false) j))
def N_is_crowd : List Str := ([(Str.ofString "value"), (Str.ofString "part"), (Str.ofString "tie"), (Str.ofString "one"), (Str.ofString "other")] : List Str)
def t_is_crowd (J : Jst) : DS := (dSeq (dIfS (dOrT (dNotT (dTest (dIsi isTupD (dVar 0)))) (dOrT (dTest (dOp dNe (dO1 dLen (dVar 0)) (dC (.int 4)))) (dOrT (dNotT (dTest (dIsi isStrD (dOp dIx (dVar 0) (dC (.int 0)))))) (dTest (dOp dNe (dOp dIx (dVar 0) (dC (.int 0))) (dC (.str (Str.ofString "crowd")))))))) (dRet (dC (.bl false))) dNext) (dSeq (dIfS (dOrT (dNotT (dTest (dCall (S_are_names J) (dCons (dOp dIx (dVar 0) (dC (.int 1))) (dCons (dC (.int 6)) dNil))))) (dNotT (dTest (dIsi isTupD (dOp dIx (dVar 0) (dC (.int 2))))))) (dRet (dC (.bl false))) dNext) (dSeq (dIfS (dNotT (dTest (dO1 dAll (dLst (dLc (dI seqR (dOp dIx (dVar 0) (dC (.int 2)))) (gN 2) dTrue (dCall (S_is_pair_of J) (dCons (dOp dIx (dVar 0) (dC (.int 1))) (dCons (dVar 2) dNil))) [2]))))) (dRet (dC (.bl false))) dNext) (dSeq (dIfS (dNotT (dTest (dO1 dAll (dLst (dLc (dZip (dCons (dOp dIx (dVar 0) (dC (.int 2))) (dCons (dSl (dOp dIx (dVar 0) (dC (.int 2))) (dSomeP (dC (.int 1))) dNoP) dNil))) (gTp (gCn (gN 3) (gCn (gN 4) gNl))) dTrue (dOp dLt (dVar 3) (dVar 4)) [3, 4]))))) (dRet (dC (.bl false))) dNext) (dSeq (dIfS (dOrT (dNotT (dTest (dIsi isTupD (dOp dIx (dVar 0) (dC (.int 3)))))) (dTest (dOp dNe (dO1 dLen (dOp dIx (dVar 0) (dC (.int 3)))) (dO1 dLen (dOp dIx (dVar 0) (dC (.int 1))))))) (dRet (dC (.bl false))) dNext) (dRet (dO1 dAll (dLst (dLc (dI seqR (dOp dIx (dVar 0) (dC (.int 3)))) (gN 1) dTrue (dCall (S_is_chance J) (dCons (dVar 1) dNil)) [1])))))))))
abbrev H_is_crowd : Prop := ∀ (J : Jst) (d0 : D) (j : JS) (Q : D → JS → Prop), S_is_crowd J [d0] j Q → t_is_crowd J { nx := fun j' _ => Q .non j', rt := Q } j [.val d0, .no, .no, .no, .no]
def S_need_crowd (J : Jst) : DL.Spec := fun ds j P => ∃ d, ds = [d] ∧ ((∃ c, d = crD c ∧ GoodC c ∧ P .non j) ∨ (noCr d ∧ J.xk (J.fa (Str.ofString "BadCrowd")) [] [] j))
def N_need_crowd : List Str := ([(Str.ofString "crowd")] : List Str)
def t_need_crowd (J : Jst) : DS := (dIfS (dNotT (dTest (dCall (S_is_crowd J) (dCons (dVar 0) dNil)))) (dRaise J (Str.ofString "BadCrowd")) dNext)
abbrev H_need_crowd : Prop := ∀ (J : Jst) (d0 : D) (j : JS) (Q : D → JS → Prop), S_need_crowd J [d0] j Q → t_need_crowd J { nx := fun j' _ => Q .non j', rt := Q } j [.val d0]
def S_is_lot (J : Jst) : DL.Spec := fun ds j P => ∃ (l : List Str) (v : D), ds = [.tup (stD l), v] ∧ pv 1 v ∧ P (.bl (isLotB l v)) j
def N_is_lot : List Str := ([(Str.ofString "people"), (Str.ofString "value"), (Str.ofString "one"), (Str.ofString "other"), (Str.ofString "word")] : List Str)
def t_is_lot (J : Jst) : DS := (dSeq (dIfS (dOrT (dNotT (dTest (dIsi isTupD (dVar 1)))) (dNotT (dTest (dO1 dAll (dLst (dLc (dI seqR (dVar 1)) (gN 4) dTrue (dAnd (dIsi isStrD (dVar 4)) (dOp dIn (dVar 4) (dVar 0))) [4])))))) (dRet (dC (.bl false))) dNext) (dRet (dO1 dAll (dLst (dLc (dZip (dCons (dVar 1) (dCons (dSl (dVar 1) (dSomeP (dC (.int 1))) dNoP) dNil))) (gTp (gCn (gN 2) (gCn (gN 3) gNl))) dTrue (dOp dLt (dVar 2) (dVar 3)) [2, 3])))))
abbrev H_is_lot : Prop := ∀ (J : Jst) (d0 : D) (d1 : D) (j : JS) (Q : D → JS → Prop), S_is_lot J [d0, d1] j Q → t_is_lot J { nx := fun j' _ => Q .non j', rt := Q } j [.val d0, .val d1, .no, .no, .no]
def S_need_lot (J : Jst) : DL.Spec := fun ds j P => ∃ (c : Cr) (v : D), ds = [crD c, v] ∧ pv 1 v ∧ (if isLotB c.P v = true then P .non j else J.xk (J.fa (Str.ofString "BadLot")) [] [] j)
def N_need_lot : List Str := ([(Str.ofString "crowd"), (Str.ofString "lot")] : List Str)
def t_need_lot (J : Jst) : DS := (dIfS (dNotT (dTest (dCall (S_is_lot J) (dCons (dOp dIx (dVar 0) (dC (.int 1))) (dCons (dVar 1) dNil))))) (dRaise J (Str.ofString "BadLot")) dNext)
abbrev H_need_lot : Prop := ∀ (J : Jst) (d0 : D) (d1 : D) (j : JS) (Q : D → JS → Prop), S_need_lot J [d0, d1] j Q → t_need_lot J { nx := fun j' _ => Q .non j', rt := Q } j [.val d0, .val d1]
def S_tied_to (J : Jst) : DL.Spec := fun ds j P => ∃ (c : Cr) (p : Str), ds = [crD c, .str p] ∧ GoodC c ∧ P (.lst (stD (tied c p))) j
def N_tied_to : List Str := ([(Str.ofString "crowd"), (Str.ofString "person"), (Str.ofString "found"), (Str.ofString "one"), (Str.ofString "other")] : List Str)
def t_tied_to (J : Jst) : DS := (dSeq (dSet 2 (dLst (dLc (dI seqR (dOp dIx (dVar 0) (dC (.int 2)))) (gTp (gCn (gN 3) (gCn (gN 4) gNl))) (dTest (dOp dEq (dVar 3) (dVar 1))) (dVar 4) [3, 4]))) (dRet (dOp dAdd (dVar 2) (dLst (dLc (dI seqR (dOp dIx (dVar 0) (dC (.int 2)))) (gTp (gCn (gN 3) (gCn (gN 4) gNl))) (dTest (dOp dEq (dVar 4) (dVar 1))) (dVar 3) [3, 4])))))
abbrev H_tied_to : Prop := ∀ (J : Jst) (d0 : D) (d1 : D) (j : JS) (Q : D → JS → Prop), S_tied_to J [d0, d1] j Q → t_tied_to J { nx := fun j' _ => Q .non j', rt := Q } j [.val d0, .val d1, .no, .no, .no]
def S_does_take (J : Jst) : DL.Spec := fun ds j P => ∃ (c : Cr) (lot : List Str) (p : Str), ds = [crD c, .tup (stD lot), .str p] ∧ GoodC c ∧ p ∈ c.P ∧ P (.bl (takes c lot p)) j
def N_does_take : List Str := ([(Str.ofString "crowd"), (Str.ofString "lot"), (Str.ofString "person"), (Str.ofString "own"), (Str.ofString "with_it"), (Str.ofString "need"), (Str.ofString "other")] : List Str)
def t_does_take (J : Jst) : DS := (dSeq (dSet 3 (dCall (S_tied_to J) (dCons (dVar 0) (dCons (dVar 2) dNil)))) (dSeq (dSet 4 (dO1 dLen (dLst (dLc (dI seqR (dVar 3)) (gN 6) (dTest (dOp dIn (dVar 6) (dVar 1))) (dVar 6) [6])))) (dSeq (dSet 5 (dOp dIx (dOp dIx (dVar 0) (dC (.int 3))) (dIndex (dOp dIx (dVar 0) (dC (.int 1))) (dVar 2)))) (dRet (dAnd (dOp dGt (dVar 4) (dC (.int 0))) (dOp dGe (dOp dMul (dVar 4) (dOp dIx (dVar 5) (dC (.int 1)))) (dOp dMul (dOp dIx (dVar 5) (dC (.int 0))) (dO1 dLen (dVar 3)))))))))
abbrev H_does_take : Prop := ∀ (J : Jst) (d0 : D) (d1 : D) (d2 : D) (j : JS) (Q : D → JS → Prop), S_does_take J [d0, d1, d2] j Q → t_does_take J { nx := fun j' _ => Q .non j', rt := Q } j [.val d0, .val d1, .val d2, .no, .no, .no, .no]
def S_taken_from (J : Jst) : DL.Spec := fun ds j P => ∃ (c : Cr) (lot : List Str), ds = [crD c, .tup (stD lot)] ∧ GoodC c ∧ P (.tup (stD (taken c lot))) j
def N_taken_from : List Str := ([(Str.ofString "crowd"), (Str.ofString "lot"), (Str.ofString "person")] : List Str)
def t_taken_from (J : Jst) : DS := (dRet (dO1 dTuple (dLst (dLc (dI seqR (dOp dIx (dVar 0) (dC (.int 1)))) (gN 2) (dAndT (dTest (dOp dNin (dVar 2) (dVar 1))) (dTest (dCall (S_does_take J) (dCons (dVar 0) (dCons (dVar 1) (dCons (dVar 2) dNil)))))) (dVar 2) [2]))))
abbrev H_taken_from : Prop := ∀ (J : Jst) (d0 : D) (d1 : D) (j : JS) (Q : D → JS → Prop), S_taken_from J [d0, d1] j Q → t_taken_from J { nx := fun j' _ => Q .non j', rt := Q } j [.val d0, .val d1, .no]
def S_lots_behind (J : Jst) : DL.Spec := fun ds j P => ∃ (c : Cr) (lot : List Str), ds = [crD c, .tup (stD lot)] ∧ GoodC c ∧ okL c.P lot ∧ P (.lst ((rds c c.P.length lot).map fun l => .tup (stD l))) j
def N_lots_behind : List Str := ([(Str.ofString "crowd"), (Str.ofString "lot"), (Str.ofString "found"), (Str.ofString "more")] : List Str)
def t_lots_behind (J : Jst) : DS := (dSeq (dSetF 2 (dCons (dVar 1) dNil)) (dSeq (dSet 3 (dCall (S_taken_from J) (dCons (dVar 0) (dCons (dVar 1) dNil)))) (dSeq (dWhile (dTest (dOp dNe (dVar 3) (dTup dNil))) (dSeq (dExprM (mApp 2 (mE (dO1 dTuple (dLst (dF1 dSorted (dOp dAdd (dOp dIx (dVarR 2) (dNeg (dC (.int 1)))) (dVar 3)))))))) (dSet 3 (dCall (S_taken_from J) (dCons (dVar 0) (dCons (dOp dIx (dVarR 2) (dNeg (dC (.int 1)))) dNil)))))) (dRetO 2))))
abbrev H_lots_behind : Prop := ∀ (J : Jst) (d0 : D) (d1 : D) (j : JS) (Q : D → JS → Prop), S_lots_behind J [d0, d1] j Q → t_lots_behind J { nx := fun j' _ => Q .non j', rt := Q } j [.val d0, .val d1, .no, .no]
def S_others_of (J : Jst) : DL.Spec := fun ds j P => ∃ (c : Cr) (lot : List Str), ds = [crD c, .tup (stD lot)] ∧ GoodC c ∧ P (.tup (stD (others c lot))) j
def N_others_of : List Str := ([(Str.ofString "crowd"), (Str.ofString "lot"), (Str.ofString "person")] : List Str)
def t_others_of (J : Jst) : DS := (dRet (dO1 dTuple (dLst (dLc (dI seqR (dOp dIx (dVar 0) (dC (.int 1)))) (gN 2) (dTest (dOp dNin (dVar 2) (dVar 1))) (dVar 2) [2]))))
abbrev H_others_of : Prop := ∀ (J : Jst) (d0 : D) (d1 : D) (j : JS) (Q : D → JS → Prop), S_others_of J [d0, d1] j Q → t_others_of J { nx := fun j' _ => Q .non j', rt := Q } j [.val d0, .val d1, .no]
def S_stays_apart (J : Jst) : DL.Spec := fun ds j P => ∃ (c : Cr) (lot : List Str), ds = [crD c, .tup (stD lot)] ∧ GoodC c ∧ (∀ p ∈ lot, p ∈ c.P) ∧ P (.bl (apart c lot)) j
def N_stays_apart : List Str := ([(Str.ofString "crowd"), (Str.ofString "lot"), (Str.ofString "others"), (Str.ofString "person")] : List Str)
def t_stays_apart (J : Jst) : DS := (dSeq (dSet 2 (dCall (S_others_of J) (dCons (dVar 0) (dCons (dVar 1) dNil)))) (dRet (dNot (dO1 dAny (dLst (dLc (dI seqR (dVar 1)) (gN 3) dTrue (dCall (S_does_take J) (dCons (dVar 0) (dCons (dVar 2) (dCons (dVar 3) dNil)))) [3]))))))
abbrev H_stays_apart : Prop := ∀ (J : Jst) (d0 : D) (d1 : D) (j : JS) (Q : D → JS → Prop), S_stays_apart J [d0, d1] j Q → t_stays_apart J { nx := fun j' _ => Q .non j', rt := Q } j [.val d0, .val d1, .no, .no]
def S_row_behind (J : Jst) : DL.Spec := fun ds j P => ∃ (c : Cr) (lot : List Str), ds = [crD c, lotD lot] ∧ GoodC c ∧ okL c.P lot ∧ P (lotD (rowB c c.P.length lot)) j
def N_row_behind : List Str := ([(Str.ofString "crowd"), (Str.ofString "lot"), (Str.ofString "found"), (Str.ofString "here"), (Str.ofString "more")] : List Str)
def t_row_behind (J : Jst) : DS := (dSeq (dPar 2 3 (dCons (dTup dNil) (dCons (dVar 1) dNil))) (dSeq (dSet 4 (dCall (S_taken_from J) (dCons (dVar 0) (dCons (dVar 3) dNil)))) (dSeq (dWhile (dTest (dOp dNe (dVar 4) (dTup dNil))) (dSeq (dSet 2 (dOp dAdd (dVar 2) (dTup (dCons (dOp dIx (dVar 4) (dC (.int 0))) dNil)))) (dSeq (dSet 3 (dO1 dTuple (dLst (dF1 dSorted (dOp dAdd (dVar 3) (dTup (dCons (dOp dIx (dVar 4) (dC (.int 0))) dNil))))))) (dSet 4 (dCall (S_taken_from J) (dCons (dVar 0) (dCons (dVar 3) dNil))))))) (dRet (dVar 2)))))
abbrev H_row_behind : Prop := ∀ (J : Jst) (d0 : D) (d1 : D) (j : JS) (Q : D → JS → Prop), S_row_behind J [d0, d1] j Q → t_row_behind J { nx := fun j' _ => Q .non j', rt := Q } j [.val d0, .val d1, .no, .no, .no]
def S_reaching (J : Jst) : DL.Spec := fun ds j P => ∃ (d v : D), ds = [d, v] ∧ ((∃ c lot, d = crD c ∧ v = lotD lot ∧ GoodC c ∧ okL c.P lot ∧ P (reachV c lot) j) ∨ (∃ c, d = crD c ∧ GoodC c ∧ pv 1 v ∧ isLotB c.P v = false ∧ J.xk (J.fa (Str.ofString "BadLot")) [] [] j) ∨ (noCr d ∧ J.xk (J.fa (Str.ofString "BadCrowd")) [] [] j))
def N_reaching : List Str := ([(Str.ofString "crowd"), (Str.ofString "lot"), (Str.ofString "left")] : List Str)
def t_reaching (J : Jst) : DS := (dSeq (dExpr (dCall (S_need_crowd J) (dCons (dVar 0) dNil))) (dSeq (dExpr (dCall (S_need_lot J) (dCons (dVar 0) (dCons (dVar 1) dNil)))) (dSeq (dSet 2 (dCall (S_others_of J) (dCons (dVar 0) (dCons (dOp dIx (dCall (S_lots_behind J) (dCons (dVar 0) (dCons (dVar 1) dNil))) (dNeg (dC (.int 1)))) dNil)))) (dRet (dIf (dTest (dOp dNe (dVar 2) (dTup dNil))) (dTup (dCons (dC (.str (Str.ofString "kept"))) (dCons (dVar 2) dNil))) (dTup (dCons (dC (.str (Str.ofString "row"))) (dCons (dCall (S_row_behind J) (dCons (dVar 0) (dCons (dVar 1) dNil))) dNil))))))))
abbrev H_reaching : Prop := ∀ (J : Jst) (d0 : D) (d1 : D) (j : JS) (Q : D → JS → Prop), S_reaching J [d0, d1] j Q → t_reaching J { nx := fun j' _ => Q .non j', rt := Q } j [.val d0, .val d1, .no]
def S_is_row_behind (J : Jst) : DL.Spec := fun ds j P => ∃ (c : Cr) (lot : List Str) (v : D), ds = [crD c, lotD lot, v] ∧ GoodC c ∧ okL c.P lot ∧ pv 1 v ∧ P (.bl (rowOk c lot v)) j
def N_is_row_behind : List Str := ([(Str.ofString "crowd"), (Str.ofString "lot"), (Str.ofString "value"), (Str.ofString "others"), (Str.ofString "at"), (Str.ofString "person"), (Str.ofString "word")] : List Str)
def t_is_row_behind (J : Jst) : DS := (dSeq (dSet 3 (dCall (S_others_of J) (dCons (dVar 0) (dCons (dVar 1) dNil)))) (dSeq (dIfS (dOrT (dNotT (dTest (dIsi isTupD (dVar 2)))) (dOrT (dTest (dOp dNe (dO1 dLen (dVar 2)) (dO1 dLen (dVar 3)))) (dNotT (dTest (dO1 dAll (dLst (dLc (dI seqR (dVar 2)) (gN 6) dTrue (dIsi isStrD (dVar 6)) [6]))))))) (dRet (dC (.bl false))) dNext) (dSeq (dIfS (dTest (dOp dNe (dO1 dTuple (dLst (dF1 dSorted (dVar 2)))) (dVar 3))) (dRet (dC (.bl false))) dNext) (dRet (dO1 dAll (dLst (dLc (dEnum (dCons (dVar 2) dNil)) (gTp (gCn (gN 4) (gCn (gN 5) gNl))) dTrue (dCall (S_does_take J) (dCons (dVar 0) (dCons (dOp dAdd (dVar 1) (dSl (dVar 2) dNoP (dSomeP (dVar 4)))) (dCons (dVar 5) dNil)))) [4, 5])))))))
abbrev H_is_row_behind : Prop := ∀ (J : Jst) (d0 : D) (d1 : D) (d2 : D) (j : JS) (Q : D → JS → Prop), S_is_row_behind J [d0, d1, d2] j Q → t_is_row_behind J { nx := fun j' _ => Q .non j', rt := Q } j [.val d0, .val d1, .val d2, .no, .no, .no, .no]
def S_is_reaching (J : Jst) : DL.Spec := fun ds j P => ∃ (d v x : D), ds = [d, v, x] ∧ ((∃ c lot, d = crD c ∧ v = lotD lot ∧ GoodC c ∧ okL c.P lot ∧ pv 2 x ∧ P (.bl (reachB c lot x)) j) ∨ (∃ c, d = crD c ∧ GoodC c ∧ pv 1 v ∧ isLotB c.P v = false ∧ J.xk (J.fa (Str.ofString "BadLot")) [] [] j) ∨ (noCr d ∧ J.xk (J.fa (Str.ofString "BadCrowd")) [] [] j))
def N_is_reaching : List Str := ([(Str.ofString "crowd"), (Str.ofString "lot"), (Str.ofString "value"), (Str.ofString "person")] : List Str)
def t_is_reaching (J : Jst) : DS := (dSeq (dExpr (dCall (S_need_crowd J) (dCons (dVar 0) dNil))) (dSeq (dExpr (dCall (S_need_lot J) (dCons (dVar 0) (dCons (dVar 1) dNil)))) (dSeq (dIfS (dOrT (dNotT (dTest (dIsi isTupD (dVar 2)))) (dOrT (dTest (dOp dNe (dO1 dLen (dVar 2)) (dC (.int 2)))) (dNotT (dTest (dIsi isStrD (dOp dIx (dVar 2) (dC (.int 0)))))))) (dRet (dC (.bl false))) dNext) (dSeq (dIfS (dTest (dOp dEq (dOp dIx (dVar 2) (dC (.int 0))) (dC (.str (Str.ofString "row"))))) (dRet (dCall (S_is_row_behind J) (dCons (dVar 0) (dCons (dVar 1) (dCons (dOp dIx (dVar 2) (dC (.int 1))) dNil))))) dNext) (dSeq (dIfS (dOrT (dTest (dOp dNe (dOp dIx (dVar 2) (dC (.int 0))) (dC (.str (Str.ofString "kept"))))) (dOrT (dTest (dOp dEq0 (dOp dIx (dVar 2) (dC (.int 1))) (dTup dNil))) (dNotT (dTest (dCall (S_is_lot J) (dCons (dOp dIx (dVar 0) (dC (.int 1))) (dCons (dOp dIx (dVar 2) (dC (.int 1))) dNil))))))) (dRet (dC (.bl false))) dNext) (dRet (dAnd (dNot (dO1 dAny (dLst (dLc (dI seqR (dOp dIx (dVar 2) (dC (.int 1)))) (gN 3) dTrue (dOp dIn (dVar 3) (dVar 1)) [3])))) (dCall (S_stays_apart J) (dCons (dVar 0) (dCons (dOp dIx (dVar 2) (dC (.int 1))) dNil))))))))))
abbrev H_is_reaching : Prop := ∀ (J : Jst) (d0 : D) (d1 : D) (d2 : D) (j : JS) (Q : D → JS → Prop), S_is_reaching J [d0, d1, d2] j Q → t_is_reaching J { nx := fun j' _ => Q .non j', rt := Q } j [.val d0, .val d1, .val d2, .no]
def S__law_blended (J : Jst) : DL.Spec := fun ds j P => ∃ b : Int, ds = [.ref J.ad] ∧ JB J b j ∧ b < 2 ^ 200 ∧ P (.int (blend J.cs (j.t + 1))) { j with t := j.t + 1 }
def N__law_blended : List Str := ([(Str.ofString "state"), (Str.ofString "turn"), (Str.ofString "found"), (Str.ofString "prime"), (Str.ofString "blend"), (Str.ofString "cell")] : List Str)
def t__law_blended (J : Jst) : DS := (dSeq (dPar 1 2 (dCons (dOp dAdd (dTurn J 0) (dC (.int 1))) (dCons (dC (.int 0)) dNil))) (dSeq (dPutTurn J 0 (dVar 1)) (dSeq (dFor (dI seqR (dLst (dCons (dC (.int 2147483579)) (dCons (dC (.int 2147483629)) (dCons (dC (.int 2147483563)) dNil))))) (gN 3) (dSeq (dSet 4 (dOp dAdd (dOp dMul (dC (.int 48271)) (dVar 1)) (dOp dFdiv (dVar 3) (dC (.int 53))))) (dSeq (dFor (dCells J 0) (gN 5) (dSet 4 (dOp dMod (dO1 dInt (dOp dAdd (dOp dAdd (dOp dMul (dVar 4) (dC (.int 69621))) (dVar 5)) (dVar 1))) (dVar 3)))) (dSet 2 (dOp dAdd (dOp dMul (dVar 2) (dC (.int 2147483647))) (dOp dMod (dO1 dInt (dOp dPow2 (dVar 4) (dC (.int 5)))) (dVar 3))))))) (dRet (dVar 2)))))
abbrev H__law_blended : Prop := ∀ (J : Jst) (d0 : D) (j : JS) (Q : D → JS → Prop), S__law_blended J [d0] j Q → t__law_blended J { nx := fun j' _ => Q .non j', rt := Q } j [.val d0, .no, .no, .no, .no, .no]
def S__law_draw (J : Jst) : DL.Spec := fun ds j P => ∃ b n : Int, ds = [.ref J.ad, .int n] ∧ JB J b j ∧ b < 2 ^ 200 ∧ 1 ≤ n ∧ n < 2 ^ 60 ∧ P (.int (drawK J.cs j n)) (drawN J.cs j n)
def N__law_draw : List Str := ([(Str.ofString "state"), (Str.ofString "room"), (Str.ofString "found")] : List Str)
def t__law_draw (J : Jst) : DS := (dSeq (dIfS (dTest (dOp dEq (dRest J 0) (dC (.int 0)))) (dPutRest J 0 (dIf (dGreat J 0) (dPopG J 0) (dCall (S__law_blended J) (dCons (dVar 0) dNil)))) dNext) (dSeq (dSet 2 (dOp dMod (dO1 dInt (dRest J 0)) (dVar 1))) (dSeq (dPutRest J 0 (dOp dFdiv (dRest J 0) (dVar 1))) (dRet (dVar 2)))))
abbrev H__law_draw : Prop := ∀ (J : Jst) (d0 : D) (d1 : D) (j : JS) (Q : D → JS → Prop), S__law_draw J [d0, d1] j Q → t__law_draw J { nx := fun j' _ => Q .non j', rt := Q } j [.val d0, .val d1, .no]
def S__law_pick (J : Jst) : DL.Spec := fun ds j P => ∃ (b : Int) (x : D) (l : List D) (d : D), ds = [.ref J.ad, x] ∧ (x = .lst l ∨ x = .tup l) ∧ JB J b j ∧ b < 2 ^ 200 ∧ l.length ≤ 1000 ∧ l[(drawK J.cs j l.length).toNat]? = some d ∧ P d (drawN J.cs j l.length)
def N__law_pick : List Str := ([(Str.ofString "state"), (Str.ofString "some")] : List Str)
def t__law_pick (J : Jst) : DS := (dRet (dOp dIx (dVar 1) (dCall (S__law_draw J) (dCons (dVar 0) (dCons (dO1 dLen (dVar 1)) dNil)))))
abbrev H__law_pick : Prop := ∀ (J : Jst) (d0 : D) (d1 : D) (j : JS) (Q : D → JS → Prop), S__law_pick J [d0, d1] j Q → t__law_pick J { nx := fun j' _ => Q .non j', rt := Q } j [.val d0, .val d1]
def S__law_shuffled (J : Jst) : DL.Spec := fun ds j P => ∃ (b : Int) (l : List D), ds = [.ref J.ad, .lst l] ∧ JB J b j ∧ b + l.length < 2 ^ 199 ∧ l.length ≤ 1000 ∧ (∀ d ∈ l, lv 19 d = true) ∧ ∀ l' j', l'.Perm l → JB J (b + l.length) j' → P (.lst l') j'
def N__law_shuffled : List Str := ([(Str.ofString "state"), (Str.ofString "some"), (Str.ofString "left"), (Str.ofString "found")] : List Str)
def t__law_shuffled (J : Jst) : DS := (dSeq (dParO 2 3 (oF (dF1 dList (dVar 1))) (oF dNil)) (dSeq (dWhile (dTest (dOp dNe (dVarR 2) (dLst dNil))) (dExprM (mApp 3 (mPopAt 2 (mE (dCall (S__law_draw J) (dCons (dVar 0) (dCons (dO1 dLen (dVarR 2)) dNil)))))))) (dRetO 3)))
abbrev H__law_shuffled : Prop := ∀ (J : Jst) (d0 : D) (d1 : D) (j : JS) (Q : D → JS → Prop), S__law_shuffled J [d0, d1] j Q → t__law_shuffled J { nx := fun j' _ => Q .non j', rt := Q } j [.val d0, .val d1, .no, .no]
def S__law_caught (J : Jst) (A : Ac) : DL.Spec := fun ds j P => ds = [] ∧ A (fun c ns xs j' => (∃ y ∈ errs, c = J.fa y) ∧ P (.exc c ns xs) j') j fun _ j' => P .non j'
def N__law_caught : List Str := ([(Str.ofString "action"), (Str.ofString "found"), (Str.ofString "error")] : List Str)
def t__law_caught (J : Jst) (f : Addr) (A : Ac) : DS := (dSeq (dSet 1 (dC .non)) (dSeq (dCaught J A f 0 2 1 errs) (dRet (dVar 1))))
abbrev H__law_caught : Prop := ∀ (J : Jst) (f : Addr) (A : Ac) (j : JS) (Q : D → JS → Prop), S__law_caught J A [] j Q → t__law_caught J f A { nx := fun j' _ => Q .non j', rt := Q } j [.val (.ref f), .no, .no]
def S__law_is_truth (J : Jst) : DL.Spec := fun ds j P => ∃ a b : Bool, ds = [.bl a, .bl b] ∧ P (.bl (a == b)) j
def N__law_is_truth : List Str := ([(Str.ofString "found"), (Str.ofString "due")] : List Str)
def t__law_is_truth (J : Jst) : DS := (dRet (dIf (dTest (dVar 1)) (dOp dIs (dVar 0) (dC (.bl true))) (dOp dIs (dVar 0) (dC (.bl false)))))
abbrev H__law_is_truth : Prop := ∀ (J : Jst) (d0 : D) (d1 : D) (j : JS) (Q : D → JS → Prop), S__law_is_truth J [d0, d1] j Q → t__law_is_truth J { nx := fun j' _ => Q .non j', rt := Q } j [.val d0, .val d1]
def S__law_same (J : Jst) : DL.Spec := fun ds j P => ∃ x : D, ds = [x, x] ∧ lv 15 x = true ∧ sizeD x ≤ 1000000 ∧ P (.bl true) j
def N__law_same : List Str := ([(Str.ofString "found"), (Str.ofString "due"), (Str.ofString "waiting"), (Str.ofString "one"), (Str.ofString "other"), (Str.ofString "alike"), (Str.ofString "key"), (Str.ofString "left"), (Str.ofString "right")] : List Str)
def t__law_same (J : Jst) : DS := (dSeq (dSetF 2 (dCons (dTup (dCons (dVar 0) (dCons (dVar 1) dNil))) dNil)) (dSeq (dWhile (dTest (dOp dNe (dVarR 2) (dLst dNil))) (dSeq (dAsgM (mPop 2) (gTp (gCn (gN 3) (gCn (gN 4) gNl)))) (dIfS (dOrT (dTest (dOp dIs (dVar 4) (dC .non))) (dTest (dIsi isBoolD (dVar 4)))) (dIfS (dIfT (dTest (dOp dIs (dVar 4) (dC .non))) (dTest (dOp dIsn (dVar 3) (dC .non))) (dNotT (dTest (dCall (S__law_is_truth J) (dCons (dVar 3) (dCons (dVar 4) dNil)))))) (dRet (dC (.bl false))) dNext) (dIfS (dTest (dIsi (fun d => isIntD d || isStrD d) (dVar 4))) (dIfS (dOrT (dTest (dIsi isBoolD (dVar 3))) (dOrT (dTest (dOp dNe (dIsi isIntD (dVar 3)) (dIsi isIntD (dVar 4)))) (dTest (dOp dNe (dVar 3) (dVar 4))))) (dRet (dC (.bl false))) dNext) (dIfS (dTest (dIsi isDctD (dVar 4))) (dSeq (dIfS (dOrT (dNotT (dTest (dIsi isDctD (dVar 3)))) (dTest (dOp dNe (dLst (dF1 dList (dVar 3))) (dLst (dF1 dList (dVar 4)))))) (dRet (dC (.bl false))) dNext) dNever) (dSeq (dSet 5 (dLst (dCons (dAnd (dIsi isTupD (dVar 3)) (dIsi isTupD (dVar 4))) (dCons (dAnd (dIsi isLstD (dVar 3)) (dIsi isLstD (dVar 4))) dNil)))) (dSeq (dIfS (dOrT (dTest (dOp dNin (dC (.bl true)) (dVar 5))) (dTest (dOp dNe (dO1 dLen (dVar 3)) (dO1 dLen (dVar 4))))) (dRet (dC (.bl false))) dNext) (dExprM (mExt 2 (dLc (dZip (dCons (dVar 3) (dCons (dVar 4) dNil))) (gTp (gCn (gN 7) (gCn (gN 8) gNl))) dTrue (dTup (dCons (dVar 7) (dCons (dVar 8) dNil))) [7, 8])))))))))) (dRet (dC (.bl true)))))
abbrev H__law_same : Prop := ∀ (J : Jst) (d0 : D) (d1 : D) (j : JS) (Q : D → JS → Prop), S__law_same J [d0, d1] j Q → t__law_same J { nx := fun j' _ => Q .non j', rt := Q } j [.val d0, .val d1, .no, .no, .no, .no, .no, .no, .no]
def S__law_q (J : Jst) : DL.Spec := fun ds j P => ∃ n d : Int, ds = [.int n, .int d] ∧ 0 < d ∧ d < 2 ^ 60 ∧ P (qD (redQ n d)) j
def N__law_q : List Str := ([(Str.ofString "n"), (Str.ofString "d"), (Str.ofString "one"), (Str.ofString "other")] : List Str)
def t__law_q (J : Jst) : DS := (dSeq (dPar 2 3 (dCons (dO1 dAbs (dVar 0)) (dCons (dO1 dAbs (dVar 1)) dNil))) (dSeq (dWhile (dTest (dOp dGt (dVar 3) (dC (.int 0)))) (dPar 2 3 (dCons (dVar 3) (dCons (dOp dMod (dO1 dInt (dVar 2)) (dVar 3)) dNil)))) (dRet (dIf (dTest (dOp dGt (dVar 1) (dC (.int 0)))) (dTup (dCons (dOp dFdiv (dVar 0) (dVar 2)) (dCons (dOp dFdiv (dVar 1) (dVar 2)) dNil))) (dTup (dCons (dOp dFdiv (dNeg (dVar 0)) (dVar 2)) (dCons (dOp dFdiv (dNeg (dVar 1)) (dVar 2)) dNil)))))))
abbrev H__law_q : Prop := ∀ (J : Jst) (d0 : D) (d1 : D) (j : JS) (Q : D → JS → Prop), S__law_q J [d0, d1] j Q → t__law_q J { nx := fun j' _ => Q .non j', rt := Q } j [.val d0, .val d1, .no, .no]
def S__law_times (J : Jst) : DL.Spec := fun ds j P => ∃ p q : Int × Int, ds = [qD p, qD q] ∧ (0 < p.2 ∧ p.2 < 2 ^ 30) ∧ (0 < q.2 ∧ q.2 < 2 ^ 30) ∧ (-(2 ^ 30) < q.1 ∧ q.1 < 2 ^ 30) ∧ P (qD (redQ (p.1 * q.1) (p.2 * q.2))) j
def N__law_times : List Str := ([(Str.ofString "one"), (Str.ofString "other")] : List Str)
def t__law_times (J : Jst) : DS := (dRet (dCall (S__law_q J) (dCons (dOp dMul (dOp dIx (dVar 0) (dC (.int 0))) (dOp dIx (dVar 1) (dC (.int 0)))) (dCons (dOp dMul (dOp dIx (dVar 0) (dC (.int 1))) (dOp dIx (dVar 1) (dC (.int 1)))) dNil))))
abbrev H__law_times : Prop := ∀ (J : Jst) (d0 : D) (d1 : D) (j : JS) (Q : D → JS → Prop), S__law_times J [d0, d1] j Q → t__law_times J { nx := fun j' _ => Q .non j', rt := Q } j [.val d0, .val d1]
def S__law_less (J : Jst) : DL.Spec := fun ds j P => ∃ p q : Int × Int, ds = [qD p, qD q] ∧ (-(2 ^ 60) < p.2 ∧ p.2 < 2 ^ 60) ∧ (-(2 ^ 60) < q.2 ∧ q.2 < 2 ^ 60) ∧ P (.bl (decide (p.1 * q.2 < q.1 * p.2))) j
def N__law_less : List Str := ([(Str.ofString "one"), (Str.ofString "other")] : List Str)
def t__law_less (J : Jst) : DS := (dRet (dOp dLt (dOp dMul (dOp dIx (dVar 0) (dC (.int 0))) (dOp dIx (dVar 1) (dC (.int 1)))) (dOp dMul (dOp dIx (dVar 1) (dC (.int 0))) (dOp dIx (dVar 0) (dC (.int 1))))))
abbrev H__law_less : Prop := ∀ (J : Jst) (d0 : D) (d1 : D) (j : JS) (Q : D → JS → Prop), S__law_less J [d0, d1] j Q → t__law_less J { nx := fun j' _ => Q .non j', rt := Q } j [.val d0, .val d1]
def S__law_words (J : Jst) : DL.Spec := fun ds j P => ∃ b many : Int, ds = [.ref J.ad, .int many] ∧ 1 ≤ many ∧ many ≤ 6 ∧ JB J b j ∧ b < 2 ^ 190 ∧ J.cs.length ≤ 63 ∧ ∀ l j', asc l → (l.length : Int) = many → (∀ s ∈ l, okW s) → JB J (b + 2 ^ 100) j' → P (.lst (stD l)) j'
def N__law_words : List Str := ([(Str.ofString "draws"), (Str.ofString "many"), (Str.ofString "found"), (Str.ofString "word"), (Str.ofString "lap")] : List Str)
def t__law_words (J : Jst) : DS := (dSeq (dSet 2 (dLst dNil)) (dSeq (dWhile (dTest (dOp dLt (dO1 dLen (dVar 2)) (dVar 1))) (dSeq (dSet 3 (dJoin (dC (.str (Str.ofString ""))) (dLst (dLc (dRng1 (dCons (dOp dAdd (dC (.int 1)) (dCall (S__law_draw J) (dCons (dVar 0) (dCons (dC (.int 8)) dNil)))) dNil)) (gN 4) dTrue (dCall (S__law_pick J) (dCons (dVar 0) (dCons (dLst (dF1 dList (dC (.str (Str.ofString "abcdefghijklmnopqrstuvwxyz"))))) dNil))) [4])))) (dSet 2 (dOp dAdd (dVar 2) (dIf (dTest (dOp dNin (dVar 3) (dVar 2))) (dLst (dCons (dVar 3) dNil)) (dIf (dAndT (dTest (dOp dNin (dOp dAdd (dSl (dVar 3) dNoP (dSomeP (dC (.int 1)))) (dOp dMul (dC (.str (Str.ofString "q"))) (dO1 dLen (dVar 2)))) (dVar 2))) (dTest (dOp dLt (dO1 dLen (dVar 2)) (dC (.int 8))))) (dLst (dCons (dOp dAdd (dSl (dVar 3) dNoP (dSomeP (dC (.int 1)))) (dOp dMul (dC (.str (Str.ofString "q"))) (dO1 dLen (dVar 2)))) dNil)) (dLst dNil))))))) (dRet (dLst (dF1 dSorted (dVar 2))))))
abbrev H__law_words : Prop := ∀ (J : Jst) (d0 : D) (d1 : D) (j : JS) (Q : D → JS → Prop), S__law_words J [d0, d1] j Q → t__law_words J { nx := fun j' _ => Q .non j', rt := Q } j [.val d0, .val d1, .no, .no, .no]
def S__law_odd (J : Jst) : DL.Spec := fun ds j P => ∃ b : Int, ds = [.ref J.ad] ∧ JB J b j ∧ b < 2 ^ 200 ∧ ∀ d j', noCr d → JB J (b + 1) j' → P d j'
def N__law_odd : List Str := ([(Str.ofString "draws"), (Str.ofString "some")] : List Str)
def t__law_odd (J : Jst) : DS := (dSeq (dSet 1 (dLst (dCons (dC .non) (dCons (dC (.bl true)) (dCons (dC (.int 0)) (dCons (dC (.int 5)) (dCons (dC (.str (Str.ofString ""))) (dCons (dC (.str (Str.ofString "ab"))) (dCons (dTup dNil) (dCons (dLst dNil) (dCons (dC (.dct [] [])) (dCons (dTup (dCons (dTup (dCons (dC (.int 0)) (dCons (dC (.int 1)) dNil))) (dCons (dTup (dCons (dC (.int 1)) (dCons (dC (.int 1)) dNil))) dNil))) (dCons (dTup (dCons (dC (.str (Str.ofString "b"))) (dCons (dC (.str (Str.ofString "a"))) dNil))) (dCons (dTup (dCons (dC (.str (Str.ofString "a"))) (dCons (dC (.str (Str.ofString "a"))) dNil))) (dCons (dTup (dCons (dC (.str (Str.ofString "A"))) dNil)) (dCons (dTup (dCons (dC (.str (Str.ofString "a"))) (dCons (dC (.str (Str.ofString "b"))) (dCons (dC (.str (Str.ofString "c"))) (dCons (dC (.str (Str.ofString "d"))) (dCons (dC (.str (Str.ofString "e"))) dNil)))))) dNil)))))))))))))))) (dRet (dCall (S__law_pick J) (dCons (dVar 0) (dCons (dOp dAdd (dVar 1) (dLst (dCons (dTup (dCons (dTup (dCons (dC (.str (Str.ofString "a"))) (dCons (dC (.str (Str.ofString "a"))) dNil))) dNil)) (dCons (dTup (dCons (dTup (dCons (dC (.str (Str.ofString "b"))) (dCons (dC (.str (Str.ofString "a"))) dNil))) dNil)) (dCons (dLst (dCons (dC (.str (Str.ofString "a"))) dNil)) (dCons (dTup (dCons (dC (.int 5)) dNil)) (dCons (dDctU (dTup (dCons (dTup (dCons (dC (.int 0)) (dCons (dC (.int 1)) dNil))) dNil))) dNil))))))) dNil)))))
abbrev H__law_odd : Prop := ∀ (J : Jst) (d0 : D) (j : JS) (Q : D → JS → Prop), S__law_odd J [d0] j Q → t__law_odd J { nx := fun j' _ => Q .non j', rt := Q } j [.val d0, .no]
def Sr__law_hb_bent : Nat → Jst → DL.Spec
  | 0, _ => fun _ _ _ => False
  | n + 1, J => fun ds j P => ∃ (b : Int) (v : D) (w : Nat), ds = [.ref J.ad, v] ∧ hpw w v = true ∧ dep v ≤ n ∧ 2 ≤ w ∧ w ≤ 40 ∧ JB J b j ∧ b + 4 * (n + 1) < 2 ^ 195 ∧ ∀ d j', hpw (w + 1) d = true → JB J (b + 4 * (n + 1)) j' → P d j'
abbrev S__law_hb_bent (J : Jst) : DL.Spec := Sr__law_hb_bent 6 J
def N__law_hb_bent : List Str := ([(Str.ofString "draws"), (Str.ofString "value"), (Str.ofString "at"), (Str.ofString "way"), (Str.ofString "parts")] : List Str)
def t__law_hb_bent (n : Nat) (J : Jst) : DS := (dSeq (dIfS (dAndT (dTest (dIsi (fun d => isTupD d || isLstD d) (dVar 1))) (dAndT (dTest (dOp dGt (dO1 dLen (dVar 1)) (dC (.int 0)))) (dTest (dOp dGt (dCall (S__law_draw J) (dCons (dVar 0) (dCons (dC (.int 6)) dNil))) (dC (.int 0)))))) (dSeq (dPar 2 3 (dCons (dCall (S__law_draw J) (dCons (dVar 0) (dCons (dO1 dLen (dVar 1)) dNil))) (dCons (dCall (S__law_draw J) (dCons (dVar 0) (dCons (dC (.int 8)) dNil))) dNil))) (dSeq (dSetF 4 (dF1 dList (dVar 1))) (dSeq (dIfS (dTest (dOp dEq (dVar 3) (dC (.int 0)))) (dExprM (mPopAt 4 (mE (dVar 2)))) (dIfS (dTest (dOp dEq (dVar 3) (dC (.int 1)))) (dExprM (mIns 4 (dCons (dVar 2) (dCons (dOp dIx (dVarR 4) (dVar 2)) dNil)))) (dIfS (dAndT (dTest (dOp dEq (dVar 3) (dC (.int 2)))) (dTest (dOp dGt (dVar 2) (dC (.int 0))))) (dSetF 4 (dCat (dOp dAdd (dSl (dVarR 4) dNoP (dSomeP (dOp dSub (dVar 2) (dC (.int 1))))) (dLst (dCons (dOp dIx (dVarR 4) (dVar 2)) (dCons (dOp dIx (dVarR 4) (dOp dSub (dVar 2) (dC (.int 1)))) dNil)))) (dSl (dVarR 4) (dSomeP (dOp dAdd (dVar 2) (dC (.int 1)))) dNoP))) (dSetAt 4 (dVar 2) (dCall (Sr__law_hb_bent n J) (dCons (dVar 0) (dCons (dOp dIx (dVarR 4) (dVar 2)) dNil))))))) (dRet (dIf (dTest (dIsi isTupD (dVar 1))) (dO1 dTuple (dVarR 4)) (dVar 4)))))) dNext) (dSeq (dIfS (dAndT (dTest (dIsi isIntD (dVar 1))) (dNotT (dTest (dIsi isBoolD (dVar 1))))) (dRet (dCall (S__law_pick J) (dCons (dVar 0) (dCons (dLst (dCons (dOp dAdd (dVar 1) (dC (.int 1))) (dCons (dOp dSub (dVar 1) (dC (.int 1))) (dCons (dOp dSub (dC (.int 0)) (dVar 1)) (dCons (dC .non) (dCons (dC (.str (Str.ofString "1"))) (dCons (dOp dEq (dVar 1) (dC (.int 1))) (dCons (dC (.int 0)) (dCons (dC (.int 1)) dNil))))))))) dNil)))) dNext) (dRet (dCall (S__law_pick J) (dCons (dVar 0) (dCons (dLst (dCons (dC .non) (dCons (dTup dNil) (dCons (dC (.int 5)) (dCons (dC (.int 0)) (dCons (dC (.int 1)) (dCons (dC (.str (Str.ofString "x"))) (dCons (dC (.str (Str.ofString "a"))) (dCons (dC (.str (Str.ofString "crowd"))) (dCons (dC (.str (Str.ofString "market"))) (dCons (dC (.dct [] [])) (dCons (dTup (dCons (dC (.int 0)) (dCons (dC (.int 1)) dNil))) (dCons (dTup (dCons (dC (.int 1)) (dCons (dC (.int 2)) dNil))) dNil))))))))))))) dNil))))))
abbrev H__law_hb_bent : Prop := ∀ (n : Nat) (J : Jst) (d0 : D) (d1 : D) (j : JS) (Q : D → JS → Prop), Sr__law_hb_bent (n + 1) J [d0, d1] j Q → t__law_hb_bent n J { nx := fun j' _ => Q .non j', rt := Q } j [.val d0, .val d1, .no, .no, .no]
def S__law_hb_names (J : Jst) : DL.Spec := fun ds j P => ∃ b most : Int, ds = [.ref J.ad, .int most] ∧ 1 ≤ most ∧ most ≤ 6 ∧ JB J b j ∧ b < 2 ^ 189 ∧ J.cs.length ≤ 63 ∧ ∀ l j', okN most l → JB J (b + 2 ^ 101) j' → P (.tup (stD l)) j'
def N__law_hb_names : List Str := ([(Str.ofString "draws"), (Str.ofString "most")] : List Str)
def t__law_hb_names (J : Jst) : DS := (dRet (dO1 dTuple (dCall (S__law_words J) (dCons (dVar 0) (dCons (dOp dAdd (dC (.int 1)) (dCall (S__law_draw J) (dCons (dVar 0) (dCons (dVar 1) dNil)))) dNil)))))
abbrev H__law_hb_names : Prop := ∀ (J : Jst) (d0 : D) (d1 : D) (j : JS) (Q : D → JS → Prop), S__law_hb_names J [d0, d1] j Q → t__law_hb_names J { nx := fun j' _ => Q .non j', rt := Q } j [.val d0, .val d1]
def S__law_hb_crowd (J : Jst) : DL.Spec := fun ds j P => ∃ b : Int, ds = [.ref J.ad, .int 6] ∧ JB J b j ∧ b < 2 ^ 188 ∧ J.cs.length ≤ 63 ∧ ∀ c j', GoodC c → (∀ q ∈ c.W, q.2 ≤ 300) → JB J (b + 2 ^ 102) j' → P (crD c) j'
def N__law_hb_crowd : List Str := ([(Str.ofString "draws"), (Str.ofString "most"), (Str.ofString "people"), (Str.ofString "thick"), (Str.ofString "ties"), (Str.ofString "at"), (Str.ofString "one"), (Str.ofString "way"), (Str.ofString "same"), (Str.ofString "needs"), (Str.ofString "person"), (Str.ofString "drawn"), (Str.ofString "other")] : List Str)
def t__law_hb_crowd (J : Jst) : DS := (dSeq (dAsg (dTup (dCons (dCall (S__law_hb_names J) (dCons (dVar 0) (dCons (dVar 1) dNil))) (dCons (dOp dAdd (dC (.int 1)) (dCall (S__law_draw J) (dCons (dVar 0) (dCons (dC (.int 4)) dNil)))) dNil))) (gTp (gCn (gN 2) (gCn (gN 3) gNl)))) (dSeq (dSetF 4 dNil) (dSeq (dFor (dEnum (dCons (dVar 2) dNil)) (gTp (gCn (gN 5) (gCn (gN 6) gNl))) (dExprM (mExt 4 (dLc (dI seqR (dSl (dVar 2) (dSomeP (dOp dAdd (dVar 5) (dC (.int 1)))) dNoP)) (gN 12) (dTest (dOp dLt (dCall (S__law_draw J) (dCons (dVar 0) (dCons (dC (.int 5)) dNil))) (dVar 3))) (dTup (dCons (dVar 6) (dCons (dVar 12) dNil))) [12])))) (dSeq (dPar 7 8 (dCons (dCall (S__law_draw J) (dCons (dVar 0) (dCons (dC (.int 3)) dNil))) (dCons (dCall (S__law_pick J) (dCons (dVar 0) (dCons (dLst (dCons (dTup (dCons (dC (.int 1)) (dCons (dC (.int 2)) dNil))) (dCons (dTup (dCons (dC (.int 1)) (dCons (dC (.int 3)) dNil))) (dCons (dTup (dCons (dC (.int 1)) (dCons (dC (.int 1)) dNil))) (dCons (dTup (dCons (dC (.int 0)) (dCons (dC (.int 1)) dNil))) (dCons (dTup (dCons (dC (.int 2)) (dCons (dC (.int 3)) dNil))) dNil)))))) dNil))) dNil))) (dSeq (dSetF 9 dNil) (dSeq (dFor (dI seqR (dVar 2)) (gN 10) (dSeq (dSet 11 (dCall (S__law_q J) (dCons (dCall (S__law_draw J) (dCons (dVar 0) (dCons (dC (.int 7)) dNil))) (dCons (dC (.int 6)) dNil)))) (dExprM (mApp 9 (mE (dIf (dTest (dOp dEq (dVar 7) (dC (.int 0)))) (dVar 8) (dIf (dTest (dOp dEq (dVar 7) (dC (.int 1)))) (dVar 11) (dCall (S__law_pick J) (dCons (dVar 0) (dCons (dLst (dCons (dTup (dCons (dC (.int 0)) (dCons (dC (.int 1)) dNil))) (dCons (dTup (dCons (dC (.int 1)) (dCons (dC (.int 2)) dNil))) (dCons (dTup (dCons (dC (.int 1)) (dCons (dC (.int 1)) dNil))) (dCons (dTup (dCons (dC (.int 1)) (dCons (dC (.int 3)) dNil))) (dCons (dTup (dCons (dC (.int 2)) (dCons (dC (.int 5)) dNil))) (dCons (dVar 11) dNil))))))) dNil)))))))))) (dRet (dTup (dCons (dC (.str (Str.ofString "crowd"))) (dCons (dVar 2) (dCons (dO1 dTuple (dVarR 4)) (dCons (dO1 dTuple (dVarR 9)) dNil))))))))))))
abbrev H__law_hb_crowd : Prop := ∀ (J : Jst) (d0 : D) (d1 : D) (j : JS) (Q : D → JS → Prop), S__law_hb_crowd J [d0, d1] j Q → t__law_hb_crowd J { nx := fun j' _ => Q .non j', rt := Q } j [.val d0, .val d1, .no, .no, .no, .no, .no, .no, .no, .no, .no, .no, .no]
def S__law_hb_is_lot (J : Jst) : DL.Spec := fun ds j P => ∃ (l : List Str) (v : D), ds = [.tup (stD l), v] ∧ pv 1 v ∧ P (.bl (isLotB l v)) j
def N__law_hb_is_lot : List Str := ([(Str.ofString "people"), (Str.ofString "value"), (Str.ofString "one")] : List Str)
def t__law_hb_is_lot (J : Jst) : DS := (dSeq (dIfS (dOrT (dNotT (dTest (dIsi isTupD (dVar 1)))) (dTest (dOp dNe (dLst (dLc (dI seqR (dVar 1)) (gN 2) (dOrT (dNotT (dTest (dIsi isStrD (dVar 2)))) (dTest (dOp dNin (dVar 2) (dVar 0)))) (dC (.int 1)) [2])) (dLst dNil)))) (dRet (dC (.bl false))) dNext) (dRet (dOp dEq (dLst (dF1 dList (dVar 1))) (dLst (dF1 dSortSet (dVar 1))))))
abbrev H__law_hb_is_lot : Prop := ∀ (J : Jst) (d0 : D) (d1 : D) (j : JS) (Q : D → JS → Prop), S__law_hb_is_lot J [d0, d1] j Q → t__law_hb_is_lot J { nx := fun j' _ => Q .non j', rt := Q } j [.val d0, .val d1, .no]
def S__law_hb_near (J : Jst) : DL.Spec := fun ds j P => ∃ (c : Cr) (p : Str), ds = [crD c, .str p] ∧ GoodC c ∧ P (.lst (stD (near c p))) j
def N__law_hb_near : List Str := ([(Str.ofString "crowd"), (Str.ofString "person"), (Str.ofString "one"), (Str.ofString "other")] : List Str)
def t__law_hb_near (J : Jst) : DS := (dRet (dLst (dLc (dI seqR (dOp dIx (dVar 0) (dC (.int 2)))) (gTp (gCn (gN 2) (gCn (gN 3) gNl))) (dTest (dOp dIn (dVar 1) (dTup (dCons (dVar 2) (dCons (dVar 3) dNil))))) (dIf (dTest (dOp dEq (dVar 3) (dVar 1))) (dVar 2) (dVar 3)) [2, 3])))
abbrev H__law_hb_near : Prop := ∀ (J : Jst) (d0 : D) (d1 : D) (j : JS) (Q : D → JS → Prop), S__law_hb_near J [d0, d1] j Q → t__law_hb_near J { nx := fun j' _ => Q .non j', rt := Q } j [.val d0, .val d1, .no, .no]
def S__law_hb_takes (J : Jst) : DL.Spec := fun ds j P => ∃ (c : Cr) (lot : List Str) (p : Str), ds = [crD c, .tup (stD lot), .str p] ∧ GoodC c ∧ p ∈ c.P ∧ P (.bl (takes c lot p)) j
def N__law_hb_takes : List Str := ([(Str.ofString "crowd"), (Str.ofString "lot"), (Str.ofString "person"), (Str.ofString "own"), (Str.ofString "count"), (Str.ofString "need"), (Str.ofString "one")] : List Str)
def t__law_hb_takes (J : Jst) : DS := (dSeq (dSet 3 (dCall (S__law_hb_near J) (dCons (dVar 0) (dCons (dVar 2) dNil)))) (dSeq (dPar 4 5 (dCons (dO1 dLen (dLst (dLc (dI seqR (dVar 3)) (gN 6) (dTest (dOp dIn (dVar 6) (dVar 1))) (dVar 6) [6]))) (dCons (dOp dIx (dOp dIx (dVar 0) (dC (.int 3))) (dIndex (dOp dIx (dVar 0) (dC (.int 1))) (dVar 2))) dNil))) (dRet (dAnd (dOp dGt (dVar 4) (dC (.int 0))) (dNot (dCall (S__law_less J) (dCons (dTup (dCons (dVar 4) (dCons (dC (.int 1)) dNil))) (dCons (dCall (S__law_times J) (dCons (dVar 5) (dCons (dTup (dCons (dO1 dLen (dVar 3)) (dCons (dC (.int 1)) dNil))) dNil))) dNil))))))))
abbrev H__law_hb_takes : Prop := ∀ (J : Jst) (d0 : D) (d1 : D) (d2 : D) (j : JS) (Q : D → JS → Prop), S__law_hb_takes J [d0, d1, d2] j Q → t__law_hb_takes J { nx := fun j' _ => Q .non j', rt := Q } j [.val d0, .val d1, .val d2, .no, .no, .no, .no]
def S__law_hb_taking (J : Jst) : DL.Spec := fun ds j P => ∃ (c : Cr) (lot : List Str), ds = [crD c, .tup (stD lot)] ∧ GoodC c ∧ P (.tup (stD (taken c lot))) j
def N__law_hb_taking : List Str := ([(Str.ofString "crowd"), (Str.ofString "lot"), (Str.ofString "person")] : List Str)
def t__law_hb_taking (J : Jst) : DS := (dRet (dO1 dTuple (dLst (dLc (dI seqR (dOp dIx (dVar 0) (dC (.int 1)))) (gN 2) (dAndT (dTest (dOp dNin (dVar 2) (dVar 1))) (dTest (dCall (S__law_hb_takes J) (dCons (dVar 0) (dCons (dVar 1) (dCons (dVar 2) dNil)))))) (dVar 2) [2]))))
abbrev H__law_hb_taking : Prop := ∀ (J : Jst) (d0 : D) (d1 : D) (j : JS) (Q : D → JS → Prop), S__law_hb_taking J [d0, d1] j Q → t__law_hb_taking J { nx := fun j' _ => Q .non j', rt := Q } j [.val d0, .val d1, .no]
def S__law_hb_rounds (J : Jst) : DL.Spec := fun ds j P => ∃ (c : Cr) (lot : List Str), ds = [crD c, .tup (stD lot)] ∧ GoodC c ∧ okL c.P lot ∧ P (.tup ((rds c c.P.length lot).map fun l => .tup (stD l))) j
def N__law_hb_rounds : List Str := ([(Str.ofString "crowd"), (Str.ofString "lot"), (Str.ofString "found")] : List Str)
def t__law_hb_rounds (J : Jst) : DS := (dSeq (dSetF 2 (dCons (dVar 1) dNil)) (dSeq (dWhile (dTest (dOp dNe (dCall (S__law_hb_taking J) (dCons (dVar 0) (dCons (dOp dIx (dVarR 2) (dNeg (dC (.int 1)))) dNil))) (dTup dNil))) (dExprM (mApp 2 (mE (dO1 dTuple (dLst (dF1 dSorted (dOp dAdd (dOp dIx (dVarR 2) (dNeg (dC (.int 1)))) (dCall (S__law_hb_taking J) (dCons (dVar 0) (dCons (dOp dIx (dVarR 2) (dNeg (dC (.int 1)))) dNil))))))))))) (dRet (dO1 dTuple (dVarR 2)))))
abbrev H__law_hb_rounds : Prop := ∀ (J : Jst) (d0 : D) (d1 : D) (j : JS) (Q : D → JS → Prop), S__law_hb_rounds J [d0, d1] j Q → t__law_hb_rounds J { nx := fun j' _ => Q .non j', rt := Q } j [.val d0, .val d1, .no]
def S__law_hb_apart (J : Jst) : DL.Spec := fun ds j P => ∃ (c : Cr) (lot : List Str), ds = [crD c, .tup (stD lot)] ∧ GoodC c ∧ (∀ p ∈ lot, p ∈ c.P) ∧ P (.bl (decide (lot ≠ []) && apart c lot)) j
def N__law_hb_apart : List Str := ([(Str.ofString "crowd"), (Str.ofString "lot"), (Str.ofString "others"), (Str.ofString "person")] : List Str)
def t__law_hb_apart (J : Jst) : DS := (dSeq (dSet 2 (dO1 dTuple (dLst (dLc (dI seqR (dOp dIx (dVar 0) (dC (.int 1)))) (gN 3) (dTest (dOp dNin (dVar 3) (dVar 1))) (dVar 3) [3])))) (dRet (dAnd (dOp dNe (dVar 1) (dTup dNil)) (dOp dEq (dLst (dLc (dI seqR (dVar 1)) (gN 3) (dTest (dCall (S__law_hb_takes J) (dCons (dVar 0) (dCons (dVar 2) (dCons (dVar 3) dNil))))) (dC (.int 1)) [3])) (dLst dNil)))))
abbrev H__law_hb_apart : Prop := ∀ (J : Jst) (d0 : D) (d1 : D) (j : JS) (Q : D → JS → Prop), S__law_hb_apart J [d0, d1] j Q → t__law_hb_apart J { nx := fun j' _ => Q .non j', rt := Q } j [.val d0, .val d1, .no, .no]
def S__law_hb_lots (J : Jst) : DL.Spec := fun ds j P => ∃ l : List Str, ds = [.tup (stD l)] ∧ l.length ≤ 6 ∧ P (.lst ((lotsOf l).map lotD)) j
def N__law_hb_lots : List Str := ([(Str.ofString "people"), (Str.ofString "found"), (Str.ofString "person"), (Str.ofString "lot")] : List Str)
def t__law_hb_lots (J : Jst) : DS := (dSeq (dSet 1 (dLst (dCons (dTup dNil) dNil))) (dSeq (dFor (dI seqR (dVar 0)) (gN 2) (dSet 1 (dOp dAdd (dVar 1) (dLst (dLc (dI seqR (dVar 1)) (gN 3) dTrue (dOp dAdd (dVar 3) (dTup (dCons (dVar 2) dNil))) [3]))))) (dRet (dLst (dF1 dSorted (dVar 1))))))
abbrev H__law_hb_lots : Prop := ∀ (J : Jst) (d0 : D) (j : JS) (Q : D → JS → Prop), S__law_hb_lots J [d0] j Q → t__law_hb_lots J { nx := fun j' _ => Q .non j', rt := Q } j [.val d0, .no, .no, .no]
def S__law_hb_lot (J : Jst) : DL.Spec := fun ds j P => ∃ (b n : Int) (l : List Str), ds = [.ref J.ad, .tup (stD l), .int n] ∧ JB J b j ∧ b < 2 ^ 199 ∧ 1 ≤ n ∧ n < 2 ^ 60 ∧ asc l ∧ l.length ≤ 1000 ∧ ∀ lot j', okL l lot → JB J (b + 1000) j' → P (.tup (stD lot)) j'
def N__law_hb_lot : List Str := ([(Str.ofString "draws"), (Str.ofString "people"), (Str.ofString "often"), (Str.ofString "person")] : List Str)
def t__law_hb_lot (J : Jst) : DS := (dRet (dO1 dTuple (dLst (dLc (dI seqR (dVar 1)) (gN 3) (dTest (dOp dEq (dCall (S__law_draw J) (dCons (dVar 0) (dCons (dVar 2) dNil))) (dC (.int 0)))) (dVar 3) [3]))))
abbrev H__law_hb_lot : Prop := ∀ (J : Jst) (d0 : D) (d1 : D) (d2 : D) (j : JS) (Q : D → JS → Prop), S__law_hb_lot J [d0, d1, d2] j Q → t__law_hb_lot J { nx := fun j' _ => Q .non j', rt := Q } j [.val d0, .val d1, .val d2, .no]
def S__law_hb_no_lot (J : Jst) : DL.Spec := fun ds j P => ∃ (b : Int) (l : List Str), ds = [.ref J.ad, .tup (stD l)] ∧ okN 6 l ∧ JB J b j ∧ b < 2 ^ 199 ∧ ∀ d j', noLot l d → JB J (b + 1) j' → P d j'
def N__law_hb_no_lot : List Str := ([(Str.ofString "draws"), (Str.ofString "people")] : List Str)
def t__law_hb_no_lot (J : Jst) : DS := (dRet (dCall (S__law_pick J) (dCons (dVar 0) (dCons (dLst (dCons (dC .non) (dCons (dLst (dF1 dList (dVar 1))) (dCons (dOp dAdd (dVar 1) (dSl (dVar 1) dNoP (dSomeP (dC (.int 1))))) (dCons (dIf (dTest (dOp dGt (dO1 dLen (dVar 1)) (dC (.int 1)))) (dRevE (dVar 1)) (dC (.int 5))) (dCons (dTup (dCons (dC (.str (Str.ofString "zzzzzzzzz"))) dNil)) (dCons (dOp dAdd (dOp dIx (dVar 1) (dC (.int 0))) (dC (.str (Str.ofString "z")))) (dCons (dTup (dCons (dC (.int 1)) dNil)) (dCons (dC (.dct [] [])) dNil))))))))) dNil))))
abbrev H__law_hb_no_lot : Prop := ∀ (J : Jst) (d0 : D) (d1 : D) (j : JS) (Q : D → JS → Prop), S__law_hb_no_lot J [d0, d1] j Q → t__law_hb_no_lot J { nx := fun j' _ => Q .non j', rt := Q } j [.val d0, .val d1]
def S__law_k57_is (J : Jst) : DL.Spec := fun ds j P => ∃ (c : Cr) (lot : List Str) (x : D), ds = [crD c, lotD lot, x] ∧ GoodC c ∧ okL c.P lot ∧ pv 2 x ∧ P (.bl (reachB c lot x)) j
def N__law_k57_is : List Str := ([(Str.ofString "crowd"), (Str.ofString "lot"), (Str.ofString "value"), (Str.ofString "others"), (Str.ofString "person"), (Str.ofString "at"), (Str.ofString "one")] : List Str)
def t__law_k57_is (J : Jst) : DS := (dSeq (dIfS (dOrT (dNotT (dTest (dIsi isTupD (dVar 2)))) (dOrT (dTest (dOp dNe (dO1 dLen (dVar 2)) (dC (.int 2)))) (dNotT (dTest (dIsi isStrD (dOp dIx (dVar 2) (dC (.int 0)))))))) (dRet (dC (.bl false))) dNext) (dSeq (dIfS (dTest (dOp dEq (dOp dIx (dVar 2) (dC (.int 0))) (dC (.str (Str.ofString "kept"))))) (dRet (dAnd (dCall (S__law_hb_is_lot J) (dCons (dOp dIx (dVar 0) (dC (.int 1))) (dCons (dOp dIx (dVar 2) (dC (.int 1))) dNil))) (dAnd (dCall (S__law_hb_apart J) (dCons (dVar 0) (dCons (dOp dIx (dVar 2) (dC (.int 1))) dNil))) (dOp dEq (dLst (dLc (dI seqR (dOp dIx (dVar 2) (dC (.int 1)))) (gN 4) (dTest (dOp dIn (dVar 4) (dVar 1))) (dC (.int 1)) [4])) (dLst dNil))))) dNext) (dSeq (dSet 3 (dLst (dLc (dI seqR (dOp dIx (dVar 0) (dC (.int 1)))) (gN 4) (dTest (dOp dNin (dVar 4) (dVar 1))) (dVar 4) [4]))) (dSeq (dIfS (dOrT (dTest (dOp dNe (dOp dIx (dVar 2) (dC (.int 0))) (dC (.str (Str.ofString "row"))))) (dOrT (dNotT (dTest (dIsi isTupD (dOp dIx (dVar 2) (dC (.int 1)))))) (dOrT (dTest (dOp dNe (dLst (dLc (dI seqR (dOp dIx (dVar 2) (dC (.int 1)))) (gN 6) (dNotT (dTest (dIsi isStrD (dVar 6)))) (dC (.int 1)) [6])) (dLst dNil))) (dTest (dOp dNe (dLst (dF1 dSorted (dOp dIx (dVar 2) (dC (.int 1))))) (dVar 3)))))) (dRet (dC (.bl false))) dNext) (dRet (dOp dEq (dLst (dLc (dEnum (dCons (dOp dIx (dVar 2) (dC (.int 1))) dNil)) (gTp (gCn (gN 5) (gCn (gN 4) gNl))) (dNotT (dTest (dCall (S__law_hb_takes J) (dCons (dVar 0) (dCons (dOp dAdd (dVar 1) (dSl (dOp dIx (dVar 2) (dC (.int 1))) dNoP (dSomeP (dVar 5)))) (dCons (dVar 4) dNil)))))) (dC (.int 1)) [5, 4])) (dLst dNil)))))))
abbrev H__law_k57_is : Prop := ∀ (J : Jst) (d0 : D) (d1 : D) (d2 : D) (j : JS) (Q : D → JS → Prop), S__law_k57_is J [d0, d1, d2] j Q → t__law_k57_is J { nx := fun j' _ => Q .non j', rt := Q } j [.val d0, .val d1, .val d2, .no, .no, .no, .no]
def S__law_k57_kind (J : Jst) : DL.Spec := fun ds j P => (∃ ns xs, ds = [.exc (J.fa (Str.ofString "BadCrowd")) ns xs] ∧ P (.lst [.int 0]) j) ∨ (∃ ns xs, ds = [.exc (J.fa (Str.ofString "BadLot")) ns xs] ∧ P (.lst [.int 1]) j)
def N__law_k57_kind : List Str := ([(Str.ofString "error"), (Str.ofString "told"), (Str.ofString "at"), (Str.ofString "here")] : List Str)
def t__law_k57_kind (J : Jst) : DS := (dSeq (dSet 1 (dLst (dCons (dIsC J errs sub_BadCrowd (dVar 0)) (dCons (dIsC J errs sub_BadLot (dVar 0)) dNil)))) (dRet (dLst (dLc (dEnum (dCons (dVar 1) dNil)) (gTp (gCn (gN 2) (gCn (gN 3) gNl))) (dTest (dVar 3)) (dVar 2) [2, 3]))))
abbrev H__law_k57_kind : Prop := ∀ (J : Jst) (d0 : D) (j : JS) (Q : D → JS → Prop), S__law_k57_kind J [d0] j Q → t__law_k57_kind J { nx := fun j' _ => Q .non j', rt := Q } j [.val d0, .no, .no, .no]
def N_law : List Str := ([(Str.ofString "script"), (Str.ofString "draws"), (Str.ofString "turn"), (Str.ofString "crowd"), (Str.ofString "people"), (Str.ofString "lot"), (Str.ofString "found"), (Str.ofString "left"), (Str.ofString "others"), (Str.ofString "values"), (Str.ofString "value"), (Str.ofString "right"), (Str.ofString "odd"), (Str.ofString "wrong"), (Str.ofString "ask"), (Str.ofString "person"), (Str.ofString "lap"), (Str.ofString "some"), (Str.ofString "one"), (Str.ofString "two")] : List Str)
def lam_law_0 : LamT := lamT (Str.ofString "law.<locals>.<lambda>") (kid (skid (sbod (fbod (top 59) 1) 4) 0) 1)
def l_law_0 (J : Jst) (ρ : List SD) : DE := (dCall (S_is_reaching J) (dCons (dVar 18) (dCons (dVar 19) (dCons (dC .non) dNil))))
def W_law_1 (J : Jst) (ρ : List SD) : D → DL.Spec → Prop := fun d S => (d = .ref (J.fa (Str.ofString "reaching")) ∧ S = S_reaching J) ∨ (d = .clo lam_law_0 J.cl ∧ S = fun ds j R => l_law_0 J ρ j (bindD (noOwn ρ) [18, 19] ds) R)
def lam_law_1 : LamT := lamT (Str.ofString "law.<locals>.<lambda>") (kid (kid (kid (skid (sbod (sbod (fbod (top 59) 1) 4) 0) 0) 0) 1) 1)
def l_law_1 (J : Jst) (ρ : List SD) : DE := (dCallV (W_law_1 J ρ) 14 (dCons (dVar 12) (dCons (dVar 13) dNil)))
def V_law_0 (J : Jst) : List SD → D → Ac → Prop := fun ρ d A => d = .clo lam_law_1 J.cl ∧ A = fun xk j R => l_law_1 (J.re xk J.fa J.cl J.ej J.eF J.eH) ρ j (noOwn ρ) R
def W_law_3 (J : Jst) (ρ : List SD) : D → DL.Spec → Prop := fun d S => (d = .ref (J.fa (Str.ofString "reaching")) ∧ S = S_reaching J) ∨ (d = .clo lam_law_0 J.cl ∧ S = fun ds j R => l_law_0 J ρ j (bindD (noOwn ρ) [18, 19] ds) R)
def lam_law_2 : LamT := lamT (Str.ofString "law.<locals>.<lambda>") (kid (kid (kid (skid (sbod (sbod (fbod (top 59) 1) 4) 1) 0) 0) 1) 1)
def l_law_2 (J : Jst) (ρ : List SD) : DE := (dCallV (W_law_3 J ρ) 14 (dCons (dVar 3) (dCons (dVar 13) dNil)))
def V_law_2 (J : Jst) : List SD → D → Ac → Prop := fun ρ d A => d = .clo lam_law_2 J.cl ∧ A = fun xk j R => l_law_2 (J.re xk J.fa J.cl J.ej J.eF J.eH) ρ j (noOwn ρ) R
def t_law (J : Jst) : DS := (dSeq (dFor (dRng1 (dCons (dOp dAdd (dC (.int 3)) (d2 oMin (dCons (dO1 dLen (dVar 0)) (dCons (dC (.int 5)) dNil)))) dNil)) (gN 2) (dSeq (dSet 3 (dCall (S__law_hb_crowd J) (dCons (dVar 1) (dCons (dC (.int 6)) dNil)))) (dSeq (dSet 4 (dOp dIx (dVar 3) (dC (.int 1)))) (dSeq (dFor (dI seqR (dLst (dCons (dCall (S__law_hb_lot J) (dCons (dVar 1) (dCons (dVar 4) (dCons (dC (.int 2)) dNil)))) (dCons (dCall (S__law_hb_lot J) (dCons (dVar 1) (dCons (dVar 4) (dCons (dC (.int 3)) dNil)))) (dCons (dTup dNil) (dCons (dVar 4) dNil)))))) (gN 5) (dSeq (dSet 6 (dCall (S_reaching J.calm) (dCons (dVar 3) (dCons (dVar 5) dNil)))) (dSeq (dSet 7 (dO1 dTuple (dLst (dLc (dI seqR (dVar 4)) (gN 15) (dTest (dOp dNin (dVar 15) (dOp dIx (dCall (S__law_hb_rounds J) (dCons (dVar 3) (dCons (dVar 5) dNil))) (dNeg (dC (.int 1)))))) (dVar 15) [15])))) (dSeq (dIfS (dOrT (dNotT (dTest (dCall (S__law_k57_is J) (dCons (dVar 3) (dCons (dVar 5) (dCons (dVar 6) dNil)))))) (dOrT (dNotT (dTest (dCall (S__law_same J) (dCons (dCall (S_reaching J.calm) (dPerm [1, 0] (dCons (dVar 5) (dCons (dVar 3) dNil)))) (dCons (dVar 6) dNil))))) (dTest (dOp dNe (dOp dEq (dOp dIx (dVar 6) (dC (.int 0))) (dC (.str (Str.ofString "row")))) (dOp dEq (dVar 7) (dTup dNil)))))) (dRet (dC (.bl false))) dNext) (dSeq (dSet 8 (dO1 dTuple (dLst (dLc (dI seqR (dVar 4)) (gN 15) (dTest (dOp dNin (dVar 15) (dVar 5))) (dVar 15) [15])))) (dSeq (dSet 9 (dLst (dCons (dVar 6) (dCons (dLst (dF1 dList (dVar 6))) (dCons (dSl (dVar 6) dNoP (dSomeP (dC (.int 1)))) (dCons (dC .non) (dCons (dTup (dCons (dC (.str (Str.ofString "row"))) (dCons (dVar 8) dNil))) (dCons (dTup (dCons (dC (.str (Str.ofString "row"))) (dCons (dO1 dTuple (dCall (S__law_shuffled J) (dCons (dVar 1) (dCons (dLst (dF1 dList (dVar 8))) dNil)))) dNil))) (dCons (dTup (dCons (dC (.str (Str.ofString "kept"))) (dCons (dVar 8) dNil))) (dCons (dTup (dCons (dC (.str (Str.ofString "kept"))) (dCons (dVar 7) dNil))) (dCons (dTup (dCons (dC (.str (Str.ofString "kept"))) (dCons (dTup dNil) dNil))) (dCons (dOp dAdd (dTup (dCons (dC (.str (Str.ofString "row"))) dNil)) (dSl (dVar 6) (dSomeP (dC (.int 1))) dNoP)) dNil)))))))))))) (dFor (dI seqR (dOp dAdd (dOp dAdd (dVar 9) (dLst (dLc (dI seqR (dCall (S__law_hb_lots J) (dCons (dVar 4) dNil))) (gN 17) dTrue (dTup (dCons (dC (.str (Str.ofString "kept"))) (dCons (dVar 17) dNil))) [17]))) (dLst (dLc (dRng1 (dCons (dC (.int 5)) dNil)) (gN 16) dTrue (dCall (S__law_hb_bent J) (dCons (dVar 1) (dCons (dVar 6) dNil))) [16])))) (gN 10) (dSeq (dSet 11 (dCall (S__law_k57_is J) (dCons (dVar 3) (dCons (dVar 5) (dCons (dVar 10) dNil))))) (dSeq (dIfS (dOrT (dNotT (dTest (dCall (S__law_is_truth J) (dCons (dCall (S_is_reaching J.calm) (dCons (dVar 3) (dCons (dVar 5) (dCons (dVar 10) dNil)))) (dCons (dVar 11) dNil))))) (dNotT (dTest (dCall (S__law_is_truth J) (dCons (dCall (S_is_reaching J.calm) (dPerm [2, 1, 0] (dCons (dVar 10) (dCons (dVar 5) (dCons (dVar 3) dNil))))) (dCons (dVar 11) dNil)))))) (dRet (dC (.bl false))) dNext) (dIfS (dAndT (dTest (dVar 11)) (dOrT (dTest (dOp dNe (dOp dIx (dVar 10) (dC (.int 0))) (dOp dIx (dVar 6) (dC (.int 0))))) (dAndT (dTest (dOp dEq (dOp dIx (dVar 10) (dC (.int 0))) (dC (.str (Str.ofString "kept"))))) (dTest (dOp dNe (dLst (dLc (dI seqR (dOp dIx (dVar 10) (dC (.int 1)))) (gN 15) (dTest (dOp dNin (dVar 15) (dVar 7))) (dC (.int 1)) [15])) (dLst dNil)))))) (dRet (dC (.bl false))) dNext)))))))))) (dSeq (dAsg (dTup (dCons (dCall (S__law_odd J) (dCons (dVar 1) dNil)) (dCons (dCall (S__law_hb_no_lot J) (dCons (dVar 1) (dCons (dVar 4) dNil))) dNil))) (gTp (gCn (gN 12) (gCn (gN 13) gNl)))) (dFor (dI seqR (dLst (dCons (dC (.ref (J.fa (Str.ofString "reaching")))) (dCons (dLam J lam_law_0) dNil)))) (gN 14) (dSeq (dIfS (dTest (dOp dNe (dCall (S__law_k57_kind J) (dCons (dHo (V_law_0 J) (S__law_caught J) (dCons (dLam J lam_law_1) dNil)) dNil)) (dLst (dCons (dC (.int 0)) dNil)))) (dRet (dC (.bl false))) dNext) (dIfS (dTest (dOp dNe (dCall (S__law_k57_kind J) (dCons (dHo (V_law_2 J) (S__law_caught J) (dCons (dLam J lam_law_2) dNil)) dNil)) (dLst (dCons (dC (.int 1)) dNil)))) (dRet (dC (.bl false))) dNext)))))))) (dRet (dC (.bl true))))
end K57
/-! K57H -/
namespace K57
open PySem PySem.Spec PyProof.Rows L2 DL

theorem pick_any {J : Jst} {b : Int} {j : JS} {l : List D} {Q : D → JS → Prop} (h : JB J b j) (hb : b < 2 ^ 200) (h0 : l ≠ []) (hl : l.length ≤ 1000) (k : ∀ d j', d ∈ l → JB J (b + 1) j' → Q d j') : S__law_pick J [.ref J.ad, .lst l] j Q := by
  have lp : 0 < l.length := List.length_pos_iff.mpr h0
  have dr := h.draw (n := (l.length : Int)) (by omega)
  have hi : (drawK J.cs j l.length).toNat < l.length := by have := dr.2; omega
  exact ⟨b, _, l, l[(drawK J.cs j l.length).toNat], rfl, .inl rfl, h, hb, hl, List.getElem?_eq_getElem hi, k _ _ (List.getElem_mem hi) dr.1⟩
/-- a filter of texts by a test -/
theorem compW_f {te : DE} {ρ : List SD} {j : JS} {P : List D → JS → Prop} {g : DG} {tt : DT} (p : Str → Bool) {l : List Str} (hf : ∀ a ∈ l, ∀ Q : Option D → JS → Prop, Q (if p a = true then some (D.str a) else none) j → g (.str a) ρ fun ρ2 => tt j ρ2 fun b j1 => if b = true then te j1 ρ2 fun y j2 => Q (some y) j2 else Q none j1) (h : P (stD (l.filter p)) j) : compW g tt te ρ P (stD l) [] j := compW_in p hf h

theorem h_is_whole : H_is_whole := by
  intro J d0 j Q ⟨i, e, q⟩
  cases e
  simp [t_is_whole]
  exact q

theorem h_is_ratio : H_is_ratio := by
  intro J d0 j Q ⟨⟨n, d⟩, e, ⟨h1, h2⟩, q⟩
  cases e
  simp only at h1 h2
  simp [t_is_ratio, compW, S_is_whole, qD, h1, h2, isBlD, isTr]
  exact q

theorem h_is_chance : H_is_chance := by
  intro J d0 j Q ⟨⟨n, d⟩, e, ⟨h1, h3, h4, h5⟩, q⟩
  cases e
  simp only at h3 h4
  simp [t_is_chance, S_is_ratio, qD, h3, h4]
  exact ⟨n, d, ⟨rfl, rfl⟩, h1, q⟩

theorem h_is_word : H_is_word := by
  intro J d0 j Q ⟨s, e, ⟨h1, h2, h3⟩, q⟩
  cases e
  have hs : s.length ≤ sizeLine := by rw [sizeLine_eq]; omega
  have h1' : (1 : Int) ≤ s.length := by exact_mod_cast h1
  have h2' : (s.length : Int) ≤ 8 := by exact_mod_cast h2
  simp only [t_is_word]
  simp [hs, h1', h2']
  refine compW_map (fun _ => .bl true) (fun d hd Q q => ?_) ?_
  · obtain ⟨c, hc, rfl⟩ := List.mem_map.mp hd
    obtain ⟨k1, k2⟩ := h3 c hc
    have := letters_in ⟨c - 97, by omega⟩
    simp only at this
    rw [show 97 + (c - 97) = c by omega] at this
    simp [sign1, this]
    exact q
  · obtain ⟨a1, a2⟩ := all_bl (l := s.cps.toList.map sign1) (f := fun _ => D.bl true) fun _ _ => rfl
    rw [a2]
    exact ⟨List.all_eq_true.mp a1, q⟩

theorem h_are_names : H_are_names := by
  intro J d0 d1 j Q ⟨l, most, e, ⟨h1, h2, h3, h4⟩, q⟩
  cases e
  have h1' : (1 : Int) ≤ l.length := by exact_mod_cast h1
  simp only [t_are_names]
  simp [h1', h2]
  refine compW_bl (fun d hd Q q => ?_) fun es hes => ?_
  · obtain ⟨s, hs, rfl⟩ := List.mem_map.mp hd
    simp
    exact ⟨s, rfl, h3 s hs, q⟩
  · obtain ⟨f1, f2, f3⟩ := es_facts hes
    refine ⟨f1, ?_⟩
    rw [if_neg f2]
    refine compW_bl (fun d hd Q q => ?_) fun es hes => ?_
    · rw [zip_tail] at hd
      obtain ⟨p, hp, rfl⟩ := List.mem_map.mp hd
      simp [dlt_str, asc_tail_zip h4 p hp]
      exact q
    · obtain ⟨f1, f2, f3⟩ := es_facts hes
      rw [f3]
      exact ⟨f1, q⟩

theorem h_is_pair_of : H_is_pair_of := by
  intro J d0 d1 j Q ⟨l, p, e, ⟨h1, h2, h3⟩, q⟩
  cases e
  simp only [t_is_pair_of]
  simp [pairS, compW, isBlD, isTr, lv_str, lv_stD, hasIn_stD, h1, h2, dlt_str, h3]
  exact q

theorem h_is_crowd : H_is_crowd := by
  intro J d0 j Q ⟨d, e, h⟩
  cases e
  rcases h with ⟨c, rfl, g, q⟩ | ⟨h, q⟩
  case inr =>
    cases d0 with
    | tup xs =>
      have h1 : ¬ (xs.length : Int) = 4 := by have := h.1; omega
      simp [t_is_crowd, h1]
      exact q
    | _ =>
      have h : noRef _ = true := h
      simp at h <;> (simp [t_is_crowd]; exact q)
  have hn := g.names
  simp only [t_is_crowd]
  simp [crD]
  refine ⟨c.P, 6, rfl, hn, ?_⟩
  refine compW_bl (fun d hd Q q => ?_) fun es hes => ?_
  · obtain ⟨t, ht, rfl⟩ := List.mem_map.mp hd
    simp
    exact ⟨_, _, rfl, g.ties t ht, q⟩
  · obtain ⟨f1, f2, f3⟩ := es_facts hes
    refine ⟨f1, ?_⟩
    rw [if_neg f2]
    refine compW_bl (fun d hd Q q => ?_) fun es hes => ?_
    · rw [zip_mapG] at hd
      obtain ⟨p, hp, rfl⟩ := List.mem_map.mp hd
      have := dlt_pair (asc_zipG g.asc p hp)
      simp only [pairS] at this
      simp [pairS, lv, lk, enc, encAll, PySem.W.alike, PySem.W.alikeAll, this]
      exact q
    · obtain ⟨f1, f2, f3⟩ := es_facts hes
      refine ⟨f1, ?_⟩
      rw [if_neg f2]
      have hl : (c.W.length : Int) = c.P.length := by exact_mod_cast g.len
      simp [hl]
      refine compW_bl (fun d hd Q q => ?_) fun es hes => ?_
      · obtain ⟨t, ht, rfl⟩ := List.mem_map.mp hd
        simp
        exact ⟨_, rfl, g.needs t ht, q⟩
      · obtain ⟨f1, f2, f3⟩ := es_facts hes
        rw [f3]
        exact ⟨f1, q⟩

theorem h_need_crowd : H_need_crowd := by
  intro J d0 j Q ⟨d, e, h⟩
  cases e
  simp [t_need_crowd]
  rcases h with ⟨c, rfl, g, q⟩ | ⟨h, q⟩
  · refine ⟨_, rfl, .inl ⟨c, rfl, g, ?_⟩⟩
    simp
    exact q
  · refine ⟨_, rfl, .inr ⟨h, ?_⟩⟩
    simp
    exact q

theorem h_is_lot : H_is_lot := by
  intro J d0 d1 j Q ⟨l, v, e, hv, q⟩
  cases e
  cases d1 with
  | tup xs =>
    obtain ⟨hl, hx⟩ := pv_tup hv
    simp only [t_is_lot]
    simp
    have e : xs = xs.map id := by simp
    rw [e]
    refine compW_bB id (fun d => match d with | .str s => decide (s ∈ l) | _ => false) (fun d hd Q q => ?_) ?_
    · have hd := hx d hd
      cases d with
      | str s => simp [lv_str, lv_stD, hasIn_stD]; exact q
      | _ => first | (cases hd; done) | (simp; exact q)
    · refine ⟨bl_f1 _, ?_⟩
      cases es : strsOf xs with
      | none =>
        obtain ⟨x, hx1, hx2⟩ := strsOf_none es
        have : (xs.map fun d : D => match d with | .str s => decide (s ∈ l) | _ => false).all id = false := by
          rw [List.all_eq_false]
          refine ⟨_, List.mem_map.mpr ⟨x, hx1, rfl⟩, ?_⟩
          cases x <;> first | (cases hx2; done) | simp
        rw [if_pos (by rw [bl_f2]; exact this)]
        rw [show isLotB l (.tup xs) = false by simp only [isLotB, es]] at q
        exact q
      | some ys =>
        have es := strsOf_some es
        subst es
        rw [show D.tup (stD ys) = lotD ys from rfl, isLotB_lot] at q
        have e2 : ((stD ys).map fun d : D => match d with | .str s => decide (s ∈ l) | _ => false).all id = ys.all (fun x => decide (x ∈ l)) := by
          rw [List.map_map, List.all_map]
          rfl
        by_cases z : ys.all (fun x => decide (x ∈ l)) = true
        · rw [if_neg (by rw [bl_f2, e2, z]; simp)]
          rw [z, Bool.true_and] at q
          rw [List.map_id, show (stD ys).tail = stD ys.tail from by cases ys <;> rfl, zip_strs]
          refine compW_bB (fun p : Str × Str => D.tup [.str p.1, .str p.2]) (fun p => decide (key p.1 < key p.2)) (fun p hp Q q => ?_) ?_
          · simp [dlt_str, key] at q ⊢
            exact q
          · refine ⟨bl_f1 _, ?_⟩
            rw [bl_tr]
            have : ((ys.zip ys.tail).map fun p : Str × Str => decide (key p.1 < key p.2)).all id = adjB ys := by
              unfold adjB
              rw [List.all_map]
              rfl
            rw [this]
            exact q
        · have z : ys.all (fun x => decide (x ∈ l)) = false := by simpa using z
          rw [if_pos (by rw [bl_f2, e2, z])]
          rw [z, Bool.false_and] at q
          exact q
  | lst xs => simp [t_is_lot]; exact q
  | _ =>
    have hv : noRef _ = true := hv.1
    simp at hv <;> (simp [t_is_lot]; exact q)

theorem h_need_lot : H_need_lot := by
  intro J d0 d1 j Q ⟨c, v, e, hv, q⟩
  cases e
  simp [t_need_lot, crD]
  refine ⟨c.P, _, rfl, hv, ?_⟩
  cases z : isLotB c.P d1 <;> simp [z] at q ⊢ <;> exact q

theorem h_tied_to : H_tied_to := by
  intro J d0 d1 j Q ⟨c, p, e, g, q⟩
  cases e
  simp [t_tied_to, crD]
  refine compW_sel pairS (fun t => (if t.1 = p then some t.2 else none).map D.str) (fun t ht Q q => ?_) ?_
  · simp [pairS]
    by_cases h : t.1 = p
    · simp [h] at q ⊢; exact q
    · simp [h] at q ⊢; exact q
  · rw [List.nil_append, fm_str]
    refine compW_sel pairS (fun t => (if t.2 = p then some t.1 else none).map D.str) (fun t ht Q q => ?_) ?_
    · simp [pairS]
      by_cases h : t.2 = p
      · simp [h] at q ⊢; exact q
      · simp [h] at q ⊢; exact q
    · rw [List.nil_append, fm_str]
      have l := tied_len g p
      unfold tied at l q
      rw [List.length_append] at l
      simp only [stD, List.length_map]
      refine ⟨by rw [sizeLine_eq]; omega, ?_⟩
      rw [← List.map_append]
      exact q

theorem h_does_take : H_does_take := by
  intro J d0 d1 d2 j Q ⟨c, lot, p, e, g, hp, q⟩
  cases e
  simp [t_does_take]
  refine ⟨c, p, rfl, g, ?_⟩
  simp
  refine compW_in (fun x => decide (x ∈ lot)) (fun x hx Q q => ?_) ?_
  · simp [lv_str, lv_stD, hasIn_stD]
    by_cases h : x ∈ lot
    · simp [h] at q ⊢; exact q
    · simp [h] at q ⊢; exact q
  · obtain ⟨i, h1, h2⟩ := need_at g hp
    simp [crD, strsOf_stD, h1, DL.atI_nat, h2, qD]
    have e : (∃ x, x ∈ tied c p ∧ x ∈ lot) ↔ 0 < (inL lot (tied c p)).length := by simp [inL]
    have lt := tied_len g p
    have li : (inL lot (tied c p)).length ≤ 72 := Nat.le_trans (List.length_filter_le _ _) lt
    unfold takes at q
    by_cases hpos : 0 < (inL lot (tied c p)).length
    · rw [if_pos (e.mpr hpos)]
      have m1 : IntMulOk ((List.filter (fun x => decide (x ∈ lot)) (tied c p)).length : Int) (needOf c p).2 := CMul.ok (.inl ⟨by omega, by have : (List.filter (fun x => decide (x ∈ lot)) (tied c p)).length ≤ 72 := li; omega⟩)
      have m2 : IntMulOk (needOf c p).1 ((tied c p).length : Int) := CMul.ok (.inr ⟨by omega, by omega⟩)
      refine ⟨m1, m2, ?_⟩
      rw [decide_eq_true hpos, Bool.true_and] at q
      exact q
    · rw [if_neg (fun z => hpos (e.mp z))]
      rw [decide_eq_false hpos, Bool.false_and] at q
      exact q

theorem h_taken_from : H_taken_from := by
  intro J d0 d1 j Q ⟨c, lot, e, g, q⟩
  cases e
  simp [t_taken_from, crD]
  refine compW_in (fun x => decide (x ∉ lot) && takes c lot x) (fun x hx Q q => ?_) ?_
  · simp [lv_str, lv_stD, hasIn_stD]
    by_cases h : x ∈ lot
    · simp [h] at q ⊢; exact q
    · simp [h] at q ⊢
      refine ⟨c, lot, x, rfl, g, hx, ?_⟩
      cases t : takes c lot x <;> simp [t] at q ⊢ <;> exact q
  · exact q

theorem h_lots_behind : H_lots_behind := by
  intro J d0 d1 j Q ⟨c, lot, e, g, hl, q⟩
  cases e
  simp [t_lots_behind]
  refine ⟨c, lot, rfl, g, ?_⟩
  refine ⟨fun m j' ρ' => j' = j ∧ ∃ (dn : List (List Str)) (cur : List Str), ρ' = [.val (crD c), .val (.tup (stD lot)), .own ((dn ++ [cur]).map fun l => D.tup (stD l)), .val (.tup (stD (taken c cur)))] ∧ okL c.P cur ∧ c.P.length ≤ cur.length + m ∧ dn.length + m = c.P.length ∧ dn ++ rds c m cur = rds c c.P.length lot,
    ⟨c.P.length, rfl, [], lot, rfl, hl, Nat.le_add_left _ _, Nat.zero_add _, rfl⟩, ?_⟩
  rintro m j' ρ' ⟨ej, dn, cur, eρ, hc, h1, h2, h3⟩
  subst ej eρ
  have p6 : c.P.length ≤ 6 := by have := g.names.2.1; omega
  simp [lv_stD, stD_nil_iff, lv]
  by_cases f : taken c cur = []
  · simp [f]
    rw [rds_fix f] at h3
    rw [← h3] at q
    simpa using q
  · simp [f]
    have hm : 0 < m := by
      have e := next_len (c := c) cur
      have l := len_le (next_ok (c := c) g.names.2.2.2 hc)
      have : 0 < (taken c cur).length := List.length_pos_iff.mpr f
      omega
    obtain ⟨m, rfl⟩ := Nat.exists_eq_succ_of_ne_zero (Nat.pos_iff_ne_zero.mp hm)
    have lc := len_le hc
    have lt : (taken c cur).length ≤ c.P.length := List.length_filter_le _ _
    have so : sortOk (List.map D.str cur ++ List.map D.str (taken c cur)) = true := by rw [← List.map_append]; exact sortOk_stD _
    have ms : (List.map D.str cur ++ List.map D.str (taken c cur)).mergeSort leD = List.map D.str (next c cur) := by rw [← List.map_append]; exact sorted_stD _
    rw [ms]
    have z1 : cur.length + (taken c cur).length ≤ sizeLine := by rw [sizeLine_eq]; omega
    have z2 : dn.length + 1 < sizeLine := by rw [sizeLine_eq]; omega
    refine ⟨z1, so, z2, ?_⟩
    refine ⟨c, next c cur, rfl, g, ?_⟩
    refine ⟨m, Nat.lt_succ_self m, rfl, dn ++ [cur], next c cur, by simp, next_ok g.names.2.2.2 hc, ?_, by rw [List.length_append]; show dn.length + 1 + m = _; omega, ?_⟩
    · have e := next_len (c := c) cur
      have : 0 < (taken c cur).length := List.length_pos_iff.mpr f
      omega
    · rw [← h3, rds_go f, List.append_assoc]; rfl

theorem h_others_of : H_others_of := by
  intro J d0 d1 j Q ⟨c, lot, e, g, q⟩
  cases e
  simp [t_others_of, crD]
  refine compW_in (fun x => decide (x ∉ lot)) (fun x hx Q q => ?_) ?_
  · simp [lv_str, lv_stD, hasIn_stD]
    by_cases h : x ∈ lot <;> simp [h] at q ⊢ <;> exact q
  · exact q

theorem h_stays_apart : H_stays_apart := by
  intro J d0 d1 j Q ⟨c, lot, e, g, hl, q⟩
  cases e
  simp [t_stays_apart]
  refine ⟨c, lot, rfl, g, ?_⟩
  refine compW_bB D.str (fun p => takes c (others c lot) p) (fun p hp Q q => ?_) ?_
  · simp
    exact ⟨c, _, p, rfl, g, hl p hp, q⟩
  · refine ⟨bl_f1 _, ?_⟩
    have e : (!List.any (List.map D.bl (List.map (fun p => takes c (others c lot) p) lot)) isTr) = apart c lot := by
      rw [bl_an, List.any_map]; rfl
    rw [e]
    exact q

theorem h_row_behind : H_row_behind := by
  intro J d0 d1 j Q ⟨c, lot, e, g, hl, q⟩
  cases e
  simp [t_row_behind]
  refine ⟨c, lot, rfl, g, ?_⟩
  refine ⟨fun m j' ρ' => j' = j ∧ ∃ (dn here : List Str), ρ' = [.val (crD c), .val (lotD lot), .val (lotD dn), .val (lotD here), .val (.tup (stD (taken c here)))] ∧ okL c.P here ∧ c.P.length ≤ here.length + m ∧ dn.length + m = c.P.length ∧ dn ++ rowB c m here = rowB c c.P.length lot,
    ⟨c.P.length, rfl, [], lot, rfl, hl, Nat.le_add_left _ _, Nat.zero_add _, rfl⟩, ?_⟩
  rintro m j' ρ' ⟨ej, dn, here, eρ, hc, h1, h2, h3⟩
  subst ej eρ
  simp [lv_stD, stD_nil_iff, lv]
  have p6 := P6 g
  by_cases f : taken c here = []
  · simp [f]
    rw [row_fix f, List.append_nil] at h3
    rw [h3]
    exact q
  · simp [f]
    obtain ⟨x, r, et⟩ := List.exists_cons_of_ne_nil f
    have hx : x ∈ taken c here := by rw [et]; exact List.mem_cons_self
    obtain ⟨x1, x2, x3⟩ := taken_mem.mp hx
    have nok := one_ok g hc x1 x2
    have nl := len_le nok
    have el := one_len here x
    obtain ⟨m, rfl⟩ : ∃ m', m = m' + 1 := ⟨m - 1, by omega⟩
    simp [et]
    have lc := len_le hc
    have ee : List.map D.str here ++ [D.str x] = stD (here ++ [x]) := by simp
    have so : sortOk (List.map D.str here ++ [D.str x]) = true := by rw [ee]; exact sortOk_stD _
    have ms : (List.map D.str here ++ [D.str x]).mergeSort leD = stD (sortS (here ++ [x])) := by rw [ee]; exact sorted_stD _
    simp [lotD]
    refine ⟨by rw [sizeLine_eq]; omega, by rw [sizeLine_eq]; omega, so, ?_⟩
    rw [ms]
    refine ⟨c, _, rfl, g, ?_⟩
    refine ⟨m, Nat.lt_succ_self m, rfl, dn ++ [x], _, ⟨by simp, rfl, rfl⟩, nok, by omega, by rw [List.length_append]; simp; omega, ?_⟩
    rw [← h3, row_go et, List.append_assoc]
    rfl

theorem h_reaching : H_reaching := by
  intro J d0 d1 j Q ⟨d, v, e, h⟩
  cases e
  simp [t_reaching]
  rcases h with ⟨c, lot, rfl, rfl, g, hl, q⟩ | ⟨c, rfl, g, hv, hb, q⟩ | ⟨h, q⟩
  · refine ⟨_, rfl, .inl ⟨c, rfl, g, ⟨c, _, rfl, pv_lot 0 (Nat.le_trans (Nat.le_trans (len_le hl) (P6 g)) (by decide)), ?_⟩⟩⟩
    rw [if_pos (isLotB_ok.mpr hl)]
    refine ⟨c, lot, rfl, g, hl, ?_⟩
    simp [rds_last]
    refine ⟨c, lastR c c.P.length lot, rfl, g, ?_⟩
    have er : lastR c c.P.length lot = reach c lot := rfl
    rw [er]
    simp [lv_stD, stD_nil_iff, lv]
    unfold reachV at q
    by_cases z : others c (reach c lot) = []
    · rw [if_pos z] at q ⊢
      exact ⟨c, lot, rfl, g, hl, q⟩
    · rw [if_neg z] at q ⊢
      exact q
  · refine ⟨_, rfl, .inl ⟨c, rfl, g, ⟨c, _, rfl, hv, ?_⟩⟩⟩
    rw [if_neg (by rw [hb]; simp)]
    exact q
  · exact ⟨_, rfl, .inr ⟨h, q⟩⟩

theorem h_is_row_behind : H_is_row_behind := by
  intro J d0 d1 d2 j Q ⟨c, lot, v, e, g, hl, hv, q⟩
  cases e
  cases d2 with
  | tup xs =>
    obtain ⟨hl60, hx⟩ := pv_tup hv
    simp [t_is_row_behind]
    refine ⟨c, lot, rfl, g, ?_⟩
    simp
    have gn : rowOk c lot (.tup xs) = false → Q (.bl false) j := fun z => z ▸ q
    have e0 : xs = xs.map id := by simp
    cases es : strsOf xs with
    | none =>
      have q := gn (by simp only [rowOk, es])
      split
      · rw [e0]
        refine compW_bB id isStrD (fun d hd Q q => ?_) ?_
        · have hd := hx d hd
          simp
          exact ⟨hd, q⟩
        · refine ⟨bl_f1 _, ?_⟩
          obtain ⟨x, hx1, hx2⟩ := strsOf_none es
          rw [if_pos (by rw [bl_f2, List.all_eq_false]; exact ⟨_, List.mem_map.mpr ⟨x, hx1, rfl⟩, by rw [hx2]; exact Bool.false_ne_true⟩)]
          exact q
      · exact q
    | some l =>
      have es := strsOf_some es
      subst es
      have q : Q (.bl (decide (sortS l = others c lot) && goT c lot l)) j := by rw [← row_lot]; exact q
      split
      · refine compW_bB D.str (fun _ => true) (fun s hs Q q => ?_) ?_
        · simp
          exact q
        · have e1 : (l.map fun _ => true).all id = true := by simp
          refine ⟨bl_f1 _, ?_⟩
          rw [if_neg (by rw [bl_f2, e1]; simp), sorted_stD]
          refine ⟨sortOk_stD l, lv_stD _ _, lv_stD _ _, ?_⟩
          rw [deqv_stD]
          by_cases z : sortS l = others c lot
          · simp only [z, decide_true, Bool.true_and] at q ⊢
            simp only [if_true]
            rw [enum_str]
            refine compW_bB pN (fun p => takes c (lot ++ l.take p.1) p.2) (fun p hp Q q => ?_) ?_
            · obtain ⟨m1, m2⟩ := en_mem hp
              have mP : p.2 ∈ c.P := by
                have : p.2 ∈ others c lot := by rw [← z]; exact sortS_mem.mpr m1
                exact (mem_others.mp this).1
              simp [pN]
              rw [cut_take]
              have hz : (stD lot).length + (stD (l.take p.1)).length ≤ sizeLine := by
                have := len_le hl
                have := P6 g
                have : (l.take p.1).length ≤ l.length := (by rw [List.length_take]; exact Nat.min_le_right _ _)
                have : l.length ≤ 60 := by simpa using hl60
                simp only [List.length_map, sizeLine_eq]
                omega
              simp [lotD] at hz ⊢
              refine ⟨hz, c, lot ++ l.take p.1, p.2, by simp, g, mP, q⟩
            · refine ⟨bl_f1 _, ?_⟩
              rw [bl_tr]
              have e2 : ((enN 0 l).map fun p => takes c (lot ++ l.take p.1) p.2).all id = goT c lot l := by rw [go_en0, List.all_map]; rfl
              rw [e2]
              exact q
          · simp only [z, decide_false, Bool.false_and] at q ⊢
            simpa using q
      · rename_i len
        have z : sortS l ≠ others c lot := fun z => len (by
          have := (sortS_perm l).length_eq
          rw [z] at this
          simp [this])
        simpa [z] using q
  | lst xs => simp [t_is_row_behind]; exact ⟨c, lot, rfl, g, by simp; exact q⟩
  | _ =>
    have hv : noRef _ = true := hv.1
    simp at hv <;> (simp [t_is_row_behind]; exact ⟨c, lot, rfl, g, by simp; exact q⟩)

theorem h_is_reaching : H_is_reaching := by
  intro J d0 d1 d2 j Q ⟨d, v, x, e, h⟩
  cases e
  simp [t_is_reaching]
  rcases h with ⟨c, lot, rfl, rfl, g, hl, hx, q⟩ | ⟨c, rfl, g, hv, hb, q⟩ | ⟨h, q⟩
  · refine ⟨_, rfl, .inl ⟨c, rfl, g, ⟨c, _, rfl, pv_lot 0 (Nat.le_trans (Nat.le_trans (len_le hl) (P6 g)) (by decide)), ?_⟩⟩⟩
    rw [if_pos (isLotB_ok.mpr hl)]
    have nx : noRef d2 = true := pv_ref hx
    cases d2 with
    | tup xs =>
      obtain ⟨_, hy⟩ := pv_tup hx
      match xs, hy, q with
      | [], _, q => simp; exact q
      | [_], _, q =>
        rw [reachB_len (by simp)] at q
        simp; exact q
      | _ :: _ :: _ :: _, _, q =>
        rw [reachB_len (by simp)] at q
        simp
        rw [if_neg (by omega)]
        exact q
      | [a, y], hy, q =>
        have ha := pv_ref (hy a (by simp))
        have nl := pv_nl hx y (by simp)
        have hy1 : DL.pv 1 y := hy y (by simp)
        cases a with
        | str w =>
          simp
          have q : Q (.bl (if w = Str.ofString "row" then rowOk c lot y else if w = Str.ofString "kept" then keptOk c lot y else false)) j := q
          by_cases h1 : w = Str.ofString "row"
          · rw [if_pos h1] at q ⊢
            exact ⟨c, lot, y, rfl, g, hl, hy1, q⟩
          · rw [if_neg h1] at q ⊢
            by_cases h2 : w = Str.ofString "kept"
            · rw [if_pos h2] at q
              simp [h2]
              simp [crD]
              rw [eq0_any (pv_ref hy1) nl]
              by_cases n0 : isNilT y = true
              · rw [kept_nil n0] at q
                simp [n0]
                exact q
              · have n0 : isNilT y = false := by simpa using n0
                simp [n0]
                refine ⟨c.P, y, rfl, hy1, ?_⟩
                simp
                by_cases l0 : isLotB c.P y = true
                · obtain ⟨k, rfl, ok⟩ := isLotB_iff.mp l0
                  rw [kept_lot, l0, Bool.true_and] at q
                  simp [l0]
                  have kn : k ≠ [] := fun e => by subst e; cases n0
                  simp only [ne_eq, kn, not_false_eq_true, decide_true, Bool.true_and] at q
                  show compW _ _ _ _ _ (stD k) [] j
                  refine compW_bB D.str (fun x => decide (x ∈ lot)) (fun x hx Q q => ?_) ?_
                  · simp
                    exact q
                  · refine ⟨bl_f1 _, ?_⟩
                    have e : ((k.map fun x => decide (x ∈ lot)).any id = false) ↔ k.all (fun x => decide (x ∉ lot)) = true := by
                      rw [List.any_map, List.any_eq_false, List.all_eq_true]
                      simp
                    by_cases z : k.all (fun x => decide (x ∉ lot)) = true
                    · rw [if_pos ((bl_f3 _).mpr (e.mpr z))]
                      rw [z, Bool.and_true] at q
                      exact ⟨c, k, rfl, g, ok.2, q⟩
                    · rw [if_neg (fun y => z (e.mp ((bl_f3 _).mp y)))]
                      have z : k.all (fun x => decide (x ∉ lot)) = false := by simpa using z
                      rw [z, Bool.and_false] at q
                      exact q
                · have l0 : isLotB c.P y = false := by simpa using l0
                  rw [kept_no l0] at q
                  simp [l0]
                  exact q
            · rw [if_neg h2] at q
              simp [h2]
              exact q
        | _ => first | (cases ha; done) | (simp; exact q)
    | _ => first | (cases nx; done) | (simp; exact q)
  · refine ⟨_, rfl, .inl ⟨c, rfl, g, ⟨c, _, rfl, hv, ?_⟩⟩⟩
    rw [if_neg (by rw [hb]; simp)]
    exact q
  · exact ⟨_, rfl, .inr ⟨h, q⟩⟩

theorem h__law_blended : H__law_blended := by
  intro J d0 j Q ⟨b, e, h, hb, q⟩
  cases e
  have ht : 0 ≤ j.t + 1 := by have := h.t0; omega
  have ht2 : j.t + 1 < 2 ^ 201 := by have := h.t; omega
  simp [t__law_blended, onJ, h.on]
  refine ⟨ht, ?_⟩
  refine primes_loop (j := { j with t := j.t + 1 }) h.on ht ht2 [2147483579, 2147483629, 2147483563] 0 _ _ _ (by decide) fun s3 s4 s5 => ?_
  unfold blend at q
  simpa using q

theorem h__law_draw : H__law_draw := by
  intro J d0 d1 j Q ⟨b, n, e, h, hb, h1, h60, q⟩
  cases e
  have lg : n.natAbs.log2 < 9000 := log60 (by omega) h60
  have hr := h.refill
  have rr := (h.draw h1)
  unfold drawN drawK at q
  unfold drawN drawK at rr
  have r2 : 0 ≤ (refill J.cs j).r.fdiv n := rr.1.r
  unfold refill at q r2
  simp [t__law_draw, onJ, h.on]
  by_cases e : j.r = 0
  · simp [e] at q r2 ⊢
    cases g : j.gs with
    | nil =>
      simp [g] at q r2 ⊢
      refine ⟨b, rfl, h, hb, ?_⟩
      simp [g]
      repeat' apply And.intro
      all_goals first | exact q | exact lg | exact r2 | exact (blend_bd _ _).1 | omega
    | cons x r =>
      simp [g] at q r2 ⊢
      have hg := h.gs
      rw [g] at hg
      have hx := (hg x List.mem_cons_self).1
      refine ⟨x, r, ⟨rfl, rfl⟩, ?_⟩
      repeat' apply And.intro
      all_goals first | exact q | exact lg | exact r2 | exact (blend_bd _ _).1 | omega
  · simp [e] at q r2 ⊢
    repeat' apply And.intro
    all_goals first | exact q | exact lg | exact r2 | omega

theorem h__law_pick : H__law_pick := by
  intro J d0 d1 j Q ⟨b, x, l, d, e, hx, h, hb, hl, hd, q⟩
  cases e
  have lp : 0 < l.length := by
    cases l with
    | nil => cases hd
    | cons y r => exact Nat.succ_pos _
  have dr := (h.draw (n := (l.length : Int)) (by omega)).2
  have at' : atI l (drawK J.cs j l.length) = some d := by
    have := DL.atI_nat l (drawK J.cs j l.length).toNat
    rw [Int.toNat_of_nonneg dr.1] at this
    rw [this]; exact hd
  rcases hx with rfl | rfl
  · simp [t__law_pick]
    refine ⟨b, l.length, rfl, h, hb, by omega, by omega, ?_⟩
    simp [at']
    exact q
  · simp [t__law_pick]
    refine ⟨b, l.length, rfl, h, hb, by omega, by omega, ?_⟩
    simp [at']
    exact q

theorem erase_perm {l : List D} {i : Nat} {x : D} (h : l[i]? = some x) : (x :: l.eraseIdx i).Perm l := by
  induction l generalizing i with
  | nil => cases h
  | cons y r ih =>
    cases i with
    | zero => simp at h; subst h; simp
    | succ i =>
      simp at h
      rw [List.eraseIdx_cons_succ]
      exact (List.Perm.swap _ _ _).trans ((ih h).cons y)
theorem h__law_shuffled : H__law_shuffled := by
  intro J d0 d1 j Q ⟨b, l, e, h, hb, hl, hv, q⟩
  cases e
  simp [t__law_shuffled]
  refine ⟨fun m j' ρ' => ∃ (left found : List D), ρ' = [.val (.ref J.ad), .val (.lst l), .own left, .own found] ∧ m = left.length ∧ (found ++ left).Perm l ∧ JB J (b + found.length) j',
    ⟨l.length, l, [], rfl, rfl, by simp, by simpa using h⟩, ?_⟩
  rintro m j' ρ' ⟨left, found, eρ, rfl, hp, hj⟩
  subst eρ
  have len := hp.length_eq
  rw [List.length_append] at len
  have v1 : lv 20 (.lst left) = true := by
    rw [lv_lst, List.all_eq_true]
    exact fun d hd => hv d (hp.subset (List.mem_append_right _ hd))
  simp [v1, lv_lst, deqv_nilL]
  by_cases e0 : left = []
  · subst e0
    simp at hp len ⊢
    rw [len] at hj
    exact q _ _ hp hj
  · have lp : 0 < left.length := List.length_pos_iff.mpr e0
    simp [e0]
    have l1 : 1 ≤ (left.length : Int) := by omega
    have dr := hj.draw l1
    have hi : (drawK J.cs j' left.length).toNat < left.length := by have := dr.2; omega
    refine ⟨b + found.length, _, rfl, hj, by omega, l1, by omega, ?_⟩
    refine ⟨(drawK J.cs j' left.length).toNat, by rw [Int.toNat_of_nonneg dr.2.1], left[(drawK J.cs j' left.length).toNat], List.getElem?_eq_getElem hi, by rw [sizeLine_eq]; omega, left.length - 1, by omega, _, _, ⟨rfl, rfl⟩, by rw [List.length_eraseIdx, if_pos hi], ?_, ?_⟩
    · rw [List.append_assoc]
      exact ((erase_perm (List.getElem?_eq_getElem hi)).append_left found).trans hp
    · have e : b + ((found ++ [left[(drawK J.cs j' left.length).toNat]]).length : Nat) = b + found.length + 1 := by rw [List.length_append]; simp; omega
      rw [e]
      exact dr.1

theorem h__law_caught : H__law_caught := by
  intro J f A j Q ⟨_, h⟩
  simp [t__law_caught]
  exact h

theorem h__law_is_truth : H__law_is_truth := by
  intro J d0 d1 j Q ⟨a, b, e, q⟩
  cases e
  simp [t__law_is_truth]
  cases a <;> cases b <;> simpa using q

theorem h__law_same : H__law_same := by
  intro J d0 d1 j Q ⟨x, e, hx, hs, q⟩
  obtain ⟨e0, e1⟩ : d0 = x ∧ d1 = x := by simpa using e
  rw [e0, e1]
  clear e e0 e1 d0 d1
  simp [t__law_same]
  refine ⟨fun m j' ρ' => j' = j ∧ ∃ (l : List D) (s3 s4 s5 s6 s7 s8 : SD), ρ' = [.val x, .val x, .own (l.map twin), s3, s4, s5, s6, s7, s8] ∧ (∀ y ∈ l, lv 15 y = true) ∧ m = sizeAllD l ∧ m ≤ 1000000,
    ⟨_, rfl, [x], .no, .no, .no, .no, .no, .no, rfl, by simpa using hx, rfl, by simp [sizeAllD]; exact hs⟩, ?_⟩
  rintro m j' ρ' ⟨ej, l, s3, s4, s5, s6, s7, s8, eρ, hl, hm, hb⟩
  subst ej eρ hm
  simp [lv_twins hl, deqv_nilL, lv]
  rcases List.eq_nil_or_concat l with rfl | ⟨r, y, rfl⟩
  · simp; exact q
  · have hy := hl y (by simp)
    have hr : ∀ z ∈ r, lv 15 z = true := fun z hz => hl z (by simp [hz])
    rw [List.concat_eq_append] at hb
    have sz : sizeAllD (r ++ [y]) = sizeAllD r + sizeD y := by rw [size_app]; simp [sizeAllD]
    have sp := size_pos y
    have lt : ∀ x, x ∈ r ∨ x = y → lv 19 (D.tup [x, x]) = true := fun x hx => by
      have hx' : lv 15 x = true := hx.elim (hr x) fun e => e ▸ hy
      rw [lv_tup]
      simp [lv_mono hx' (show 15 ≤ 18 by decide)]
    have fin : ∃ m', m' < sizeAllD (r ++ [y]) ∧ ∃ l, List.map twin r = List.map twin l ∧ (∀ (y : D), y ∈ l → lv 15 y = true) ∧ m' = sizeAllD l ∧ m' ≤ 1000000 :=
      ⟨sizeAllD r, by omega, r, rfl, hr, rfl, by omega⟩
    have seq : ∀ xs : List D, (∀ z ∈ xs, lv 15 z = true) → sizeD y = 1 + sizeAllD xs → ∃ m', m' < sizeAllD (r ++ [y]) ∧ ∃ l, List.map twin r ++ List.map twin xs = List.map twin l ∧ (∀ (y : D), y ∈ l → lv 15 y = true) ∧ m' = sizeAllD l ∧ m' ≤ 1000000 := fun xs hxs e =>
      ⟨sizeAllD (r ++ xs), by rw [size_app]; omega, r ++ xs, by rw [List.map_append], (fun z hz => (List.mem_append.mp hz).elim (hr z) (hxs z)), rfl, by rw [size_app]; omega⟩
    cases y with
    | non => simp [twin] at lt ⊢; exact ⟨lt, fin⟩
    | bl b =>
      simp [twin] at lt ⊢
      refine ⟨lt, b, b, rfl, ?_⟩
      simp
      exact fin
    | int i => simp [twin] at lt ⊢; exact ⟨lt, fin⟩
    | str i => simp [twin] at lt ⊢; exact ⟨lt, fin⟩
    | tup xs =>
      have hxs : ∀ z ∈ xs, lv 15 z = true := fun z hz => by
        rw [lv_tup, List.all_eq_true] at hy
        exact lv_mono (hy z hz) (by decide)
      have sq := seq xs hxs (by simp [sizeD])
      have l1 := size_len r
      have l2 := size_len xs
      have e2 : sizeD (.tup xs) = 1 + sizeAllD xs := by simp [sizeD]
      simp [twin, lv, hasIn, deqv, enc, PyData.eqv] at lt ⊢
      refine ⟨lt, ?_⟩
      rw [zip_self]
      refine compW_sel twin (fun a => some (twin a)) (fun a ha Q q => ?_) ?_
      · simp [twin]
        exact q
      · rw [List.nil_append, show xs.filterMap (fun a => some (twin a)) = xs.map twin from by rw [List.filterMap_eq_map']]
        obtain ⟨m', h1, h2⟩ := sq
        exact ⟨by rw [List.length_map, sizeLine_eq]; omega, m', h1, rfl, h2⟩
    | lst xs =>
      have hxs : ∀ z ∈ xs, lv 15 z = true := fun z hz => by
        rw [lv_lst, List.all_eq_true] at hy
        exact lv_mono (hy z hz) (by decide)
      have sq := seq xs hxs (by simp [sizeD])
      have l1 := size_len r
      have l2 := size_len xs
      have e2 : sizeD (.lst xs) = 1 + sizeAllD xs := by simp [sizeD]
      simp [twin, lv, hasIn, deqv, enc, PyData.eqv] at lt ⊢
      refine ⟨lt, ?_⟩
      rw [zip_self]
      refine compW_sel twin (fun a => some (twin a)) (fun a ha Q q => ?_) ?_
      · simp [twin]
        exact q
      · rw [List.nil_append, show xs.filterMap (fun a => some (twin a)) = xs.map twin from by rw [List.filterMap_eq_map']]
        obtain ⟨m', h1, h2⟩ := sq
        exact ⟨by rw [List.length_map, sizeLine_eq]; omega, m', h1, rfl, h2⟩
    | ref a => rw [lv_ref] at hy; cases hy
    | ty a => rw [lv_ty] at hy; cases hy
    | exc _ _ _ => rw [lv_exc] at hy; cases hy
    | clo _ _ => rw [lv_clo] at hy; cases hy
    | dct _ _ => rw [lv_dct] at hy; cases hy

theorem h__law_q : H__law_q := by
  intro J d0 d1 j Q ⟨n, d, e, hd, h60, q⟩
  cases e
  simp [t__law_q]
  refine ⟨fun m j' ρ' => j' = j ∧ ∃ a b : Nat, ρ' = [.val (.int n), .val (.int d), .val (.int a), .val (.int b)] ∧ Nat.gcd a b = Nat.gcd n.natAbs d.natAbs ∧ m = b,
    ⟨d.natAbs, rfl, n.natAbs, d.natAbs, ?_, rfl, rfl⟩, ?_⟩
  · have e1 : (if n < 0 then -n else n) = (n.natAbs : Int) := by split <;> omega
    have e2 : (if d < 0 then -d else d) = (d.natAbs : Int) := by split <;> omega
    rw [e1, e2]
  rintro m j' ρ' ⟨ej, a, b, eρ, hg, hm⟩
  subst ej eρ hm
  simp
  by_cases hb : 0 < m
  · simp [hb]
    refine ⟨by omega, a % m, Nat.mod_lt _ hb, m, ⟨rfl, ?_⟩, ?_⟩
    · rw [Int.fmod_eq_emod_of_nonneg _ (Int.natCast_nonneg m)]; rfl
    · rw [← hg, Nat.gcd_comm m, ← Nat.gcd_rec, Nat.gcd_comm]
  · have : m = 0 := by omega
    subst this
    rw [Nat.gcd_zero_right] at hg
    subst hg
    simp [hd]
    refine ⟨⟨fun _ => by omega, ?_⟩, q⟩
    have z : n.natAbs.gcd d.natAbs ≠ 0 := by
      have := Nat.gcd_pos_of_pos_right n.natAbs (show 0 < d.natAbs by omega)
      omega
    have le : n.natAbs.gcd d.natAbs ≤ d.natAbs := Nat.gcd_le_right _ (by omega)
    have := (Nat.log2_lt z (k := 60)).mpr (by omega)
    omega

theorem h__law_times : H__law_times := by
  intro J d0 d1 j Q ⟨p, q, e, ⟨a1, a2⟩, ⟨b1, b2⟩, ⟨c1, c2⟩, k⟩
  cases e
  simp [t__law_times, qD]
  refine ⟨CMul.ok (.inr ⟨by omega, by omega⟩), CMul.ok (.inr ⟨by omega, by omega⟩), _, _, rfl, Int.mul_pos a1 b1, ?_, k⟩
  have : p.2 * q.2 < 2 ^ 30 * 2 ^ 30 := Int.mul_lt_mul a2 (Int.le_of_lt b2) b1 (by decide)
  exact this

theorem h__law_less : H__law_less := by
  intro J d0 d1 j Q ⟨p, q, e, ⟨a1, a2⟩, ⟨b1, b2⟩, k⟩
  cases e
  simp [t__law_less, qD]
  exact ⟨CMul.ok (.inr ⟨by omega, by omega⟩), CMul.ok (.inr ⟨by omega, by omega⟩), k⟩

theorem pick_chr {J : Jst} {b : Int} {j : JS} (h : JB J b j) (hb : b < 2 ^ 200) {P : D → JS → Prop} (k : P (.str (chrS (drawK J.cs j 26))) (drawN J.cs j 26)) : S__law_pick J [.ref J.ad, .lst (abcS.cps.toList.map sign1)] j P := by
  have d := (h.draw (n := 26) (by decide)).2
  have e : (abcS.cps.toList.map sign1).length = 26 := by rw [List.length_map, abc_list, List.length_range']
  refine ⟨b, _, abcS.cps.toList.map sign1, .str (chrS (drawK J.cs j 26)), rfl, .inl rfl, h, hb, by rw [e]; decide, ?_, ?_⟩
  · rw [e, show ((26 : Nat) : Int) = 26 from rfl, abc_list, List.getElem?_map, List.getElem?_range' (by omega)]
    show some (sign1 _) = _
    unfold sign1 chrS
    rw [Nat.one_mul]
  · rw [e]; exact k
theorem letters_loop {J : Jst} {s1 s2 s3 s4 : SD} {P : List D → JS → Prop} : ∀ (items : List D) (acc : List D) (b : Int) (j : JS), JB J b j → b + items.length < 2 ^ 200 → P (acc ++ (lettersF J.cs items.length j).1.map fun k => .str (chrS k)) (lettersF J.cs items.length j).2 →
    compW (gN 4) dTrue (dCall (S__law_pick J) (dCons (dVar 0) (dCons (dLst (dF1 dList (dC (.str (Str.ofString "abcdefghijklmnopqrstuvwxyz"))))) dNil))) [.val (.ref J.ad), s1, s2, s3, s4] P items acc j
  | [], acc, b, j, h, hb, k => by simpa [compW, lettersF] using k
  | x :: r, acc, b, j, h, hb, k => by
    have e : ((x :: r).length : Int) = r.length + 1 := by simp
    rw [e] at hb
    have d := h.draw (n := 26) (by decide)
    simp [compW]
    refine ⟨abc_len, pick_chr h (by omega) ?_⟩
    refine letters_loop r (acc ++ [.str (chrS (drawK J.cs j 26))]) (b + 1) _ d.1 (by omega) ?_
    simpa [lettersF] using k
/-! words as texts -/
theorem h__law_words : H__law_words := by
  intro J d0 d1 j Q ⟨b, many, e, h1, h6, h, hb, hc, q⟩
  cases e
  obtain ⟨n, rfl⟩ : ∃ n : Nat, many = n := ⟨many.toNat, by omega⟩
  have n6 : n ≤ 6 := by omega
  simp [t__law_words]
  obtain ⟨m0, w0, _⟩ := WAt.mk' (b := b) n6 hc (F := []) (j := j) .nil (fun _ z => nomatch z) (Nat.zero_le _) (by simpa using h)
  refine ⟨fun m j' ρ' => ∃ (F : List Str) (s3 s4 : SD), ρ' = [.val (.ref J.ad), .val (.int n), .val (.lst (stD F)), s3, s4] ∧ WAt J b n m F j', ⟨m0, [], .no, .no, rfl, w0⟩, ?_⟩
  rintro m j' ρ' ⟨F, s3, s4, eρ, w⟩
  subst eρ
  have sl := sizeLine_eq
  have le := w.le
  simp
  by_cases lt : F.length < n
  · simp [lt]
    have bb : b + F.length * 2 ^ 95 + 2 ^ 94 < 2 ^ 199 := by omega
    have d := w.jb.draw (n := 8) (by decide)
    refine ⟨_, 8, rfl, w.jb, by omega, by decide, by decide, ?_⟩
    simp
    refine ⟨by omega, ?_⟩
    have wl := word_JB w.jb
    have ul : (upto (1 + drawK J.cs j' 8).toNat).length = (1 + drawK J.cs j' 8).toNat := upto_len _
    refine letters_loop _ [] _ _ d.1 (by rw [ul]; omega) ?_
    rw [ul, List.nil_append]
    have ew : lettersF J.cs (1 + drawK J.cs j' 8).toNat (drawN J.cs j' 8) = wordF J.cs j' := rfl
    rw [ew]
    have e0 : (Str.ofString "").length = 0 := by decide +kernel
    have hsum : (((wordF J.cs j').1.map chrS).map (·.length)).sum + ((wordF J.cs j').1.map chrS).length * (Str.ofString "").length ≤ 16777216 := by
      rw [sum_chr, e0, Nat.mul_zero]
      have := wl.2.2.1
      omega
    refine ⟨_, strsOf_chr _, hsum, ?_⟩
    have wok := w_ok wl.2.1 wl.2.2.1 wl.2.2.2
    rw [show Txt.join (Str.ofString "") ((wordF J.cs j').1.map chrS) = wS (wordF J.cs j').1 from rfl]
    simp [lv_str, lv_stDL, hasIn_stD]
    by_cases hin : wS (wordF J.cs j').1 ∈ F
    · simp [hin]
      have wle : (wS (wordF J.cs j').1).length ≤ sizeLine := by have := wok.2.1; omega
      have mu := q_mul ⟨F.length, by omega⟩
      have fok := fb_ok wok (n := F.length) (by omega)
      have flen : (cutS (wS (wordF J.cs j').1) none (some 1)).length + (Txt.mul (Str.ofString "q") F.length).length ≤ sizeLine := by
        have := fok.2.1
        rw [len_key] at this
        unfold fbS at this
        rw [key_app, List.length_append, ← len_key, ← len_key] at this
        omega
      have fe : cutS (wS (wordF J.cs j').1) none (some 1) ++ Txt.mul (Str.ofString "q") F.length = fbS (wS (wordF J.cs j').1) F.length := rfl
      refine ⟨wle, mu, flen, ?_⟩
      rw [fe]
      by_cases fin : fbS (wS (wordF J.cs j').1) F.length ∈ F
      · simp [fin]
        refine ⟨by omega, ?_⟩
        obtain ⟨m', lt', w'⟩ := w.stuck lt hin
        exact ⟨m', lt', F, rfl, w'⟩
      · have l8 : (F.length : Int) < 8 := by omega
        simp [fin, l8]
        refine ⟨wle, mu, flen, by omega, ?_⟩
        obtain ⟨m', lt', w'⟩ := w.more n6 hc lt fok fin
        exact ⟨m', lt', F ++ [fbS (wS (wordF J.cs j').1) F.length], by simp, w'⟩
    · simp [hin]
      refine ⟨by omega, ?_⟩
      obtain ⟨m', lt', w'⟩ := w.more n6 hc lt wok hin
      exact ⟨m', lt', F ++ [wS (wordF J.cs j').1], by simp, w'⟩
  · have ef : F.length = n := by omega
    simp [lt]
    rw [sorted_stD]
    refine ⟨sortOk_stD F, q (sortS F) j' (sortS_asc w.nd) (by rw [(sortS_perm F).length_eq, ef]) (fun s hs => w.ok s (sortS_mem.mp hs)) (w.jb.mono (by omega))⟩

theorem h__law_odd : H__law_odd := by
  intro J d0 j Q ⟨b, e, h, hb, q⟩
  cases e
  refine ⟨(show 14 + 5 ≤ sizeLine by rw [sizeLine_eq]; omega), ?_⟩
  refine pick_any h hb (by simp) (by decide) fun d j' hd hj => q d j' ?_ hj
  exact noCr_of (List.all_eq_true.mp (show List.all _ noCrB = true by decide +kernel) d hd)

theorem draw_any {J : Jst} {b n : Int} {j : JS} {Q : D → JS → Prop} (h : JB J b j) (hb : b < 2 ^ 200) (h1 : 1 ≤ n) (h2 : n < 2 ^ 60) (k : ∀ i j', 0 ≤ i → i < n → JB J (b + 1) j' → Q (.int i) j') : S__law_draw J [.ref J.ad, .int n] j Q := by
  have dr := h.draw h1
  exact ⟨b, n, rfl, h, hb, h1, h2, k _ _ dr.2.1 dr.2.2 dr.1⟩
def bentMenu : List D := [.non, .tup [], .int 5, .int 0, .int 1, .str (Str.ofString "x"), .str (Str.ofString "a"), .str (Str.ofString "crowd"), .str (Str.ofString "market"), .dct [] [], .tup [.int 0, .int 1], .tup [.int 1, .int 2]]
theorem menu_ok {w : Nat} (h : 2 ≤ w) {d : D} (hd : d ∈ bentMenu) : hpw (w + 1) d = true := by
  have h2 : hpw 2 d = true := by
    have := List.all_eq_true.mp (show bentMenu.all (hpw 2) = true by decide +kernel) d hd
    exact this
  exact hpw_mono (by omega) h2
theorem h__law_hb_bent : H__law_hb_bent := by
  intro n J d0 d1 j Q ⟨b, v, w, e, hv, hd, h2, h40, hj, hb, q⟩
  cases e
  have fin : ∀ (j' : JS) (b' : Int), JB J b' j' → b' ≤ b + 3 → S__law_pick J [.ref J.ad, .lst bentMenu] j' Q := fun j' b' h hb' => pick_any h (by omega) (by simp [bentMenu]) (by simp [bentMenu]) fun d j2 hm h2' => q d j2 (menu_ok h2 hm) (h2'.mono (by omega))
  have fin : ∀ (j' : JS) (b' : Int), JB J b' j' → b' ≤ b + 3 → (dCall (S__law_pick J) (dCons (dC (.ref J.ad)) (dCons (dC (.lst bentMenu)) dNil))) j' [] Q := fun j' b' h hb' => fin j' b' h hb'
  cases d1 with
  | tup xs =>
    obtain ⟨hl, hx⟩ := hpw_tup.mp hv
    have hdx : depAll xs + 1 ≤ n := by simpa only [dep] using hd
    simp [t__law_hb_bent]
    by_cases l0 : 0 < xs.length
    · rw [if_pos l0]
      refine draw_any hj (by omega) (by omega) (by omega) fun i0 j1 _ _ h1 => ?_
      simp
      by_cases p0 : 0 < i0
      · rw [if_pos p0]
        refine draw_any h1 (by omega) (by omega) (by omega) fun at0 j2 a0 a1 h2' => ?_
        obtain ⟨k, rfl⟩ : ∃ k : Nat, at0 = k := ⟨at0.toNat, by omega⟩
        have hk : k < xs.length := by omega
        refine draw_any h2' (by omega) (by omega) (by omega) fun way j3 _ _ h3 => ?_
        simp
        have mem : ∀ (ys : List D), ys.length ≤ w + 1 → (∀ y ∈ ys, hpw (w + 1) y = true) → Q (.tup ys) j3 := fun ys y1 y2 => q _ _ (hpw_tup.mpr ⟨y1, y2⟩) (h3.mono (by omega))
        have up : ∀ x ∈ xs, hpw (w + 1) x = true := fun x h => hpw_mono (by omega) (hx x h)
        have sl : xs.length < sizeLine := by rw [sizeLine_eq]; omega
        have g0 : xs[k]? = some xs[k] := List.getElem?_eq_getElem hk
        have recu : dOp dIx (dC (.lst xs)) (dC (.int k)) j3 [] fun d j1 => Sr__law_hb_bent n J [.ref J.ad, d] j1 fun d j1 => ∃ x : Nat, (k : Int) = x ∧ x < xs.length ∧ Q (.tup (xs.set x d)) j1 := by
          simp [DL.atI_nat, g0]
          obtain ⟨m, rfl⟩ : ∃ m, n = m + 1 := ⟨n - 1, by omega⟩
          have dm := dep_mem (List.getElem_mem hk)
          refine ⟨b + 3, xs[k], w, rfl, hx _ (List.getElem_mem hk), by omega, h2, h40, h3.mono (by omega), by omega, fun d j4 hd4 h4 => ⟨k, rfl, hk, q _ _ (hpw_tup.mpr ⟨by rw [List.length_set]; omega, fun y hy => ?_⟩) (h4.mono (by omega))⟩⟩
          rcases List.mem_or_eq_of_mem_set hy with z | z
          · exact up y z
          · rw [z]; exact hd4
        by_cases w0 : way = 0
        · rw [if_pos w0]
          refine ⟨k, rfl, ⟨_, g0⟩, mem _ ?_ fun y hy => up y (List.mem_of_mem_eraseIdx hy)⟩
          have := List.length_eraseIdx_le xs k
          omega
        · rw [if_neg w0]
          by_cases w1 : way = 1
          · rw [if_pos w1]
            simp [DL.atI_nat, g0]
            have k40 : k < 100 := by omega
            refine ⟨_, _, ⟨rfl, rfl⟩, by omega, by omega, sl, ?_⟩
            rw [Int.toNat_natCast]
            refine mem _ (by simp; omega) fun y hy => ?_
            rcases List.mem_append.mp hy with z | z
            · exact up y (List.mem_of_mem_take z)
            · rcases List.mem_cons.mp z with z | z
              · rw [z]; exact up _ (List.getElem_mem hk)
              · exact up y (List.mem_of_mem_drop z)
          · rw [if_neg w1]
            by_cases w2 : way = 2
            · rw [if_pos w2]
              by_cases k0 : 0 < k
              · simp [k0]
                obtain ⟨k', rfl⟩ : ∃ k', k = k' + 1 := ⟨k - 1, by omega⟩
                have e1 : ((k' + 1 : Nat) : Int) - 1 = (k' : Nat) := by omega
                have e2 : ((k' : Int) + 1 + 1) = ((k' + 2 : Nat) : Int) := by omega
                have g1 : xs[k']? = some xs[k'] := List.getElem?_eq_getElem (by omega)
                simp only [Int.natCast_add, Int.cast_ofNat_Int, Int.add_sub_cancel] at *
                have g2 : atI xs ((k' : Int) + 1) = some xs[k' + 1] := by
                  have := DL.atI_nat xs (k' + 1)
                  rw [g0] at this
                  exact this
                simp [DL.atI_nat, g1, g2, e2, cutD_to]
                rw [show ((k' : Int) + 2) = ((k' + 2 : Nat) : Int) by omega, cutD_from]
                simp
                refine ⟨by rw [sizeLine_eq]; omega, by rw [sizeLine_eq]; omega, mem _ (by simp; omega) fun y hy => ?_⟩
                rcases List.mem_append.mp hy with z | z
                · exact up y (List.mem_of_mem_take z)
                · rcases List.mem_cons.mp z with z | z
                  · rw [z]; exact up _ (List.getElem_mem _)
                  · rcases List.mem_cons.mp z with z | z
                    · rw [z]; exact up _ (List.getElem_mem _)
                    · exact up y (List.mem_of_mem_drop z)
              · simp [k0]
                simpa using recu
            · rw [if_neg w2]
              simpa using recu
      · rw [if_neg p0]
        exact fin j1 (b + 1) h1 (by omega)
    · rw [if_neg l0]
      exact fin j b hj (by omega)
  | int i =>
    simp [t__law_hb_bent]
    have hi : i.natAbs ≤ 1000000 + w := by simpa [hpw] using hv
    refine pick_any hj (by omega) (by simp) (by simp) fun d j' hm h' => q d j' ?_ (h'.mono (by omega))
    simp at hm
    rcases hm with rfl | rfl | rfl | rfl | rfl | rfl | rfl | rfl <;> simp [hpw] <;> first | omega | decide
  | lst _ => cases hv
  | ref _ => cases hv
  | ty _ => cases hv
  | exc _ _ _ => cases hv
  | clo _ _ => cases hv
  | _ => simp [t__law_hb_bent]; exact fin j b hj (by omega)

theorem h__law_hb_names : H__law_hb_names := by
  intro J d0 d1 j Q ⟨b, most, e, h1, h6, h, hb, hc, q⟩
  cases e
  have d := h.draw h1
  simp [t__law_hb_names]
  refine ⟨b, most, rfl, h, by omega, h1, by omega, ?_⟩
  simp
  refine ⟨b + 1, 1 + drawK J.cs j most, rfl, by omega, by omega, d.1, by omega, hc, fun l j' a1 a2 a3 hj => ?_⟩
  simp
  exact q l j' ⟨by omega, by omega, a3, a1⟩ (hj.mono (by omega))

theorem tie_loop {J : Jst} {one : Str} {thick : Int} {s1 s2 s4 s5 s7 s8 s9 s10 s11 s12 : SD} {P : List D → JS → Prop} : ∀ (l : List Str) (acc : List D) (b : Int) (j : JS), JB J b j → b + l.length < 2 ^ 200 →
    (∀ (sel : List Str) (j' : JS), sel.Sublist l → JB J (b + l.length) j' → P (acc ++ sel.map fun x => pairS (one, x)) j') →
    compW (gN 12) (dTest (dOp dLt (dCall (S__law_draw J) (dCons (dVar 0) (dCons (dC (.int 5)) dNil))) (dVar 3))) (dTup (dCons (dVar 6) (dCons (dVar 12) dNil))) [.val (.ref J.ad), s1, s2, .val (.int thick), s4, s5, .val (.str one), s7, s8, s9, s10, s11, s12] P (stD l) acc j
  | [], acc, b, j, h, hb, k => by
    have := k [] j .slnil (h.mono (by simp))
    simpa [compW] using this
  | x :: r, acc, b, j, h, hb, k => by
    have hl : ((x :: r).length : Int) = r.length + 1 := by simp
    rw [hl] at hb k
    have d := h.draw (n := 5) (by decide)
    simp [compW]
    refine ⟨b, 5, rfl, h, by omega, by decide, by decide, ?_⟩
    simp
    by_cases z : drawK J.cs j 5 < thick
    · simp [z]
      refine tie_loop r (acc ++ [.tup [.str one, .str x]]) (b + 1) _ d.1 (by omega) fun sel j' hs hj => ?_
      have := k (x :: sel) j' (hs.cons_cons x) (hj.mono (by omega))
      simpa [pairS] using this
    · simp [z]
      refine tie_loop r acc (b + 1) _ d.1 (by omega) fun sel j' hs hj => ?_
      exact k sel j' (hs.cons x) (hj.mono (by omega))
theorem ties_loop {J : Jst} {E : DEnds} {people : List Str} {thick : Int} {s1 s7 s8 s9 s10 s11 s12 : SD} (a : asc people) (p6 : people.length ≤ 6) : ∀ (rest pre : List Str) (T : List (Str × Str)) (b : Int) (j : JS) (s5 s6 : SD), people = pre ++ rest → TiesAt people pre T → JB J b j → b + 10 * rest.length < 2 ^ 200 → T.length ≤ 10 * pre.length →
    (∀ T j' s5 s6, TiesAt people people T → T.length ≤ 60 → JB J (b + 10 * rest.length) j' → E.nx j' [.val (.ref J.ad), s1, .val (.tup (stD people)), .val (.int thick), .own (T.map pairS), s5, s6, s7, s8, s9, s10, s11, s12]) →
    forW (gTp (gCn (gN 5) (gCn (gN 6) gNl))) (dExprM (mExt 4 (dLc (dI seqR (dSl (dVar 2) (dSomeP (dOp dAdd (dVar 5) (dC (.int 1)))) dNoP)) (gN 12) (dTest (dOp dLt (dCall (S__law_draw J) (dCons (dVar 0) (dCons (dC (.int 5)) dNil))) (dVar 3))) (dTup (dCons (dVar 6) (dCons (dVar 12) dNil))) [12]))) E (enumD pre.length (stD rest)) j [.val (.ref J.ad), s1, .val (.tup (stD people)), .val (.int thick), .own (T.map pairS), s5, s6, s7, s8, s9, s10, s11, s12]
  | [], pre, T, b, j, s5, s6, e, t, h, hb, tl, k => by
    rw [List.append_nil] at e
    subst e
    exact k T j s5 s6 t (by omega) (h.mono (by simp))
  | one :: r, pre, T, b, j, s5, s6, e, t, h, hb, tl, k => by
    have hl : ((one :: r).length : Int) = r.length + 1 := by simp
    rw [hl] at hb k
    have lp : people.length = pre.length + (r.length + 1) := by rw [e]; simp
    simp [forW, enumD]
    have cut : cutD (stD people) (some ((pre.length : Int) + 1)) none = stD r := by
      have := cutD_from (stD people) (pre.length + 1)
      rw [show (((pre.length + 1 : Nat)) : Int) = (pre.length : Int) + 1 by simp] at this
      rw [this, e, stD, List.map_append, List.drop_append]
      simp
    rw [cut]
    refine tie_loop r [] b j h (by omega) fun sel j' hs hj => ?_
    have sl := hs.length_le
    simp
    refine ⟨by rw [sizeLine_eq]; omega, ?_⟩
    have e3 : (T.map pairS ++ sel.map fun x => pairS (one, x)) = (T ++ sel.map fun x => (one, x)).map pairS := by
      rw [List.map_append, List.map_map]; rfl
    rw [e3]
    have ih := ties_loop (J := J) (E := E) (thick := thick) (s1 := s1) (s7 := s7) (s8 := s8) (s9 := s9) (s10 := s10) (s11 := s11) (s12 := s12) a p6 r (pre ++ [one]) (T ++ sel.map fun x => (one, x)) (b + 10) j' (.val (.int pre.length)) (.val (.str one)) (by rw [e]; simp) (t.more e a hs) (hj.mono (by omega)) (by omega) (by simp; omega) (fun T j' s5 s6 t1 t2 hj => k T j' s5 s6 t1 t2 (hj.mono (by omega)))
    rw [show (pre ++ [one]).length = pre.length + 1 by simp] at ih
    exact ih
theorem pick_l {α : Type} (en : α → D) {J : Jst} {b : Int} {j : JS} (h : JB J b j) (hb : b < 2 ^ 200) (ql : List α) (h0 : ql ≠ []) (hl : ql.length ≤ 1000) {P : D → JS → Prop} (k : ∀ q ∈ ql, ∀ j', JB J (b + 1) j' → P (en q) j') (x : D) (hx : x = .lst (ql.map en) ∨ x = .tup (ql.map en)) : S__law_pick J [.ref J.ad, x] j P := by
  have lp : 0 < ql.length := List.length_pos_iff.mpr h0
  have d := h.draw (n := (ql.length : Int)) (by omega)
  have hi : (drawK J.cs j ql.length).toNat < ql.length := by omega
  have e : (ql.map en).length = ql.length := List.length_map _
  refine ⟨b, x, ql.map en, en ql[(drawK J.cs j ql.length).toNat], rfl, hx, h, hb, by rw [e]; exact hl, ?_, ?_⟩
  · rw [e, List.getElem?_map, List.getElem?_eq_getElem hi]; rfl
  · rw [e]
    exact k _ (List.getElem_mem hi) _ d.1
theorem needs_loop {J : Jst} {E : DEnds} {way : Int} {same : Int × Int} {s1 s2 s3 s4 s5 s6 s12 : SD} (hs : okD same) : ∀ (rest : List Str) (W : List (Int × Int)) (b : Int) (j : JS) (s10 s11 : SD), (∀ q ∈ W, okD q) → JB J b j → b + 10 * rest.length < 2 ^ 200 → W.length + rest.length ≤ 1000 →
    (∀ (W' : List (Int × Int)) (j' : JS) (s10 s11 : SD), (∀ q ∈ W', okD q) → W'.length = W.length + rest.length → JB J (b + 10 * rest.length) j' → E.nx j' [.val (.ref J.ad), s1, s2, s3, s4, s5, s6, .val (.int way), .val (qD same), .own (W'.map qD), s10, s11, s12]) →
    forW (gN 10) (dSeq (dSet 11 (dCall (S__law_q J) (dCons (dCall (S__law_draw J) (dCons (dVar 0) (dCons (dC (.int 7)) dNil))) (dCons (dC (.int 6)) dNil)))) (dExprM (mApp 9 (mE (dIf (dTest (dOp dEq (dVar 7) (dC (.int 0)))) (dVar 8) (dIf (dTest (dOp dEq (dVar 7) (dC (.int 1)))) (dVar 11) (dCall (S__law_pick J) (dCons (dVar 0) (dCons (dLst (dCons (dTup (dCons (dC (.int 0)) (dCons (dC (.int 1)) dNil))) (dCons (dTup (dCons (dC (.int 1)) (dCons (dC (.int 2)) dNil))) (dCons (dTup (dCons (dC (.int 1)) (dCons (dC (.int 1)) dNil))) (dCons (dTup (dCons (dC (.int 1)) (dCons (dC (.int 3)) dNil))) (dCons (dTup (dCons (dC (.int 2)) (dCons (dC (.int 5)) dNil))) (dCons (dVar 11) dNil))))))) dNil)))))))))
      E (stD rest) j [.val (.ref J.ad), s1, s2, s3, s4, s5, s6, .val (.int way), .val (qD same), .own (W.map qD), s10, s11, s12]
  | [], W, b, j, s10, s11, hW, h, hb, hl, k => k W j s10 s11 hW rfl (h.mono (by simp))
  | x :: r, W, b, j, s10, s11, hW, h, hb, hl, k => by
    have e : ((x :: r).length : Int) = r.length + 1 := by simp
    have e' : (x :: r).length = r.length + 1 := rfl
    rw [e] at hb k
    rw [e'] at hl k
    have d := h.draw (n := 7) (by decide)
    have dq : okD (redQ (drawK J.cs j 7) 6) := by
      have := drawn_ok ⟨(drawK J.cs j 7).toNat, by omega⟩
      simp only at this
      rw [Int.toNat_of_nonneg d.2.1] at this
      exact this
    have ih := fun (q : Int × Int) (hq : okD q) (j' : JS) (hj : JB J (b + 10) j') => needs_loop (J := J) (E := E) (way := way) (s1 := s1) (s2 := s2) (s3 := s3) (s4 := s4) (s5 := s5) (s6 := s6) (s12 := s12) hs r (W ++ [q]) (b + 10) j' (.val (.str x)) (.val (qD (redQ (drawK J.cs j 7) 6)))
      (fun y hy => (List.mem_append.mp hy).elim (hW y) fun z => by rw [List.mem_singleton.mp z]; exact hq) hj (by omega) (by simp; omega) (fun W' j' s10 s11 a1 a2 a3 => k W' j' s10 s11 a1 (by rw [a2]; simp; omega) (a3.mono (by omega)))
    simp [forW]
    refine ⟨b, 7, rfl, h, by omega, by decide, by decide, ?_⟩
    simp
    refine ⟨_, 6, rfl, by decide, by decide, ?_⟩
    simp
    have sl := sizeLine_eq
    by_cases w0 : way = 0
    · simp [w0]
      refine ⟨by omega, ?_⟩
      have := ih same hs _ (d.1.mono (by omega))
      simpa [w0] using this
    · by_cases w1 : way = 1
      · simp [w1]
        refine ⟨by omega, ?_⟩
        have := ih _ dq _ (d.1.mono (by omega))
        simpa [w1] using this
      · simp [w0, w1]
        refine pick_l qD d.1 (by omega) [(0, 1), (1, 2), (1, 1), (1, 3), (2, 5), redQ (drawK J.cs j 7) 6] (by simp) (by simp) (fun q hq j' hj => ?_) _ (.inl (by simp [qD]))
        have hq' : okD q := by
          simp only [List.mem_cons, List.mem_nil_iff, or_false] at hq
          rcases hq with rfl | rfl | rfl | rfl | rfl | rfl
          · decide
          · decide
          · decide
          · decide
          · decide
          · exact dq
        refine ⟨by omega, ?_⟩
        have := ih q hq' _ (hj.mono (by omega))
        simpa using this
theorem h__law_hb_crowd : H__law_hb_crowd := by
  intro J d0 d1 j Q ⟨b, e, h, hb, hc, q⟩
  cases e
  simp [t__law_hb_crowd]
  refine ⟨b, 6, rfl, by decide, by decide, h, by omega, hc, fun l j1 hl h1 => ?_⟩
  have d1 := h1.draw (n := 4) (by decide)
  have p6 : l.length ≤ 6 := by have := hl.2.1; omega
  refine ⟨_, 4, rfl, h1, by omega, by decide, by decide, ?_⟩
  simp
  refine ties_loop (pre := []) hl.2.2.2 p6 l [] _ _ _ _ rfl ⟨(fun _ z => nomatch z), .nil⟩ d1.1 (by omega) (by simp) fun T j2 s5 s6 t1 t2 h2 => ?_
  have d2 := h2.draw (n := 3) (by decide)
  refine ⟨_, 3, rfl, h2, by omega, by decide, by decide, ?_⟩
  refine pick_l qD d2.1 (by omega) [(1, 2), (1, 3), (1, 1), (0, 1), (2, 3)] (by simp) (by simp) (fun same hs j3 h3 => ?_) _ (.inl (by simp [qD]))
  have hs' : okD same := by
    simp only [List.mem_cons, List.mem_nil_iff, or_false] at hs
    rcases hs with rfl | rfl | rfl | rfl | rfl <;> decide
  simp
  refine needs_loop hs' l [] _ _ _ _ (fun _ z => nomatch z) h3 (by omega) (by simp; omega) fun W j4 s10 s11 w1 w2 h4 => ?_
  simp
  exact q ⟨l, T, W⟩ j4 ⟨hl, fun t ht => (t1.ok t ht).2, t1.pw, by simpa using w2, fun q hq => (w1 q hq).1⟩ (fun q hq => (w1 q hq).2) (h4.mono (by omega))

theorem deqv_stDL (l m : List Str) : deqv (.lst (stD l)) (.lst (stD m)) = decide (l = m) := by
  rw [Bool.eq_iff_iff, decide_eq_true_eq, deqv_iff (nb_stDL 1 l) (nb_stDL 1 m)]
  constructor
  · intro e
    injection e with e
    exact stD_inj e
  · rintro rfl
    rfl
theorem h__law_hb_is_lot : H__law_hb_is_lot := by
  intro J d0 d1 j Q ⟨l, v, e, hv, q⟩
  cases e
  have nv : noRef d1 = true := pv_ref hv
  cases d1 with
  | tup xs =>
    obtain ⟨hl60, hx⟩ := pv_tup hv
    simp [t__law_hb_is_lot]
    have e0 : xs = xs.map id := by simp
    rw [e0]
    refine compW_ones id (fun d => match d with | .str s => !decide (s ∈ l) | _ => true) (fun d hd Q q => ?_) ?_
    · have hd : noRef d = true := hx d hd
      cases d with
      | str s =>
        simp [lv_str, lv_stD, hasIn_stD]
        by_cases z : s ∈ l <;> simp [z] at q ⊢ <;> exact q
      | _ => first | (cases hd; done) | (simp at q ⊢; exact q)
    · refine ⟨lv_ones 19 _, rfl, ?_⟩
      rw [deqv_ones]
      simp only [List.map_id]
      cases es : strsOf xs with
      | none =>
        obtain ⟨x, hx1, hx2⟩ := strsOf_none es
        have z : xs.countP (fun d : D => match d with | .str s => !decide (s ∈ l) | _ => true) ≠ 0 := by
          intro z
          have := (count0 _ _).mp z x hx1
          cases x <;> first | (cases hx2; done) | (cases this; done)
        rw [show isLotB l (.tup xs) = false by simp only [isLotB, es]] at q
        simp only [z, decide_false, Bool.false_eq_true, if_false]
        exact q
      | some ys =>
        have es := strsOf_some es
        subst es
        rw [show D.tup (stD ys) = lotD ys from rfl, isLotB_lot] at q
        have e1 : (stD ys).countP (fun d : D => match d with | .str s => !decide (s ∈ l) | _ => true) = ys.countP (fun s => !decide (s ∈ l)) := by
          rw [List.countP_map]
          rfl
        rw [e1]
        by_cases z : ys.all (fun x => decide (x ∈ l)) = true
        · have z0 : ys.countP (fun s => !decide (s ∈ l)) = 0 := (count0 _ _).mpr fun s hs => by
            have := List.all_eq_true.mp z s hs
            rw [this]; rfl
          rw [z, Bool.true_and] at q
          simp only [z0, decide_true, if_true]
          refine ⟨ys, .inl rfl, by simp at hl60; omega, fun zs ha hm => ?_⟩
          refine ⟨lv_stDL _ _, lv_stDL _ _, ?_⟩
          rw [deqv_stDL]
          have e2 : decide (ys = zs) = adjB ys := by
            rw [Bool.eq_iff_iff, decide_eq_true_eq, adjB_iff]
            constructor
            · rintro rfl
              exact ha
            · exact fun h => asc_ext h ha fun x => (hm x).symm
          rw [e2]
          exact q
        · have z : ys.all (fun x => decide (x ∈ l)) = false := by simpa using z
          have z0 : ys.countP (fun s => !decide (s ∈ l)) ≠ 0 := fun y => by
            rw [List.all_eq_false] at z
            obtain ⟨x, hx1, hx2⟩ := z
            have := (count0 _ _).mp y x hx1
            simp at this hx2
            exact hx2 this
          rw [z, Bool.false_and] at q
          simp only [z0, decide_false, Bool.false_eq_true, if_false]
          exact q
  | _ => first | (cases nv; done) | (simp [t__law_hb_is_lot]; exact q)

theorem h__law_hb_near : H__law_hb_near := by
  intro J d0 d1 j Q ⟨c, p, e, g, q⟩
  cases e
  simp [t__law_hb_near, crD]
  refine compW_sel pairS (fun t => (if p = t.1 ∨ p = t.2 then some (if t.2 = p then t.1 else t.2) else none).map D.str) (fun t ht Q q => ?_) ?_
  · simp [pairS, lv, hasIn, deqv_str]
    by_cases h1 : t.1 = p
    · by_cases h2 : t.2 = p
      · simp [h1, h2] at q ⊢; exact q
      · have h2' : ¬ p = t.2 := fun z => h2 z.symm
        simp [h1, h2, h2'] at q ⊢; exact q
    · have h1' : ¬ p = t.1 := fun z => h1 z.symm
      by_cases h2 : t.2 = p
      · simp [h1, h2, h1'] at q ⊢; exact q
      · have h2' : ¬ p = t.2 := fun z => h2 z.symm
        simp [h1, h2, h1', h2'] at q ⊢; exact q
  · rw [List.nil_append, fm_str]
    exact q

theorem h__law_hb_takes : H__law_hb_takes := by
  intro J d0 d1 d2 j Q ⟨c, lot, p, e, g, hp, q⟩
  cases e
  simp [t__law_hb_takes]
  refine ⟨c, p, rfl, g, ?_⟩
  simp
  refine compW_in (fun x => decide (x ∈ lot)) (fun x hx Q q => ?_) ?_
  · simp [lv_str, lv_stD, hasIn_stD]
    by_cases h : x ∈ lot
    · simp [h] at q ⊢; exact q
    · simp [h] at q ⊢; exact q
  · obtain ⟨i, h1, h2⟩ := need_at g hp
    simp [crD, strsOf_stD, h1, DL.atI_nat, h2, qD]
    obtain ⟨⟨o1, _⟩, o2, o3, o4⟩ := need_ok g hp
    have e : (∃ x, x ∈ near c p ∧ x ∈ lot) ↔ 0 < (inL lot (near c p)).length := by simp [inL]
    have lt : (near c p).length ≤ 72 := by rw [near_len g]; exact tied_len g p
    have li : (inL lot (near c p)).length ≤ 72 := Nat.le_trans (List.length_filter_le _ _) lt
    unfold takes at q
    rw [← near_in g, ← near_len g] at q
    by_cases hpos : 0 < (inL lot (near c p)).length
    · rw [if_pos (e.mpr hpos)]
      rw [decide_eq_true hpos, Bool.true_and] at q
      refine ⟨needOf c p, (((near c p).length : Int), 1), rfl, ⟨o1, by omega⟩, ⟨by simp only; omega, by simp only; omega⟩, ⟨by simp only; omega, by simp only; omega⟩, ?_⟩
      have hD : 0 < (needOf c p).2 * 1 := by omega
      refine ⟨(((inL lot (near c p)).length : Int), 1), redQ ((needOf c p).1 * ((near c p).length : Int)) ((needOf c p).2 * 1), rfl, ⟨by simp only; omega, by simp only; omega⟩, ⟨?_, ?_⟩, ?_⟩
      · have := redQ_pos (n := (needOf c p).1 * ((near c p).length : Int)) hD; omega
      · have := redQ_le (n := (needOf c p).1 * ((near c p).length : Int)) hD; omega
      · simp
        have r := less_red (k := ((inL lot (near c p)).length : Int)) (n := (needOf c p).1 * ((near c p).length : Int)) hD
        simp only [Int.mul_one] at r ⊢
        by_cases z : (needOf c p).1 * ((near c p).length : Int) ≤ ((inL lot (near c p)).length : Int) * (needOf c p).2
        · have z2 := fun y => (Int.not_lt.mpr z) (r.mp y)
          rw [decide_eq_true z] at q
          rw [decide_eq_false z2]; exact q
        · have z2 := r.mpr (Int.not_le.mp z)
          rw [decide_eq_false z] at q
          rw [decide_eq_true z2]; exact q
    · rw [if_neg (fun z => hpos (e.mp z))]
      rw [decide_eq_false hpos, Bool.false_and] at q
      exact q

theorem h__law_hb_taking : H__law_hb_taking := by
  intro J d0 d1 j Q ⟨c, lot, e, g, q⟩
  cases e
  simp [t__law_hb_taking, crD]
  refine compW_in (fun x => decide (x ∉ lot) && takes c lot x) (fun x hx Q q => ?_) ?_
  · simp [lv_str, lv_stD, hasIn_stD]
    by_cases h : x ∈ lot
    · simp [h] at q ⊢; exact q
    · simp [h] at q ⊢
      refine ⟨c, lot, x, rfl, g, hx, ?_⟩
      cases t : takes c lot x <;> simp [t] at q ⊢ <;> exact q
  · exact q

theorem h__law_hb_rounds : H__law_hb_rounds := by
  intro J d0 d1 j Q ⟨c, lot, e, g, hl, q⟩
  cases e
  simp [t__law_hb_rounds]
  refine ⟨fun m j' ρ' => j' = j ∧ ∃ (dn : List (List Str)) (cur : List Str), ρ' = [.val (crD c), .val (.tup (stD lot)), .own ((dn ++ [cur]).map fun l => D.tup (stD l))] ∧ okL c.P cur ∧ c.P.length ≤ cur.length + m ∧ dn.length + m = c.P.length ∧ dn ++ rds c m cur = rds c c.P.length lot,
    ⟨c.P.length, rfl, [], lot, rfl, hl, Nat.le_add_left _ _, Nat.zero_add _, rfl⟩, ?_⟩
  rintro m j' ρ' ⟨ej, dn, cur, eρ, hc, h1, h2, h3⟩
  subst ej eρ
  have p6 : c.P.length ≤ 6 := by have := g.names.2.1; omega
  simp
  refine ⟨c, cur, rfl, g, ?_⟩
  simp [lv_stD, stD_nil_iff, lv]
  by_cases f : taken c cur = []
  · simp [f]
    rw [rds_fix f] at h3
    rw [← h3] at q
    simpa using q
  · simp [f]
    have hm : 0 < m := by
      have e := next_len (c := c) cur
      have l := len_le (next_ok (c := c) g.names.2.2.2 hc)
      have : 0 < (taken c cur).length := List.length_pos_iff.mpr f
      omega
    obtain ⟨m, rfl⟩ := Nat.exists_eq_succ_of_ne_zero (Nat.pos_iff_ne_zero.mp hm)
    have lc := len_le hc
    have lt : (taken c cur).length ≤ c.P.length := List.length_filter_le _ _
    have so : sortOk (List.map D.str cur ++ List.map D.str (taken c cur)) = true := by rw [← List.map_append]; exact sortOk_stD _
    have ms : (List.map D.str cur ++ List.map D.str (taken c cur)).mergeSort leD = List.map D.str (next c cur) := by rw [← List.map_append]; exact sorted_stD _
    refine ⟨c, cur, rfl, g, ?_⟩
    simp
    rw [ms]
    have z1 : cur.length + (taken c cur).length ≤ sizeLine := by rw [sizeLine_eq]; omega
    have z2 : dn.length + 1 < sizeLine := by rw [sizeLine_eq]; omega
    refine ⟨z1, so, z2, ?_⟩
    refine ⟨m, Nat.lt_succ_self m, dn ++ [cur], next c cur, by simp, next_ok g.names.2.2.2 hc, ?_, by rw [List.length_append]; show dn.length + 1 + m = _; omega, ?_⟩
    · have e := next_len (c := c) cur
      have : 0 < (taken c cur).length := List.length_pos_iff.mpr f
      omega
    · rw [← h3, rds_go f, List.append_assoc]; rfl

theorem h__law_hb_apart : H__law_hb_apart := by
  intro J d0 d1 j Q ⟨c, lot, e, g, hl, q⟩
  cases e
  simp [t__law_hb_apart, crD]
  refine compW_in (fun x => decide (x ∉ lot)) (fun x hx Q q => ?_) ?_
  · simp [lv_str, lv_stD, hasIn_stD]
    by_cases h : x ∈ lot <;> simp [h] at q ⊢ <;> exact q
  · rw [show (c.P.filter fun x => decide (x ∉ lot)) = others c lot from rfl]
    refine ⟨lv_stD 19 lot, lv_stD 19 [], ?_⟩
    rw [stD_nil_iff]
    by_cases z : lot = []
    · simp [z] at q ⊢; exact q
    · simp [z] at q ⊢
      refine compW_ones D.str (fun p => takes c (others c lot) p) (fun p hp Q q => ?_) ?_
      · simp
        refine ⟨c, others c lot, p, rfl, g, hl p hp, ?_⟩
        cases y : takes c (others c lot) p <;> simp [y] at q ⊢ <;> exact q
      · refine ⟨lv_ones 19 _, rfl, ?_⟩
        rw [deqv_ones]
        have e : decide (lot.countP (fun p => takes c (others c lot) p) = 0) = apart c lot := by
          rw [Bool.eq_iff_iff, decide_eq_true_eq, count0, apart_iff]
        rw [e]; exact q

theorem h__law_hb_lots : H__law_hb_lots := by
  intro J d0 j Q ⟨l, e, h6, q⟩
  cases e
  simp [t__law_hb_lots]
  have p2 : 2 ^ l.length ≤ 2 ^ 6 := Nat.pow_le_pow_right (by decide) h6
  refine lots_loop l [[]] _ _ (by rw [List.length_singleton]; omega) (fun m hm => by simp at hm; subst hm; simp; omega) fun s2 s3 => ?_
  simp
  refine ⟨sortOk_lots _, ?_⟩
  rw [sorted_lots]
  exact q

theorem lot_loop {J : Jst} {n : Int} {s1 s3 : SD} {P : List D → JS → Prop} (hn : 1 ≤ n) (hn2 : n < 2 ^ 60) : ∀ (l : List Str) (acc : List D) (b : Int) (j : JS), JB J b j → b + l.length < 2 ^ 200 →
    (∀ sel j', sel.Sublist l → JB J (b + l.length) j' → P (acc ++ stD sel) j') →
    compW (gN 3) (dTest (dOp dEq (dCall (S__law_draw J) (dCons (dVar 0) (dCons (dVar 2) dNil))) (dC (.int 0)))) (dVar 3) [.val (.ref J.ad), s1, .val (.int n), s3] P (stD l) acc j
  | [], acc, b, j, h, hb, k => by
    have := k [] j .slnil (h.mono (by simp))
    simpa [compW] using this
  | x :: r, acc, b, j, h, hb, k => by
    have hl : ((x :: r).length : Int) = r.length + 1 := by simp
    rw [hl] at hb k
    have d := h.draw hn
    simp [compW]
    refine ⟨b, n, rfl, h, by omega, hn, hn2, ?_⟩
    simp
    by_cases z : drawK J.cs j n = 0
    · simp [z]
      refine lot_loop hn hn2 r (acc ++ [.str x]) (b + 1) _ d.1 (by omega) fun sel j' hs hj => ?_
      have := k (x :: sel) j' (hs.cons_cons x) (hj.mono (by omega))
      simpa using this
    · simp [z]
      refine lot_loop hn hn2 r acc (b + 1) _ d.1 (by omega) fun sel j' hs hj => ?_
      exact k sel j' (hs.cons x) (hj.mono (by omega))
theorem h__law_hb_lot : H__law_hb_lot := by
  intro J d0 d1 d2 j Q ⟨b, n, l, e, h, hb, h1, h60, ha, hl, q⟩
  cases e
  simp [t__law_hb_lot]
  refine lot_loop h1 h60 l [] b j h (by omega) fun sel j' hs hj => ?_
  exact q sel j' ⟨List.Pairwise.sublist hs ha, fun x hx => hs.subset hx⟩ (hj.mono (by omega))

theorem h__law_hb_no_lot : H__law_hb_no_lot := by
  intro J d0 d1 j Q ⟨b, l, e, hl, h, hb, q⟩
  cases e
  simp [t__law_hb_no_lot]
  cases l with
  | nil => exact absurd hl.1 (by simp)
  | cons x r =>
    simp
    have h6 := hl.2.1
    rw [List.length_cons] at h6
    have hx := hl.2.2.1 x List.mem_cons_self
    have z1 : (Str.ofString "z").length = 1 := by decide
    have s1 : x.length + (Str.ofString "z").length ≤ sizeLine := by have := hx.2.1; rw [z1, sizeLine_eq]; omega
    have g0 : noLot (x :: r) .non := rfl
    have g1 : noLot (x :: r) (.lst (D.str x :: List.map D.str r)) := lv_stDL 19 (x :: r)
    have g2 : noLot (x :: r) (.tup (D.str x :: (List.map D.str r ++ [D.str x]))) := by
      have := noLot_not (l := x :: r) (ys := x :: (r ++ [x])) (fun y hy => by simp at hy ⊢; rcases hy with a | a | a <;> simp [a]) (by simp; omega) not_asc_more
      simpa using this
    have g3 : noLot (x :: r) (.tup [D.str (Str.ofString "zzzzzzzzz")]) := .inr ⟨by simp, fun y hy => .inr ⟨_, List.mem_singleton.mp hy⟩, _, List.mem_singleton.mpr rfl, fun s hs e => by
      injection e with e
      have h9 : (Str.ofString "zzzzzzzzz").length = 9 := by decide
      have := (hl.2.2.1 s hs).2.1
      rw [← e, h9] at this
      omega⟩
    have g4 : noLot (x :: r) (.str (x ++ Str.ofString "z")) := rfl
    have g5 : noLot (x :: r) (.tup [D.int 1]) := .inr ⟨by simp, fun y hy => .inl ⟨_, List.mem_singleton.mp hy⟩, _, List.mem_singleton.mpr rfl, fun s hs e => nomatch e⟩
    have g6 : noLot (x :: r) (.dct [] []) := rfl
    refine ⟨by rw [sizeLine_eq]; omega, ?_⟩
    split
    · rename_i h1
      refine ⟨s1, pick_any h (by omega) (by simp) (by simp) fun d j' hd hj => q d j' ?_ hj⟩
      have g7 : noLot (x :: r) (.tup ((List.map D.str r).reverse ++ [D.str x])) := by
        have := noLot_not (l := x :: r) (ys := (x :: r).reverse) (fun y hy => by simpa [or_comm] using hy) (by simp; omega) (by
          cases r with
          | nil => simp at h1
          | cons y r' => exact not_asc_rev hl.2.2.2)
        simpa using this
      simp at hd
      rcases hd with rfl | rfl | rfl | rfl | rfl | rfl | rfl | rfl <;> assumption
    · refine ⟨s1, pick_any h (by omega) (by simp) (by simp) fun d j' hd hj => q d j' ?_ hj⟩
      have g7 : noLot (x :: r) (.int 5) := rfl
      simp at hd
      rcases hd with rfl | rfl | rfl | rfl | rfl | rfl | rfl | rfl <;> assumption

theorem h__law_k57_is : H__law_k57_is := by
  intro J d0 d1 d2 j Q ⟨c, lot, x, e, g, hl, hv, q⟩
  cases e
  simp [t__law_k57_is]
  have nx : noRef d2 = true := pv_ref hv
  cases d2 with
  | tup xs =>
    obtain ⟨_, hy⟩ := pv_tup hv
    match xs, hy, q with
    | [], _, q => simp; exact q
    | [_], _, q =>
      rw [reachB_len (by simp)] at q
      simp; exact q
    | _ :: _ :: _ :: _, _, q =>
      rw [reachB_len (by simp)] at q
      simp
      rw [if_neg (by omega)]
      exact q
    | [a, y], hy, q =>
      have ha := pv_ref (hy a (by simp))
      have nl := pv_nl hv y (by simp)
      have hy1 : DL.pv 1 y := hy y (by simp)
      cases a with
      | str w =>
        simp
        have q : Q (.bl (if w = Str.ofString "row" then rowOk c lot y else if w = Str.ofString "kept" then keptOk c lot y else false)) j := q
        have kr : Str.ofString "kept" ≠ Str.ofString "row" := by decide
        by_cases h2 : w = Str.ofString "kept"
        · rw [if_neg (by rw [h2]; exact kr), if_pos h2] at q
          simp [h2]
          simp [crD]
          refine ⟨c.P, y, rfl, hy1, ?_⟩
          simp
          by_cases l0 : isLotB c.P y = true
          · obtain ⟨k, rfl, ok⟩ := isLotB_iff.mp l0
            rw [kept_lot, l0, Bool.true_and] at q
            simp [l0]
            refine ⟨c, k, rfl, g, ok.2, ?_⟩
            simp
            by_cases k1 : (decide (k ≠ []) && apart c k) = true
            · rw [← Bool.and_assoc, k1, Bool.true_and] at q
              simp at k1
              simp [k1]
              show compW _ _ _ _ _ (stD k) [] j
              refine compW_ones D.str (fun x => decide (x ∈ lot)) (fun x hx Q q => ?_) ?_
              · simp
                by_cases z : x ∈ lot <;> simp [z] at q ⊢ <;> exact q
              · refine ⟨lv_ones 19 _, rfl, ?_⟩
                rw [deqv_ones]
                have e : decide (k.countP (fun x => decide (x ∈ lot)) = 0) = k.all (fun x => decide (x ∉ lot)) := by
                  rw [Bool.eq_iff_iff, decide_eq_true_eq, count0, List.all_eq_true]
                  simp
                rw [e]
                exact q
            · have k1 : (decide (k ≠ []) && apart c k) = false := by simpa using k1
              rw [← Bool.and_assoc, k1, Bool.false_and] at q
              have k2 : ¬ (k ≠ [] ∧ apart c k = true) := fun z => by simp [z.1, z.2] at k1
              rw [if_neg (by simpa using k2)]
              exact q
          · have l0 : isLotB c.P y = false := by simpa using l0
            rw [kept_no l0] at q
            simp [l0]
            exact q
        · rw [if_neg h2] at q
          simp [h2]
          simp [crD]
          refine compW_f (fun x => decide (x ∉ lot)) (fun x hx Q q => ?_) ?_
          · simp
            by_cases z : x ∈ lot <;> simp [z] at q ⊢ <;> exact q
          · rw [show (c.P.filter fun x => decide (x ∉ lot)) = others c lot from rfl]
            by_cases h1 : w = Str.ofString "row"
            · rw [if_pos h1] at q ⊢
              refine ⟨pv_ref hy1, ?_⟩
              cases y with
              | tup ys =>
                obtain ⟨y60, hz⟩ := pv_tup hy1
                simp
                have e0 : ys = ys.map id := by simp
                cases es : strsOf ys with
                | none =>
                  rw [show rowOk c lot (.tup ys) = false by simp only [rowOk, es]] at q
                  show compW _ _ _ _ _ ys [] j
                  rw [show compW (gN 6) (dNotT (dTest (dIsi isStrD (dVar 6)))) (dC (.int 1)) _ _ ys [] j = compW (gN 6) (dNotT (dTest (dIsi isStrD (dVar 6)))) (dC (.int 1)) _ _ (ys.map id) [] j by rw [List.map_id]]
                  refine compW_ones id (fun d => !isStrD d) (fun d hd Q q => ?_) ?_
                  · have hd : noRef d = true := hz d hd
                    simp only [id] at q ⊢
                    cases d <;> first | (cases hd; done) | (simp at q ⊢; exact q)
                  · refine ⟨lv_ones 19 _, rfl, ?_⟩
                    rw [deqv_ones]
                    obtain ⟨x, hx1, hx2⟩ := strsOf_none es
                    have z : ys.countP (fun d : D => !isStrD d) ≠ 0 := fun z => by
                      have := (count0 _ _).mp z x hx1
                      rw [hx2] at this
                      cases this
                    simp only [z, decide_false, Bool.false_eq_true, if_false]
                    exact q
                | some l =>
                  have es := strsOf_some es
                  subst es
                  have q : Q (.bl (decide (sortS l = others c lot) && goT c lot l)) j := by rw [← row_lot]; exact q
                  refine compW_ones D.str (fun _ => false) (fun s hs Q q => ?_) ?_
                  · simp at q ⊢
                    exact q
                  · refine ⟨lv_ones 19 _, rfl, ?_⟩
                    rw [deqv_ones, (count0 _ _).mpr fun _ _ => rfl]
                    simp only [decide_true, if_true]
                    refine ⟨sortOk_stD l, ?_⟩
                    rw [sorted_stD]
                    refine ⟨lv_stDL _ _, lv_stDL _ _, ?_⟩
                    rw [deqv_stDL]
                    by_cases z : sortS l = others c lot
                    · simp only [z, decide_true, Bool.true_and] at q ⊢
                      simp only [if_true]
                      rw [enum_str]
                      refine compW_ones pN (fun p => !takes c (lot ++ l.take p.1) p.2) (fun p hp Q q => ?_) ?_
                      · obtain ⟨m1, m2⟩ := en_mem hp
                        have mP : p.2 ∈ c.P := by
                          have : p.2 ∈ others c lot := by rw [← z]; exact sortS_mem.mpr m1
                          exact (mem_others.mp this).1
                        simp [pN]
                        rw [cut_take]
                        have hzz : lot.length + (l.take p.1).length ≤ sizeLine := by
                          have := len_le hl
                          have := P6 g
                          have : (l.take p.1).length ≤ l.length := by rw [List.length_take]; exact Nat.min_le_right _ _
                          have : l.length ≤ 60 := by simpa using y60
                          rw [sizeLine_eq]
                          omega
                        simp [lotD] at hzz ⊢
                        refine ⟨hzz, c, lot ++ l.take p.1, p.2, by simp [crD], g, mP, ?_⟩
                        cases y : takes c (lot ++ l.take p.1) p.2 <;> simp [y] at q ⊢ <;> exact q
                      · refine ⟨lv_ones 19 _, rfl, ?_⟩
                        rw [deqv_ones]
                        have e2 : decide ((enN 0 l).countP (fun p => !takes c (lot ++ l.take p.1) p.2) = 0) = goT c lot l := by
                          rw [go_en0, Bool.eq_iff_iff, decide_eq_true_eq, count0, List.all_eq_true]
                          simp
                        rw [e2]
                        exact q
                    · simp only [z, decide_false, Bool.false_and] at q ⊢
                      simpa using q
              | _ => first | (cases pv_ref hy1; done) | (simp; exact q)
            · rw [if_neg h1] at q ⊢
              exact q
      | _ => first | (cases ha; done) | (simp; exact q)
  | _ => first | (cases nx; done) | (simp; exact q)

theorem h__law_k57_kind : H__law_k57_kind := by
  intro J d0 j Q h
  have key : ∀ (y : Str) (ns : List Str) (xs : List D), y ∈ errs → ∀ k : Int, (sub_BadCrowd y = decide (k = 0)) → (sub_BadLot y = decide (k = 1)) → (0 ≤ k ∧ k ≤ 1) → Q (.lst [.int k]) j → t__law_k57_kind J { nx := fun j' _ => Q .non j', rt := Q } j [.val (.exc (J.fa y) ns xs), .no, .no, .no] := by
    intro y ns xs hy k e0 e1 hk q
    simp [t__law_k57_kind]
    refine ⟨y, hy, rfl, y, hy, rfl, ?_⟩
    rw [e0, e1]
    obtain rfl | rfl : k = 0 ∨ k = 1 := by omega
    all_goals simp [enumD, compW]; exact q
  rcases h with ⟨ns, xs, e, q⟩ | ⟨ns, xs, e, q⟩ <;> cases e
  · exact key _ _ _ (by decide) 0 (by decide) (by decide) (by decide) q
  · exact key _ _ _ (by decide) 1 (by decide) (by decide) (by decide) q

end K57
/-! K57W -/
namespace K57
open PySem PySem.Spec PyProof.Rows L2 DL

structure Txt (w : World) (K : PySem.W.Frag) (mg : Str → Option Value) (base : Heap) (T : List (Addr × Str)) : Prop where
  d_is_whole : ∃ f, (∃ fd, FunD K (Str.ofString "is_whole") (Str.ofString "is_whole") (defArgs (top 6)) (defBody (top 6)) (defScope (top 6)) [] [] f fd) ∧ mg (Str.ofString "is_whole") = some (.ref f)
  d_is_ratio : ∃ f, (∃ fd, FunD K (Str.ofString "is_ratio") (Str.ofString "is_ratio") (defArgs (top 7)) (defBody (top 7)) (defScope (top 7)) [] [] f fd) ∧ mg (Str.ofString "is_ratio") = some (.ref f)
  d_is_chance : ∃ f, (∃ fd, FunD K (Str.ofString "is_chance") (Str.ofString "is_chance") (defArgs (top 8)) (defBody (top 8)) (defScope (top 8)) [] [] f fd) ∧ mg (Str.ofString "is_chance") = some (.ref f)
  d_is_word : ∃ f, (∃ fd, FunD K (Str.ofString "is_word") (Str.ofString "is_word") (defArgs (top 11)) (defBody (top 11)) (defScope (top 11)) [] [] f fd) ∧ mg (Str.ofString "is_word") = some (.ref f)
  d_are_names : ∃ f, (∃ fd, FunD K (Str.ofString "are_names") (Str.ofString "are_names") (defArgs (top 14)) (defBody (top 14)) (defScope (top 14)) [] [] f fd) ∧ mg (Str.ofString "are_names") = some (.ref f)
  d_is_pair_of : ∃ f, (∃ fd, FunD K (Str.ofString "is_pair_of") (Str.ofString "is_pair_of") (defArgs (top 15)) (defBody (top 15)) (defScope (top 15)) [] [] f fd) ∧ mg (Str.ofString "is_pair_of") = some (.ref f)
  d_is_crowd : ∃ f, (∃ fd, FunD K (Str.ofString "is_crowd") (Str.ofString "is_crowd") (defArgs (top 16)) (defBody (top 16)) (defScope (top 16)) [] [] f fd) ∧ mg (Str.ofString "is_crowd") = some (.ref f)
  d_need_crowd : ∃ f, (∃ fd, FunD K (Str.ofString "need_crowd") (Str.ofString "need_crowd") (defArgs (top 17)) (defBody (top 17)) (defScope (top 17)) [] [] f fd) ∧ mg (Str.ofString "need_crowd") = some (.ref f)
  d_is_lot : ∃ f, (∃ fd, FunD K (Str.ofString "is_lot") (Str.ofString "is_lot") (defArgs (top 18)) (defBody (top 18)) (defScope (top 18)) [] [] f fd) ∧ mg (Str.ofString "is_lot") = some (.ref f)
  d_need_lot : ∃ f, (∃ fd, FunD K (Str.ofString "need_lot") (Str.ofString "need_lot") (defArgs (top 19)) (defBody (top 19)) (defScope (top 19)) [] [] f fd) ∧ mg (Str.ofString "need_lot") = some (.ref f)
  d_tied_to : ∃ f, (∃ fd, FunD K (Str.ofString "tied_to") (Str.ofString "tied_to") (defArgs (top 20)) (defBody (top 20)) (defScope (top 20)) [] [] f fd) ∧ mg (Str.ofString "tied_to") = some (.ref f)
  d_does_take : ∃ f, (∃ fd, FunD K (Str.ofString "does_take") (Str.ofString "does_take") (defArgs (top 21)) (defBody (top 21)) (defScope (top 21)) [] [] f fd) ∧ mg (Str.ofString "does_take") = some (.ref f)
  d_taken_from : ∃ f, (∃ fd, FunD K (Str.ofString "taken_from") (Str.ofString "taken_from") (defArgs (top 22)) (defBody (top 22)) (defScope (top 22)) [] [] f fd) ∧ mg (Str.ofString "taken_from") = some (.ref f)
  d_lots_behind : ∃ f, (∃ fd, FunD K (Str.ofString "lots_behind") (Str.ofString "lots_behind") (defArgs (top 23)) (defBody (top 23)) (defScope (top 23)) [] [] f fd) ∧ mg (Str.ofString "lots_behind") = some (.ref f)
  d_others_of : ∃ f, (∃ fd, FunD K (Str.ofString "others_of") (Str.ofString "others_of") (defArgs (top 25)) (defBody (top 25)) (defScope (top 25)) [] [] f fd) ∧ mg (Str.ofString "others_of") = some (.ref f)
  d_stays_apart : ∃ f, (∃ fd, FunD K (Str.ofString "stays_apart") (Str.ofString "stays_apart") (defArgs (top 26)) (defBody (top 26)) (defScope (top 26)) [] [] f fd) ∧ mg (Str.ofString "stays_apart") = some (.ref f)
  d_row_behind : ∃ f, (∃ fd, FunD K (Str.ofString "row_behind") (Str.ofString "row_behind") (defArgs (top 27)) (defBody (top 27)) (defScope (top 27)) [] [] f fd) ∧ mg (Str.ofString "row_behind") = some (.ref f)
  d_reaching : ∃ f, (∃ fd, FunD K (Str.ofString "reaching") (Str.ofString "reaching") (defArgs (top 28)) (defBody (top 28)) (defScope (top 28)) [] [] f fd) ∧ mg (Str.ofString "reaching") = some (.ref f)
  d_is_row_behind : ∃ f, (∃ fd, FunD K (Str.ofString "is_row_behind") (Str.ofString "is_row_behind") (defArgs (top 29)) (defBody (top 29)) (defScope (top 29)) [] [] f fd) ∧ mg (Str.ofString "is_row_behind") = some (.ref f)
  d_is_reaching : ∃ f, (∃ fd, FunD K (Str.ofString "is_reaching") (Str.ofString "is_reaching") (defArgs (top 30)) (defBody (top 30)) (defScope (top 30)) [] [] f fd) ∧ mg (Str.ofString "is_reaching") = some (.ref f)
  d__law_begun : ∃ f, (∃ fd, FunD K (Str.ofString "_law_begun") (Str.ofString "_law_begun") (defArgs (top 32)) (defBody (top 32)) (defScope (top 32)) [] [] f fd) ∧ mg (Str.ofString "_law_begun") = some (.ref f)
  d__law_blended : ∃ f, (∃ fd, FunD K (Str.ofString "_law_blended") (Str.ofString "_law_blended") (defArgs (top 33)) (defBody (top 33)) (defScope (top 33)) [] [] f fd) ∧ mg (Str.ofString "_law_blended") = some (.ref f)
  d__law_draw : ∃ f, (∃ fd, FunD K (Str.ofString "_law_draw") (Str.ofString "_law_draw") (defArgs (top 34)) (defBody (top 34)) (defScope (top 34)) [] [] f fd) ∧ mg (Str.ofString "_law_draw") = some (.ref f)
  d__law_pick : ∃ f, (∃ fd, FunD K (Str.ofString "_law_pick") (Str.ofString "_law_pick") (defArgs (top 35)) (defBody (top 35)) (defScope (top 35)) [] [] f fd) ∧ mg (Str.ofString "_law_pick") = some (.ref f)
  d__law_shuffled : ∃ f, (∃ fd, FunD K (Str.ofString "_law_shuffled") (Str.ofString "_law_shuffled") (defArgs (top 36)) (defBody (top 36)) (defScope (top 36)) [] [] f fd) ∧ mg (Str.ofString "_law_shuffled") = some (.ref f)
  d__law_caught : ∃ f, (∃ fd, FunD K (Str.ofString "_law_caught") (Str.ofString "_law_caught") (defArgs (top 37)) (defBody (top 37)) (defScope (top 37)) [] [] f fd) ∧ mg (Str.ofString "_law_caught") = some (.ref f)
  d__law_is_truth : ∃ f, (∃ fd, FunD K (Str.ofString "_law_is_truth") (Str.ofString "_law_is_truth") (defArgs (top 38)) (defBody (top 38)) (defScope (top 38)) [] [] f fd) ∧ mg (Str.ofString "_law_is_truth") = some (.ref f)
  d__law_same : ∃ f, (∃ fd, FunD K (Str.ofString "_law_same") (Str.ofString "_law_same") (defArgs (top 39)) (defBody (top 39)) (defScope (top 39)) [] [] f fd) ∧ mg (Str.ofString "_law_same") = some (.ref f)
  d__law_q : ∃ f, (∃ fd, FunD K (Str.ofString "_law_q") (Str.ofString "_law_q") (defArgs (top 40)) (defBody (top 40)) (defScope (top 40)) [] [] f fd) ∧ mg (Str.ofString "_law_q") = some (.ref f)
  d__law_times : ∃ f, (∃ fd, FunD K (Str.ofString "_law_times") (Str.ofString "_law_times") (defArgs (top 41)) (defBody (top 41)) (defScope (top 41)) [] [] f fd) ∧ mg (Str.ofString "_law_times") = some (.ref f)
  d__law_less : ∃ f, (∃ fd, FunD K (Str.ofString "_law_less") (Str.ofString "_law_less") (defArgs (top 42)) (defBody (top 42)) (defScope (top 42)) [] [] f fd) ∧ mg (Str.ofString "_law_less") = some (.ref f)
  d__law_words : ∃ f, (∃ fd, FunD K (Str.ofString "_law_words") (Str.ofString "_law_words") (defArgs (top 43)) (defBody (top 43)) (defScope (top 43)) [] [] f fd) ∧ mg (Str.ofString "_law_words") = some (.ref f)
  d__law_odd : ∃ f, (∃ fd, FunD K (Str.ofString "_law_odd") (Str.ofString "_law_odd") (defArgs (top 44)) (defBody (top 44)) (defScope (top 44)) [] [] f fd) ∧ mg (Str.ofString "_law_odd") = some (.ref f)
  d__law_hb_bent : ∃ f, (∃ fd, FunD K (Str.ofString "_law_hb_bent") (Str.ofString "_law_hb_bent") (defArgs (top 45)) (defBody (top 45)) (defScope (top 45)) [] [] f fd) ∧ mg (Str.ofString "_law_hb_bent") = some (.ref f)
  d__law_hb_names : ∃ f, (∃ fd, FunD K (Str.ofString "_law_hb_names") (Str.ofString "_law_hb_names") (defArgs (top 46)) (defBody (top 46)) (defScope (top 46)) [] [] f fd) ∧ mg (Str.ofString "_law_hb_names") = some (.ref f)
  d__law_hb_crowd : ∃ f, (∃ fd, FunD K (Str.ofString "_law_hb_crowd") (Str.ofString "_law_hb_crowd") (defArgs (top 47)) (defBody (top 47)) (defScope (top 47)) [] [] f fd) ∧ mg (Str.ofString "_law_hb_crowd") = some (.ref f)
  d__law_hb_is_lot : ∃ f, (∃ fd, FunD K (Str.ofString "_law_hb_is_lot") (Str.ofString "_law_hb_is_lot") (defArgs (top 48)) (defBody (top 48)) (defScope (top 48)) [] [] f fd) ∧ mg (Str.ofString "_law_hb_is_lot") = some (.ref f)
  d__law_hb_near : ∃ f, (∃ fd, FunD K (Str.ofString "_law_hb_near") (Str.ofString "_law_hb_near") (defArgs (top 49)) (defBody (top 49)) (defScope (top 49)) [] [] f fd) ∧ mg (Str.ofString "_law_hb_near") = some (.ref f)
  d__law_hb_takes : ∃ f, (∃ fd, FunD K (Str.ofString "_law_hb_takes") (Str.ofString "_law_hb_takes") (defArgs (top 50)) (defBody (top 50)) (defScope (top 50)) [] [] f fd) ∧ mg (Str.ofString "_law_hb_takes") = some (.ref f)
  d__law_hb_taking : ∃ f, (∃ fd, FunD K (Str.ofString "_law_hb_taking") (Str.ofString "_law_hb_taking") (defArgs (top 51)) (defBody (top 51)) (defScope (top 51)) [] [] f fd) ∧ mg (Str.ofString "_law_hb_taking") = some (.ref f)
  d__law_hb_rounds : ∃ f, (∃ fd, FunD K (Str.ofString "_law_hb_rounds") (Str.ofString "_law_hb_rounds") (defArgs (top 52)) (defBody (top 52)) (defScope (top 52)) [] [] f fd) ∧ mg (Str.ofString "_law_hb_rounds") = some (.ref f)
  d__law_hb_apart : ∃ f, (∃ fd, FunD K (Str.ofString "_law_hb_apart") (Str.ofString "_law_hb_apart") (defArgs (top 53)) (defBody (top 53)) (defScope (top 53)) [] [] f fd) ∧ mg (Str.ofString "_law_hb_apart") = some (.ref f)
  d__law_hb_lots : ∃ f, (∃ fd, FunD K (Str.ofString "_law_hb_lots") (Str.ofString "_law_hb_lots") (defArgs (top 54)) (defBody (top 54)) (defScope (top 54)) [] [] f fd) ∧ mg (Str.ofString "_law_hb_lots") = some (.ref f)
  d__law_hb_lot : ∃ f, (∃ fd, FunD K (Str.ofString "_law_hb_lot") (Str.ofString "_law_hb_lot") (defArgs (top 55)) (defBody (top 55)) (defScope (top 55)) [] [] f fd) ∧ mg (Str.ofString "_law_hb_lot") = some (.ref f)
  d__law_hb_no_lot : ∃ f, (∃ fd, FunD K (Str.ofString "_law_hb_no_lot") (Str.ofString "_law_hb_no_lot") (defArgs (top 56)) (defBody (top 56)) (defScope (top 56)) [] [] f fd) ∧ mg (Str.ofString "_law_hb_no_lot") = some (.ref f)
  d__law_k57_is : ∃ f, (∃ fd, FunD K (Str.ofString "_law_k57_is") (Str.ofString "_law_k57_is") (defArgs (top 57)) (defBody (top 57)) (defScope (top 57)) [] [] f fd) ∧ mg (Str.ofString "_law_k57_is") = some (.ref f)
  d__law_k57_kind : ∃ f, (∃ fd, FunD K (Str.ofString "_law_k57_kind") (Str.ofString "_law_k57_kind") (defArgs (top 58)) (defBody (top 58)) (defScope (top 58)) [] [] f fd) ∧ mg (Str.ofString "_law_k57_kind") = some (.ref f)
  d_law : ∃ f, (∃ fd, FunD K (Str.ofString "law") (Str.ofString "law") (defArgs (top 59)) (defBody (top 59)) (defScope (top 59)) [] [] f fd) ∧ mg (Str.ofString "law") = some (.ref f)
  f_abs : mg (Str.ofString "abs") = none
  f_all : mg (Str.ofString "all") = none
  f_any : mg (Str.ofString "any") = none
  f_bool : mg (Str.ofString "bool") = none
  f_dict : mg (Str.ofString "dict") = none
  f_enumerate : mg (Str.ofString "enumerate") = none
  f_int : mg (Str.ofString "int") = none
  f_isinstance : mg (Str.ofString "isinstance") = none
  f_len : mg (Str.ofString "len") = none
  f_list : mg (Str.ofString "list") = none
  f_min : mg (Str.ofString "min") = none
  f_range : mg (Str.ofString "range") = none
  f_set : mg (Str.ofString "set") = none
  f_sorted : mg (Str.ofString "sorted") = none
  f_str : mg (Str.ofString "str") = none
  f_tuple : mg (Str.ofString "tuple") = none
  f_zip : mg (Str.ofString "zip") = none
  c_LETTERS : ∃ t, mg (Str.ofString "LETTERS") = some (.str (Str.ofString "abcdefghijklmnopqrstuvwxyz") t)
  c_MOST_CROWD : ∃ t, mg (Str.ofString "MOST_CROWD") = some (.int 6 t)
  m_gcd : mg (Str.ofString "gcd") = some (.builtin "math.gcd")
  e_BadCrowd : ∃ a, mg (Str.ofString "BadCrowd") = some (.ref a) ∧ ClsX K a ∧ ClsI K a
  e_BadLot : ∃ a, mg (Str.ofString "BadLot") = some (.ref a) ∧ ClsX K a ∧ ClsI K a
  ee_BadCrowd : ∃ a, mg (Str.ofString "BadCrowd") = some (.ref a)
  ee_BadLot : ∃ a, mg (Str.ofString "BadLot") = some (.ref a)
  ee_TieError : ∃ a, mg (Str.ofString "TieError") = some (.ref a)
  ei : ∀ y ∈ errs, ClsI K (faOf mg y)
  s_BadCrowd : ∀ y ∈ errs, PySem.W.kitOne K (.ref (faOf mg y)) (.ref (faOf mg (Str.ofString "BadCrowd"))) = some (sub_BadCrowd y)
  n_BadCrowd : PySem.W.kitOne K (.type "NoneType") (.ref (faOf mg (Str.ofString "BadCrowd"))) = some false
  s_BadLot : ∀ y ∈ errs, PySem.W.kitOne K (.ref (faOf mg y)) (.ref (faOf mg (Str.ofString "BadLot"))) = some (sub_BadLot y)
  n_BadLot : PySem.W.kitOne K (.type "NoneType") (.ref (faOf mg (Str.ofString "BadLot"))) = some false
  x_TieError : ∀ y ∈ errs, PySem.W.exmOne K (.ref (faOf mg y)) (.ref (faOf mg (Str.ofString "TieError"))) = some true
  l_law : ∀ f, mg (Str.ofString "law") = some (.ref f) → TbF K base mg T f (Str.ofString "law.<locals>.<lambda>")
section
variable {w : World} {K : PySem.W.Frag} {mg : Str → Option Value} {base : Heap} {T : List (Addr × Str)} {f : Addr}

theorem sc_is_whole : FnScope N_is_whole ([(Str.ofString "value")] : List Str) (defScope (top 6)) := ⟨rfl, rfl, rfl, by decide, rfl, by decide, by decide⟩
theorem b_is_whole (c : Txt w K mg base T) (B : Ent) (cdv : Value) (A : Around) (outer : List Env) (s : Shared) (H : Hp) (E : XK) (hE : EntOk mg T (envOfC (Str.ofString "is_whole") (defScope (top 6)) s.heap.objs.size f cdv).cells B.J) (hC : CodeAt K f cdv) (hr : Room 0 (A.deeper (envOfC (Str.ofString "is_whole") (defScope (top 6)) s.heap.objs.size f cdv))) : PSs (cxB pr w K mg base N_is_whole (Str.ofString "is_whole") (top 6) f cdv A outer s H E) (defBody (top 6)) (dS K B (t_is_whole B.J)) := by
  have hu := hu100 hr
  exact (ds_one (ds_ret (de_and (de_isi t_int rfl c.f_isinstance rfl c.f_int bt_int (by decide) (dr_of_de (de_var (pe_var (i := 0) (x := (Str.ofString "value")) rfl (Or.inl rfl))))) (de_one (de_not (de_isi t_bool rfl c.f_isinstance rfl c.f_bool bt_bool (by decide) (dr_of_de (de_var (pe_var (i := 0) (x := (Str.ofString "value")) rfl (Or.inl rfl))))))))))
theorem g_is_whole (c : Txt w K mg base T) (hS : H_is_whole) : FnG pr w K mg base T 1 (Str.ofString "is_whole") ([(Str.ofString "value")] : List Str) 1 S_is_whole := by
  obtain ⟨f, F, hm⟩ := c.d_is_whole
  exact fnG_of F hm sc_is_whole rfl (by decide) (fun kV doc pm an cdv ct us h => match us, h with | [_a0], _ => rfl) (fun B cdv A outer s H E hE hC hr => b_is_whole c B cdv A outer s H E hE hC hr) (fun J ds j Q l q => match ds, l, q with | [d0], _, q => hS J d0 j Q q)
theorem G_is_whole (c : Txt w K mg base T) : FnG pr w K mg base T 1 (Str.ofString "is_whole") ([(Str.ofString "value")] : List Str) 1 S_is_whole := g_is_whole c h_is_whole
theorem sc_is_ratio : FnScope N_is_ratio ([(Str.ofString "value")] : List Str) (defScope (top 7)) := ⟨rfl, rfl, rfl, by decide, rfl, by decide, by decide⟩
theorem b_is_ratio (c : Txt w K mg base T) (B : Ent) (cdv : Value) (A : Around) (outer : List Env) (s : Shared) (H : Hp) (E : XK) (hE : EntOk mg T (envOfC (Str.ofString "is_ratio") (defScope (top 7)) s.heap.objs.size f cdv).cells B.J) (hC : CodeAt K f cdv) (hr : Room 1 (A.deeper (envOfC (Str.ofString "is_ratio") (defScope (top 7)) s.heap.objs.size f cdv))) : PSs (cxB pr w K mg base N_is_ratio (Str.ofString "is_ratio") (top 7) f cdv A outer s H E) (defBody (top 7)) (dS K B (t_is_ratio B.J)) := by
  have hu := hu100 hr
  exact (ds_cons (ds_if (PW.pt (dw_or (dt_not (dt_val (de_isi t_tuple rfl c.f_isinstance rfl c.f_tuple bt_tuple (by decide) (dr_of_de (de_var (pe_var (i := 0) (x := (Str.ofString "value")) rfl (Or.inl rfl))))))) (dw_or (dt_cmp (o_ne hu) (dr_of_de (de_call1 c_len rfl c.f_len bt_len (dr_of_de (de_var (pe_var (i := 0) (x := (Str.ofString "value")) rfl (Or.inl rfl)))))) (dr_of_de (de_int pe_int)) rfl) (dw_or1 (dt_not (dt_val (de_call1 (c_all rfl) rfl c.f_all bt_all (dr_lst (df_lc (own := [((Str.ofString "part"), 1)]) rfl sc_is_ratio.nd (di_seq (de_var (pe_var (i := 0) (x := (Str.ofString "value")) rfl (Or.inl rfl)))) (blkOk_by (by kernel_rfl)) (fun _ _ _ _ _ => (pgT (dg_name (i := 1) sc_is_ratio.nd rfl (Or.inl rfl)))) (fun _ _ _ _ _ => dts_nilN) (fun _ _ _ _ _ => (de_callG (G_is_whole c) ⟨hE.tb, hE.fa⟩ (hr.mono (by decide)) rfl (da_cons (de_var (pe_var (i := 1) (x := (Str.ofString "part")) rfl (Or.inl rfl))) da_nil))) rfl)))))))))
      (ds_one (ds_ret (de_bl pe_bl)))
      ds_nil)
    (ds_one (ds_ret (de_and (de_cmp (o_gt hu) (dr_of_de (de_ix (dr_of_de (de_var (pe_var (i := 0) (x := (Str.ofString "value")) rfl (Or.inl rfl)))) (dr_of_de (de_int pe_int)) (fun _ _ => rfl))) (dr_of_de (de_int pe_int)) rfl) (de_one (de_cmp (o_eq hu) (dr_of_de (de_gcd rfl c.m_gcd (da_cons (de_ix (dr_of_de (de_var (pe_var (i := 0) (x := (Str.ofString "value")) rfl (Or.inl rfl)))) (dr_of_de (de_int pe_int)) (fun _ _ => rfl)) (da_cons (de_ix (dr_of_de (de_var (pe_var (i := 0) (x := (Str.ofString "value")) rfl (Or.inl rfl)))) (dr_of_de (de_int pe_int)) (fun _ _ => rfl)) da_nil)))) (dr_of_de (de_int pe_int)) rfl))))))
theorem g_is_ratio (c : Txt w K mg base T) (hS : H_is_ratio) : FnG pr w K mg base T 2 (Str.ofString "is_ratio") ([(Str.ofString "value")] : List Str) 1 S_is_ratio := by
  obtain ⟨f, F, hm⟩ := c.d_is_ratio
  exact fnG_of F hm sc_is_ratio rfl (by decide) (fun kV doc pm an cdv ct us h => match us, h with | [_a0], _ => rfl) (fun B cdv A outer s H E hE hC hr => b_is_ratio c B cdv A outer s H E hE hC hr) (fun J ds j Q l q => match ds, l, q with | [d0], _, q => hS J d0 j Q q)
theorem G_is_ratio (c : Txt w K mg base T) : FnG pr w K mg base T 2 (Str.ofString "is_ratio") ([(Str.ofString "value")] : List Str) 1 S_is_ratio := g_is_ratio c h_is_ratio
theorem sc_is_chance : FnScope N_is_chance ([(Str.ofString "value")] : List Str) (defScope (top 8)) := ⟨rfl, rfl, rfl, by decide, rfl, by decide, by decide⟩
theorem b_is_chance (c : Txt w K mg base T) (B : Ent) (cdv : Value) (A : Around) (outer : List Env) (s : Shared) (H : Hp) (E : XK) (hE : EntOk mg T (envOfC (Str.ofString "is_chance") (defScope (top 8)) s.heap.objs.size f cdv).cells B.J) (hC : CodeAt K f cdv) (hr : Room 2 (A.deeper (envOfC (Str.ofString "is_chance") (defScope (top 8)) s.heap.objs.size f cdv))) : PSs (cxB pr w K mg base N_is_chance (Str.ofString "is_chance") (top 8) f cdv A outer s H E) (defBody (top 8)) (dS K B (t_is_chance B.J)) := by
  have hu := hu100 hr
  exact (ds_one (ds_ret (de_and (de_callG (G_is_ratio c) ⟨hE.tb, hE.fa⟩ (hr.mono (by decide)) rfl (da_cons (de_var (pe_var (i := 0) (x := (Str.ofString "value")) rfl (Or.inl rfl))) da_nil)) (de_one (de_chain (o_le hu) (o_le hu) (dr_of_de (de_int pe_int)) (dr_of_de (de_ix (dr_of_de (de_var (pe_var (i := 0) (x := (Str.ofString "value")) rfl (Or.inl rfl)))) (dr_of_de (de_int pe_int)) (fun _ _ => rfl))) (dr_of_de (de_ix (dr_of_de (de_var (pe_var (i := 0) (x := (Str.ofString "value")) rfl (Or.inl rfl)))) (dr_of_de (de_int pe_int)) (fun _ _ => rfl))))))))
theorem g_is_chance (c : Txt w K mg base T) (hS : H_is_chance) : FnG pr w K mg base T 3 (Str.ofString "is_chance") ([(Str.ofString "value")] : List Str) 1 S_is_chance := by
  obtain ⟨f, F, hm⟩ := c.d_is_chance
  exact fnG_of F hm sc_is_chance rfl (by decide) (fun kV doc pm an cdv ct us h => match us, h with | [_a0], _ => rfl) (fun B cdv A outer s H E hE hC hr => b_is_chance c B cdv A outer s H E hE hC hr) (fun J ds j Q l q => match ds, l, q with | [d0], _, q => hS J d0 j Q q)
theorem G_is_chance (c : Txt w K mg base T) : FnG pr w K mg base T 3 (Str.ofString "is_chance") ([(Str.ofString "value")] : List Str) 1 S_is_chance := g_is_chance c h_is_chance
theorem sc_is_word : FnScope N_is_word ([(Str.ofString "value")] : List Str) (defScope (top 11)) := ⟨rfl, rfl, rfl, by decide, rfl, by decide, by decide⟩
theorem b_is_word (c : Txt w K mg base T) (B : Ent) (cdv : Value) (A : Around) (outer : List Env) (s : Shared) (H : Hp) (E : XK) (hE : EntOk mg T (envOfC (Str.ofString "is_word") (defScope (top 11)) s.heap.objs.size f cdv).cells B.J) (hC : CodeAt K f cdv) (hr : Room 0 (A.deeper (envOfC (Str.ofString "is_word") (defScope (top 11)) s.heap.objs.size f cdv))) : PSs (cxB pr w K mg base N_is_word (Str.ofString "is_word") (top 11) f cdv A outer s H E) (defBody (top 11)) (dS K B (t_is_word B.J)) := by
  have hu := hu100 hr
  exact (ds_one (ds_ret (de_and (de_isi t_str rfl c.f_isinstance rfl c.f_str bt_str (by decide) (dr_of_de (de_var (pe_var (i := 0) (x := (Str.ofString "value")) rfl (Or.inl rfl))))) (de_and (de_chain (o_le hu) (o_le hu) (dr_of_de (de_int pe_int)) (dr_of_de (de_call1 c_len rfl c.f_len bt_len (dr_of_de (de_var (pe_var (i := 0) (x := (Str.ofString "value")) rfl (Or.inl rfl)))))) (dr_of_de (de_int pe_int))) (de_one (de_call1 (c_all rfl) rfl c.f_all bt_all (dr_lst (df_lc (own := [((Str.ofString "letter"), 1)]) rfl sc_is_word.nd (di_str (de_var (pe_var (i := 0) (x := (Str.ofString "value")) rfl (Or.inl rfl)))) (blkOk_by (by kernel_rfl)) (fun _ _ _ _ _ => (pgT (dg_name (i := 1) sc_is_word.nd rfl (Or.inl rfl)))) (fun _ _ _ _ _ => dts_nilN) (fun _ _ _ _ _ => (de_cmp (o_in hu) (dr_of_de (de_var (pe_var (i := 1) (x := (Str.ofString "letter")) rfl (Or.inl rfl)))) (dr_of_de (de_str (pe_globS rfl c.c_LETTERS))) rfl)) rfl))))))))
theorem g_is_word (c : Txt w K mg base T) (hS : H_is_word) : FnG pr w K mg base T 1 (Str.ofString "is_word") ([(Str.ofString "value")] : List Str) 1 S_is_word := by
  obtain ⟨f, F, hm⟩ := c.d_is_word
  exact fnG_of F hm sc_is_word rfl (by decide) (fun kV doc pm an cdv ct us h => match us, h with | [_a0], _ => rfl) (fun B cdv A outer s H E hE hC hr => b_is_word c B cdv A outer s H E hE hC hr) (fun J ds j Q l q => match ds, l, q with | [d0], _, q => hS J d0 j Q q)
theorem G_is_word (c : Txt w K mg base T) : FnG pr w K mg base T 1 (Str.ofString "is_word") ([(Str.ofString "value")] : List Str) 1 S_is_word := g_is_word c h_is_word
theorem sc_are_names : FnScope N_are_names ([(Str.ofString "value"), (Str.ofString "most")] : List Str) (defScope (top 14)) := ⟨rfl, rfl, rfl, by decide, rfl, by decide, by decide⟩
theorem b_are_names (c : Txt w K mg base T) (B : Ent) (cdv : Value) (A : Around) (outer : List Env) (s : Shared) (H : Hp) (E : XK) (hE : EntOk mg T (envOfC (Str.ofString "are_names") (defScope (top 14)) s.heap.objs.size f cdv).cells B.J) (hC : CodeAt K f cdv) (hr : Room 1 (A.deeper (envOfC (Str.ofString "are_names") (defScope (top 14)) s.heap.objs.size f cdv))) : PSs (cxB pr w K mg base N_are_names (Str.ofString "are_names") (top 14) f cdv A outer s H E) (defBody (top 14)) (dS K B (t_are_names B.J)) := by
  have hu := hu100 hr
  exact (ds_cons (ds_if (PW.pt (dw_or (dt_not (dt_val (de_isi t_tuple rfl c.f_isinstance rfl c.f_tuple bt_tuple (by decide) (dr_of_de (de_var (pe_var (i := 0) (x := (Str.ofString "value")) rfl (Or.inl rfl))))))) (dw_or (dt_not (dt_chain (o_le hu) (o_le hu) (dr_of_de (de_int pe_int)) (dr_of_de (de_call1 c_len rfl c.f_len bt_len (dr_of_de (de_var (pe_var (i := 0) (x := (Str.ofString "value")) rfl (Or.inl rfl)))))) (dr_of_de (de_var (pe_var (i := 1) (x := (Str.ofString "most")) rfl (Or.inl rfl)))))) (dw_or1 (dt_not (dt_val (de_call1 (c_all rfl) rfl c.f_all bt_all (dr_lst (df_lc (own := [((Str.ofString "word"), 4)]) rfl sc_are_names.nd (di_seq (de_var (pe_var (i := 0) (x := (Str.ofString "value")) rfl (Or.inl rfl)))) (blkOk_by (by kernel_rfl)) (fun _ _ _ _ _ => (pgT (dg_name (i := 4) sc_are_names.nd rfl (Or.inl rfl)))) (fun _ _ _ _ _ => dts_nilN) (fun _ _ _ _ _ => (de_callG (G_is_word c) ⟨hE.tb, hE.fa⟩ (hr.mono (by decide)) rfl (da_cons (de_var (pe_var (i := 4) (x := (Str.ofString "word")) rfl (Or.inl rfl))) da_nil))) rfl)))))))))
      (ds_one (ds_ret (de_bl pe_bl)))
      ds_nil)
    (ds_one (ds_ret (de_call1 (c_all rfl) rfl c.f_all bt_all (dr_lst (df_lc (own := [((Str.ofString "one"), 2), ((Str.ofString "other"), 3)]) rfl sc_are_names.nd (di_zip rfl c.f_zip (da_cons (de_var (pe_var (i := 0) (x := (Str.ofString "value")) rfl (Or.inl rfl))) (da_cons (de_sl (dr_of_de (de_var (pe_var (i := 0) (x := (Str.ofString "value")) rfl (Or.inl rfl)))) (dp_some (de_int pe_int)) dp_none) da_nil))) (blkOk_by (by kernel_rfl)) (fun _ _ _ _ _ => (pgF (dg_tup rfl (dgs_cons (dg_name (i := 2) sc_are_names.nd rfl (Or.inl rfl)) (dgs_cons (dg_name (i := 3) sc_are_names.nd rfl (Or.inl rfl)) dgs_nil)) gtp2))) (fun _ _ _ _ _ => dts_nilN) (fun _ _ _ _ _ => (de_cmp (o_lt hu) (dr_of_de (de_var (pe_var (i := 2) (x := (Str.ofString "one")) rfl (Or.inl rfl)))) (dr_of_de (de_var (pe_var (i := 3) (x := (Str.ofString "other")) rfl (Or.inl rfl)))) rfl)) rfl))))))
theorem g_are_names (c : Txt w K mg base T) (hS : H_are_names) : FnG pr w K mg base T 2 (Str.ofString "are_names") ([(Str.ofString "value"), (Str.ofString "most")] : List Str) 2 S_are_names := by
  obtain ⟨f, F, hm⟩ := c.d_are_names
  exact fnG_of F hm sc_are_names rfl (by decide) (fun kV doc pm an cdv ct us h => match us, h with | [_a0, _a1], _ => rfl) (fun B cdv A outer s H E hE hC hr => b_are_names c B cdv A outer s H E hE hC hr) (fun J ds j Q l q => match ds, l, q with | [d0, d1], _, q => hS J d0 d1 j Q q)
theorem G_are_names (c : Txt w K mg base T) : FnG pr w K mg base T 2 (Str.ofString "are_names") ([(Str.ofString "value"), (Str.ofString "most")] : List Str) 2 S_are_names := g_are_names c h_are_names
theorem sc_is_pair_of : FnScope N_is_pair_of ([(Str.ofString "people"), (Str.ofString "value")] : List Str) (defScope (top 15)) := ⟨rfl, rfl, rfl, by decide, rfl, by decide, by decide⟩
theorem b_is_pair_of (c : Txt w K mg base T) (B : Ent) (cdv : Value) (A : Around) (outer : List Env) (s : Shared) (H : Hp) (E : XK) (hE : EntOk mg T (envOfC (Str.ofString "is_pair_of") (defScope (top 15)) s.heap.objs.size f cdv).cells B.J) (hC : CodeAt K f cdv) (hr : Room 0 (A.deeper (envOfC (Str.ofString "is_pair_of") (defScope (top 15)) s.heap.objs.size f cdv))) : PSs (cxB pr w K mg base N_is_pair_of (Str.ofString "is_pair_of") (top 15) f cdv A outer s H E) (defBody (top 15)) (dS K B (t_is_pair_of B.J)) := by
  have hu := hu100 hr
  exact (ds_cons (ds_if (PW.pt (dw_or (dt_not (dt_val (de_isi t_tuple rfl c.f_isinstance rfl c.f_tuple bt_tuple (by decide) (dr_of_de (de_var (pe_var (i := 1) (x := (Str.ofString "value")) rfl (Or.inl rfl))))))) (dw_or (dt_cmp (o_ne hu) (dr_of_de (de_call1 c_len rfl c.f_len bt_len (dr_of_de (de_var (pe_var (i := 1) (x := (Str.ofString "value")) rfl (Or.inl rfl)))))) (dr_of_de (de_int pe_int)) rfl) (dw_or1 (dt_not (dt_val (de_call1 (c_all rfl) rfl c.f_all bt_all (dr_lst (df_lc (own := [((Str.ofString "word"), 2)]) rfl sc_is_pair_of.nd (di_seq (de_var (pe_var (i := 1) (x := (Str.ofString "value")) rfl (Or.inl rfl)))) (blkOk_by (by kernel_rfl)) (fun _ _ _ _ _ => (pgT (dg_name (i := 2) sc_is_pair_of.nd rfl (Or.inl rfl)))) (fun _ _ _ _ _ => dts_nilN) (fun _ _ _ _ _ => (de_isi t_str rfl c.f_isinstance rfl c.f_str bt_str (by decide) (dr_of_de (de_var (pe_var (i := 2) (x := (Str.ofString "word")) rfl (Or.inl rfl)))))) rfl)))))))))
      (ds_one (ds_ret (de_bl pe_bl)))
      ds_nil)
    (ds_one (ds_ret (de_and (de_cmp (o_in hu) (dr_of_de (de_ix (dr_of_de (de_var (pe_var (i := 1) (x := (Str.ofString "value")) rfl (Or.inl rfl)))) (dr_of_de (de_int pe_int)) (fun _ _ => rfl))) (dr_of_de (de_var (pe_var (i := 0) (x := (Str.ofString "people")) rfl (Or.inl rfl)))) rfl) (de_and (de_cmp (o_in hu) (dr_of_de (de_ix (dr_of_de (de_var (pe_var (i := 1) (x := (Str.ofString "value")) rfl (Or.inl rfl)))) (dr_of_de (de_int pe_int)) (fun _ _ => rfl))) (dr_of_de (de_var (pe_var (i := 0) (x := (Str.ofString "people")) rfl (Or.inl rfl)))) rfl) (de_one (de_cmp (o_lt hu) (dr_of_de (de_ix (dr_of_de (de_var (pe_var (i := 1) (x := (Str.ofString "value")) rfl (Or.inl rfl)))) (dr_of_de (de_int pe_int)) (fun _ _ => rfl))) (dr_of_de (de_ix (dr_of_de (de_var (pe_var (i := 1) (x := (Str.ofString "value")) rfl (Or.inl rfl)))) (dr_of_de (de_int pe_int)) (fun _ _ => rfl))) rfl)))))))
theorem g_is_pair_of (c : Txt w K mg base T) (hS : H_is_pair_of) : FnG pr w K mg base T 1 (Str.ofString "is_pair_of") ([(Str.ofString "people"), (Str.ofString "value")] : List Str) 2 S_is_pair_of := by
  obtain ⟨f, F, hm⟩ := c.d_is_pair_of
  exact fnG_of F hm sc_is_pair_of rfl (by decide) (fun kV doc pm an cdv ct us h => match us, h with | [_a0, _a1], _ => rfl) (fun B cdv A outer s H E hE hC hr => b_is_pair_of c B cdv A outer s H E hE hC hr) (fun J ds j Q l q => match ds, l, q with | [d0, d1], _, q => hS J d0 d1 j Q q)
theorem G_is_pair_of (c : Txt w K mg base T) : FnG pr w K mg base T 1 (Str.ofString "is_pair_of") ([(Str.ofString "people"), (Str.ofString "value")] : List Str) 2 S_is_pair_of := g_is_pair_of c h_is_pair_of
theorem sc_is_crowd : FnScope N_is_crowd ([(Str.ofString "value")] : List Str) (defScope (top 16)) := ⟨rfl, rfl, rfl, by decide, rfl, by decide, by decide⟩
theorem b_is_crowd (c : Txt w K mg base T) (B : Ent) (cdv : Value) (A : Around) (outer : List Env) (s : Shared) (H : Hp) (E : XK) (hE : EntOk mg T (envOfC (Str.ofString "is_crowd") (defScope (top 16)) s.heap.objs.size f cdv).cells B.J) (hC : CodeAt K f cdv) (hr : Room 3 (A.deeper (envOfC (Str.ofString "is_crowd") (defScope (top 16)) s.heap.objs.size f cdv))) : PSs (cxB pr w K mg base N_is_crowd (Str.ofString "is_crowd") (top 16) f cdv A outer s H E) (defBody (top 16)) (dS K B (t_is_crowd B.J)) := by
  have hu := hu100 hr
  exact (ds_cons (ds_if (PW.pt (dw_or (dt_not (dt_val (de_isi t_tuple rfl c.f_isinstance rfl c.f_tuple bt_tuple (by decide) (dr_of_de (de_var (pe_var (i := 0) (x := (Str.ofString "value")) rfl (Or.inr (Or.inl rfl)))))))) (dw_or (dt_cmp (o_ne hu) (dr_of_de (de_call1 c_len rfl c.f_len bt_len (dr_of_de (de_var (pe_var (i := 0) (x := (Str.ofString "value")) rfl (Or.inr (Or.inl rfl))))))) (dr_of_de (de_int pe_int)) rfl) (dw_or (dt_not (dt_val (de_isi t_str rfl c.f_isinstance rfl c.f_str bt_str (by decide) (dr_of_de (de_ix (dr_of_de (de_var (pe_var (i := 0) (x := (Str.ofString "value")) rfl (Or.inr (Or.inl rfl))))) (dr_of_de (de_int pe_int)) (fun _ _ => rfl)))))) (dw_or1 (dt_cmp (o_ne hu) (dr_of_de (de_ix (dr_of_de (de_var (pe_var (i := 0) (x := (Str.ofString "value")) rfl (Or.inr (Or.inl rfl))))) (dr_of_de (de_int pe_int)) (fun _ _ => rfl))) (dr_of_de (de_str pe_str)) rfl))))))
      (ds_one (ds_ret (de_bl pe_bl)))
      ds_nil)
    (ds_cons (ds_if (PW.pt (dw_or (dt_not (dt_val (de_callG (G_are_names c) ⟨hE.tb, hE.fa⟩ (hr.mono (by decide)) rfl (da_cons (de_ix (dr_of_de (de_var (pe_var (i := 0) (x := (Str.ofString "value")) rfl (Or.inr (Or.inl rfl))))) (dr_of_de (de_int pe_int)) (fun _ _ => rfl)) (da_cons (de_int (pe_globI rfl c.c_MOST_CROWD)) da_nil))))) (dw_or1 (dt_not (dt_val (de_isi t_tuple rfl c.f_isinstance rfl c.f_tuple bt_tuple (by decide) (dr_of_de (de_ix (dr_of_de (de_var (pe_var (i := 0) (x := (Str.ofString "value")) rfl (Or.inr (Or.inl rfl))))) (dr_of_de (de_int pe_int)) (fun _ _ => rfl)))))))))
      (ds_one (ds_ret (de_bl pe_bl)))
      ds_nil)
    (ds_cons (ds_if (dt_not (dt_val (de_call1 (c_all rfl) rfl c.f_all bt_all (dr_lst (df_lc (own := [((Str.ofString "tie"), 2)]) rfl sc_is_crowd.nd (di_seq (de_ix (dr_of_de (de_var (pe_var (i := 0) (x := (Str.ofString "value")) rfl (Or.inr (Or.inl rfl))))) (dr_of_de (de_int pe_int)) (fun _ _ => rfl))) (blkOk_by (by kernel_rfl)) (fun _ _ _ _ _ => (pgT (dg_name (i := 2) sc_is_crowd.nd rfl (Or.inl rfl)))) (fun _ _ _ _ _ => dts_nilN) (fun _ _ _ _ _ => (de_callG (G_is_pair_of c) ⟨hE.tb, hE.fa⟩ (hr.mono (by decide)) rfl (da_cons (de_ix (dr_of_de (de_var (pe_var (i := 0) (x := (Str.ofString "value")) rfl (Or.inr (Or.inl rfl))))) (dr_of_de (de_int pe_int)) (fun _ _ => rfl)) (da_cons (de_var (pe_var (i := 2) (x := (Str.ofString "tie")) rfl (Or.inl rfl))) da_nil)))) rfl)))))
      (ds_one (ds_ret (de_bl pe_bl)))
      ds_nil)
    (ds_cons (ds_if (dt_not (dt_val (de_call1 (c_all rfl) rfl c.f_all bt_all (dr_lst (df_lc (own := [((Str.ofString "one"), 3), ((Str.ofString "other"), 4)]) rfl sc_is_crowd.nd (di_zip rfl c.f_zip (da_cons (de_ix (dr_of_de (de_var (pe_var (i := 0) (x := (Str.ofString "value")) rfl (Or.inr (Or.inl rfl))))) (dr_of_de (de_int pe_int)) (fun _ _ => rfl)) (da_cons (de_sl (dr_of_de (de_ix (dr_of_de (de_var (pe_var (i := 0) (x := (Str.ofString "value")) rfl (Or.inr (Or.inl rfl))))) (dr_of_de (de_int pe_int)) (fun _ _ => rfl))) (dp_some (de_int pe_int)) dp_none) da_nil))) (blkOk_by (by kernel_rfl)) (fun _ _ _ _ _ => (pgF (dg_tup rfl (dgs_cons (dg_name (i := 3) sc_is_crowd.nd rfl (Or.inl rfl)) (dgs_cons (dg_name (i := 4) sc_is_crowd.nd rfl (Or.inl rfl)) dgs_nil)) gtp2))) (fun _ _ _ _ _ => dts_nilN) (fun _ _ _ _ _ => (de_cmp (o_lt hu) (dr_of_de (de_var (pe_var (i := 3) (x := (Str.ofString "one")) rfl (Or.inl rfl)))) (dr_of_de (de_var (pe_var (i := 4) (x := (Str.ofString "other")) rfl (Or.inl rfl)))) rfl)) rfl)))))
      (ds_one (ds_ret (de_bl pe_bl)))
      ds_nil)
    (ds_cons (ds_if (PW.pt (dw_or (dt_not (dt_val (de_isi t_tuple rfl c.f_isinstance rfl c.f_tuple bt_tuple (by decide) (dr_of_de (de_ix (dr_of_de (de_var (pe_var (i := 0) (x := (Str.ofString "value")) rfl (Or.inr (Or.inl rfl))))) (dr_of_de (de_int pe_int)) (fun _ _ => rfl)))))) (dw_or1 (dt_cmp (o_ne hu) (dr_of_de (de_call1 c_len rfl c.f_len bt_len (dr_of_de (de_ix (dr_of_de (de_var (pe_var (i := 0) (x := (Str.ofString "value")) rfl (Or.inr (Or.inl rfl))))) (dr_of_de (de_int pe_int)) (fun _ _ => rfl))))) (dr_of_de (de_call1 c_len rfl c.f_len bt_len (dr_of_de (de_ix (dr_of_de (de_var (pe_var (i := 0) (x := (Str.ofString "value")) rfl (Or.inr (Or.inl rfl))))) (dr_of_de (de_int pe_int)) (fun _ _ => rfl))))) rfl))))
      (ds_one (ds_ret (de_bl pe_bl)))
      ds_nil)
    (ds_one (ds_ret (de_call1 (c_all rfl) rfl c.f_all bt_all (dr_lst (df_lc (own := [((Str.ofString "part"), 1)]) rfl sc_is_crowd.nd (di_seq (de_ix (dr_of_de (de_var (pe_var (i := 0) (x := (Str.ofString "value")) rfl (Or.inr (Or.inl rfl))))) (dr_of_de (de_int pe_int)) (fun _ _ => rfl))) (blkOk_by (by kernel_rfl)) (fun _ _ _ _ _ => (pgT (dg_name (i := 1) sc_is_crowd.nd rfl (Or.inl rfl)))) (fun _ _ _ _ _ => dts_nilN) (fun _ _ _ _ _ => (de_callG (G_is_chance c) ⟨hE.tb, hE.fa⟩ (hr.mono (by decide)) rfl (da_cons (de_var (pe_var (i := 1) (x := (Str.ofString "part")) rfl (Or.inl rfl))) da_nil))) rfl))))))))))
theorem g_is_crowd (c : Txt w K mg base T) (hS : H_is_crowd) : FnG pr w K mg base T 4 (Str.ofString "is_crowd") ([(Str.ofString "value")] : List Str) 1 S_is_crowd := by
  obtain ⟨f, F, hm⟩ := c.d_is_crowd
  exact fnG_of F hm sc_is_crowd rfl (by decide) (fun kV doc pm an cdv ct us h => match us, h with | [_a0], _ => rfl) (fun B cdv A outer s H E hE hC hr => b_is_crowd c B cdv A outer s H E hE hC hr) (fun J ds j Q l q => match ds, l, q with | [d0], _, q => hS J d0 j Q q)
theorem G_is_crowd (c : Txt w K mg base T) : FnG pr w K mg base T 4 (Str.ofString "is_crowd") ([(Str.ofString "value")] : List Str) 1 S_is_crowd := g_is_crowd c h_is_crowd
theorem sc_need_crowd : FnScope N_need_crowd ([(Str.ofString "crowd")] : List Str) (defScope (top 17)) := ⟨rfl, rfl, rfl, by decide, rfl, by decide, by decide⟩
theorem b_need_crowd (c : Txt w K mg base T) (B : Ent) (cdv : Value) (A : Around) (outer : List Env) (s : Shared) (H : Hp) (E : XK) (hE : EntOk mg T (envOfC (Str.ofString "need_crowd") (defScope (top 17)) s.heap.objs.size f cdv).cells B.J) (hx : Rs (cxX pr w K mg base N_need_crowd (Str.ofString "need_crowd") (top 17) f cdv A outer s H E) B.J) (hC : CodeAt K f cdv) (hr : Room 4 (A.deeper (envOfC (Str.ofString "need_crowd") (defScope (top 17)) s.heap.objs.size f cdv))) : PSs (cxX pr w K mg base N_need_crowd (Str.ofString "need_crowd") (top 17) f cdv A outer s H E) (defBody (top 17)) (dS K B (t_need_crowd B.J)) := by
  have hu := hu100 hr
  exact (ds_one (ds_if (dt_not (dt_val (de_callG (G_is_crowd c) ⟨hE.tb, hE.fa⟩ (hr.mono (by decide)) rfl (da_cons (de_var (pe_var (i := 0) (x := (Str.ofString "crowd")) rfl (Or.inl rfl))) da_nil))))
      (ds_one (by obtain ⟨_, hC, hX, _⟩ := c.e_BadCrowd; exact (ds_raise rfl hx hE.fa hC hX rfl)))
      ds_nil))
theorem g_need_crowd (c : Txt w K mg base T) (hS : H_need_crowd) : FnX pr w K mg base T 5 (Str.ofString "need_crowd") ([(Str.ofString "crowd")] : List Str) 1 S_need_crowd := by
  obtain ⟨f, F, hm⟩ := c.d_need_crowd
  exact fnX_of F hm sc_need_crowd rfl (by decide) (fun kV doc pm an cdv ct us h => match us, h with | [_a0], _ => rfl) (fun B cdv A outer s H E hE hx hC hr => b_need_crowd c B cdv A outer s H E hE hx hC hr) (fun J ds j Q l q => match ds, l, q with | [d0], _, q => hS J d0 j Q q)
theorem G_need_crowd (c : Txt w K mg base T) : FnX pr w K mg base T 5 (Str.ofString "need_crowd") ([(Str.ofString "crowd")] : List Str) 1 S_need_crowd := g_need_crowd c h_need_crowd
theorem sc_is_lot : FnScope N_is_lot ([(Str.ofString "people"), (Str.ofString "value")] : List Str) (defScope (top 18)) := ⟨rfl, rfl, rfl, by decide, rfl, by decide, by decide⟩
theorem b_is_lot (c : Txt w K mg base T) (B : Ent) (cdv : Value) (A : Around) (outer : List Env) (s : Shared) (H : Hp) (E : XK) (hE : EntOk mg T (envOfC (Str.ofString "is_lot") (defScope (top 18)) s.heap.objs.size f cdv).cells B.J) (hC : CodeAt K f cdv) (hr : Room 0 (A.deeper (envOfC (Str.ofString "is_lot") (defScope (top 18)) s.heap.objs.size f cdv))) : PSs (cxB pr w K mg base N_is_lot (Str.ofString "is_lot") (top 18) f cdv A outer s H E) (defBody (top 18)) (dS K B (t_is_lot B.J)) := by
  have hu := hu100 hr
  exact (ds_cons (ds_if (PW.pt (dw_or (dt_not (dt_val (de_isi t_tuple rfl c.f_isinstance rfl c.f_tuple bt_tuple (by decide) (dr_of_de (de_var (pe_var (i := 1) (x := (Str.ofString "value")) rfl (Or.inl rfl))))))) (dw_or1 (dt_not (dt_val (de_call1 (c_all rfl) rfl c.f_all bt_all (dr_lst (df_lc (own := [((Str.ofString "word"), 4)]) rfl sc_is_lot.nd (di_seq (de_var (pe_var (i := 1) (x := (Str.ofString "value")) rfl (Or.inl rfl)))) (blkOk_by (by kernel_rfl)) (fun _ _ _ _ _ => (pgT (dg_name (i := 4) sc_is_lot.nd rfl (Or.inl rfl)))) (fun _ _ _ _ _ => dts_nilN) (fun _ _ _ _ _ => (de_and (de_isi t_str rfl c.f_isinstance rfl c.f_str bt_str (by decide) (dr_of_de (de_var (pe_var (i := 4) (x := (Str.ofString "word")) rfl (Or.inl rfl))))) (de_one (de_cmp (o_in hu) (dr_of_de (de_var (pe_var (i := 4) (x := (Str.ofString "word")) rfl (Or.inl rfl)))) (dr_of_de (de_var (pe_var (i := 0) (x := (Str.ofString "people")) rfl (Or.inr (Or.inl rfl))))) rfl)))) rfl))))))))
      (ds_one (ds_ret (de_bl pe_bl)))
      ds_nil)
    (ds_one (ds_ret (de_call1 (c_all rfl) rfl c.f_all bt_all (dr_lst (df_lc (own := [((Str.ofString "one"), 2), ((Str.ofString "other"), 3)]) rfl sc_is_lot.nd (di_zip rfl c.f_zip (da_cons (de_var (pe_var (i := 1) (x := (Str.ofString "value")) rfl (Or.inl rfl))) (da_cons (de_sl (dr_of_de (de_var (pe_var (i := 1) (x := (Str.ofString "value")) rfl (Or.inl rfl)))) (dp_some (de_int pe_int)) dp_none) da_nil))) (blkOk_by (by kernel_rfl)) (fun _ _ _ _ _ => (pgF (dg_tup rfl (dgs_cons (dg_name (i := 2) sc_is_lot.nd rfl (Or.inl rfl)) (dgs_cons (dg_name (i := 3) sc_is_lot.nd rfl (Or.inl rfl)) dgs_nil)) gtp2))) (fun _ _ _ _ _ => dts_nilN) (fun _ _ _ _ _ => (de_cmp (o_lt hu) (dr_of_de (de_var (pe_var (i := 2) (x := (Str.ofString "one")) rfl (Or.inl rfl)))) (dr_of_de (de_var (pe_var (i := 3) (x := (Str.ofString "other")) rfl (Or.inl rfl)))) rfl)) rfl))))))
theorem g_is_lot (c : Txt w K mg base T) (hS : H_is_lot) : FnG pr w K mg base T 1 (Str.ofString "is_lot") ([(Str.ofString "people"), (Str.ofString "value")] : List Str) 2 S_is_lot := by
  obtain ⟨f, F, hm⟩ := c.d_is_lot
  exact fnG_of F hm sc_is_lot rfl (by decide) (fun kV doc pm an cdv ct us h => match us, h with | [_a0, _a1], _ => rfl) (fun B cdv A outer s H E hE hC hr => b_is_lot c B cdv A outer s H E hE hC hr) (fun J ds j Q l q => match ds, l, q with | [d0, d1], _, q => hS J d0 d1 j Q q)
theorem G_is_lot (c : Txt w K mg base T) : FnG pr w K mg base T 1 (Str.ofString "is_lot") ([(Str.ofString "people"), (Str.ofString "value")] : List Str) 2 S_is_lot := g_is_lot c h_is_lot
theorem sc_need_lot : FnScope N_need_lot ([(Str.ofString "crowd"), (Str.ofString "lot")] : List Str) (defScope (top 19)) := ⟨rfl, rfl, rfl, by decide, rfl, by decide, by decide⟩
theorem b_need_lot (c : Txt w K mg base T) (B : Ent) (cdv : Value) (A : Around) (outer : List Env) (s : Shared) (H : Hp) (E : XK) (hE : EntOk mg T (envOfC (Str.ofString "need_lot") (defScope (top 19)) s.heap.objs.size f cdv).cells B.J) (hx : Rs (cxX pr w K mg base N_need_lot (Str.ofString "need_lot") (top 19) f cdv A outer s H E) B.J) (hC : CodeAt K f cdv) (hr : Room 1 (A.deeper (envOfC (Str.ofString "need_lot") (defScope (top 19)) s.heap.objs.size f cdv))) : PSs (cxX pr w K mg base N_need_lot (Str.ofString "need_lot") (top 19) f cdv A outer s H E) (defBody (top 19)) (dS K B (t_need_lot B.J)) := by
  have hu := hu100 hr
  exact (ds_one (ds_if (dt_not (dt_val (de_callG (G_is_lot c) ⟨hE.tb, hE.fa⟩ (hr.mono (by decide)) rfl (da_cons (de_ix (dr_of_de (de_var (pe_var (i := 0) (x := (Str.ofString "crowd")) rfl (Or.inl rfl)))) (dr_of_de (de_int pe_int)) (fun _ _ => rfl)) (da_cons (de_var (pe_var (i := 1) (x := (Str.ofString "lot")) rfl (Or.inl rfl))) da_nil)))))
      (ds_one (by obtain ⟨_, hC, hX, _⟩ := c.e_BadLot; exact (ds_raise rfl hx hE.fa hC hX rfl)))
      ds_nil))
theorem g_need_lot (c : Txt w K mg base T) (hS : H_need_lot) : FnX pr w K mg base T 2 (Str.ofString "need_lot") ([(Str.ofString "crowd"), (Str.ofString "lot")] : List Str) 2 S_need_lot := by
  obtain ⟨f, F, hm⟩ := c.d_need_lot
  exact fnX_of F hm sc_need_lot rfl (by decide) (fun kV doc pm an cdv ct us h => match us, h with | [_a0, _a1], _ => rfl) (fun B cdv A outer s H E hE hx hC hr => b_need_lot c B cdv A outer s H E hE hx hC hr) (fun J ds j Q l q => match ds, l, q with | [d0, d1], _, q => hS J d0 d1 j Q q)
theorem G_need_lot (c : Txt w K mg base T) : FnX pr w K mg base T 2 (Str.ofString "need_lot") ([(Str.ofString "crowd"), (Str.ofString "lot")] : List Str) 2 S_need_lot := g_need_lot c h_need_lot
theorem sc_tied_to : FnScope N_tied_to ([(Str.ofString "crowd"), (Str.ofString "person")] : List Str) (defScope (top 20)) := ⟨rfl, rfl, rfl, by decide, rfl, by decide, by decide⟩
theorem b_tied_to (c : Txt w K mg base T) (B : Ent) (cdv : Value) (A : Around) (outer : List Env) (s : Shared) (H : Hp) (E : XK) (hE : EntOk mg T (envOfC (Str.ofString "tied_to") (defScope (top 20)) s.heap.objs.size f cdv).cells B.J) (hC : CodeAt K f cdv) (hr : Room 0 (A.deeper (envOfC (Str.ofString "tied_to") (defScope (top 20)) s.heap.objs.size f cdv))) : PSs (cxB pr w K mg base N_tied_to (Str.ofString "tied_to") (top 20) f cdv A outer s H E) (defBody (top 20)) (dS K B (t_tied_to B.J)) := by
  have hu := hu100 hr
  exact (ds_cons (ds_setLc (i := 2) (own := [((Str.ofString "one"), 3), ((Str.ofString "other"), 4)]) rfl sc_tied_to.nd rfl rfl (sw_true rfl rfl rfl (by decide)) (di_seq (de_ix (dr_of_de (de_var (pe_var (i := 0) (x := (Str.ofString "crowd")) rfl (Or.inl rfl)))) (dr_of_de (de_int pe_int)) (fun _ _ => rfl))) (blkOk_by (by kernel_rfl)) (fun _ _ _ _ _ => (pgT (dgn_of (dg_tup rfl (dgs_cons (dg_name (i := 3) sc_tied_to.nd rfl (Or.inl rfl)) (dgs_cons (dg_name (i := 4) sc_tied_to.nd rfl (Or.inl rfl)) dgs_nil)) gtp2)))) (fun _ _ _ _ _ => (dts_one (dt_cmp (o_eq hu) (dr_of_de (de_var (pe_var (i := 3) (x := (Str.ofString "one")) rfl (Or.inl rfl)))) (dr_of_de (de_var (pe_var (i := 1) (x := (Str.ofString "person")) rfl (Or.inr (Or.inl rfl))))) rfl))) (fun _ _ _ _ _ => (de_var (pe_var (i := 4) (x := (Str.ofString "other")) rfl (Or.inl rfl)))) rfl)
    (ds_one (ds_ret (de_bin o_add (dr_of_de (de_var (pe_var (i := 2) (x := (Str.ofString "found")) rfl (Or.inl rfl)))) (dr_lst (df_lc (own := [((Str.ofString "one"), 3), ((Str.ofString "other"), 4)]) rfl sc_tied_to.nd (di_seq (de_ix (dr_of_de (de_var (pe_var (i := 0) (x := (Str.ofString "crowd")) rfl (Or.inl rfl)))) (dr_of_de (de_int pe_int)) (fun _ _ => rfl))) (blkOk_by (by kernel_rfl)) (fun _ _ _ _ _ => (pgT (dgn_of (dg_tup rfl (dgs_cons (dg_name (i := 3) sc_tied_to.nd rfl (Or.inl rfl)) (dgs_cons (dg_name (i := 4) sc_tied_to.nd rfl (Or.inl rfl)) dgs_nil)) gtp2)))) (fun _ _ _ _ _ => (dts_one (dt_cmp (o_eq hu) (dr_of_de (de_var (pe_var (i := 4) (x := (Str.ofString "other")) rfl (Or.inl rfl)))) (dr_of_de (de_var (pe_var (i := 1) (x := (Str.ofString "person")) rfl (Or.inr (Or.inl rfl))))) rfl))) (fun _ _ _ _ _ => (de_var (pe_var (i := 3) (x := (Str.ofString "one")) rfl (Or.inl rfl)))) rfl))))))
theorem g_tied_to (c : Txt w K mg base T) (hS : H_tied_to) : FnG pr w K mg base T 1 (Str.ofString "tied_to") ([(Str.ofString "crowd"), (Str.ofString "person")] : List Str) 2 S_tied_to := by
  obtain ⟨f, F, hm⟩ := c.d_tied_to
  exact fnG_of F hm sc_tied_to rfl (by decide) (fun kV doc pm an cdv ct us h => match us, h with | [_a0, _a1], _ => rfl) (fun B cdv A outer s H E hE hC hr => b_tied_to c B cdv A outer s H E hE hC hr) (fun J ds j Q l q => match ds, l, q with | [d0, d1], _, q => hS J d0 d1 j Q q)
theorem G_tied_to (c : Txt w K mg base T) : FnG pr w K mg base T 1 (Str.ofString "tied_to") ([(Str.ofString "crowd"), (Str.ofString "person")] : List Str) 2 S_tied_to := g_tied_to c h_tied_to
theorem sc_does_take : FnScope N_does_take ([(Str.ofString "crowd"), (Str.ofString "lot"), (Str.ofString "person")] : List Str) (defScope (top 21)) := ⟨rfl, rfl, rfl, by decide, rfl, by decide, by decide⟩
theorem b_does_take (c : Txt w K mg base T) (B : Ent) (cdv : Value) (A : Around) (outer : List Env) (s : Shared) (H : Hp) (E : XK) (hE : EntOk mg T (envOfC (Str.ofString "does_take") (defScope (top 21)) s.heap.objs.size f cdv).cells B.J) (hC : CodeAt K f cdv) (hr : Room 1 (A.deeper (envOfC (Str.ofString "does_take") (defScope (top 21)) s.heap.objs.size f cdv))) : PSs (cxB pr w K mg base N_does_take (Str.ofString "does_take") (top 21) f cdv A outer s H E) (defBody (top 21)) (dS K B (t_does_take B.J)) := by
  have hu := hu100 hr
  exact (ds_cons (ds_set (i := 3) sc_does_take.nd rfl (Or.inl rfl) (de_callG (G_tied_to c) ⟨hE.tb, hE.fa⟩ (hr.mono (by decide)) rfl (da_cons (de_var (pe_var (i := 0) (x := (Str.ofString "crowd")) rfl (Or.inl rfl))) (da_cons (de_var (pe_var (i := 2) (x := (Str.ofString "person")) rfl (Or.inl rfl))) da_nil))))
    (ds_cons (ds_set (i := 4) sc_does_take.nd rfl (Or.inl rfl) (de_call1 c_len rfl c.f_len bt_len (dr_lst (df_lc (own := [((Str.ofString "other"), 6)]) rfl sc_does_take.nd (di_seq (de_var (pe_var (i := 3) (x := (Str.ofString "own")) rfl (Or.inl rfl)))) (blkOk_by (by kernel_rfl)) (fun _ _ _ _ _ => (pgT (dg_name (i := 6) sc_does_take.nd rfl (Or.inl rfl)))) (fun _ _ _ _ _ => (dts_one (dt_cmp (o_in hu) (dr_of_de (de_var (pe_var (i := 6) (x := (Str.ofString "other")) rfl (Or.inl rfl)))) (dr_of_de (de_var (pe_var (i := 1) (x := (Str.ofString "lot")) rfl (Or.inr (Or.inl rfl))))) rfl))) (fun _ _ _ _ _ => (de_var (pe_var (i := 6) (x := (Str.ofString "other")) rfl (Or.inl rfl)))) rfl))))
    (ds_cons (ds_set (i := 5) sc_does_take.nd rfl (Or.inl rfl) (de_ix (dr_of_de (de_ix (dr_of_de (de_var (pe_var (i := 0) (x := (Str.ofString "crowd")) rfl (Or.inl rfl)))) (dr_of_de (de_int pe_int)) (fun _ _ => rfl))) (dr_of_de (de_index (de_ix (dr_of_de (de_var (pe_var (i := 0) (x := (Str.ofString "crowd")) rfl (Or.inl rfl)))) (dr_of_de (de_int pe_int)) (fun _ _ => rfl)) (de_var (pe_var (i := 2) (x := (Str.ofString "person")) rfl (Or.inl rfl))))) (fun _ _ => rfl)))
    (ds_one (ds_ret (de_and (de_cmp (o_gt hu) (dr_of_de (de_var (pe_var (i := 4) (x := (Str.ofString "with_it")) rfl (Or.inl rfl)))) (dr_of_de (de_int pe_int)) rfl) (de_one (de_cmp (o_ge hu) (dr_of_de (de_bin o_mul (dr_of_de (de_var (pe_var (i := 4) (x := (Str.ofString "with_it")) rfl (Or.inl rfl)))) (dr_of_de (de_ix (dr_of_de (de_var (pe_var (i := 5) (x := (Str.ofString "need")) rfl (Or.inl rfl)))) (dr_of_de (de_int pe_int)) (fun _ _ => rfl))))) (dr_of_de (de_bin o_mul (dr_of_de (de_ix (dr_of_de (de_var (pe_var (i := 5) (x := (Str.ofString "need")) rfl (Or.inl rfl)))) (dr_of_de (de_int pe_int)) (fun _ _ => rfl))) (dr_of_de (de_call1 c_len rfl c.f_len bt_len (dr_of_de (de_var (pe_var (i := 3) (x := (Str.ofString "own")) rfl (Or.inl rfl)))))))) rfl))))))))
theorem g_does_take (c : Txt w K mg base T) (hS : H_does_take) : FnG pr w K mg base T 2 (Str.ofString "does_take") ([(Str.ofString "crowd"), (Str.ofString "lot"), (Str.ofString "person")] : List Str) 3 S_does_take := by
  obtain ⟨f, F, hm⟩ := c.d_does_take
  exact fnG_of F hm sc_does_take rfl (by decide) (fun kV doc pm an cdv ct us h => match us, h with | [_a0, _a1, _a2], _ => rfl) (fun B cdv A outer s H E hE hC hr => b_does_take c B cdv A outer s H E hE hC hr) (fun J ds j Q l q => match ds, l, q with | [d0, d1, d2], _, q => hS J d0 d1 d2 j Q q)
theorem G_does_take (c : Txt w K mg base T) : FnG pr w K mg base T 2 (Str.ofString "does_take") ([(Str.ofString "crowd"), (Str.ofString "lot"), (Str.ofString "person")] : List Str) 3 S_does_take := g_does_take c h_does_take
theorem sc_taken_from : FnScope N_taken_from ([(Str.ofString "crowd"), (Str.ofString "lot")] : List Str) (defScope (top 22)) := ⟨rfl, rfl, rfl, by decide, rfl, by decide, by decide⟩
theorem b_taken_from (c : Txt w K mg base T) (B : Ent) (cdv : Value) (A : Around) (outer : List Env) (s : Shared) (H : Hp) (E : XK) (hE : EntOk mg T (envOfC (Str.ofString "taken_from") (defScope (top 22)) s.heap.objs.size f cdv).cells B.J) (hC : CodeAt K f cdv) (hr : Room 2 (A.deeper (envOfC (Str.ofString "taken_from") (defScope (top 22)) s.heap.objs.size f cdv))) : PSs (cxB pr w K mg base N_taken_from (Str.ofString "taken_from") (top 22) f cdv A outer s H E) (defBody (top 22)) (dS K B (t_taken_from B.J)) := by
  have hu := hu100 hr
  exact (ds_one (ds_ret (de_callTy c_tuple rfl c.f_tuple bt_tuple (dr_lst (df_lc (own := [((Str.ofString "person"), 2)]) rfl sc_taken_from.nd (di_seq (de_ix (dr_of_de (de_var (pe_var (i := 0) (x := (Str.ofString "crowd")) rfl (Or.inr (Or.inl rfl))))) (dr_of_de (de_int pe_int)) (fun _ _ => rfl))) (blkOk_by (by kernel_rfl)) (fun _ _ _ _ _ => (pgT (dg_name (i := 2) sc_taken_from.nd rfl (Or.inl rfl)))) (fun _ _ _ _ _ => (dts_one (PW.pt (dw_and (dt_cmp (o_nin hu) (dr_of_de (de_var (pe_var (i := 2) (x := (Str.ofString "person")) rfl (Or.inl rfl)))) (dr_of_de (de_var (pe_var (i := 1) (x := (Str.ofString "lot")) rfl (Or.inr (Or.inl rfl))))) rfl) (dw_and1 (dt_val (de_callG (G_does_take c) ⟨hE.tb, hE.fa⟩ (hr.mono (by decide)) rfl (da_cons (de_var (pe_var (i := 0) (x := (Str.ofString "crowd")) rfl (Or.inr (Or.inl rfl)))) (da_cons (de_var (pe_var (i := 1) (x := (Str.ofString "lot")) rfl (Or.inr (Or.inl rfl)))) (da_cons (de_var (pe_var (i := 2) (x := (Str.ofString "person")) rfl (Or.inl rfl))) da_nil)))))))))) (fun _ _ _ _ _ => (de_var (pe_var (i := 2) (x := (Str.ofString "person")) rfl (Or.inl rfl)))) rfl)))))
theorem g_taken_from (c : Txt w K mg base T) (hS : H_taken_from) : FnG pr w K mg base T 3 (Str.ofString "taken_from") ([(Str.ofString "crowd"), (Str.ofString "lot")] : List Str) 2 S_taken_from := by
  obtain ⟨f, F, hm⟩ := c.d_taken_from
  exact fnG_of F hm sc_taken_from rfl (by decide) (fun kV doc pm an cdv ct us h => match us, h with | [_a0, _a1], _ => rfl) (fun B cdv A outer s H E hE hC hr => b_taken_from c B cdv A outer s H E hE hC hr) (fun J ds j Q l q => match ds, l, q with | [d0, d1], _, q => hS J d0 d1 j Q q)
theorem G_taken_from (c : Txt w K mg base T) : FnG pr w K mg base T 3 (Str.ofString "taken_from") ([(Str.ofString "crowd"), (Str.ofString "lot")] : List Str) 2 S_taken_from := g_taken_from c h_taken_from
theorem sc_lots_behind : FnScope N_lots_behind ([(Str.ofString "crowd"), (Str.ofString "lot")] : List Str) (defScope (top 23)) := ⟨rfl, rfl, rfl, by decide, rfl, by decide, by decide⟩
theorem b_lots_behind (c : Txt w K mg base T) (B : Ent) (cdv : Value) (A : Around) (outer : List Env) (s : Shared) (H : Hp) (E : XK) (hE : EntOk mg T (envOfC (Str.ofString "lots_behind") (defScope (top 23)) s.heap.objs.size f cdv).cells B.J) (hC : CodeAt K f cdv) (hr : Room 3 (A.deeper (envOfC (Str.ofString "lots_behind") (defScope (top 23)) s.heap.objs.size f cdv))) : PSs (cxB pr w K mg base N_lots_behind (Str.ofString "lots_behind") (top 23) f cdv A outer s H E) (defBody (top 23)) (dS K B (t_lots_behind B.J)) := by
  have hu := hu100 hr
  exact (ds_cons (ds_setF (i := 2) sc_lots_behind.nd rfl (Or.inl rfl) (df_lst (da_cons (de_var (pe_var (i := 1) (x := (Str.ofString "lot")) rfl (Or.inl rfl))) da_nil)))
    (ds_cons (ds_set (i := 3) sc_lots_behind.nd rfl (Or.inl rfl) (de_callG (G_taken_from c) ⟨hE.tb, hE.fa⟩ (hr.mono (by decide)) rfl (da_cons (de_var (pe_var (i := 0) (x := (Str.ofString "crowd")) rfl (Or.inl rfl))) (da_cons (de_var (pe_var (i := 1) (x := (Str.ofString "lot")) rfl (Or.inl rfl))) da_nil))))
    (ds_cons (ds_while PassesOwn.never (dt_cmp (o_ne hu) (dr_of_de (de_var (pe_var (i := 3) (x := (Str.ofString "more")) rfl (Or.inl rfl)))) (dr_of_de (de_tupN da_nil)) rfl)
      (ds_cons (ds_exprM (dm_app (pe_var (i := 2) (x := (Str.ofString "found")) rfl (Or.inl rfl)) (dm_of (de_callTy c_tuple rfl c.f_tuple bt_tuple (dr_lst (df_call1 (c_sorted hu) rfl c.f_sorted bt_sorted (dr_of_de (de_bin o_add (dr_of_de (de_ix (dr_var (pe_var (i := 2) (x := (Str.ofString "found")) rfl (Or.inl rfl))) (dr_of_de (de_neg (de_int pe_int))) (fun _ _ => rfl))) (dr_of_de (de_var (pe_var (i := 3) (x := (Str.ofString "more")) rfl (Or.inl rfl))))))))))))
    (ds_one (ds_set (i := 3) sc_lots_behind.nd rfl (Or.inl rfl) (de_callG (G_taken_from c) ⟨hE.tb, hE.fa⟩ (hr.mono (by decide)) rfl (da_cons (de_var (pe_var (i := 0) (x := (Str.ofString "crowd")) rfl (Or.inl rfl))) (da_cons (de_ix (dr_var (pe_var (i := 2) (x := (Str.ofString "found")) rfl (Or.inl rfl))) (dr_of_de (de_neg (de_int pe_int))) (fun _ _ => rfl)) da_nil)))))))
    (ds_one (ds_retO (pe_var (i := 2) (x := (Str.ofString "found")) rfl (Or.inl rfl)))))))
theorem g_lots_behind (c : Txt w K mg base T) (hS : H_lots_behind) : FnG pr w K mg base T 4 (Str.ofString "lots_behind") ([(Str.ofString "crowd"), (Str.ofString "lot")] : List Str) 2 S_lots_behind := by
  obtain ⟨f, F, hm⟩ := c.d_lots_behind
  exact fnG_of F hm sc_lots_behind rfl (by decide) (fun kV doc pm an cdv ct us h => match us, h with | [_a0, _a1], _ => rfl) (fun B cdv A outer s H E hE hC hr => b_lots_behind c B cdv A outer s H E hE hC hr) (fun J ds j Q l q => match ds, l, q with | [d0, d1], _, q => hS J d0 d1 j Q q)
theorem G_lots_behind (c : Txt w K mg base T) : FnG pr w K mg base T 4 (Str.ofString "lots_behind") ([(Str.ofString "crowd"), (Str.ofString "lot")] : List Str) 2 S_lots_behind := g_lots_behind c h_lots_behind
theorem sc_others_of : FnScope N_others_of ([(Str.ofString "crowd"), (Str.ofString "lot")] : List Str) (defScope (top 25)) := ⟨rfl, rfl, rfl, by decide, rfl, by decide, by decide⟩
theorem b_others_of (c : Txt w K mg base T) (B : Ent) (cdv : Value) (A : Around) (outer : List Env) (s : Shared) (H : Hp) (E : XK) (hE : EntOk mg T (envOfC (Str.ofString "others_of") (defScope (top 25)) s.heap.objs.size f cdv).cells B.J) (hC : CodeAt K f cdv) (hr : Room 0 (A.deeper (envOfC (Str.ofString "others_of") (defScope (top 25)) s.heap.objs.size f cdv))) : PSs (cxB pr w K mg base N_others_of (Str.ofString "others_of") (top 25) f cdv A outer s H E) (defBody (top 25)) (dS K B (t_others_of B.J)) := by
  have hu := hu100 hr
  exact (ds_one (ds_ret (de_callTy c_tuple rfl c.f_tuple bt_tuple (dr_lst (df_lc (own := [((Str.ofString "person"), 2)]) rfl sc_others_of.nd (di_seq (de_ix (dr_of_de (de_var (pe_var (i := 0) (x := (Str.ofString "crowd")) rfl (Or.inl rfl)))) (dr_of_de (de_int pe_int)) (fun _ _ => rfl))) (blkOk_by (by kernel_rfl)) (fun _ _ _ _ _ => (pgT (dg_name (i := 2) sc_others_of.nd rfl (Or.inl rfl)))) (fun _ _ _ _ _ => (dts_one (dt_cmp (o_nin hu) (dr_of_de (de_var (pe_var (i := 2) (x := (Str.ofString "person")) rfl (Or.inl rfl)))) (dr_of_de (de_var (pe_var (i := 1) (x := (Str.ofString "lot")) rfl (Or.inr (Or.inl rfl))))) rfl))) (fun _ _ _ _ _ => (de_var (pe_var (i := 2) (x := (Str.ofString "person")) rfl (Or.inl rfl)))) rfl)))))
theorem g_others_of (c : Txt w K mg base T) (hS : H_others_of) : FnG pr w K mg base T 1 (Str.ofString "others_of") ([(Str.ofString "crowd"), (Str.ofString "lot")] : List Str) 2 S_others_of := by
  obtain ⟨f, F, hm⟩ := c.d_others_of
  exact fnG_of F hm sc_others_of rfl (by decide) (fun kV doc pm an cdv ct us h => match us, h with | [_a0, _a1], _ => rfl) (fun B cdv A outer s H E hE hC hr => b_others_of c B cdv A outer s H E hE hC hr) (fun J ds j Q l q => match ds, l, q with | [d0, d1], _, q => hS J d0 d1 j Q q)
theorem G_others_of (c : Txt w K mg base T) : FnG pr w K mg base T 1 (Str.ofString "others_of") ([(Str.ofString "crowd"), (Str.ofString "lot")] : List Str) 2 S_others_of := g_others_of c h_others_of
theorem sc_stays_apart : FnScope N_stays_apart ([(Str.ofString "crowd"), (Str.ofString "lot")] : List Str) (defScope (top 26)) := ⟨rfl, rfl, rfl, by decide, rfl, by decide, by decide⟩
theorem b_stays_apart (c : Txt w K mg base T) (B : Ent) (cdv : Value) (A : Around) (outer : List Env) (s : Shared) (H : Hp) (E : XK) (hE : EntOk mg T (envOfC (Str.ofString "stays_apart") (defScope (top 26)) s.heap.objs.size f cdv).cells B.J) (hC : CodeAt K f cdv) (hr : Room 2 (A.deeper (envOfC (Str.ofString "stays_apart") (defScope (top 26)) s.heap.objs.size f cdv))) : PSs (cxB pr w K mg base N_stays_apart (Str.ofString "stays_apart") (top 26) f cdv A outer s H E) (defBody (top 26)) (dS K B (t_stays_apart B.J)) := by
  have hu := hu100 hr
  exact (ds_cons (ds_set (i := 2) sc_stays_apart.nd rfl (Or.inr rfl) (de_callG (G_others_of c) ⟨hE.tb, hE.fa⟩ (hr.mono (by decide)) rfl (da_cons (de_var (pe_var (i := 0) (x := (Str.ofString "crowd")) rfl (Or.inr (Or.inl rfl)))) (da_cons (de_var (pe_var (i := 1) (x := (Str.ofString "lot")) rfl (Or.inl rfl))) da_nil))))
    (ds_one (ds_ret (de_not (de_call1 (c_any rfl) rfl c.f_any bt_any (dr_lst (df_lc (own := [((Str.ofString "person"), 3)]) rfl sc_stays_apart.nd (di_seq (de_var (pe_var (i := 1) (x := (Str.ofString "lot")) rfl (Or.inl rfl)))) (blkOk_by (by kernel_rfl)) (fun _ _ _ _ _ => (pgT (dg_name (i := 3) sc_stays_apart.nd rfl (Or.inl rfl)))) (fun _ _ _ _ _ => dts_nilN) (fun _ _ _ _ _ => (de_callG (G_does_take c) ⟨hE.tb, hE.fa⟩ (hr.mono (by decide)) rfl (da_cons (de_var (pe_var (i := 0) (x := (Str.ofString "crowd")) rfl (Or.inr (Or.inl rfl)))) (da_cons (de_var (pe_var (i := 2) (x := (Str.ofString "others")) rfl (Or.inr (Or.inl rfl)))) (da_cons (de_var (pe_var (i := 3) (x := (Str.ofString "person")) rfl (Or.inl rfl))) da_nil))))) rfl)))))))
theorem g_stays_apart (c : Txt w K mg base T) (hS : H_stays_apart) : FnG pr w K mg base T 3 (Str.ofString "stays_apart") ([(Str.ofString "crowd"), (Str.ofString "lot")] : List Str) 2 S_stays_apart := by
  obtain ⟨f, F, hm⟩ := c.d_stays_apart
  exact fnG_of F hm sc_stays_apart rfl (by decide) (fun kV doc pm an cdv ct us h => match us, h with | [_a0, _a1], _ => rfl) (fun B cdv A outer s H E hE hC hr => b_stays_apart c B cdv A outer s H E hE hC hr) (fun J ds j Q l q => match ds, l, q with | [d0, d1], _, q => hS J d0 d1 j Q q)
theorem G_stays_apart (c : Txt w K mg base T) : FnG pr w K mg base T 3 (Str.ofString "stays_apart") ([(Str.ofString "crowd"), (Str.ofString "lot")] : List Str) 2 S_stays_apart := g_stays_apart c h_stays_apart
theorem sc_row_behind : FnScope N_row_behind ([(Str.ofString "crowd"), (Str.ofString "lot")] : List Str) (defScope (top 27)) := ⟨rfl, rfl, rfl, by decide, rfl, by decide, by decide⟩
theorem b_row_behind (c : Txt w K mg base T) (B : Ent) (cdv : Value) (A : Around) (outer : List Env) (s : Shared) (H : Hp) (E : XK) (hE : EntOk mg T (envOfC (Str.ofString "row_behind") (defScope (top 27)) s.heap.objs.size f cdv).cells B.J) (hC : CodeAt K f cdv) (hr : Room 3 (A.deeper (envOfC (Str.ofString "row_behind") (defScope (top 27)) s.heap.objs.size f cdv))) : PSs (cxB pr w K mg base N_row_behind (Str.ofString "row_behind") (top 27) f cdv A outer s H E) (defBody (top 27)) (dS K B (t_row_behind B.J)) := by
  have hu := hu100 hr
  exact (ds_cons (ds_par (i := 2) (j := 3) rfl sc_row_behind.nd rfl rfl (by decide) rfl rfl (da_cons (de_tupN da_nil) (da_cons (de_var (pe_var (i := 1) (x := (Str.ofString "lot")) rfl (Or.inl rfl))) da_nil)) rfl)
    (ds_cons (ds_set (i := 4) sc_row_behind.nd rfl (Or.inl rfl) (de_callG (G_taken_from c) ⟨hE.tb, hE.fa⟩ (hr.mono (by decide)) rfl (da_cons (de_var (pe_var (i := 0) (x := (Str.ofString "crowd")) rfl (Or.inl rfl))) (da_cons (de_var (pe_var (i := 3) (x := (Str.ofString "here")) rfl (Or.inl rfl))) da_nil))))
    (ds_cons (ds_while PassesOwn.never (dt_cmp (o_ne hu) (dr_of_de (de_var (pe_var (i := 4) (x := (Str.ofString "more")) rfl (Or.inl rfl)))) (dr_of_de (de_tupN da_nil)) rfl)
      (ds_cons (ds_set (i := 2) sc_row_behind.nd rfl (Or.inl rfl) (de_bin o_add (dr_of_de (de_var (pe_var (i := 2) (x := (Str.ofString "found")) rfl (Or.inl rfl)))) (dr_of_de (de_tupN (da_cons (de_ix (dr_of_de (de_var (pe_var (i := 4) (x := (Str.ofString "more")) rfl (Or.inl rfl)))) (dr_of_de (de_int pe_int)) (fun _ _ => rfl)) da_nil)))))
    (ds_cons (ds_set (i := 3) sc_row_behind.nd rfl (Or.inl rfl) (de_callTy c_tuple rfl c.f_tuple bt_tuple (dr_lst (df_call1 (c_sorted hu) rfl c.f_sorted bt_sorted (dr_of_de (de_bin o_add (dr_of_de (de_var (pe_var (i := 3) (x := (Str.ofString "here")) rfl (Or.inl rfl)))) (dr_of_de (de_tupN (da_cons (de_ix (dr_of_de (de_var (pe_var (i := 4) (x := (Str.ofString "more")) rfl (Or.inl rfl)))) (dr_of_de (de_int pe_int)) (fun _ _ => rfl)) da_nil)))))))))
    (ds_one (ds_set (i := 4) sc_row_behind.nd rfl (Or.inl rfl) (de_callG (G_taken_from c) ⟨hE.tb, hE.fa⟩ (hr.mono (by decide)) rfl (da_cons (de_var (pe_var (i := 0) (x := (Str.ofString "crowd")) rfl (Or.inl rfl))) (da_cons (de_var (pe_var (i := 3) (x := (Str.ofString "here")) rfl (Or.inl rfl))) da_nil))))))))
    (ds_one (ds_ret (de_var (pe_var (i := 2) (x := (Str.ofString "found")) rfl (Or.inl rfl))))))))
theorem g_row_behind (c : Txt w K mg base T) (hS : H_row_behind) : FnG pr w K mg base T 4 (Str.ofString "row_behind") ([(Str.ofString "crowd"), (Str.ofString "lot")] : List Str) 2 S_row_behind := by
  obtain ⟨f, F, hm⟩ := c.d_row_behind
  exact fnG_of F hm sc_row_behind rfl (by decide) (fun kV doc pm an cdv ct us h => match us, h with | [_a0, _a1], _ => rfl) (fun B cdv A outer s H E hE hC hr => b_row_behind c B cdv A outer s H E hE hC hr) (fun J ds j Q l q => match ds, l, q with | [d0, d1], _, q => hS J d0 d1 j Q q)
theorem G_row_behind (c : Txt w K mg base T) : FnG pr w K mg base T 4 (Str.ofString "row_behind") ([(Str.ofString "crowd"), (Str.ofString "lot")] : List Str) 2 S_row_behind := g_row_behind c h_row_behind
theorem sc_reaching : FnScope N_reaching ([(Str.ofString "crowd"), (Str.ofString "lot")] : List Str) (defScope (top 28)) := ⟨rfl, rfl, rfl, by decide, rfl, by decide, by decide⟩
theorem b_reaching (c : Txt w K mg base T) (B : Ent) (cdv : Value) (A : Around) (outer : List Env) (s : Shared) (H : Hp) (E : XK) (hE : EntOk mg T (envOfC (Str.ofString "reaching") (defScope (top 28)) s.heap.objs.size f cdv).cells B.J) (hx : Rs (cxX pr w K mg base N_reaching (Str.ofString "reaching") (top 28) f cdv A outer s H E) B.J) (hC : CodeAt K f cdv) (hr : Room 5 (A.deeper (envOfC (Str.ofString "reaching") (defScope (top 28)) s.heap.objs.size f cdv))) : PSs (cxX pr w K mg base N_reaching (Str.ofString "reaching") (top 28) f cdv A outer s H E) (defBody (top 28)) (dS K B (t_reaching B.J)) := by
  have hu := hu100 hr
  exact (ds_cons (ds_expr (de_callX hx (G_need_crowd c) ⟨hE.tb, hE.fa⟩ (hr.mono (by decide)) rfl (da_cons (de_var (pe_var (i := 0) (x := (Str.ofString "crowd")) rfl (Or.inl rfl))) da_nil)))
    (ds_cons (ds_expr (de_callX hx (G_need_lot c) ⟨hE.tb, hE.fa⟩ (hr.mono (by decide)) rfl (da_cons (de_var (pe_var (i := 0) (x := (Str.ofString "crowd")) rfl (Or.inl rfl))) (da_cons (de_var (pe_var (i := 1) (x := (Str.ofString "lot")) rfl (Or.inl rfl))) da_nil))))
    (ds_cons (ds_set (i := 2) sc_reaching.nd rfl (Or.inl rfl) (de_callG (G_others_of c) ⟨hE.tb, hE.fa⟩ (hr.mono (by decide)) rfl (da_cons (de_var (pe_var (i := 0) (x := (Str.ofString "crowd")) rfl (Or.inl rfl))) (da_cons (de_ix (dr_of_de (de_callG (G_lots_behind c) ⟨hE.tb, hE.fa⟩ (hr.mono (by decide)) rfl (da_cons (de_var (pe_var (i := 0) (x := (Str.ofString "crowd")) rfl (Or.inl rfl))) (da_cons (de_var (pe_var (i := 1) (x := (Str.ofString "lot")) rfl (Or.inl rfl))) da_nil)))) (dr_of_de (de_neg (de_int pe_int))) (fun _ _ => rfl)) da_nil))))
    (ds_one (ds_ret (de_if (dt_cmp (o_ne hu) (dr_of_de (de_var (pe_var (i := 2) (x := (Str.ofString "left")) rfl (Or.inl rfl)))) (dr_of_de (de_tupN da_nil)) rfl) (de_tupN (da_cons (de_str pe_str) (da_cons (de_var (pe_var (i := 2) (x := (Str.ofString "left")) rfl (Or.inl rfl))) da_nil))) (de_tupN (da_cons (de_str pe_str) (da_cons (de_callG (G_row_behind c) ⟨hE.tb, hE.fa⟩ (hr.mono (by decide)) rfl (da_cons (de_var (pe_var (i := 0) (x := (Str.ofString "crowd")) rfl (Or.inl rfl))) (da_cons (de_var (pe_var (i := 1) (x := (Str.ofString "lot")) rfl (Or.inl rfl))) da_nil))) da_nil)))))))))
theorem g_reaching (c : Txt w K mg base T) (hS : H_reaching) : FnX pr w K mg base T 6 (Str.ofString "reaching") ([(Str.ofString "crowd"), (Str.ofString "lot")] : List Str) 2 S_reaching := by
  obtain ⟨f, F, hm⟩ := c.d_reaching
  exact fnX_of F hm sc_reaching rfl (by decide) (fun kV doc pm an cdv ct us h => match us, h with | [_a0, _a1], _ => rfl) (fun B cdv A outer s H E hE hx hC hr => b_reaching c B cdv A outer s H E hE hx hC hr) (fun J ds j Q l q => match ds, l, q with | [d0, d1], _, q => hS J d0 d1 j Q q)
theorem G_reaching (c : Txt w K mg base T) : FnX pr w K mg base T 6 (Str.ofString "reaching") ([(Str.ofString "crowd"), (Str.ofString "lot")] : List Str) 2 S_reaching := g_reaching c h_reaching
theorem sc_is_row_behind : FnScope N_is_row_behind ([(Str.ofString "crowd"), (Str.ofString "lot"), (Str.ofString "value")] : List Str) (defScope (top 29)) := ⟨rfl, rfl, rfl, by decide, rfl, by decide, by decide⟩
theorem b_is_row_behind (c : Txt w K mg base T) (B : Ent) (cdv : Value) (A : Around) (outer : List Env) (s : Shared) (H : Hp) (E : XK) (hE : EntOk mg T (envOfC (Str.ofString "is_row_behind") (defScope (top 29)) s.heap.objs.size f cdv).cells B.J) (hC : CodeAt K f cdv) (hr : Room 2 (A.deeper (envOfC (Str.ofString "is_row_behind") (defScope (top 29)) s.heap.objs.size f cdv))) : PSs (cxB pr w K mg base N_is_row_behind (Str.ofString "is_row_behind") (top 29) f cdv A outer s H E) (defBody (top 29)) (dS K B (t_is_row_behind B.J)) := by
  have hu := hu100 hr
  exact (ds_cons (ds_set (i := 3) sc_is_row_behind.nd rfl (Or.inl rfl) (de_callG (G_others_of c) ⟨hE.tb, hE.fa⟩ (hr.mono (by decide)) rfl (da_cons (de_var (pe_var (i := 0) (x := (Str.ofString "crowd")) rfl (Or.inr (Or.inl rfl)))) (da_cons (de_var (pe_var (i := 1) (x := (Str.ofString "lot")) rfl (Or.inr (Or.inl rfl)))) da_nil))))
    (ds_cons (ds_if (PW.pt (dw_or (dt_not (dt_val (de_isi t_tuple rfl c.f_isinstance rfl c.f_tuple bt_tuple (by decide) (dr_of_de (de_var (pe_var (i := 2) (x := (Str.ofString "value")) rfl (Or.inr (Or.inl rfl)))))))) (dw_or (dt_cmp (o_ne hu) (dr_of_de (de_call1 c_len rfl c.f_len bt_len (dr_of_de (de_var (pe_var (i := 2) (x := (Str.ofString "value")) rfl (Or.inr (Or.inl rfl))))))) (dr_of_de (de_call1 c_len rfl c.f_len bt_len (dr_of_de (de_var (pe_var (i := 3) (x := (Str.ofString "others")) rfl (Or.inl rfl)))))) rfl) (dw_or1 (dt_not (dt_val (de_call1 (c_all rfl) rfl c.f_all bt_all (dr_lst (df_lc (own := [((Str.ofString "word"), 6)]) rfl sc_is_row_behind.nd (di_seq (de_var (pe_var (i := 2) (x := (Str.ofString "value")) rfl (Or.inr (Or.inl rfl))))) (blkOk_by (by kernel_rfl)) (fun _ _ _ _ _ => (pgT (dg_name (i := 6) sc_is_row_behind.nd rfl (Or.inl rfl)))) (fun _ _ _ _ _ => dts_nilN) (fun _ _ _ _ _ => (de_isi t_str rfl c.f_isinstance rfl c.f_str bt_str (by decide) (dr_of_de (de_var (pe_var (i := 6) (x := (Str.ofString "word")) rfl (Or.inl rfl)))))) rfl)))))))))
      (ds_one (ds_ret (de_bl pe_bl)))
      ds_nil)
    (ds_cons (ds_if (dt_cmp (o_ne hu) (dr_of_de (de_callTy c_tuple rfl c.f_tuple bt_tuple (dr_lst (df_call1 (c_sorted hu) rfl c.f_sorted bt_sorted (dr_of_de (de_var (pe_var (i := 2) (x := (Str.ofString "value")) rfl (Or.inr (Or.inl rfl))))))))) (dr_of_de (de_var (pe_var (i := 3) (x := (Str.ofString "others")) rfl (Or.inl rfl)))) rfl)
      (ds_one (ds_ret (de_bl pe_bl)))
      ds_nil)
    (ds_one (ds_ret (de_call1 (c_all rfl) rfl c.f_all bt_all (dr_lst (df_lc (own := [((Str.ofString "at"), 4), ((Str.ofString "person"), 5)]) rfl sc_is_row_behind.nd (di_enum rfl c.f_enumerate (da_cons (de_var (pe_var (i := 2) (x := (Str.ofString "value")) rfl (Or.inr (Or.inl rfl)))) da_nil)) (blkOk_by (by kernel_rfl)) (fun _ _ _ _ _ => (pgF (dg_tup rfl (dgs_cons (dg_name (i := 4) sc_is_row_behind.nd rfl (Or.inl rfl)) (dgs_cons (dg_name (i := 5) sc_is_row_behind.nd rfl (Or.inl rfl)) dgs_nil)) gtp2))) (fun _ _ _ _ _ => dts_nilN) (fun _ _ _ _ _ => (de_callG (G_does_take c) ⟨hE.tb, hE.fa⟩ (hr.mono (by decide)) rfl (da_cons (de_var (pe_var (i := 0) (x := (Str.ofString "crowd")) rfl (Or.inr (Or.inl rfl)))) (da_cons (de_bin o_add (dr_of_de (de_var (pe_var (i := 1) (x := (Str.ofString "lot")) rfl (Or.inr (Or.inl rfl))))) (dr_of_de (de_sl (dr_of_de (de_var (pe_var (i := 2) (x := (Str.ofString "value")) rfl (Or.inr (Or.inl rfl))))) dp_none (dp_some (de_var (pe_var (i := 4) (x := (Str.ofString "at")) rfl (Or.inl rfl))))))) (da_cons (de_var (pe_var (i := 5) (x := (Str.ofString "person")) rfl (Or.inl rfl))) da_nil))))) rfl))))))))
theorem g_is_row_behind (c : Txt w K mg base T) (hS : H_is_row_behind) : FnG pr w K mg base T 3 (Str.ofString "is_row_behind") ([(Str.ofString "crowd"), (Str.ofString "lot"), (Str.ofString "value")] : List Str) 3 S_is_row_behind := by
  obtain ⟨f, F, hm⟩ := c.d_is_row_behind
  exact fnG_of F hm sc_is_row_behind rfl (by decide) (fun kV doc pm an cdv ct us h => match us, h with | [_a0, _a1, _a2], _ => rfl) (fun B cdv A outer s H E hE hC hr => b_is_row_behind c B cdv A outer s H E hE hC hr) (fun J ds j Q l q => match ds, l, q with | [d0, d1, d2], _, q => hS J d0 d1 d2 j Q q)
theorem G_is_row_behind (c : Txt w K mg base T) : FnG pr w K mg base T 3 (Str.ofString "is_row_behind") ([(Str.ofString "crowd"), (Str.ofString "lot"), (Str.ofString "value")] : List Str) 3 S_is_row_behind := g_is_row_behind c h_is_row_behind
theorem sc_is_reaching : FnScope N_is_reaching ([(Str.ofString "crowd"), (Str.ofString "lot"), (Str.ofString "value")] : List Str) (defScope (top 30)) := ⟨rfl, rfl, rfl, by decide, rfl, by decide, by decide⟩
theorem b_is_reaching (c : Txt w K mg base T) (B : Ent) (cdv : Value) (A : Around) (outer : List Env) (s : Shared) (H : Hp) (E : XK) (hE : EntOk mg T (envOfC (Str.ofString "is_reaching") (defScope (top 30)) s.heap.objs.size f cdv).cells B.J) (hx : Rs (cxX pr w K mg base N_is_reaching (Str.ofString "is_reaching") (top 30) f cdv A outer s H E) B.J) (hC : CodeAt K f cdv) (hr : Room 5 (A.deeper (envOfC (Str.ofString "is_reaching") (defScope (top 30)) s.heap.objs.size f cdv))) : PSs (cxX pr w K mg base N_is_reaching (Str.ofString "is_reaching") (top 30) f cdv A outer s H E) (defBody (top 30)) (dS K B (t_is_reaching B.J)) := by
  have hu := hu100 hr
  exact (ds_cons (ds_expr (de_callX hx (G_need_crowd c) ⟨hE.tb, hE.fa⟩ (hr.mono (by decide)) rfl (da_cons (de_var (pe_var (i := 0) (x := (Str.ofString "crowd")) rfl (Or.inl rfl))) da_nil)))
    (ds_cons (ds_expr (de_callX hx (G_need_lot c) ⟨hE.tb, hE.fa⟩ (hr.mono (by decide)) rfl (da_cons (de_var (pe_var (i := 0) (x := (Str.ofString "crowd")) rfl (Or.inl rfl))) (da_cons (de_var (pe_var (i := 1) (x := (Str.ofString "lot")) rfl (Or.inr (Or.inl rfl)))) da_nil))))
    (ds_cons (ds_if (PW.pt (dw_or (dt_not (dt_val (de_isi t_tuple rfl c.f_isinstance rfl c.f_tuple bt_tuple (by decide) (dr_of_de (de_var (pe_var (i := 2) (x := (Str.ofString "value")) rfl (Or.inl rfl))))))) (dw_or (dt_cmp (o_ne hu) (dr_of_de (de_call1 c_len rfl c.f_len bt_len (dr_of_de (de_var (pe_var (i := 2) (x := (Str.ofString "value")) rfl (Or.inl rfl)))))) (dr_of_de (de_int pe_int)) rfl) (dw_or1 (dt_not (dt_val (de_isi t_str rfl c.f_isinstance rfl c.f_str bt_str (by decide) (dr_of_de (de_ix (dr_of_de (de_var (pe_var (i := 2) (x := (Str.ofString "value")) rfl (Or.inl rfl)))) (dr_of_de (de_int pe_int)) (fun _ _ => rfl))))))))))
      (ds_one (ds_ret (de_bl pe_bl)))
      ds_nil)
    (ds_cons (ds_if (dt_cmp (o_eq hu) (dr_of_de (de_ix (dr_of_de (de_var (pe_var (i := 2) (x := (Str.ofString "value")) rfl (Or.inl rfl)))) (dr_of_de (de_int pe_int)) (fun _ _ => rfl))) (dr_of_de (de_str pe_str)) rfl)
      (ds_one (ds_ret (de_callG (G_is_row_behind c) ⟨hE.tb, hE.fa⟩ (hr.mono (by decide)) rfl (da_cons (de_var (pe_var (i := 0) (x := (Str.ofString "crowd")) rfl (Or.inl rfl))) (da_cons (de_var (pe_var (i := 1) (x := (Str.ofString "lot")) rfl (Or.inr (Or.inl rfl)))) (da_cons (de_ix (dr_of_de (de_var (pe_var (i := 2) (x := (Str.ofString "value")) rfl (Or.inl rfl)))) (dr_of_de (de_int pe_int)) (fun _ _ => rfl)) da_nil))))))
      ds_nil)
    (ds_cons (ds_if (PW.pt (dw_or (dt_cmp (o_ne hu) (dr_of_de (de_ix (dr_of_de (de_var (pe_var (i := 2) (x := (Str.ofString "value")) rfl (Or.inl rfl)))) (dr_of_de (de_int pe_int)) (fun _ _ => rfl))) (dr_of_de (de_str pe_str)) rfl) (dw_or (dt_cmp (o_eq0 hu) (dr_of_de (de_ix (dr_of_de (de_var (pe_var (i := 2) (x := (Str.ofString "value")) rfl (Or.inl rfl)))) (dr_of_de (de_int pe_int)) (fun _ _ => rfl))) (dr_of_de (de_tupN da_nil)) rfl) (dw_or1 (dt_not (dt_val (de_callG (G_is_lot c) ⟨hE.tb, hE.fa⟩ (hr.mono (by decide)) rfl (da_cons (de_ix (dr_of_de (de_var (pe_var (i := 0) (x := (Str.ofString "crowd")) rfl (Or.inl rfl)))) (dr_of_de (de_int pe_int)) (fun _ _ => rfl)) (da_cons (de_ix (dr_of_de (de_var (pe_var (i := 2) (x := (Str.ofString "value")) rfl (Or.inl rfl)))) (dr_of_de (de_int pe_int)) (fun _ _ => rfl)) da_nil)))))))))
      (ds_one (ds_ret (de_bl pe_bl)))
      ds_nil)
    (ds_one (ds_ret (de_and (de_not (de_call1 (c_any rfl) rfl c.f_any bt_any (dr_lst (df_lc (own := [((Str.ofString "person"), 3)]) rfl sc_is_reaching.nd (di_seq (de_ix (dr_of_de (de_var (pe_var (i := 2) (x := (Str.ofString "value")) rfl (Or.inl rfl)))) (dr_of_de (de_int pe_int)) (fun _ _ => rfl))) (blkOk_by (by kernel_rfl)) (fun _ _ _ _ _ => (pgT (dg_name (i := 3) sc_is_reaching.nd rfl (Or.inl rfl)))) (fun _ _ _ _ _ => dts_nilN) (fun _ _ _ _ _ => (de_cmp (o_in hu) (dr_of_de (de_var (pe_var (i := 3) (x := (Str.ofString "person")) rfl (Or.inl rfl)))) (dr_of_de (de_var (pe_var (i := 1) (x := (Str.ofString "lot")) rfl (Or.inr (Or.inl rfl))))) rfl)) rfl)))) (de_one (de_callG (G_stays_apart c) ⟨hE.tb, hE.fa⟩ (hr.mono (by decide)) rfl (da_cons (de_var (pe_var (i := 0) (x := (Str.ofString "crowd")) rfl (Or.inl rfl))) (da_cons (de_ix (dr_of_de (de_var (pe_var (i := 2) (x := (Str.ofString "value")) rfl (Or.inl rfl)))) (dr_of_de (de_int pe_int)) (fun _ _ => rfl)) da_nil))))))))))))
theorem g_is_reaching (c : Txt w K mg base T) (hS : H_is_reaching) : FnX pr w K mg base T 6 (Str.ofString "is_reaching") ([(Str.ofString "crowd"), (Str.ofString "lot"), (Str.ofString "value")] : List Str) 3 S_is_reaching := by
  obtain ⟨f, F, hm⟩ := c.d_is_reaching
  exact fnX_of F hm sc_is_reaching rfl (by decide) (fun kV doc pm an cdv ct us h => match us, h with | [_a0, _a1, _a2], _ => rfl) (fun B cdv A outer s H E hE hx hC hr => b_is_reaching c B cdv A outer s H E hE hx hC hr) (fun J ds j Q l q => match ds, l, q with | [d0, d1, d2], _, q => hS J d0 d1 d2 j Q q)
theorem G_is_reaching (c : Txt w K mg base T) : FnX pr w K mg base T 6 (Str.ofString "is_reaching") ([(Str.ofString "crowd"), (Str.ofString "lot"), (Str.ofString "value")] : List Str) 3 S_is_reaching := g_is_reaching c h_is_reaching
theorem sc__law_blended : FnScope N__law_blended ([(Str.ofString "state")] : List Str) (defScope (top 33)) := ⟨rfl, rfl, rfl, by decide, rfl, by decide, by decide⟩
theorem b__law_blended (c : Txt w K mg base T) (B : Ent) (cdv : Value) (A : Around) (outer : List Env) (s : Shared) (H : Hp) (E : XK) (hE : EntOk mg T (envOfC (Str.ofString "_law_blended") (defScope (top 33)) s.heap.objs.size f cdv).cells B.J) (hC : CodeAt K f cdv) (hr : Room 0 (A.deeper (envOfC (Str.ofString "_law_blended") (defScope (top 33)) s.heap.objs.size f cdv))) : PSs (cxB pr w K mg base N__law_blended (Str.ofString "_law_blended") (top 33) f cdv A outer s H E) (defBody (top 33)) (dS K B (t__law_blended B.J)) := by
  have hu := hu100 hr
  exact (ds_cons (ds_par (i := 1) (j := 2) rfl sc__law_blended.nd rfl rfl (by decide) rfl rfl (da_cons (de_bin o_add (dr_of_de (de_turn hu (pe_var (i := 0) (x := (Str.ofString "state")) rfl (Or.inl rfl)) pe_str (fun _ _ => rfl))) (dr_of_de (de_int pe_int))) (da_cons (de_int pe_int) da_nil)) rfl)
    (ds_cons (ds_putTurn hu (pe_var (i := 0) (x := (Str.ofString "state")) rfl (Or.inl rfl)) pe_str (de_var (pe_var (i := 1) (x := (Str.ofString "turn")) rfl (Or.inl rfl))))
    (ds_cons (ds_for PassesOwn.never rfl (di_seq (de_lst (df_lst (da_cons (de_int pe_int) (da_cons (de_int pe_int) (da_cons (de_int pe_int) da_nil)))))) (pgT (dg_name (i := 3) sc__law_blended.nd rfl (Or.inl rfl)))
      (ds_cons (ds_set (i := 4) sc__law_blended.nd rfl (Or.inl rfl) (de_bin o_add (dr_of_de (de_bin o_mul (dr_of_de (de_int pe_int)) (dr_of_de (de_var (pe_var (i := 1) (x := (Str.ofString "turn")) rfl (Or.inl rfl)))))) (dr_of_de (de_bin o_fdiv (dr_of_de (de_var (pe_var (i := 3) (x := (Str.ofString "prime")) rfl (Or.inl rfl)))) (dr_of_de (de_int pe_int))))))
    (ds_cons (ds_for PassesOwn.never rfl (di_cells hu (pe_var (i := 0) (x := (Str.ofString "state")) rfl (Or.inl rfl)) pe_str (fun _ _ => rfl)) (pgT (dg_name (i := 5) sc__law_blended.nd rfl (Or.inl rfl)))
      (ds_one (ds_set (i := 4) sc__law_blended.nd rfl (Or.inl rfl) (de_bin o_mod (dr_of_de (de_callTy c_int rfl c.f_int bt_int (dr_of_de (de_bin o_add (dr_of_de (de_bin o_add (dr_of_de (de_bin o_mul (dr_of_de (de_var (pe_var (i := 4) (x := (Str.ofString "blend")) rfl (Or.inl rfl)))) (dr_of_de (de_int pe_int)))) (dr_of_de (de_var (pe_var (i := 5) (x := (Str.ofString "cell")) rfl (Or.inl rfl)))))) (dr_of_de (de_var (pe_var (i := 1) (x := (Str.ofString "turn")) rfl (Or.inl rfl)))))))) (dr_of_de (de_var (pe_var (i := 3) (x := (Str.ofString "prime")) rfl (Or.inl rfl))))))))
    (ds_one (ds_set (i := 2) sc__law_blended.nd rfl (Or.inl rfl) (de_bin o_add (dr_of_de (de_bin o_mul (dr_of_de (de_var (pe_var (i := 2) (x := (Str.ofString "found")) rfl (Or.inl rfl)))) (dr_of_de (de_int pe_int)))) (dr_of_de (de_bin o_mod (dr_of_de (de_callTy c_int rfl c.f_int bt_int (dr_of_de (de_bin o_pow2 (dr_of_de (de_var (pe_var (i := 4) (x := (Str.ofString "blend")) rfl (Or.inl rfl)))) (dr_of_de (de_int pe_int)))))) (dr_of_de (de_var (pe_var (i := 3) (x := (Str.ofString "prime")) rfl (Or.inl rfl))))))))))))
    (ds_one (ds_ret (de_var (pe_var (i := 2) (x := (Str.ofString "found")) rfl (Or.inl rfl))))))))
theorem g__law_blended (c : Txt w K mg base T) (hS : H__law_blended) : FnG pr w K mg base T 1 (Str.ofString "_law_blended") ([(Str.ofString "state")] : List Str) 1 S__law_blended := by
  obtain ⟨f, F, hm⟩ := c.d__law_blended
  exact fnG_of F hm sc__law_blended rfl (by decide) (fun kV doc pm an cdv ct us h => match us, h with | [_a0], _ => rfl) (fun B cdv A outer s H E hE hC hr => b__law_blended c B cdv A outer s H E hE hC hr) (fun J ds j Q l q => match ds, l, q with | [d0], _, q => hS J d0 j Q q)
theorem G__law_blended (c : Txt w K mg base T) : FnG pr w K mg base T 1 (Str.ofString "_law_blended") ([(Str.ofString "state")] : List Str) 1 S__law_blended := g__law_blended c h__law_blended
theorem sc__law_draw : FnScope N__law_draw ([(Str.ofString "state"), (Str.ofString "room")] : List Str) (defScope (top 34)) := ⟨rfl, rfl, rfl, by decide, rfl, by decide, by decide⟩
theorem b__law_draw (c : Txt w K mg base T) (B : Ent) (cdv : Value) (A : Around) (outer : List Env) (s : Shared) (H : Hp) (E : XK) (hE : EntOk mg T (envOfC (Str.ofString "_law_draw") (defScope (top 34)) s.heap.objs.size f cdv).cells B.J) (hC : CodeAt K f cdv) (hr : Room 1 (A.deeper (envOfC (Str.ofString "_law_draw") (defScope (top 34)) s.heap.objs.size f cdv))) : PSs (cxB pr w K mg base N__law_draw (Str.ofString "_law_draw") (top 34) f cdv A outer s H E) (defBody (top 34)) (dS K B (t__law_draw B.J)) := by
  have hu := hu100 hr
  exact (ds_cons (ds_if (dt_cmp (o_eq hu) (dr_of_de (de_rest hu (pe_var (i := 0) (x := (Str.ofString "state")) rfl (Or.inl rfl)) pe_str (fun _ _ => rfl))) (dr_of_de (de_int pe_int)) rfl)
      (ds_one (ds_putRest hu (pe_var (i := 0) (x := (Str.ofString "state")) rfl (Or.inl rfl)) pe_str (de_if (dt_great hu (pe_var (i := 0) (x := (Str.ofString "state")) rfl (Or.inl rfl)) pe_str (fun _ _ => rfl)) (de_popG hu (pe_var (i := 0) (x := (Str.ofString "state")) rfl (Or.inl rfl)) pe_str (fun _ _ => rfl) pe_int) (de_callG (G__law_blended c) ⟨hE.tb, hE.fa⟩ (hr.mono (by decide)) rfl (da_cons (de_var (pe_var (i := 0) (x := (Str.ofString "state")) rfl (Or.inl rfl))) da_nil)))))
      ds_nil)
    (ds_cons (ds_set (i := 2) sc__law_draw.nd rfl (Or.inl rfl) (de_bin o_mod (dr_of_de (de_callTy c_int rfl c.f_int bt_int (dr_of_de (de_rest hu (pe_var (i := 0) (x := (Str.ofString "state")) rfl (Or.inl rfl)) pe_str (fun _ _ => rfl))))) (dr_of_de (de_var (pe_var (i := 1) (x := (Str.ofString "room")) rfl (Or.inl rfl))))))
    (ds_cons (ds_putRest hu (pe_var (i := 0) (x := (Str.ofString "state")) rfl (Or.inl rfl)) pe_str (de_bin o_fdiv (dr_of_de (de_rest hu (pe_var (i := 0) (x := (Str.ofString "state")) rfl (Or.inl rfl)) pe_str (fun _ _ => rfl))) (dr_of_de (de_var (pe_var (i := 1) (x := (Str.ofString "room")) rfl (Or.inl rfl))))))
    (ds_one (ds_ret (de_var (pe_var (i := 2) (x := (Str.ofString "found")) rfl (Or.inl rfl))))))))
theorem g__law_draw (c : Txt w K mg base T) (hS : H__law_draw) : FnG pr w K mg base T 2 (Str.ofString "_law_draw") ([(Str.ofString "state"), (Str.ofString "room")] : List Str) 2 S__law_draw := by
  obtain ⟨f, F, hm⟩ := c.d__law_draw
  exact fnG_of F hm sc__law_draw rfl (by decide) (fun kV doc pm an cdv ct us h => match us, h with | [_a0, _a1], _ => rfl) (fun B cdv A outer s H E hE hC hr => b__law_draw c B cdv A outer s H E hE hC hr) (fun J ds j Q l q => match ds, l, q with | [d0, d1], _, q => hS J d0 d1 j Q q)
theorem G__law_draw (c : Txt w K mg base T) : FnG pr w K mg base T 2 (Str.ofString "_law_draw") ([(Str.ofString "state"), (Str.ofString "room")] : List Str) 2 S__law_draw := g__law_draw c h__law_draw
theorem sc__law_pick : FnScope N__law_pick ([(Str.ofString "state"), (Str.ofString "some")] : List Str) (defScope (top 35)) := ⟨rfl, rfl, rfl, by decide, rfl, by decide, by decide⟩
theorem b__law_pick (c : Txt w K mg base T) (B : Ent) (cdv : Value) (A : Around) (outer : List Env) (s : Shared) (H : Hp) (E : XK) (hE : EntOk mg T (envOfC (Str.ofString "_law_pick") (defScope (top 35)) s.heap.objs.size f cdv).cells B.J) (hC : CodeAt K f cdv) (hr : Room 2 (A.deeper (envOfC (Str.ofString "_law_pick") (defScope (top 35)) s.heap.objs.size f cdv))) : PSs (cxB pr w K mg base N__law_pick (Str.ofString "_law_pick") (top 35) f cdv A outer s H E) (defBody (top 35)) (dS K B (t__law_pick B.J)) := by
  have hu := hu100 hr
  exact (ds_one (ds_ret (de_ix (dr_of_de (de_var (pe_var (i := 1) (x := (Str.ofString "some")) rfl (Or.inl rfl)))) (dr_of_de (de_callG (G__law_draw c) ⟨hE.tb, hE.fa⟩ (hr.mono (by decide)) rfl (da_cons (de_var (pe_var (i := 0) (x := (Str.ofString "state")) rfl (Or.inl rfl))) (da_cons (de_call1 c_len rfl c.f_len bt_len (dr_of_de (de_var (pe_var (i := 1) (x := (Str.ofString "some")) rfl (Or.inl rfl))))) da_nil)))) (fun _ _ => rfl))))
theorem g__law_pick (c : Txt w K mg base T) (hS : H__law_pick) : FnG pr w K mg base T 3 (Str.ofString "_law_pick") ([(Str.ofString "state"), (Str.ofString "some")] : List Str) 2 S__law_pick := by
  obtain ⟨f, F, hm⟩ := c.d__law_pick
  exact fnG_of F hm sc__law_pick rfl (by decide) (fun kV doc pm an cdv ct us h => match us, h with | [_a0, _a1], _ => rfl) (fun B cdv A outer s H E hE hC hr => b__law_pick c B cdv A outer s H E hE hC hr) (fun J ds j Q l q => match ds, l, q with | [d0, d1], _, q => hS J d0 d1 j Q q)
theorem G__law_pick (c : Txt w K mg base T) : FnG pr w K mg base T 3 (Str.ofString "_law_pick") ([(Str.ofString "state"), (Str.ofString "some")] : List Str) 2 S__law_pick := g__law_pick c h__law_pick
theorem sc__law_shuffled : FnScope N__law_shuffled ([(Str.ofString "state"), (Str.ofString "some")] : List Str) (defScope (top 36)) := ⟨rfl, rfl, rfl, by decide, rfl, by decide, by decide⟩
theorem b__law_shuffled (c : Txt w K mg base T) (B : Ent) (cdv : Value) (A : Around) (outer : List Env) (s : Shared) (H : Hp) (E : XK) (hE : EntOk mg T (envOfC (Str.ofString "_law_shuffled") (defScope (top 36)) s.heap.objs.size f cdv).cells B.J) (hC : CodeAt K f cdv) (hr : Room 2 (A.deeper (envOfC (Str.ofString "_law_shuffled") (defScope (top 36)) s.heap.objs.size f cdv))) : PSs (cxB pr w K mg base N__law_shuffled (Str.ofString "_law_shuffled") (top 36) f cdv A outer s H E) (defBody (top 36)) (dS K B (t__law_shuffled B.J)) := by
  have hu := hu100 hr
  exact (ds_cons (ds_parO (i := 2) (j := 3) rfl sc__law_shuffled.nd rfl rfl (by decide) rfl rfl (do_f (df_callTy (c_list rfl) rfl c.f_list bt_list (dr_of_de (de_var (pe_var (i := 1) (x := (Str.ofString "some")) rfl (Or.inl rfl)))))) (do_f (df_lst da_nil)) rfl)
    (ds_cons (ds_while PassesOwn.never (dt_cmp (o_ne hu) (dr_var (pe_var (i := 2) (x := (Str.ofString "left")) rfl (Or.inl rfl))) (dr_lst (df_lst da_nil)) rfl)
      (ds_one (ds_exprM (dm_app (pe_var (i := 3) (x := (Str.ofString "found")) rfl (Or.inl rfl)) (dm_popAt (pe_var (i := 2) (x := (Str.ofString "left")) rfl (Or.inl rfl)) (dm_of (de_callG (G__law_draw c) ⟨hE.tb, hE.fa⟩ (hr.mono (by decide)) rfl (da_cons (de_var (pe_var (i := 0) (x := (Str.ofString "state")) rfl (Or.inl rfl))) (da_cons (de_call1 c_len rfl c.f_len bt_len (dr_var (pe_var (i := 2) (x := (Str.ofString "left")) rfl (Or.inl rfl)))) da_nil)))))))))
    (ds_one (ds_retO (pe_var (i := 3) (x := (Str.ofString "found")) rfl (Or.inl rfl))))))
theorem g__law_shuffled (c : Txt w K mg base T) (hS : H__law_shuffled) : FnG pr w K mg base T 3 (Str.ofString "_law_shuffled") ([(Str.ofString "state"), (Str.ofString "some")] : List Str) 2 S__law_shuffled := by
  obtain ⟨f, F, hm⟩ := c.d__law_shuffled
  exact fnG_of F hm sc__law_shuffled rfl (by decide) (fun kV doc pm an cdv ct us h => match us, h with | [_a0, _a1], _ => rfl) (fun B cdv A outer s H E hE hC hr => b__law_shuffled c B cdv A outer s H E hE hC hr) (fun J ds j Q l q => match ds, l, q with | [d0, d1], _, q => hS J d0 d1 j Q q)
theorem G__law_shuffled (c : Txt w K mg base T) : FnG pr w K mg base T 3 (Str.ofString "_law_shuffled") ([(Str.ofString "state"), (Str.ofString "some")] : List Str) 2 S__law_shuffled := g__law_shuffled c h__law_shuffled
theorem sc__law_caught : FnScope N__law_caught ([(Str.ofString "action")] : List Str) (defScope (top 37)) := ⟨rfl, rfl, rfl, by decide, rfl, by decide, by decide⟩
theorem b__law_caught {g : Addr} (c : Txt w K mg base T) (B : Ent) (cdv : Value) (A' : Around) (outer : List Env) (s : Shared) (H : Hp) (E : XK) (kA : Nat) (f : Addr) (A : Ac) (hE : EntOk mg T (envOfC (Str.ofString "_law_caught") (defScope (top 37)) s.heap.objs.size g cdv).cells B.J) (heH : B.J.eH = H) (act : ActD pr w K mg base outer s H kA f B.J B.J.ej B.J.eF A) (hC : CodeAt K g cdv) (hr : Room (0 + kA) (A'.deeper (envOfC (Str.ofString "_law_caught") (defScope (top 37)) s.heap.objs.size g cdv))) : PSs (cxB pr w K mg base N__law_caught (Str.ofString "_law_caught") (top 37) g cdv A' outer s H E) (defBody (top 37)) (dS K B (t__law_caught B.J f A)) := by
  have hu := hu100 hr
  exact (ds_cons (ds_set (i := 1) sc__law_caught.nd rfl (Or.inl rfl) (de_non pe_non))
    (ds_cons (by obtain ⟨_, hC⟩ := c.ee_TieError; exact (ds_caught act heH rfl rfl rfl (hr.mono (by omega)) LamX.takes0 hE.fa sc__law_caught.nd (ia := 0) (ie := 2) (ik := 1) rfl (Or.inl rfl) rfl rfl rfl rfl (by decide) rfl rfl hC (fun y hy => (faOf_eq hC) ▸ c.x_TieError y hy)))
    (ds_one (ds_ret (de_var (pe_var (i := 1) (x := (Str.ofString "found")) rfl (Or.inl rfl)))))))
theorem g__law_caught (c : Txt w K mg base T) (hS : H__law_caught) : FnH pr w K mg base T 1 (Str.ofString "_law_caught") 0 S__law_caught := by
  obtain ⟨g, F, hm⟩ := c.d__law_caught
  exact fnH_of F hm sc__law_caught rfl (by decide) (fun kV doc pm an cdv ct us h => match us, h with | [_a0], _ => rfl) (fun B cdv A' outer s H E kA f A hE heH act hC hr => b__law_caught c B cdv A' outer s H E kA f A hE heH act hC hr) (fun J f A ds j Q l q => match ds, l, q with | [], _, q => hS J f A  j Q q)
theorem G__law_caught (c : Txt w K mg base T) : FnH pr w K mg base T 1 (Str.ofString "_law_caught") 0 S__law_caught := g__law_caught c h__law_caught
theorem sc__law_is_truth : FnScope N__law_is_truth ([(Str.ofString "found"), (Str.ofString "due")] : List Str) (defScope (top 38)) := ⟨rfl, rfl, rfl, by decide, rfl, by decide, by decide⟩
theorem b__law_is_truth (c : Txt w K mg base T) (B : Ent) (cdv : Value) (A : Around) (outer : List Env) (s : Shared) (H : Hp) (E : XK) (hE : EntOk mg T (envOfC (Str.ofString "_law_is_truth") (defScope (top 38)) s.heap.objs.size f cdv).cells B.J) (hC : CodeAt K f cdv) (hr : Room 0 (A.deeper (envOfC (Str.ofString "_law_is_truth") (defScope (top 38)) s.heap.objs.size f cdv))) : PSs (cxB pr w K mg base N__law_is_truth (Str.ofString "_law_is_truth") (top 38) f cdv A outer s H E) (defBody (top 38)) (dS K B (t__law_is_truth B.J)) := by
  have hu := hu100 hr
  exact (ds_one (ds_ret (de_if (dt_val (de_var (pe_var (i := 1) (x := (Str.ofString "due")) rfl (Or.inl rfl)))) (de_cmp o_is (dr_of_de (de_var (pe_var (i := 0) (x := (Str.ofString "found")) rfl (Or.inl rfl)))) (dr_of_de (de_bl pe_bl)) rfl) (de_cmp o_is (dr_of_de (de_var (pe_var (i := 0) (x := (Str.ofString "found")) rfl (Or.inl rfl)))) (dr_of_de (de_bl pe_bl)) rfl))))
theorem g__law_is_truth (c : Txt w K mg base T) (hS : H__law_is_truth) : FnG pr w K mg base T 1 (Str.ofString "_law_is_truth") ([(Str.ofString "found"), (Str.ofString "due")] : List Str) 2 S__law_is_truth := by
  obtain ⟨f, F, hm⟩ := c.d__law_is_truth
  exact fnG_of F hm sc__law_is_truth rfl (by decide) (fun kV doc pm an cdv ct us h => match us, h with | [_a0, _a1], _ => rfl) (fun B cdv A outer s H E hE hC hr => b__law_is_truth c B cdv A outer s H E hE hC hr) (fun J ds j Q l q => match ds, l, q with | [d0, d1], _, q => hS J d0 d1 j Q q)
theorem G__law_is_truth (c : Txt w K mg base T) : FnG pr w K mg base T 1 (Str.ofString "_law_is_truth") ([(Str.ofString "found"), (Str.ofString "due")] : List Str) 2 S__law_is_truth := g__law_is_truth c h__law_is_truth
theorem sc__law_same : FnScope N__law_same ([(Str.ofString "found"), (Str.ofString "due")] : List Str) (defScope (top 39)) := ⟨rfl, rfl, rfl, by decide, rfl, by decide, by decide⟩
theorem b__law_same (c : Txt w K mg base T) (B : Ent) (cdv : Value) (A : Around) (outer : List Env) (s : Shared) (H : Hp) (E : XK) (hE : EntOk mg T (envOfC (Str.ofString "_law_same") (defScope (top 39)) s.heap.objs.size f cdv).cells B.J) (hC : CodeAt K f cdv) (hr : Room 1 (A.deeper (envOfC (Str.ofString "_law_same") (defScope (top 39)) s.heap.objs.size f cdv))) : PSs (cxB pr w K mg base N__law_same (Str.ofString "_law_same") (top 39) f cdv A outer s H E) (defBody (top 39)) (dS K B (t__law_same B.J)) := by
  have hu := hu100 hr
  exact (ds_cons (ds_setF (i := 2) sc__law_same.nd rfl (Or.inl rfl) (df_lst (da_cons (de_tupN (da_cons (de_var (pe_var (i := 0) (x := (Str.ofString "found")) rfl (Or.inl rfl))) (da_cons (de_var (pe_var (i := 1) (x := (Str.ofString "due")) rfl (Or.inl rfl))) da_nil))) da_nil)))
    (ds_cons (ds_while PassesOwn.never (dt_cmp (o_ne hu) (dr_var (pe_var (i := 2) (x := (Str.ofString "waiting")) rfl (Or.inl rfl))) (dr_lst (df_lst da_nil)) rfl)
      (ds_cons (ds_asgM (dm_pop (pe_var (i := 2) (x := (Str.ofString "waiting")) rfl (Or.inl rfl))) (dgn_of (dg_tup rfl (dgs_cons (dg_name (i := 3) sc__law_same.nd rfl (Or.inr rfl)) (dgs_cons (dg_name (i := 4) sc__law_same.nd rfl (Or.inr rfl)) dgs_nil)) gtp2)))
    (ds_one (ds_if (PW.pt (dw_or (dt_cmp o_is (dr_of_de (de_var (pe_var (i := 4) (x := (Str.ofString "other")) rfl (Or.inr (Or.inl rfl))))) (dr_of_de (de_non pe_non)) rfl) (dw_or1 (dt_val (de_isi t_bool rfl c.f_isinstance rfl c.f_bool bt_bool (by decide) (dr_of_de (de_var (pe_var (i := 4) (x := (Str.ofString "other")) rfl (Or.inr (Or.inl rfl))))))))))
      (ds_one (ds_if (dt_if (dt_cmp o_is (dr_of_de (de_var (pe_var (i := 4) (x := (Str.ofString "other")) rfl (Or.inr (Or.inl rfl))))) (dr_of_de (de_non pe_non)) rfl) (dt_cmp o_isn (dr_of_de (de_var (pe_var (i := 3) (x := (Str.ofString "one")) rfl (Or.inr (Or.inl rfl))))) (dr_of_de (de_non pe_non)) rfl) (dt_not (dt_val (de_callG (G__law_is_truth c) ⟨hE.tb, hE.fa⟩ (hr.mono (by decide)) rfl (da_cons (de_var (pe_var (i := 3) (x := (Str.ofString "one")) rfl (Or.inr (Or.inl rfl)))) (da_cons (de_var (pe_var (i := 4) (x := (Str.ofString "other")) rfl (Or.inr (Or.inl rfl)))) da_nil))))))
      (ds_one (ds_ret (de_bl pe_bl)))
      ds_nil))
      (ds_one (ds_if (dt_val (de_isi2 t_int t_str rfl c.f_isinstance rfl c.f_int bt_int (by decide) rfl c.f_str bt_str (by decide) (de_var (pe_var (i := 4) (x := (Str.ofString "other")) rfl (Or.inr (Or.inl rfl))))))
      (ds_one (ds_if (PW.pt (dw_or (dt_val (de_isi t_bool rfl c.f_isinstance rfl c.f_bool bt_bool (by decide) (dr_of_de (de_var (pe_var (i := 3) (x := (Str.ofString "one")) rfl (Or.inr (Or.inl rfl))))))) (dw_or (dt_cmp (o_ne hu) (dr_of_de (de_isi t_int rfl c.f_isinstance rfl c.f_int bt_int (by decide) (dr_of_de (de_var (pe_var (i := 3) (x := (Str.ofString "one")) rfl (Or.inr (Or.inl rfl))))))) (dr_of_de (de_isi t_int rfl c.f_isinstance rfl c.f_int bt_int (by decide) (dr_of_de (de_var (pe_var (i := 4) (x := (Str.ofString "other")) rfl (Or.inr (Or.inl rfl))))))) rfl) (dw_or1 (dt_cmp (o_ne hu) (dr_of_de (de_var (pe_var (i := 3) (x := (Str.ofString "one")) rfl (Or.inr (Or.inl rfl))))) (dr_of_de (de_var (pe_var (i := 4) (x := (Str.ofString "other")) rfl (Or.inr (Or.inl rfl))))) rfl)))))
      (ds_one (ds_ret (de_bl pe_bl)))
      ds_nil))
      (ds_one (ds_if (dt_val (de_isi t_dict rfl c.f_isinstance rfl c.f_dict bt_dict (by decide) (dr_of_de (de_var (pe_var (i := 4) (x := (Str.ofString "other")) rfl (Or.inr (Or.inl rfl)))))))
      (ds_cons (ds_if (PW.pt (dw_or (dt_not (dt_val (de_isi t_dict rfl c.f_isinstance rfl c.f_dict bt_dict (by decide) (dr_of_de (de_var (pe_var (i := 3) (x := (Str.ofString "one")) rfl (Or.inr (Or.inl rfl)))))))) (dw_or1 (dt_cmp (o_ne hu) (dr_lst (df_callTy (c_list rfl) rfl c.f_list bt_list (dr_of_de (de_var (pe_var (i := 3) (x := (Str.ofString "one")) rfl (Or.inr (Or.inl rfl))))))) (dr_lst (df_callTy (c_list rfl) rfl c.f_list bt_list (dr_of_de (de_var (pe_var (i := 4) (x := (Str.ofString "other")) rfl (Or.inr (Or.inl rfl))))))) rfl))))
      (ds_one (ds_ret (de_bl pe_bl)))
      ds_nil)
    dss_never)
      (ds_cons (ds_set (i := 5) sc__law_same.nd rfl (Or.inl rfl) (de_lst (df_lst (da_cons (de_and (de_isi t_tuple rfl c.f_isinstance rfl c.f_tuple bt_tuple (by decide) (dr_of_de (de_var (pe_var (i := 3) (x := (Str.ofString "one")) rfl (Or.inr (Or.inl rfl)))))) (de_one (de_isi t_tuple rfl c.f_isinstance rfl c.f_tuple bt_tuple (by decide) (dr_of_de (de_var (pe_var (i := 4) (x := (Str.ofString "other")) rfl (Or.inr (Or.inl rfl)))))))) (da_cons (de_and (de_isi t_list rfl c.f_isinstance rfl c.f_list bt_list (by decide) (dr_of_de (de_var (pe_var (i := 3) (x := (Str.ofString "one")) rfl (Or.inr (Or.inl rfl)))))) (de_one (de_isi t_list rfl c.f_isinstance rfl c.f_list bt_list (by decide) (dr_of_de (de_var (pe_var (i := 4) (x := (Str.ofString "other")) rfl (Or.inr (Or.inl rfl)))))))) da_nil)))))
    (ds_cons (ds_if (PW.pt (dw_or (dt_cmp (o_nin hu) (dr_of_de (de_bl pe_bl)) (dr_of_de (de_var (pe_var (i := 5) (x := (Str.ofString "alike")) rfl (Or.inl rfl)))) rfl) (dw_or1 (dt_cmp (o_ne hu) (dr_of_de (de_call1 c_len rfl c.f_len bt_len (dr_of_de (de_var (pe_var (i := 3) (x := (Str.ofString "one")) rfl (Or.inr (Or.inl rfl))))))) (dr_of_de (de_call1 c_len rfl c.f_len bt_len (dr_of_de (de_var (pe_var (i := 4) (x := (Str.ofString "other")) rfl (Or.inr (Or.inl rfl))))))) rfl))))
      (ds_one (ds_ret (de_bl pe_bl)))
      ds_nil)
    (ds_one (ds_exprM (dm_ext (pe_var (i := 2) (x := (Str.ofString "waiting")) rfl (Or.inl rfl)) (df_lc (own := [((Str.ofString "left"), 7), ((Str.ofString "right"), 8)]) rfl sc__law_same.nd (di_zip rfl c.f_zip (da_cons (de_var (pe_var (i := 3) (x := (Str.ofString "one")) rfl (Or.inr (Or.inl rfl)))) (da_cons (de_var (pe_var (i := 4) (x := (Str.ofString "other")) rfl (Or.inr (Or.inl rfl)))) da_nil))) (blkOk_by (by kernel_rfl)) (fun _ _ _ _ _ => (pgF (dg_tup rfl (dgs_cons (dg_name (i := 7) sc__law_same.nd rfl (Or.inl rfl)) (dgs_cons (dg_name (i := 8) sc__law_same.nd rfl (Or.inl rfl)) dgs_nil)) gtp2))) (fun _ _ _ _ _ => dts_nilN) (fun _ _ _ _ _ => (de_tupN (da_cons (de_var (pe_var (i := 7) (x := (Str.ofString "left")) rfl (Or.inl rfl))) (da_cons (de_var (pe_var (i := 8) (x := (Str.ofString "right")) rfl (Or.inl rfl))) da_nil)))) rfl))))))))))))))
    (ds_one (ds_ret (de_bl pe_bl)))))
theorem g__law_same (c : Txt w K mg base T) (hS : H__law_same) : FnG pr w K mg base T 2 (Str.ofString "_law_same") ([(Str.ofString "found"), (Str.ofString "due")] : List Str) 2 S__law_same := by
  obtain ⟨f, F, hm⟩ := c.d__law_same
  exact fnG_of F hm sc__law_same rfl (by decide) (fun kV doc pm an cdv ct us h => match us, h with | [_a0, _a1], _ => rfl) (fun B cdv A outer s H E hE hC hr => b__law_same c B cdv A outer s H E hE hC hr) (fun J ds j Q l q => match ds, l, q with | [d0, d1], _, q => hS J d0 d1 j Q q)
theorem G__law_same (c : Txt w K mg base T) : FnG pr w K mg base T 2 (Str.ofString "_law_same") ([(Str.ofString "found"), (Str.ofString "due")] : List Str) 2 S__law_same := g__law_same c h__law_same
theorem sc__law_q : FnScope N__law_q ([(Str.ofString "n"), (Str.ofString "d")] : List Str) (defScope (top 40)) := ⟨rfl, rfl, rfl, by decide, rfl, by decide, by decide⟩
theorem b__law_q (c : Txt w K mg base T) (B : Ent) (cdv : Value) (A : Around) (outer : List Env) (s : Shared) (H : Hp) (E : XK) (hE : EntOk mg T (envOfC (Str.ofString "_law_q") (defScope (top 40)) s.heap.objs.size f cdv).cells B.J) (hC : CodeAt K f cdv) (hr : Room 0 (A.deeper (envOfC (Str.ofString "_law_q") (defScope (top 40)) s.heap.objs.size f cdv))) : PSs (cxB pr w K mg base N__law_q (Str.ofString "_law_q") (top 40) f cdv A outer s H E) (defBody (top 40)) (dS K B (t__law_q B.J)) := by
  have hu := hu100 hr
  exact (ds_cons (ds_par (i := 2) (j := 3) rfl sc__law_q.nd rfl rfl (by decide) rfl rfl (da_cons (de_call1 c_abs rfl c.f_abs bt_abs (dr_of_de (de_var (pe_var (i := 0) (x := (Str.ofString "n")) rfl (Or.inl rfl))))) (da_cons (de_call1 c_abs rfl c.f_abs bt_abs (dr_of_de (de_var (pe_var (i := 1) (x := (Str.ofString "d")) rfl (Or.inl rfl))))) da_nil)) rfl)
    (ds_cons (ds_while PassesOwn.never (dt_cmp (o_gt hu) (dr_of_de (de_var (pe_var (i := 3) (x := (Str.ofString "other")) rfl (Or.inl rfl)))) (dr_of_de (de_int pe_int)) rfl)
      (ds_one (ds_par (i := 2) (j := 3) rfl sc__law_q.nd rfl rfl (by decide) rfl rfl (da_cons (de_var (pe_var (i := 3) (x := (Str.ofString "other")) rfl (Or.inl rfl))) (da_cons (de_bin o_mod (dr_of_de (de_callTy c_int rfl c.f_int bt_int (dr_of_de (de_var (pe_var (i := 2) (x := (Str.ofString "one")) rfl (Or.inl rfl)))))) (dr_of_de (de_var (pe_var (i := 3) (x := (Str.ofString "other")) rfl (Or.inl rfl))))) da_nil)) rfl)))
    (ds_one (ds_ret (de_if (dt_cmp (o_gt hu) (dr_of_de (de_var (pe_var (i := 1) (x := (Str.ofString "d")) rfl (Or.inl rfl)))) (dr_of_de (de_int pe_int)) rfl) (de_tupN (da_cons (de_bin o_fdiv (dr_of_de (de_var (pe_var (i := 0) (x := (Str.ofString "n")) rfl (Or.inl rfl)))) (dr_of_de (de_var (pe_var (i := 2) (x := (Str.ofString "one")) rfl (Or.inl rfl))))) (da_cons (de_bin o_fdiv (dr_of_de (de_var (pe_var (i := 1) (x := (Str.ofString "d")) rfl (Or.inl rfl)))) (dr_of_de (de_var (pe_var (i := 2) (x := (Str.ofString "one")) rfl (Or.inl rfl))))) da_nil))) (de_tupN (da_cons (de_bin o_fdiv (dr_of_de (de_neg (de_var (pe_var (i := 0) (x := (Str.ofString "n")) rfl (Or.inl rfl))))) (dr_of_de (de_var (pe_var (i := 2) (x := (Str.ofString "one")) rfl (Or.inl rfl))))) (da_cons (de_bin o_fdiv (dr_of_de (de_neg (de_var (pe_var (i := 1) (x := (Str.ofString "d")) rfl (Or.inl rfl))))) (dr_of_de (de_var (pe_var (i := 2) (x := (Str.ofString "one")) rfl (Or.inl rfl))))) da_nil))))))))
theorem g__law_q (c : Txt w K mg base T) (hS : H__law_q) : FnG pr w K mg base T 1 (Str.ofString "_law_q") ([(Str.ofString "n"), (Str.ofString "d")] : List Str) 2 S__law_q := by
  obtain ⟨f, F, hm⟩ := c.d__law_q
  exact fnG_of F hm sc__law_q rfl (by decide) (fun kV doc pm an cdv ct us h => match us, h with | [_a0, _a1], _ => rfl) (fun B cdv A outer s H E hE hC hr => b__law_q c B cdv A outer s H E hE hC hr) (fun J ds j Q l q => match ds, l, q with | [d0, d1], _, q => hS J d0 d1 j Q q)
theorem G__law_q (c : Txt w K mg base T) : FnG pr w K mg base T 1 (Str.ofString "_law_q") ([(Str.ofString "n"), (Str.ofString "d")] : List Str) 2 S__law_q := g__law_q c h__law_q
theorem sc__law_times : FnScope N__law_times ([(Str.ofString "one"), (Str.ofString "other")] : List Str) (defScope (top 41)) := ⟨rfl, rfl, rfl, by decide, rfl, by decide, by decide⟩
theorem b__law_times (c : Txt w K mg base T) (B : Ent) (cdv : Value) (A : Around) (outer : List Env) (s : Shared) (H : Hp) (E : XK) (hE : EntOk mg T (envOfC (Str.ofString "_law_times") (defScope (top 41)) s.heap.objs.size f cdv).cells B.J) (hC : CodeAt K f cdv) (hr : Room 1 (A.deeper (envOfC (Str.ofString "_law_times") (defScope (top 41)) s.heap.objs.size f cdv))) : PSs (cxB pr w K mg base N__law_times (Str.ofString "_law_times") (top 41) f cdv A outer s H E) (defBody (top 41)) (dS K B (t__law_times B.J)) := by
  have hu := hu100 hr
  exact (ds_one (ds_ret (de_callG (G__law_q c) ⟨hE.tb, hE.fa⟩ (hr.mono (by decide)) rfl (da_cons (de_bin o_mul (dr_of_de (de_ix (dr_of_de (de_var (pe_var (i := 0) (x := (Str.ofString "one")) rfl (Or.inl rfl)))) (dr_of_de (de_int pe_int)) (fun _ _ => rfl))) (dr_of_de (de_ix (dr_of_de (de_var (pe_var (i := 1) (x := (Str.ofString "other")) rfl (Or.inl rfl)))) (dr_of_de (de_int pe_int)) (fun _ _ => rfl)))) (da_cons (de_bin o_mul (dr_of_de (de_ix (dr_of_de (de_var (pe_var (i := 0) (x := (Str.ofString "one")) rfl (Or.inl rfl)))) (dr_of_de (de_int pe_int)) (fun _ _ => rfl))) (dr_of_de (de_ix (dr_of_de (de_var (pe_var (i := 1) (x := (Str.ofString "other")) rfl (Or.inl rfl)))) (dr_of_de (de_int pe_int)) (fun _ _ => rfl)))) da_nil)))))
theorem g__law_times (c : Txt w K mg base T) (hS : H__law_times) : FnG pr w K mg base T 2 (Str.ofString "_law_times") ([(Str.ofString "one"), (Str.ofString "other")] : List Str) 2 S__law_times := by
  obtain ⟨f, F, hm⟩ := c.d__law_times
  exact fnG_of F hm sc__law_times rfl (by decide) (fun kV doc pm an cdv ct us h => match us, h with | [_a0, _a1], _ => rfl) (fun B cdv A outer s H E hE hC hr => b__law_times c B cdv A outer s H E hE hC hr) (fun J ds j Q l q => match ds, l, q with | [d0, d1], _, q => hS J d0 d1 j Q q)
theorem G__law_times (c : Txt w K mg base T) : FnG pr w K mg base T 2 (Str.ofString "_law_times") ([(Str.ofString "one"), (Str.ofString "other")] : List Str) 2 S__law_times := g__law_times c h__law_times
theorem sc__law_less : FnScope N__law_less ([(Str.ofString "one"), (Str.ofString "other")] : List Str) (defScope (top 42)) := ⟨rfl, rfl, rfl, by decide, rfl, by decide, by decide⟩
theorem b__law_less (c : Txt w K mg base T) (B : Ent) (cdv : Value) (A : Around) (outer : List Env) (s : Shared) (H : Hp) (E : XK) (hE : EntOk mg T (envOfC (Str.ofString "_law_less") (defScope (top 42)) s.heap.objs.size f cdv).cells B.J) (hC : CodeAt K f cdv) (hr : Room 0 (A.deeper (envOfC (Str.ofString "_law_less") (defScope (top 42)) s.heap.objs.size f cdv))) : PSs (cxB pr w K mg base N__law_less (Str.ofString "_law_less") (top 42) f cdv A outer s H E) (defBody (top 42)) (dS K B (t__law_less B.J)) := by
  have hu := hu100 hr
  exact (ds_one (ds_ret (de_cmp (o_lt hu) (dr_of_de (de_bin o_mul (dr_of_de (de_ix (dr_of_de (de_var (pe_var (i := 0) (x := (Str.ofString "one")) rfl (Or.inl rfl)))) (dr_of_de (de_int pe_int)) (fun _ _ => rfl))) (dr_of_de (de_ix (dr_of_de (de_var (pe_var (i := 1) (x := (Str.ofString "other")) rfl (Or.inl rfl)))) (dr_of_de (de_int pe_int)) (fun _ _ => rfl))))) (dr_of_de (de_bin o_mul (dr_of_de (de_ix (dr_of_de (de_var (pe_var (i := 1) (x := (Str.ofString "other")) rfl (Or.inl rfl)))) (dr_of_de (de_int pe_int)) (fun _ _ => rfl))) (dr_of_de (de_ix (dr_of_de (de_var (pe_var (i := 0) (x := (Str.ofString "one")) rfl (Or.inl rfl)))) (dr_of_de (de_int pe_int)) (fun _ _ => rfl))))) rfl)))
theorem g__law_less (c : Txt w K mg base T) (hS : H__law_less) : FnG pr w K mg base T 1 (Str.ofString "_law_less") ([(Str.ofString "one"), (Str.ofString "other")] : List Str) 2 S__law_less := by
  obtain ⟨f, F, hm⟩ := c.d__law_less
  exact fnG_of F hm sc__law_less rfl (by decide) (fun kV doc pm an cdv ct us h => match us, h with | [_a0, _a1], _ => rfl) (fun B cdv A outer s H E hE hC hr => b__law_less c B cdv A outer s H E hE hC hr) (fun J ds j Q l q => match ds, l, q with | [d0, d1], _, q => hS J d0 d1 j Q q)
theorem G__law_less (c : Txt w K mg base T) : FnG pr w K mg base T 1 (Str.ofString "_law_less") ([(Str.ofString "one"), (Str.ofString "other")] : List Str) 2 S__law_less := g__law_less c h__law_less
theorem sc__law_words : FnScope N__law_words ([(Str.ofString "draws"), (Str.ofString "many")] : List Str) (defScope (top 43)) := ⟨rfl, rfl, rfl, by decide, rfl, by decide, by decide⟩
theorem b__law_words (c : Txt w K mg base T) (B : Ent) (cdv : Value) (A : Around) (outer : List Env) (s : Shared) (H : Hp) (E : XK) (hE : EntOk mg T (envOfC (Str.ofString "_law_words") (defScope (top 43)) s.heap.objs.size f cdv).cells B.J) (hC : CodeAt K f cdv) (hr : Room 3 (A.deeper (envOfC (Str.ofString "_law_words") (defScope (top 43)) s.heap.objs.size f cdv))) : PSs (cxB pr w K mg base N__law_words (Str.ofString "_law_words") (top 43) f cdv A outer s H E) (defBody (top 43)) (dS K B (t__law_words B.J)) := by
  have hu := hu100 hr
  exact (ds_cons (ds_set (i := 2) sc__law_words.nd rfl (Or.inl rfl) (de_lst (df_lst da_nil)))
    (ds_cons (ds_while PassesOwn.never (dt_cmp (o_lt hu) (dr_of_de (de_call1 c_len rfl c.f_len bt_len (dr_of_de (de_var (pe_var (i := 2) (x := (Str.ofString "found")) rfl (Or.inl rfl)))))) (dr_of_de (de_var (pe_var (i := 1) (x := (Str.ofString "many")) rfl (Or.inl rfl)))) rfl)
      (ds_cons (ds_set (i := 3) sc__law_words.nd rfl (Or.inl rfl) (de_join (de_str pe_str) (dr_lst (df_lc (own := [((Str.ofString "lap"), 4)]) rfl sc__law_words.nd (di_range1 rfl c.f_range (da_cons (de_bin o_add (dr_of_de (de_int pe_int)) (dr_of_de (de_callG (G__law_draw c) ⟨hE.tb, hE.fa⟩ (hr.mono (by decide)) rfl (da_cons (de_var (pe_var (i := 0) (x := (Str.ofString "draws")) rfl (Or.inr (Or.inl rfl)))) (da_cons (de_int pe_int) da_nil))))) da_nil)) (blkOk_by (by kernel_rfl)) (fun _ _ _ _ _ => (pgT (dg_name (i := 4) sc__law_words.nd rfl (Or.inl rfl)))) (fun _ _ _ _ _ => dts_nilN) (fun _ _ _ _ _ => (de_callG (G__law_pick c) ⟨hE.tb, hE.fa⟩ (hr.mono (by decide)) rfl (da_cons (de_var (pe_var (i := 0) (x := (Str.ofString "draws")) rfl (Or.inr (Or.inl rfl)))) (da_cons (de_lst (df_callTy (c_list rfl) rfl c.f_list bt_list (dr_of_de (de_str pe_str)))) da_nil)))) rfl))))
    (ds_one (ds_set (i := 2) sc__law_words.nd rfl (Or.inl rfl) (de_bin o_add (dr_of_de (de_var (pe_var (i := 2) (x := (Str.ofString "found")) rfl (Or.inl rfl)))) (dr_if (dt_cmp (o_nin hu) (dr_of_de (de_var (pe_var (i := 3) (x := (Str.ofString "word")) rfl (Or.inl rfl)))) (dr_of_de (de_var (pe_var (i := 2) (x := (Str.ofString "found")) rfl (Or.inl rfl)))) rfl) (dr_lst (df_lst (da_cons (de_var (pe_var (i := 3) (x := (Str.ofString "word")) rfl (Or.inl rfl))) da_nil))) (dr_if (PW.pt (dw_and (dt_cmp (o_nin hu) (dr_of_de (de_bin o_add (dr_of_de (de_sl (dr_of_de (de_var (pe_var (i := 3) (x := (Str.ofString "word")) rfl (Or.inl rfl)))) dp_none (dp_some (de_int pe_int)))) (dr_of_de (de_bin o_mul (dr_of_de (de_str pe_str)) (dr_of_de (de_call1 c_len rfl c.f_len bt_len (dr_of_de (de_var (pe_var (i := 2) (x := (Str.ofString "found")) rfl (Or.inl rfl)))))))))) (dr_of_de (de_var (pe_var (i := 2) (x := (Str.ofString "found")) rfl (Or.inl rfl)))) rfl) (dw_and1 (dt_cmp (o_lt hu) (dr_of_de (de_call1 c_len rfl c.f_len bt_len (dr_of_de (de_var (pe_var (i := 2) (x := (Str.ofString "found")) rfl (Or.inl rfl)))))) (dr_of_de (de_int pe_int)) rfl)))) (dr_lst (df_lst (da_cons (de_bin o_add (dr_of_de (de_sl (dr_of_de (de_var (pe_var (i := 3) (x := (Str.ofString "word")) rfl (Or.inl rfl)))) dp_none (dp_some (de_int pe_int)))) (dr_of_de (de_bin o_mul (dr_of_de (de_str pe_str)) (dr_of_de (de_call1 c_len rfl c.f_len bt_len (dr_of_de (de_var (pe_var (i := 2) (x := (Str.ofString "found")) rfl (Or.inl rfl))))))))) da_nil))) (dr_lst (df_lst da_nil)))))))))
    (ds_one (ds_ret (de_lst (df_call1 (c_sorted hu) rfl c.f_sorted bt_sorted (dr_of_de (de_var (pe_var (i := 2) (x := (Str.ofString "found")) rfl (Or.inl rfl))))))))))
theorem g__law_words (c : Txt w K mg base T) (hS : H__law_words) : FnG pr w K mg base T 4 (Str.ofString "_law_words") ([(Str.ofString "draws"), (Str.ofString "many")] : List Str) 2 S__law_words := by
  obtain ⟨f, F, hm⟩ := c.d__law_words
  exact fnG_of F hm sc__law_words rfl (by decide) (fun kV doc pm an cdv ct us h => match us, h with | [_a0, _a1], _ => rfl) (fun B cdv A outer s H E hE hC hr => b__law_words c B cdv A outer s H E hE hC hr) (fun J ds j Q l q => match ds, l, q with | [d0, d1], _, q => hS J d0 d1 j Q q)
theorem G__law_words (c : Txt w K mg base T) : FnG pr w K mg base T 4 (Str.ofString "_law_words") ([(Str.ofString "draws"), (Str.ofString "many")] : List Str) 2 S__law_words := g__law_words c h__law_words
theorem sc__law_odd : FnScope N__law_odd ([(Str.ofString "draws")] : List Str) (defScope (top 44)) := ⟨rfl, rfl, rfl, by decide, rfl, by decide, by decide⟩
theorem b__law_odd (c : Txt w K mg base T) (B : Ent) (cdv : Value) (A : Around) (outer : List Env) (s : Shared) (H : Hp) (E : XK) (hE : EntOk mg T (envOfC (Str.ofString "_law_odd") (defScope (top 44)) s.heap.objs.size f cdv).cells B.J) (hC : CodeAt K f cdv) (hr : Room 3 (A.deeper (envOfC (Str.ofString "_law_odd") (defScope (top 44)) s.heap.objs.size f cdv))) : PSs (cxB pr w K mg base N__law_odd (Str.ofString "_law_odd") (top 44) f cdv A outer s H E) (defBody (top 44)) (dS K B (t__law_odd B.J)) := by
  have hu := hu100 hr
  exact (ds_cons (ds_set (i := 1) sc__law_odd.nd rfl (Or.inl rfl) (de_lst (df_lst (da_cons (de_non pe_non) (da_cons (de_bl pe_bl) (da_cons (de_int pe_int) (da_cons (de_int pe_int) (da_cons (de_str pe_str) (da_cons (de_str pe_str) (da_cons (de_tupN da_nil) (da_cons (de_lst (df_lst da_nil)) (da_cons de_dnew (da_cons (de_tupN (da_cons (de_tupN (da_cons (de_int pe_int) (da_cons (de_int pe_int) da_nil))) (da_cons (de_tupN (da_cons (de_int pe_int) (da_cons (de_int pe_int) da_nil))) da_nil))) (da_cons (de_tupN (da_cons (de_str pe_str) (da_cons (de_str pe_str) da_nil))) (da_cons (de_tupN (da_cons (de_str pe_str) (da_cons (de_str pe_str) da_nil))) (da_cons (de_tupN (da_cons (de_str pe_str) da_nil)) (da_cons (de_tupN (da_cons (de_str pe_str) (da_cons (de_str pe_str) (da_cons (de_str pe_str) (da_cons (de_str pe_str) (da_cons (de_str pe_str) da_nil)))))) da_nil)))))))))))))))))
    (ds_one (ds_ret (de_callG (G__law_pick c) ⟨hE.tb, hE.fa⟩ (hr.mono (by decide)) rfl (da_cons (de_var (pe_var (i := 0) (x := (Str.ofString "draws")) rfl (Or.inl rfl))) (da_cons (de_bin o_add (dr_of_de (de_var (pe_var (i := 1) (x := (Str.ofString "some")) rfl (Or.inl rfl)))) (dr_lst (df_lst (da_cons (de_tupN (da_cons (de_tupN (da_cons (de_str pe_str) (da_cons (de_str pe_str) da_nil))) da_nil)) (da_cons (de_tupN (da_cons (de_tupN (da_cons (de_str pe_str) (da_cons (de_str pe_str) da_nil))) da_nil)) (da_cons (de_lst (df_lst (da_cons (de_str pe_str) da_nil))) (da_cons (de_tupN (da_cons (de_int pe_int) da_nil)) (da_cons (de_dctU hu (de_tupN (da_cons (de_tupN (da_cons (de_int pe_int) (da_cons (de_int pe_int) da_nil))) da_nil))) da_nil)))))))) da_nil))))))
theorem g__law_odd (c : Txt w K mg base T) (hS : H__law_odd) : FnG pr w K mg base T 4 (Str.ofString "_law_odd") ([(Str.ofString "draws")] : List Str) 1 S__law_odd := by
  obtain ⟨f, F, hm⟩ := c.d__law_odd
  exact fnG_of F hm sc__law_odd rfl (by decide) (fun kV doc pm an cdv ct us h => match us, h with | [_a0], _ => rfl) (fun B cdv A outer s H E hE hC hr => b__law_odd c B cdv A outer s H E hE hC hr) (fun J ds j Q l q => match ds, l, q with | [d0], _, q => hS J d0 j Q q)
theorem G__law_odd (c : Txt w K mg base T) : FnG pr w K mg base T 4 (Str.ofString "_law_odd") ([(Str.ofString "draws")] : List Str) 1 S__law_odd := g__law_odd c h__law_odd
theorem sc__law_hb_bent : FnScope N__law_hb_bent ([(Str.ofString "draws"), (Str.ofString "value")] : List Str) (defScope (top 45)) := ⟨rfl, rfl, rfl, by decide, rfl, by decide, by decide⟩
theorem b__law_hb_bent (n : Nat) (c : Txt w K mg base T) (ih : FnG pr w K mg base T (3 + n) (Str.ofString "_law_hb_bent") ([(Str.ofString "draws"), (Str.ofString "value")] : List Str) 2 (Sr__law_hb_bent n)) (B : Ent) (cdv : Value) (A : Around) (outer : List Env) (s : Shared) (H : Hp) (E : XK) (hE : EntOk mg T (envOfC (Str.ofString "_law_hb_bent") (defScope (top 45)) s.heap.objs.size f cdv).cells B.J) (hC : CodeAt K f cdv) (hr : Room (3 + n) (A.deeper (envOfC (Str.ofString "_law_hb_bent") (defScope (top 45)) s.heap.objs.size f cdv))) : PSs (cxB pr w K mg base N__law_hb_bent (Str.ofString "_law_hb_bent") (top 45) f cdv A outer s H E) (defBody (top 45)) (dS K B (t__law_hb_bent n B.J)) := by
  have hu := hu100 hr
  exact (ds_cons (ds_if (PW.pt (dw_and (dt_val (de_isi2 t_tuple t_list rfl c.f_isinstance rfl c.f_tuple bt_tuple (by decide) rfl c.f_list bt_list (by decide) (de_var (pe_var (i := 1) (x := (Str.ofString "value")) rfl (Or.inl rfl))))) (dw_and (dt_cmp (o_gt hu) (dr_of_de (de_call1 c_len rfl c.f_len bt_len (dr_of_de (de_var (pe_var (i := 1) (x := (Str.ofString "value")) rfl (Or.inl rfl)))))) (dr_of_de (de_int pe_int)) rfl) (dw_and1 (dt_cmp (o_gt hu) (dr_of_de (de_callG (G__law_draw c) ⟨hE.tb, hE.fa⟩ (hr.mono (by omega)) rfl (da_cons (de_var (pe_var (i := 0) (x := (Str.ofString "draws")) rfl (Or.inl rfl))) (da_cons (de_int pe_int) da_nil)))) (dr_of_de (de_int pe_int)) rfl)))))
      (ds_cons (ds_par (i := 2) (j := 3) rfl sc__law_hb_bent.nd rfl rfl (by decide) rfl rfl (da_cons (de_callG (G__law_draw c) ⟨hE.tb, hE.fa⟩ (hr.mono (by omega)) rfl (da_cons (de_var (pe_var (i := 0) (x := (Str.ofString "draws")) rfl (Or.inl rfl))) (da_cons (de_call1 c_len rfl c.f_len bt_len (dr_of_de (de_var (pe_var (i := 1) (x := (Str.ofString "value")) rfl (Or.inl rfl))))) da_nil))) (da_cons (de_callG (G__law_draw c) ⟨hE.tb, hE.fa⟩ (hr.mono (by omega)) rfl (da_cons (de_var (pe_var (i := 0) (x := (Str.ofString "draws")) rfl (Or.inl rfl))) (da_cons (de_int pe_int) da_nil))) da_nil)) rfl)
    (ds_cons (ds_setF (i := 4) sc__law_hb_bent.nd rfl (Or.inl rfl) (df_callTy (c_list rfl) rfl c.f_list bt_list (dr_of_de (de_var (pe_var (i := 1) (x := (Str.ofString "value")) rfl (Or.inl rfl))))))
    (ds_cons (ds_if (dt_cmp (o_eq hu) (dr_of_de (de_var (pe_var (i := 3) (x := (Str.ofString "way")) rfl (Or.inl rfl)))) (dr_of_de (de_int pe_int)) rfl)
      (ds_one (ds_exprM (dm_popAt (pe_var (i := 4) (x := (Str.ofString "parts")) rfl (Or.inl rfl)) (dm_of (de_var (pe_var (i := 2) (x := (Str.ofString "at")) rfl (Or.inl rfl)))))))
      (ds_one (ds_if (dt_cmp (o_eq hu) (dr_of_de (de_var (pe_var (i := 3) (x := (Str.ofString "way")) rfl (Or.inl rfl)))) (dr_of_de (de_int pe_int)) rfl)
      (ds_one (ds_exprM (dm_ins (pe_var (i := 4) (x := (Str.ofString "parts")) rfl (Or.inl rfl)) (da_cons (de_var (pe_var (i := 2) (x := (Str.ofString "at")) rfl (Or.inl rfl))) (da_cons (de_ix (dr_var (pe_var (i := 4) (x := (Str.ofString "parts")) rfl (Or.inl rfl))) (dr_of_de (de_var (pe_var (i := 2) (x := (Str.ofString "at")) rfl (Or.inl rfl)))) (fun _ _ => rfl)) da_nil)))))
      (ds_one (ds_if (PW.pt (dw_and (dt_cmp (o_eq hu) (dr_of_de (de_var (pe_var (i := 3) (x := (Str.ofString "way")) rfl (Or.inl rfl)))) (dr_of_de (de_int pe_int)) rfl) (dw_and1 (dt_cmp (o_gt hu) (dr_of_de (de_var (pe_var (i := 2) (x := (Str.ofString "at")) rfl (Or.inl rfl)))) (dr_of_de (de_int pe_int)) rfl))))
      (ds_one (ds_setF (i := 4) sc__law_hb_bent.nd rfl (Or.inl rfl) (df_cat (dr_of_de (de_bin o_add (dr_of_de (de_sl (dr_var (pe_var (i := 4) (x := (Str.ofString "parts")) rfl (Or.inl rfl))) dp_none (dp_some (de_bin o_sub (dr_of_de (de_var (pe_var (i := 2) (x := (Str.ofString "at")) rfl (Or.inl rfl)))) (dr_of_de (de_int pe_int)))))) (dr_lst (df_lst (da_cons (de_ix (dr_var (pe_var (i := 4) (x := (Str.ofString "parts")) rfl (Or.inl rfl))) (dr_of_de (de_var (pe_var (i := 2) (x := (Str.ofString "at")) rfl (Or.inl rfl)))) (fun _ _ => rfl)) (da_cons (de_ix (dr_var (pe_var (i := 4) (x := (Str.ofString "parts")) rfl (Or.inl rfl))) (dr_of_de (de_bin o_sub (dr_of_de (de_var (pe_var (i := 2) (x := (Str.ofString "at")) rfl (Or.inl rfl)))) (dr_of_de (de_int pe_int)))) (fun _ _ => rfl)) da_nil)))))) (dr_of_de (de_sl (dr_var (pe_var (i := 4) (x := (Str.ofString "parts")) rfl (Or.inl rfl))) (dp_some (de_bin o_add (dr_of_de (de_var (pe_var (i := 2) (x := (Str.ofString "at")) rfl (Or.inl rfl)))) (dr_of_de (de_int pe_int)))) dp_none)))))
      (ds_one (ds_setAt (pe_var (i := 4) (x := (Str.ofString "parts")) rfl (Or.inl rfl)) (de_var (pe_var (i := 2) (x := (Str.ofString "at")) rfl (Or.inl rfl))) (de_callG ih ⟨hE.tb, hE.fa⟩ hr rfl (da_cons (de_var (pe_var (i := 0) (x := (Str.ofString "draws")) rfl (Or.inl rfl))) (da_cons (de_ix (dr_var (pe_var (i := 4) (x := (Str.ofString "parts")) rfl (Or.inl rfl))) (dr_of_de (de_var (pe_var (i := 2) (x := (Str.ofString "at")) rfl (Or.inl rfl)))) (fun _ _ => rfl)) da_nil))))))))))
    (ds_one (ds_ret (de_if (dt_val (de_isi t_tuple rfl c.f_isinstance rfl c.f_tuple bt_tuple (by decide) (dr_of_de (de_var (pe_var (i := 1) (x := (Str.ofString "value")) rfl (Or.inl rfl)))))) (de_callTy c_tuple rfl c.f_tuple bt_tuple (dr_var (pe_var (i := 4) (x := (Str.ofString "parts")) rfl (Or.inl rfl)))) (de_var (pe_var (i := 4) (x := (Str.ofString "parts")) rfl (Or.inl rfl)))))))))
      ds_nil)
    (ds_cons (ds_if (PW.pt (dw_and (dt_val (de_isi t_int rfl c.f_isinstance rfl c.f_int bt_int (by decide) (dr_of_de (de_var (pe_var (i := 1) (x := (Str.ofString "value")) rfl (Or.inl rfl)))))) (dw_and1 (dt_not (dt_val (de_isi t_bool rfl c.f_isinstance rfl c.f_bool bt_bool (by decide) (dr_of_de (de_var (pe_var (i := 1) (x := (Str.ofString "value")) rfl (Or.inl rfl))))))))))
      (ds_one (ds_ret (de_callG (G__law_pick c) ⟨hE.tb, hE.fa⟩ (hr.mono (by omega)) rfl (da_cons (de_var (pe_var (i := 0) (x := (Str.ofString "draws")) rfl (Or.inl rfl))) (da_cons (de_lst (df_lst (da_cons (de_bin o_add (dr_of_de (de_var (pe_var (i := 1) (x := (Str.ofString "value")) rfl (Or.inl rfl)))) (dr_of_de (de_int pe_int))) (da_cons (de_bin o_sub (dr_of_de (de_var (pe_var (i := 1) (x := (Str.ofString "value")) rfl (Or.inl rfl)))) (dr_of_de (de_int pe_int))) (da_cons (de_bin o_sub (dr_of_de (de_int pe_int)) (dr_of_de (de_var (pe_var (i := 1) (x := (Str.ofString "value")) rfl (Or.inl rfl))))) (da_cons (de_non pe_non) (da_cons (de_str pe_str) (da_cons (de_cmp (o_eq hu) (dr_of_de (de_var (pe_var (i := 1) (x := (Str.ofString "value")) rfl (Or.inl rfl)))) (dr_of_de (de_int pe_int)) rfl) (da_cons (de_int pe_int) (da_cons (de_int pe_int) da_nil)))))))))) da_nil)))))
      ds_nil)
    (ds_one (ds_ret (de_callG (G__law_pick c) ⟨hE.tb, hE.fa⟩ (hr.mono (by omega)) rfl (da_cons (de_var (pe_var (i := 0) (x := (Str.ofString "draws")) rfl (Or.inl rfl))) (da_cons (de_lst (df_lst (da_cons (de_non pe_non) (da_cons (de_tupN da_nil) (da_cons (de_int pe_int) (da_cons (de_int pe_int) (da_cons (de_int pe_int) (da_cons (de_str pe_str) (da_cons (de_str pe_str) (da_cons (de_str pe_str) (da_cons (de_str pe_str) (da_cons de_dnew (da_cons (de_tupN (da_cons (de_int pe_int) (da_cons (de_int pe_int) da_nil))) (da_cons (de_tupN (da_cons (de_int pe_int) (da_cons (de_int pe_int) da_nil))) da_nil)))))))))))))) da_nil)))))))
theorem z__law_hb_bent (c : Txt w K mg base T) : ∀ n, FnG pr w K mg base T (3 + n) (Str.ofString "_law_hb_bent") ([(Str.ofString "draws"), (Str.ofString "value")] : List Str) 2 (Sr__law_hb_bent n)
  | 0 => fnG_none c.d__law_hb_bent (fun kV doc pm an cdv ct us h => match us, h with | [_a0, _a1], _ => rfl)
  | n + 1 => by
    obtain ⟨f, F, hm⟩ := c.d__law_hb_bent
    exact fnG_of F hm sc__law_hb_bent rfl (by decide) (fun kV doc pm an cdv ct us h => match us, h with | [_a0, _a1], _ => rfl) (fun B cdv A outer s H E hE hC hr => b__law_hb_bent n c (z__law_hb_bent c n) B cdv A outer s H E hE hC hr) (fun J ds j Q l q => match ds, l, q with | [d0, d1], _, q => h__law_hb_bent n J d0 d1 j Q q)
theorem G__law_hb_bent (c : Txt w K mg base T) : FnG pr w K mg base T 9 (Str.ofString "_law_hb_bent") ([(Str.ofString "draws"), (Str.ofString "value")] : List Str) 2 S__law_hb_bent := z__law_hb_bent c 6
theorem sc__law_hb_names : FnScope N__law_hb_names ([(Str.ofString "draws"), (Str.ofString "most")] : List Str) (defScope (top 46)) := ⟨rfl, rfl, rfl, by decide, rfl, by decide, by decide⟩
theorem b__law_hb_names (c : Txt w K mg base T) (B : Ent) (cdv : Value) (A : Around) (outer : List Env) (s : Shared) (H : Hp) (E : XK) (hE : EntOk mg T (envOfC (Str.ofString "_law_hb_names") (defScope (top 46)) s.heap.objs.size f cdv).cells B.J) (hC : CodeAt K f cdv) (hr : Room 4 (A.deeper (envOfC (Str.ofString "_law_hb_names") (defScope (top 46)) s.heap.objs.size f cdv))) : PSs (cxB pr w K mg base N__law_hb_names (Str.ofString "_law_hb_names") (top 46) f cdv A outer s H E) (defBody (top 46)) (dS K B (t__law_hb_names B.J)) := by
  have hu := hu100 hr
  exact (ds_one (ds_ret (de_callTy c_tuple rfl c.f_tuple bt_tuple (dr_of_de (de_callG (G__law_words c) ⟨hE.tb, hE.fa⟩ (hr.mono (by decide)) rfl (da_cons (de_var (pe_var (i := 0) (x := (Str.ofString "draws")) rfl (Or.inl rfl))) (da_cons (de_bin o_add (dr_of_de (de_int pe_int)) (dr_of_de (de_callG (G__law_draw c) ⟨hE.tb, hE.fa⟩ (hr.mono (by decide)) rfl (da_cons (de_var (pe_var (i := 0) (x := (Str.ofString "draws")) rfl (Or.inl rfl))) (da_cons (de_var (pe_var (i := 1) (x := (Str.ofString "most")) rfl (Or.inl rfl))) da_nil))))) da_nil)))))))
theorem g__law_hb_names (c : Txt w K mg base T) (hS : H__law_hb_names) : FnG pr w K mg base T 5 (Str.ofString "_law_hb_names") ([(Str.ofString "draws"), (Str.ofString "most")] : List Str) 2 S__law_hb_names := by
  obtain ⟨f, F, hm⟩ := c.d__law_hb_names
  exact fnG_of F hm sc__law_hb_names rfl (by decide) (fun kV doc pm an cdv ct us h => match us, h with | [_a0, _a1], _ => rfl) (fun B cdv A outer s H E hE hC hr => b__law_hb_names c B cdv A outer s H E hE hC hr) (fun J ds j Q l q => match ds, l, q with | [d0, d1], _, q => hS J d0 d1 j Q q)
theorem G__law_hb_names (c : Txt w K mg base T) : FnG pr w K mg base T 5 (Str.ofString "_law_hb_names") ([(Str.ofString "draws"), (Str.ofString "most")] : List Str) 2 S__law_hb_names := g__law_hb_names c h__law_hb_names
theorem sc__law_hb_crowd : FnScope N__law_hb_crowd ([(Str.ofString "draws"), (Str.ofString "most")] : List Str) (defScope (top 47)) := ⟨rfl, rfl, rfl, by decide, rfl, by decide, by decide⟩
theorem b__law_hb_crowd (c : Txt w K mg base T) (B : Ent) (cdv : Value) (A : Around) (outer : List Env) (s : Shared) (H : Hp) (E : XK) (hE : EntOk mg T (envOfC (Str.ofString "_law_hb_crowd") (defScope (top 47)) s.heap.objs.size f cdv).cells B.J) (hC : CodeAt K f cdv) (hr : Room 5 (A.deeper (envOfC (Str.ofString "_law_hb_crowd") (defScope (top 47)) s.heap.objs.size f cdv))) : PSs (cxB pr w K mg base N__law_hb_crowd (Str.ofString "_law_hb_crowd") (top 47) f cdv A outer s H E) (defBody (top 47)) (dS K B (t__law_hb_crowd B.J)) := by
  have hu := hu100 hr
  exact (ds_cons (ds_asg (de_tupN (da_cons (de_callG (G__law_hb_names c) ⟨hE.tb, hE.fa⟩ (hr.mono (by decide)) rfl (da_cons (de_var (pe_var (i := 0) (x := (Str.ofString "draws")) rfl (Or.inr (Or.inl rfl)))) (da_cons (de_var (pe_var (i := 1) (x := (Str.ofString "most")) rfl (Or.inl rfl))) da_nil))) (da_cons (de_bin o_add (dr_of_de (de_int pe_int)) (dr_of_de (de_callG (G__law_draw c) ⟨hE.tb, hE.fa⟩ (hr.mono (by decide)) rfl (da_cons (de_var (pe_var (i := 0) (x := (Str.ofString "draws")) rfl (Or.inr (Or.inl rfl)))) (da_cons (de_int pe_int) da_nil))))) da_nil))) (dgn_of (dg_tup rfl (dgs_cons (dg_name (i := 2) sc__law_hb_crowd.nd rfl (Or.inl rfl)) (dgs_cons (dg_name (i := 3) sc__law_hb_crowd.nd rfl (Or.inr rfl)) dgs_nil)) gtp2)))
    (ds_cons (ds_setF (i := 4) sc__law_hb_crowd.nd rfl (Or.inl rfl) (df_lst da_nil))
    (ds_cons (ds_for PassesOwn.never rfl (di_enum rfl c.f_enumerate (da_cons (de_var (pe_var (i := 2) (x := (Str.ofString "people")) rfl (Or.inl rfl))) da_nil)) (pgF (dg_tup rfl (dgs_cons (dg_name (i := 5) sc__law_hb_crowd.nd rfl (Or.inl rfl)) (dgs_cons (dg_name (i := 6) sc__law_hb_crowd.nd rfl (Or.inr rfl)) dgs_nil)) gtp2))
      (ds_one (ds_exprM (dm_ext (pe_var (i := 4) (x := (Str.ofString "ties")) rfl (Or.inl rfl)) (df_lc (own := [((Str.ofString "other"), 12)]) rfl sc__law_hb_crowd.nd (di_seq (de_sl (dr_of_de (de_var (pe_var (i := 2) (x := (Str.ofString "people")) rfl (Or.inl rfl)))) (dp_some (de_bin o_add (dr_of_de (de_var (pe_var (i := 5) (x := (Str.ofString "at")) rfl (Or.inl rfl)))) (dr_of_de (de_int pe_int)))) dp_none)) (blkOk_by (by kernel_rfl)) (fun _ _ _ _ _ => (pgT (dg_name (i := 12) sc__law_hb_crowd.nd rfl (Or.inl rfl)))) (fun _ _ _ _ _ => (dts_one (dt_cmp (o_lt hu) (dr_of_de (de_callG (G__law_draw c) ⟨hE.tb, hE.fa⟩ (hr.mono (by decide)) rfl (da_cons (de_var (pe_var (i := 0) (x := (Str.ofString "draws")) rfl (Or.inr (Or.inl rfl)))) (da_cons (de_int pe_int) da_nil)))) (dr_of_de (de_var (pe_var (i := 3) (x := (Str.ofString "thick")) rfl (Or.inr (Or.inl rfl))))) rfl))) (fun _ _ _ _ _ => (de_tupN (da_cons (de_var (pe_var (i := 6) (x := (Str.ofString "one")) rfl (Or.inr (Or.inl rfl)))) (da_cons (de_var (pe_var (i := 12) (x := (Str.ofString "other")) rfl (Or.inl rfl))) da_nil)))) rfl)))))
    (ds_cons (ds_par (i := 7) (j := 8) rfl sc__law_hb_crowd.nd rfl rfl (by decide) rfl rfl (da_cons (de_callG (G__law_draw c) ⟨hE.tb, hE.fa⟩ (hr.mono (by decide)) rfl (da_cons (de_var (pe_var (i := 0) (x := (Str.ofString "draws")) rfl (Or.inr (Or.inl rfl)))) (da_cons (de_int pe_int) da_nil))) (da_cons (de_callG (G__law_pick c) ⟨hE.tb, hE.fa⟩ (hr.mono (by decide)) rfl (da_cons (de_var (pe_var (i := 0) (x := (Str.ofString "draws")) rfl (Or.inr (Or.inl rfl)))) (da_cons (de_lst (df_lst (da_cons (de_tupN (da_cons (de_int pe_int) (da_cons (de_int pe_int) da_nil))) (da_cons (de_tupN (da_cons (de_int pe_int) (da_cons (de_int pe_int) da_nil))) (da_cons (de_tupN (da_cons (de_int pe_int) (da_cons (de_int pe_int) da_nil))) (da_cons (de_tupN (da_cons (de_int pe_int) (da_cons (de_int pe_int) da_nil))) (da_cons (de_tupN (da_cons (de_int pe_int) (da_cons (de_int pe_int) da_nil))) da_nil))))))) da_nil))) da_nil)) rfl)
    (ds_cons (ds_setF (i := 9) sc__law_hb_crowd.nd rfl (Or.inl rfl) (df_lst da_nil))
    (ds_cons (ds_for PassesOwn.never rfl (di_seq (de_var (pe_var (i := 2) (x := (Str.ofString "people")) rfl (Or.inl rfl)))) (pgT (dg_name (i := 10) sc__law_hb_crowd.nd rfl (Or.inl rfl)))
      (ds_cons (ds_set (i := 11) sc__law_hb_crowd.nd rfl (Or.inl rfl) (de_callG (G__law_q c) ⟨hE.tb, hE.fa⟩ (hr.mono (by decide)) rfl (da_cons (de_callG (G__law_draw c) ⟨hE.tb, hE.fa⟩ (hr.mono (by decide)) rfl (da_cons (de_var (pe_var (i := 0) (x := (Str.ofString "draws")) rfl (Or.inr (Or.inl rfl)))) (da_cons (de_int pe_int) da_nil))) (da_cons (de_int pe_int) da_nil))))
    (ds_one (ds_exprM (dm_app (pe_var (i := 9) (x := (Str.ofString "needs")) rfl (Or.inl rfl)) (dm_of (de_if (dt_cmp (o_eq hu) (dr_of_de (de_var (pe_var (i := 7) (x := (Str.ofString "way")) rfl (Or.inl rfl)))) (dr_of_de (de_int pe_int)) rfl) (de_var (pe_var (i := 8) (x := (Str.ofString "same")) rfl (Or.inl rfl))) (de_if (dt_cmp (o_eq hu) (dr_of_de (de_var (pe_var (i := 7) (x := (Str.ofString "way")) rfl (Or.inl rfl)))) (dr_of_de (de_int pe_int)) rfl) (de_var (pe_var (i := 11) (x := (Str.ofString "drawn")) rfl (Or.inl rfl))) (de_callG (G__law_pick c) ⟨hE.tb, hE.fa⟩ (hr.mono (by decide)) rfl (da_cons (de_var (pe_var (i := 0) (x := (Str.ofString "draws")) rfl (Or.inr (Or.inl rfl)))) (da_cons (de_lst (df_lst (da_cons (de_tupN (da_cons (de_int pe_int) (da_cons (de_int pe_int) da_nil))) (da_cons (de_tupN (da_cons (de_int pe_int) (da_cons (de_int pe_int) da_nil))) (da_cons (de_tupN (da_cons (de_int pe_int) (da_cons (de_int pe_int) da_nil))) (da_cons (de_tupN (da_cons (de_int pe_int) (da_cons (de_int pe_int) da_nil))) (da_cons (de_tupN (da_cons (de_int pe_int) (da_cons (de_int pe_int) da_nil))) (da_cons (de_var (pe_var (i := 11) (x := (Str.ofString "drawn")) rfl (Or.inl rfl))) da_nil)))))))) da_nil)))))))))))
    (ds_one (ds_ret (de_tupN (da_cons (de_str pe_str) (da_cons (de_var (pe_var (i := 2) (x := (Str.ofString "people")) rfl (Or.inl rfl))) (da_cons (de_callTy c_tuple rfl c.f_tuple bt_tuple (dr_var (pe_var (i := 4) (x := (Str.ofString "ties")) rfl (Or.inl rfl)))) (da_cons (de_callTy c_tuple rfl c.f_tuple bt_tuple (dr_var (pe_var (i := 9) (x := (Str.ofString "needs")) rfl (Or.inl rfl)))) da_nil)))))))))))))
theorem g__law_hb_crowd (c : Txt w K mg base T) (hS : H__law_hb_crowd) : FnG pr w K mg base T 6 (Str.ofString "_law_hb_crowd") ([(Str.ofString "draws"), (Str.ofString "most")] : List Str) 2 S__law_hb_crowd := by
  obtain ⟨f, F, hm⟩ := c.d__law_hb_crowd
  exact fnG_of F hm sc__law_hb_crowd rfl (by decide) (fun kV doc pm an cdv ct us h => match us, h with | [_a0, _a1], _ => rfl) (fun B cdv A outer s H E hE hC hr => b__law_hb_crowd c B cdv A outer s H E hE hC hr) (fun J ds j Q l q => match ds, l, q with | [d0, d1], _, q => hS J d0 d1 j Q q)
theorem G__law_hb_crowd (c : Txt w K mg base T) : FnG pr w K mg base T 6 (Str.ofString "_law_hb_crowd") ([(Str.ofString "draws"), (Str.ofString "most")] : List Str) 2 S__law_hb_crowd := g__law_hb_crowd c h__law_hb_crowd
theorem sc__law_hb_is_lot : FnScope N__law_hb_is_lot ([(Str.ofString "people"), (Str.ofString "value")] : List Str) (defScope (top 48)) := ⟨rfl, rfl, rfl, by decide, rfl, by decide, by decide⟩
theorem b__law_hb_is_lot (c : Txt w K mg base T) (B : Ent) (cdv : Value) (A : Around) (outer : List Env) (s : Shared) (H : Hp) (E : XK) (hE : EntOk mg T (envOfC (Str.ofString "_law_hb_is_lot") (defScope (top 48)) s.heap.objs.size f cdv).cells B.J) (hC : CodeAt K f cdv) (hr : Room 0 (A.deeper (envOfC (Str.ofString "_law_hb_is_lot") (defScope (top 48)) s.heap.objs.size f cdv))) : PSs (cxB pr w K mg base N__law_hb_is_lot (Str.ofString "_law_hb_is_lot") (top 48) f cdv A outer s H E) (defBody (top 48)) (dS K B (t__law_hb_is_lot B.J)) := by
  have hu := hu100 hr
  exact (ds_cons (ds_if (PW.pt (dw_or (dt_not (dt_val (de_isi t_tuple rfl c.f_isinstance rfl c.f_tuple bt_tuple (by decide) (dr_of_de (de_var (pe_var (i := 1) (x := (Str.ofString "value")) rfl (Or.inl rfl))))))) (dw_or1 (dt_cmp (o_ne hu) (dr_lst (df_lc (own := [((Str.ofString "one"), 2)]) rfl sc__law_hb_is_lot.nd (di_seq (de_var (pe_var (i := 1) (x := (Str.ofString "value")) rfl (Or.inl rfl)))) (blkOk_by (by kernel_rfl)) (fun _ _ _ _ _ => (pgT (dg_name (i := 2) sc__law_hb_is_lot.nd rfl (Or.inl rfl)))) (fun _ _ _ _ _ => (dts_one (PW.pt (dw_or (dt_not (dt_val (de_isi t_str rfl c.f_isinstance rfl c.f_str bt_str (by decide) (dr_of_de (de_var (pe_var (i := 2) (x := (Str.ofString "one")) rfl (Or.inl rfl))))))) (dw_or1 (dt_cmp (o_nin hu) (dr_of_de (de_var (pe_var (i := 2) (x := (Str.ofString "one")) rfl (Or.inl rfl)))) (dr_of_de (de_var (pe_var (i := 0) (x := (Str.ofString "people")) rfl (Or.inr (Or.inl rfl))))) rfl)))))) (fun _ _ _ _ _ => (de_int pe_int)) rfl)) (dr_lst (df_lst da_nil)) rfl))))
      (ds_one (ds_ret (de_bl pe_bl)))
      ds_nil)
    (ds_one (ds_ret (de_cmp (o_eq hu) (dr_lst (df_callTy (c_list rfl) rfl c.f_list bt_list (dr_of_de (de_var (pe_var (i := 1) (x := (Str.ofString "value")) rfl (Or.inl rfl)))))) (dr_lst (df_sortSet hu rfl rfl c.f_sorted rfl c.f_set (dr_of_de (de_var (pe_var (i := 1) (x := (Str.ofString "value")) rfl (Or.inl rfl)))))) rfl))))
theorem g__law_hb_is_lot (c : Txt w K mg base T) (hS : H__law_hb_is_lot) : FnG pr w K mg base T 1 (Str.ofString "_law_hb_is_lot") ([(Str.ofString "people"), (Str.ofString "value")] : List Str) 2 S__law_hb_is_lot := by
  obtain ⟨f, F, hm⟩ := c.d__law_hb_is_lot
  exact fnG_of F hm sc__law_hb_is_lot rfl (by decide) (fun kV doc pm an cdv ct us h => match us, h with | [_a0, _a1], _ => rfl) (fun B cdv A outer s H E hE hC hr => b__law_hb_is_lot c B cdv A outer s H E hE hC hr) (fun J ds j Q l q => match ds, l, q with | [d0, d1], _, q => hS J d0 d1 j Q q)
theorem G__law_hb_is_lot (c : Txt w K mg base T) : FnG pr w K mg base T 1 (Str.ofString "_law_hb_is_lot") ([(Str.ofString "people"), (Str.ofString "value")] : List Str) 2 S__law_hb_is_lot := g__law_hb_is_lot c h__law_hb_is_lot
theorem sc__law_hb_near : FnScope N__law_hb_near ([(Str.ofString "crowd"), (Str.ofString "person")] : List Str) (defScope (top 49)) := ⟨rfl, rfl, rfl, by decide, rfl, by decide, by decide⟩
theorem b__law_hb_near (c : Txt w K mg base T) (B : Ent) (cdv : Value) (A : Around) (outer : List Env) (s : Shared) (H : Hp) (E : XK) (hE : EntOk mg T (envOfC (Str.ofString "_law_hb_near") (defScope (top 49)) s.heap.objs.size f cdv).cells B.J) (hC : CodeAt K f cdv) (hr : Room 0 (A.deeper (envOfC (Str.ofString "_law_hb_near") (defScope (top 49)) s.heap.objs.size f cdv))) : PSs (cxB pr w K mg base N__law_hb_near (Str.ofString "_law_hb_near") (top 49) f cdv A outer s H E) (defBody (top 49)) (dS K B (t__law_hb_near B.J)) := by
  have hu := hu100 hr
  exact (ds_one (ds_ret (de_lst (df_lc (own := [((Str.ofString "one"), 2), ((Str.ofString "other"), 3)]) rfl sc__law_hb_near.nd (di_seq (de_ix (dr_of_de (de_var (pe_var (i := 0) (x := (Str.ofString "crowd")) rfl (Or.inl rfl)))) (dr_of_de (de_int pe_int)) (fun _ _ => rfl))) (blkOk_by (by kernel_rfl)) (fun _ _ _ _ _ => (pgT (dgn_of (dg_tup rfl (dgs_cons (dg_name (i := 2) sc__law_hb_near.nd rfl (Or.inl rfl)) (dgs_cons (dg_name (i := 3) sc__law_hb_near.nd rfl (Or.inl rfl)) dgs_nil)) gtp2)))) (fun _ _ _ _ _ => (dts_one (dt_cmp (o_in hu) (dr_of_de (de_var (pe_var (i := 1) (x := (Str.ofString "person")) rfl (Or.inr (Or.inl rfl))))) (dr_of_de (de_tupN (da_cons (de_var (pe_var (i := 2) (x := (Str.ofString "one")) rfl (Or.inl rfl))) (da_cons (de_var (pe_var (i := 3) (x := (Str.ofString "other")) rfl (Or.inl rfl))) da_nil)))) rfl))) (fun _ _ _ _ _ => (de_if (dt_cmp (o_eq hu) (dr_of_de (de_var (pe_var (i := 3) (x := (Str.ofString "other")) rfl (Or.inl rfl)))) (dr_of_de (de_var (pe_var (i := 1) (x := (Str.ofString "person")) rfl (Or.inr (Or.inl rfl))))) rfl) (de_var (pe_var (i := 2) (x := (Str.ofString "one")) rfl (Or.inl rfl))) (de_var (pe_var (i := 3) (x := (Str.ofString "other")) rfl (Or.inl rfl))))) rfl))))
theorem g__law_hb_near (c : Txt w K mg base T) (hS : H__law_hb_near) : FnG pr w K mg base T 1 (Str.ofString "_law_hb_near") ([(Str.ofString "crowd"), (Str.ofString "person")] : List Str) 2 S__law_hb_near := by
  obtain ⟨f, F, hm⟩ := c.d__law_hb_near
  exact fnG_of F hm sc__law_hb_near rfl (by decide) (fun kV doc pm an cdv ct us h => match us, h with | [_a0, _a1], _ => rfl) (fun B cdv A outer s H E hE hC hr => b__law_hb_near c B cdv A outer s H E hE hC hr) (fun J ds j Q l q => match ds, l, q with | [d0, d1], _, q => hS J d0 d1 j Q q)
theorem G__law_hb_near (c : Txt w K mg base T) : FnG pr w K mg base T 1 (Str.ofString "_law_hb_near") ([(Str.ofString "crowd"), (Str.ofString "person")] : List Str) 2 S__law_hb_near := g__law_hb_near c h__law_hb_near
theorem sc__law_hb_takes : FnScope N__law_hb_takes ([(Str.ofString "crowd"), (Str.ofString "lot"), (Str.ofString "person")] : List Str) (defScope (top 50)) := ⟨rfl, rfl, rfl, by decide, rfl, by decide, by decide⟩
theorem b__law_hb_takes (c : Txt w K mg base T) (B : Ent) (cdv : Value) (A : Around) (outer : List Env) (s : Shared) (H : Hp) (E : XK) (hE : EntOk mg T (envOfC (Str.ofString "_law_hb_takes") (defScope (top 50)) s.heap.objs.size f cdv).cells B.J) (hC : CodeAt K f cdv) (hr : Room 2 (A.deeper (envOfC (Str.ofString "_law_hb_takes") (defScope (top 50)) s.heap.objs.size f cdv))) : PSs (cxB pr w K mg base N__law_hb_takes (Str.ofString "_law_hb_takes") (top 50) f cdv A outer s H E) (defBody (top 50)) (dS K B (t__law_hb_takes B.J)) := by
  have hu := hu100 hr
  exact (ds_cons (ds_set (i := 3) sc__law_hb_takes.nd rfl (Or.inl rfl) (de_callG (G__law_hb_near c) ⟨hE.tb, hE.fa⟩ (hr.mono (by decide)) rfl (da_cons (de_var (pe_var (i := 0) (x := (Str.ofString "crowd")) rfl (Or.inl rfl))) (da_cons (de_var (pe_var (i := 2) (x := (Str.ofString "person")) rfl (Or.inl rfl))) da_nil))))
    (ds_cons (ds_par (i := 4) (j := 5) rfl sc__law_hb_takes.nd rfl rfl (by decide) rfl rfl (da_cons (de_call1 c_len rfl c.f_len bt_len (dr_lst (df_lc (own := [((Str.ofString "one"), 6)]) rfl sc__law_hb_takes.nd (di_seq (de_var (pe_var (i := 3) (x := (Str.ofString "own")) rfl (Or.inl rfl)))) (blkOk_by (by kernel_rfl)) (fun _ _ _ _ _ => (pgT (dg_name (i := 6) sc__law_hb_takes.nd rfl (Or.inl rfl)))) (fun _ _ _ _ _ => (dts_one (dt_cmp (o_in hu) (dr_of_de (de_var (pe_var (i := 6) (x := (Str.ofString "one")) rfl (Or.inl rfl)))) (dr_of_de (de_var (pe_var (i := 1) (x := (Str.ofString "lot")) rfl (Or.inr (Or.inl rfl))))) rfl))) (fun _ _ _ _ _ => (de_var (pe_var (i := 6) (x := (Str.ofString "one")) rfl (Or.inl rfl)))) rfl))) (da_cons (de_ix (dr_of_de (de_ix (dr_of_de (de_var (pe_var (i := 0) (x := (Str.ofString "crowd")) rfl (Or.inl rfl)))) (dr_of_de (de_int pe_int)) (fun _ _ => rfl))) (dr_of_de (de_index (de_ix (dr_of_de (de_var (pe_var (i := 0) (x := (Str.ofString "crowd")) rfl (Or.inl rfl)))) (dr_of_de (de_int pe_int)) (fun _ _ => rfl)) (de_var (pe_var (i := 2) (x := (Str.ofString "person")) rfl (Or.inl rfl))))) (fun _ _ => rfl)) da_nil)) rfl)
    (ds_one (ds_ret (de_and (de_cmp (o_gt hu) (dr_of_de (de_var (pe_var (i := 4) (x := (Str.ofString "count")) rfl (Or.inl rfl)))) (dr_of_de (de_int pe_int)) rfl) (de_one (de_not (de_callG (G__law_less c) ⟨hE.tb, hE.fa⟩ (hr.mono (by decide)) rfl (da_cons (de_tupN (da_cons (de_var (pe_var (i := 4) (x := (Str.ofString "count")) rfl (Or.inl rfl))) (da_cons (de_int pe_int) da_nil))) (da_cons (de_callG (G__law_times c) ⟨hE.tb, hE.fa⟩ (hr.mono (by decide)) rfl (da_cons (de_var (pe_var (i := 5) (x := (Str.ofString "need")) rfl (Or.inl rfl))) (da_cons (de_tupN (da_cons (de_call1 c_len rfl c.f_len bt_len (dr_of_de (de_var (pe_var (i := 3) (x := (Str.ofString "own")) rfl (Or.inl rfl))))) (da_cons (de_int pe_int) da_nil))) da_nil))) da_nil))))))))))
theorem g__law_hb_takes (c : Txt w K mg base T) (hS : H__law_hb_takes) : FnG pr w K mg base T 3 (Str.ofString "_law_hb_takes") ([(Str.ofString "crowd"), (Str.ofString "lot"), (Str.ofString "person")] : List Str) 3 S__law_hb_takes := by
  obtain ⟨f, F, hm⟩ := c.d__law_hb_takes
  exact fnG_of F hm sc__law_hb_takes rfl (by decide) (fun kV doc pm an cdv ct us h => match us, h with | [_a0, _a1, _a2], _ => rfl) (fun B cdv A outer s H E hE hC hr => b__law_hb_takes c B cdv A outer s H E hE hC hr) (fun J ds j Q l q => match ds, l, q with | [d0, d1, d2], _, q => hS J d0 d1 d2 j Q q)
theorem G__law_hb_takes (c : Txt w K mg base T) : FnG pr w K mg base T 3 (Str.ofString "_law_hb_takes") ([(Str.ofString "crowd"), (Str.ofString "lot"), (Str.ofString "person")] : List Str) 3 S__law_hb_takes := g__law_hb_takes c h__law_hb_takes
theorem sc__law_hb_taking : FnScope N__law_hb_taking ([(Str.ofString "crowd"), (Str.ofString "lot")] : List Str) (defScope (top 51)) := ⟨rfl, rfl, rfl, by decide, rfl, by decide, by decide⟩
theorem b__law_hb_taking (c : Txt w K mg base T) (B : Ent) (cdv : Value) (A : Around) (outer : List Env) (s : Shared) (H : Hp) (E : XK) (hE : EntOk mg T (envOfC (Str.ofString "_law_hb_taking") (defScope (top 51)) s.heap.objs.size f cdv).cells B.J) (hC : CodeAt K f cdv) (hr : Room 3 (A.deeper (envOfC (Str.ofString "_law_hb_taking") (defScope (top 51)) s.heap.objs.size f cdv))) : PSs (cxB pr w K mg base N__law_hb_taking (Str.ofString "_law_hb_taking") (top 51) f cdv A outer s H E) (defBody (top 51)) (dS K B (t__law_hb_taking B.J)) := by
  have hu := hu100 hr
  exact (ds_one (ds_ret (de_callTy c_tuple rfl c.f_tuple bt_tuple (dr_lst (df_lc (own := [((Str.ofString "person"), 2)]) rfl sc__law_hb_taking.nd (di_seq (de_ix (dr_of_de (de_var (pe_var (i := 0) (x := (Str.ofString "crowd")) rfl (Or.inr (Or.inl rfl))))) (dr_of_de (de_int pe_int)) (fun _ _ => rfl))) (blkOk_by (by kernel_rfl)) (fun _ _ _ _ _ => (pgT (dg_name (i := 2) sc__law_hb_taking.nd rfl (Or.inl rfl)))) (fun _ _ _ _ _ => (dts_one (PW.pt (dw_and (dt_cmp (o_nin hu) (dr_of_de (de_var (pe_var (i := 2) (x := (Str.ofString "person")) rfl (Or.inl rfl)))) (dr_of_de (de_var (pe_var (i := 1) (x := (Str.ofString "lot")) rfl (Or.inr (Or.inl rfl))))) rfl) (dw_and1 (dt_val (de_callG (G__law_hb_takes c) ⟨hE.tb, hE.fa⟩ (hr.mono (by decide)) rfl (da_cons (de_var (pe_var (i := 0) (x := (Str.ofString "crowd")) rfl (Or.inr (Or.inl rfl)))) (da_cons (de_var (pe_var (i := 1) (x := (Str.ofString "lot")) rfl (Or.inr (Or.inl rfl)))) (da_cons (de_var (pe_var (i := 2) (x := (Str.ofString "person")) rfl (Or.inl rfl))) da_nil)))))))))) (fun _ _ _ _ _ => (de_var (pe_var (i := 2) (x := (Str.ofString "person")) rfl (Or.inl rfl)))) rfl)))))
theorem g__law_hb_taking (c : Txt w K mg base T) (hS : H__law_hb_taking) : FnG pr w K mg base T 4 (Str.ofString "_law_hb_taking") ([(Str.ofString "crowd"), (Str.ofString "lot")] : List Str) 2 S__law_hb_taking := by
  obtain ⟨f, F, hm⟩ := c.d__law_hb_taking
  exact fnG_of F hm sc__law_hb_taking rfl (by decide) (fun kV doc pm an cdv ct us h => match us, h with | [_a0, _a1], _ => rfl) (fun B cdv A outer s H E hE hC hr => b__law_hb_taking c B cdv A outer s H E hE hC hr) (fun J ds j Q l q => match ds, l, q with | [d0, d1], _, q => hS J d0 d1 j Q q)
theorem G__law_hb_taking (c : Txt w K mg base T) : FnG pr w K mg base T 4 (Str.ofString "_law_hb_taking") ([(Str.ofString "crowd"), (Str.ofString "lot")] : List Str) 2 S__law_hb_taking := g__law_hb_taking c h__law_hb_taking
theorem sc__law_hb_rounds : FnScope N__law_hb_rounds ([(Str.ofString "crowd"), (Str.ofString "lot")] : List Str) (defScope (top 52)) := ⟨rfl, rfl, rfl, by decide, rfl, by decide, by decide⟩
theorem b__law_hb_rounds (c : Txt w K mg base T) (B : Ent) (cdv : Value) (A : Around) (outer : List Env) (s : Shared) (H : Hp) (E : XK) (hE : EntOk mg T (envOfC (Str.ofString "_law_hb_rounds") (defScope (top 52)) s.heap.objs.size f cdv).cells B.J) (hC : CodeAt K f cdv) (hr : Room 4 (A.deeper (envOfC (Str.ofString "_law_hb_rounds") (defScope (top 52)) s.heap.objs.size f cdv))) : PSs (cxB pr w K mg base N__law_hb_rounds (Str.ofString "_law_hb_rounds") (top 52) f cdv A outer s H E) (defBody (top 52)) (dS K B (t__law_hb_rounds B.J)) := by
  have hu := hu100 hr
  exact (ds_cons (ds_setF (i := 2) sc__law_hb_rounds.nd rfl (Or.inl rfl) (df_lst (da_cons (de_var (pe_var (i := 1) (x := (Str.ofString "lot")) rfl (Or.inl rfl))) da_nil)))
    (ds_cons (ds_while PassesOwn.never (dt_cmp (o_ne hu) (dr_of_de (de_callG (G__law_hb_taking c) ⟨hE.tb, hE.fa⟩ (hr.mono (by decide)) rfl (da_cons (de_var (pe_var (i := 0) (x := (Str.ofString "crowd")) rfl (Or.inl rfl))) (da_cons (de_ix (dr_var (pe_var (i := 2) (x := (Str.ofString "found")) rfl (Or.inl rfl))) (dr_of_de (de_neg (de_int pe_int))) (fun _ _ => rfl)) da_nil)))) (dr_of_de (de_tupN da_nil)) rfl)
      (ds_one (ds_exprM (dm_app (pe_var (i := 2) (x := (Str.ofString "found")) rfl (Or.inl rfl)) (dm_of (de_callTy c_tuple rfl c.f_tuple bt_tuple (dr_lst (df_call1 (c_sorted hu) rfl c.f_sorted bt_sorted (dr_of_de (de_bin o_add (dr_of_de (de_ix (dr_var (pe_var (i := 2) (x := (Str.ofString "found")) rfl (Or.inl rfl))) (dr_of_de (de_neg (de_int pe_int))) (fun _ _ => rfl))) (dr_of_de (de_callG (G__law_hb_taking c) ⟨hE.tb, hE.fa⟩ (hr.mono (by decide)) rfl (da_cons (de_var (pe_var (i := 0) (x := (Str.ofString "crowd")) rfl (Or.inl rfl))) (da_cons (de_ix (dr_var (pe_var (i := 2) (x := (Str.ofString "found")) rfl (Or.inl rfl))) (dr_of_de (de_neg (de_int pe_int))) (fun _ _ => rfl)) da_nil))))))))))))))
    (ds_one (ds_ret (de_callTy c_tuple rfl c.f_tuple bt_tuple (dr_var (pe_var (i := 2) (x := (Str.ofString "found")) rfl (Or.inl rfl))))))))
theorem g__law_hb_rounds (c : Txt w K mg base T) (hS : H__law_hb_rounds) : FnG pr w K mg base T 5 (Str.ofString "_law_hb_rounds") ([(Str.ofString "crowd"), (Str.ofString "lot")] : List Str) 2 S__law_hb_rounds := by
  obtain ⟨f, F, hm⟩ := c.d__law_hb_rounds
  exact fnG_of F hm sc__law_hb_rounds rfl (by decide) (fun kV doc pm an cdv ct us h => match us, h with | [_a0, _a1], _ => rfl) (fun B cdv A outer s H E hE hC hr => b__law_hb_rounds c B cdv A outer s H E hE hC hr) (fun J ds j Q l q => match ds, l, q with | [d0, d1], _, q => hS J d0 d1 j Q q)
theorem G__law_hb_rounds (c : Txt w K mg base T) : FnG pr w K mg base T 5 (Str.ofString "_law_hb_rounds") ([(Str.ofString "crowd"), (Str.ofString "lot")] : List Str) 2 S__law_hb_rounds := g__law_hb_rounds c h__law_hb_rounds
theorem sc__law_hb_apart : FnScope N__law_hb_apart ([(Str.ofString "crowd"), (Str.ofString "lot")] : List Str) (defScope (top 53)) := ⟨rfl, rfl, rfl, by decide, rfl, by decide, by decide⟩
theorem b__law_hb_apart (c : Txt w K mg base T) (B : Ent) (cdv : Value) (A : Around) (outer : List Env) (s : Shared) (H : Hp) (E : XK) (hE : EntOk mg T (envOfC (Str.ofString "_law_hb_apart") (defScope (top 53)) s.heap.objs.size f cdv).cells B.J) (hC : CodeAt K f cdv) (hr : Room 3 (A.deeper (envOfC (Str.ofString "_law_hb_apart") (defScope (top 53)) s.heap.objs.size f cdv))) : PSs (cxB pr w K mg base N__law_hb_apart (Str.ofString "_law_hb_apart") (top 53) f cdv A outer s H E) (defBody (top 53)) (dS K B (t__law_hb_apart B.J)) := by
  have hu := hu100 hr
  exact (ds_cons (ds_set (i := 2) sc__law_hb_apart.nd rfl (Or.inr rfl) (de_callTy c_tuple rfl c.f_tuple bt_tuple (dr_lst (df_lc (own := [((Str.ofString "person"), 3)]) rfl sc__law_hb_apart.nd (di_seq (de_ix (dr_of_de (de_var (pe_var (i := 0) (x := (Str.ofString "crowd")) rfl (Or.inr (Or.inl rfl))))) (dr_of_de (de_int pe_int)) (fun _ _ => rfl))) (blkOk_by (by kernel_rfl)) (fun _ _ _ _ _ => (pgT (dg_name (i := 3) sc__law_hb_apart.nd rfl (Or.inl rfl)))) (fun _ _ _ _ _ => (dts_one (dt_cmp (o_nin hu) (dr_of_de (de_var (pe_var (i := 3) (x := (Str.ofString "person")) rfl (Or.inl rfl)))) (dr_of_de (de_var (pe_var (i := 1) (x := (Str.ofString "lot")) rfl (Or.inr (Or.inl rfl))))) rfl))) (fun _ _ _ _ _ => (de_var (pe_var (i := 3) (x := (Str.ofString "person")) rfl (Or.inl rfl)))) rfl))))
    (ds_one (ds_ret (de_and (de_cmp (o_ne hu) (dr_of_de (de_var (pe_var (i := 1) (x := (Str.ofString "lot")) rfl (Or.inr (Or.inl rfl))))) (dr_of_de (de_tupN da_nil)) rfl) (de_one (de_cmp (o_eq hu) (dr_lst (df_lc (own := [((Str.ofString "person"), 3)]) rfl sc__law_hb_apart.nd (di_seq (de_var (pe_var (i := 1) (x := (Str.ofString "lot")) rfl (Or.inr (Or.inl rfl))))) (blkOk_by (by kernel_rfl)) (fun _ _ _ _ _ => (pgT (dg_name (i := 3) sc__law_hb_apart.nd rfl (Or.inl rfl)))) (fun _ _ _ _ _ => (dts_one (dt_val (de_callG (G__law_hb_takes c) ⟨hE.tb, hE.fa⟩ (hr.mono (by decide)) rfl (da_cons (de_var (pe_var (i := 0) (x := (Str.ofString "crowd")) rfl (Or.inr (Or.inl rfl)))) (da_cons (de_var (pe_var (i := 2) (x := (Str.ofString "others")) rfl (Or.inr (Or.inl rfl)))) (da_cons (de_var (pe_var (i := 3) (x := (Str.ofString "person")) rfl (Or.inl rfl))) da_nil))))))) (fun _ _ _ _ _ => (de_int pe_int)) rfl)) (dr_lst (df_lst da_nil)) rfl))))))
theorem g__law_hb_apart (c : Txt w K mg base T) (hS : H__law_hb_apart) : FnG pr w K mg base T 4 (Str.ofString "_law_hb_apart") ([(Str.ofString "crowd"), (Str.ofString "lot")] : List Str) 2 S__law_hb_apart := by
  obtain ⟨f, F, hm⟩ := c.d__law_hb_apart
  exact fnG_of F hm sc__law_hb_apart rfl (by decide) (fun kV doc pm an cdv ct us h => match us, h with | [_a0, _a1], _ => rfl) (fun B cdv A outer s H E hE hC hr => b__law_hb_apart c B cdv A outer s H E hE hC hr) (fun J ds j Q l q => match ds, l, q with | [d0, d1], _, q => hS J d0 d1 j Q q)
theorem G__law_hb_apart (c : Txt w K mg base T) : FnG pr w K mg base T 4 (Str.ofString "_law_hb_apart") ([(Str.ofString "crowd"), (Str.ofString "lot")] : List Str) 2 S__law_hb_apart := g__law_hb_apart c h__law_hb_apart
theorem sc__law_hb_lots : FnScope N__law_hb_lots ([(Str.ofString "people")] : List Str) (defScope (top 54)) := ⟨rfl, rfl, rfl, by decide, rfl, by decide, by decide⟩
theorem b__law_hb_lots (c : Txt w K mg base T) (B : Ent) (cdv : Value) (A : Around) (outer : List Env) (s : Shared) (H : Hp) (E : XK) (hE : EntOk mg T (envOfC (Str.ofString "_law_hb_lots") (defScope (top 54)) s.heap.objs.size f cdv).cells B.J) (hC : CodeAt K f cdv) (hr : Room 0 (A.deeper (envOfC (Str.ofString "_law_hb_lots") (defScope (top 54)) s.heap.objs.size f cdv))) : PSs (cxB pr w K mg base N__law_hb_lots (Str.ofString "_law_hb_lots") (top 54) f cdv A outer s H E) (defBody (top 54)) (dS K B (t__law_hb_lots B.J)) := by
  have hu := hu100 hr
  exact (ds_cons (ds_set (i := 1) sc__law_hb_lots.nd rfl (Or.inl rfl) (de_lst (df_lst (da_cons (de_tupN da_nil) da_nil))))
    (ds_cons (ds_for PassesOwn.never rfl (di_seq (de_var (pe_var (i := 0) (x := (Str.ofString "people")) rfl (Or.inl rfl)))) (pgT (dg_name (i := 2) sc__law_hb_lots.nd rfl (Or.inr rfl)))
      (ds_one (ds_set (i := 1) sc__law_hb_lots.nd rfl (Or.inl rfl) (de_bin o_add (dr_of_de (de_var (pe_var (i := 1) (x := (Str.ofString "found")) rfl (Or.inl rfl)))) (dr_lst (df_lc (own := [((Str.ofString "lot"), 3)]) rfl sc__law_hb_lots.nd (di_seq (de_var (pe_var (i := 1) (x := (Str.ofString "found")) rfl (Or.inl rfl)))) (blkOk_by (by kernel_rfl)) (fun _ _ _ _ _ => (pgT (dg_name (i := 3) sc__law_hb_lots.nd rfl (Or.inl rfl)))) (fun _ _ _ _ _ => dts_nilN) (fun _ _ _ _ _ => (de_bin o_add (dr_of_de (de_var (pe_var (i := 3) (x := (Str.ofString "lot")) rfl (Or.inl rfl)))) (dr_of_de (de_tupN (da_cons (de_var (pe_var (i := 2) (x := (Str.ofString "person")) rfl (Or.inr (Or.inl rfl)))) da_nil))))) rfl))))))
    (ds_one (ds_ret (de_lst (df_call1 (c_sorted hu) rfl c.f_sorted bt_sorted (dr_of_de (de_var (pe_var (i := 1) (x := (Str.ofString "found")) rfl (Or.inl rfl))))))))))
theorem g__law_hb_lots (c : Txt w K mg base T) (hS : H__law_hb_lots) : FnG pr w K mg base T 1 (Str.ofString "_law_hb_lots") ([(Str.ofString "people")] : List Str) 1 S__law_hb_lots := by
  obtain ⟨f, F, hm⟩ := c.d__law_hb_lots
  exact fnG_of F hm sc__law_hb_lots rfl (by decide) (fun kV doc pm an cdv ct us h => match us, h with | [_a0], _ => rfl) (fun B cdv A outer s H E hE hC hr => b__law_hb_lots c B cdv A outer s H E hE hC hr) (fun J ds j Q l q => match ds, l, q with | [d0], _, q => hS J d0 j Q q)
theorem G__law_hb_lots (c : Txt w K mg base T) : FnG pr w K mg base T 1 (Str.ofString "_law_hb_lots") ([(Str.ofString "people")] : List Str) 1 S__law_hb_lots := g__law_hb_lots c h__law_hb_lots
theorem sc__law_hb_lot : FnScope N__law_hb_lot ([(Str.ofString "draws"), (Str.ofString "people"), (Str.ofString "often")] : List Str) (defScope (top 55)) := ⟨rfl, rfl, rfl, by decide, rfl, by decide, by decide⟩
theorem b__law_hb_lot (c : Txt w K mg base T) (B : Ent) (cdv : Value) (A : Around) (outer : List Env) (s : Shared) (H : Hp) (E : XK) (hE : EntOk mg T (envOfC (Str.ofString "_law_hb_lot") (defScope (top 55)) s.heap.objs.size f cdv).cells B.J) (hC : CodeAt K f cdv) (hr : Room 2 (A.deeper (envOfC (Str.ofString "_law_hb_lot") (defScope (top 55)) s.heap.objs.size f cdv))) : PSs (cxB pr w K mg base N__law_hb_lot (Str.ofString "_law_hb_lot") (top 55) f cdv A outer s H E) (defBody (top 55)) (dS K B (t__law_hb_lot B.J)) := by
  have hu := hu100 hr
  exact (ds_one (ds_ret (de_callTy c_tuple rfl c.f_tuple bt_tuple (dr_lst (df_lc (own := [((Str.ofString "person"), 3)]) rfl sc__law_hb_lot.nd (di_seq (de_var (pe_var (i := 1) (x := (Str.ofString "people")) rfl (Or.inl rfl)))) (blkOk_by (by kernel_rfl)) (fun _ _ _ _ _ => (pgT (dg_name (i := 3) sc__law_hb_lot.nd rfl (Or.inl rfl)))) (fun _ _ _ _ _ => (dts_one (dt_cmp (o_eq hu) (dr_of_de (de_callG (G__law_draw c) ⟨hE.tb, hE.fa⟩ (hr.mono (by decide)) rfl (da_cons (de_var (pe_var (i := 0) (x := (Str.ofString "draws")) rfl (Or.inr (Or.inl rfl)))) (da_cons (de_var (pe_var (i := 2) (x := (Str.ofString "often")) rfl (Or.inr (Or.inl rfl)))) da_nil)))) (dr_of_de (de_int pe_int)) rfl))) (fun _ _ _ _ _ => (de_var (pe_var (i := 3) (x := (Str.ofString "person")) rfl (Or.inl rfl)))) rfl)))))
theorem g__law_hb_lot (c : Txt w K mg base T) (hS : H__law_hb_lot) : FnG pr w K mg base T 3 (Str.ofString "_law_hb_lot") ([(Str.ofString "draws"), (Str.ofString "people"), (Str.ofString "often")] : List Str) 3 S__law_hb_lot := by
  obtain ⟨f, F, hm⟩ := c.d__law_hb_lot
  exact fnG_of F hm sc__law_hb_lot rfl (by decide) (fun kV doc pm an cdv ct us h => match us, h with | [_a0, _a1, _a2], _ => rfl) (fun B cdv A outer s H E hE hC hr => b__law_hb_lot c B cdv A outer s H E hE hC hr) (fun J ds j Q l q => match ds, l, q with | [d0, d1, d2], _, q => hS J d0 d1 d2 j Q q)
theorem G__law_hb_lot (c : Txt w K mg base T) : FnG pr w K mg base T 3 (Str.ofString "_law_hb_lot") ([(Str.ofString "draws"), (Str.ofString "people"), (Str.ofString "often")] : List Str) 3 S__law_hb_lot := g__law_hb_lot c h__law_hb_lot
theorem sc__law_hb_no_lot : FnScope N__law_hb_no_lot ([(Str.ofString "draws"), (Str.ofString "people")] : List Str) (defScope (top 56)) := ⟨rfl, rfl, rfl, by decide, rfl, by decide, by decide⟩
theorem b__law_hb_no_lot (c : Txt w K mg base T) (B : Ent) (cdv : Value) (A : Around) (outer : List Env) (s : Shared) (H : Hp) (E : XK) (hE : EntOk mg T (envOfC (Str.ofString "_law_hb_no_lot") (defScope (top 56)) s.heap.objs.size f cdv).cells B.J) (hC : CodeAt K f cdv) (hr : Room 3 (A.deeper (envOfC (Str.ofString "_law_hb_no_lot") (defScope (top 56)) s.heap.objs.size f cdv))) : PSs (cxB pr w K mg base N__law_hb_no_lot (Str.ofString "_law_hb_no_lot") (top 56) f cdv A outer s H E) (defBody (top 56)) (dS K B (t__law_hb_no_lot B.J)) := by
  have hu := hu100 hr
  exact (ds_one (ds_ret (de_callG (G__law_pick c) ⟨hE.tb, hE.fa⟩ (hr.mono (by decide)) rfl (da_cons (de_var (pe_var (i := 0) (x := (Str.ofString "draws")) rfl (Or.inl rfl))) (da_cons (de_lst (df_lst (da_cons (de_non pe_non) (da_cons (de_lst (df_callTy (c_list rfl) rfl c.f_list bt_list (dr_of_de (de_var (pe_var (i := 1) (x := (Str.ofString "people")) rfl (Or.inl rfl)))))) (da_cons (de_bin o_add (dr_of_de (de_var (pe_var (i := 1) (x := (Str.ofString "people")) rfl (Or.inl rfl)))) (dr_of_de (de_sl (dr_of_de (de_var (pe_var (i := 1) (x := (Str.ofString "people")) rfl (Or.inl rfl)))) dp_none (dp_some (de_int pe_int))))) (da_cons (de_if (dt_cmp (o_gt hu) (dr_of_de (de_call1 c_len rfl c.f_len bt_len (dr_of_de (de_var (pe_var (i := 1) (x := (Str.ofString "people")) rfl (Or.inl rfl)))))) (dr_of_de (de_int pe_int)) rfl) (de_revE (de_var (pe_var (i := 1) (x := (Str.ofString "people")) rfl (Or.inl rfl)))) (de_int pe_int)) (da_cons (de_tupN (da_cons (de_str pe_str) da_nil)) (da_cons (de_bin o_add (dr_of_de (de_ix (dr_of_de (de_var (pe_var (i := 1) (x := (Str.ofString "people")) rfl (Or.inl rfl)))) (dr_of_de (de_int pe_int)) (fun _ _ => rfl))) (dr_of_de (de_str pe_str))) (da_cons (de_tupN (da_cons (de_int pe_int) da_nil)) (da_cons de_dnew da_nil)))))))))) da_nil)))))
theorem g__law_hb_no_lot (c : Txt w K mg base T) (hS : H__law_hb_no_lot) : FnG pr w K mg base T 4 (Str.ofString "_law_hb_no_lot") ([(Str.ofString "draws"), (Str.ofString "people")] : List Str) 2 S__law_hb_no_lot := by
  obtain ⟨f, F, hm⟩ := c.d__law_hb_no_lot
  exact fnG_of F hm sc__law_hb_no_lot rfl (by decide) (fun kV doc pm an cdv ct us h => match us, h with | [_a0, _a1], _ => rfl) (fun B cdv A outer s H E hE hC hr => b__law_hb_no_lot c B cdv A outer s H E hE hC hr) (fun J ds j Q l q => match ds, l, q with | [d0, d1], _, q => hS J d0 d1 j Q q)
theorem G__law_hb_no_lot (c : Txt w K mg base T) : FnG pr w K mg base T 4 (Str.ofString "_law_hb_no_lot") ([(Str.ofString "draws"), (Str.ofString "people")] : List Str) 2 S__law_hb_no_lot := g__law_hb_no_lot c h__law_hb_no_lot
theorem sc__law_k57_is : FnScope N__law_k57_is ([(Str.ofString "crowd"), (Str.ofString "lot"), (Str.ofString "value")] : List Str) (defScope (top 57)) := ⟨rfl, rfl, rfl, by decide, rfl, by decide, by decide⟩
theorem b__law_k57_is (c : Txt w K mg base T) (B : Ent) (cdv : Value) (A : Around) (outer : List Env) (s : Shared) (H : Hp) (E : XK) (hE : EntOk mg T (envOfC (Str.ofString "_law_k57_is") (defScope (top 57)) s.heap.objs.size f cdv).cells B.J) (hC : CodeAt K f cdv) (hr : Room 4 (A.deeper (envOfC (Str.ofString "_law_k57_is") (defScope (top 57)) s.heap.objs.size f cdv))) : PSs (cxB pr w K mg base N__law_k57_is (Str.ofString "_law_k57_is") (top 57) f cdv A outer s H E) (defBody (top 57)) (dS K B (t__law_k57_is B.J)) := by
  have hu := hu100 hr
  exact (ds_cons (ds_if (PW.pt (dw_or (dt_not (dt_val (de_isi t_tuple rfl c.f_isinstance rfl c.f_tuple bt_tuple (by decide) (dr_of_de (de_var (pe_var (i := 2) (x := (Str.ofString "value")) rfl (Or.inr (Or.inl rfl)))))))) (dw_or (dt_cmp (o_ne hu) (dr_of_de (de_call1 c_len rfl c.f_len bt_len (dr_of_de (de_var (pe_var (i := 2) (x := (Str.ofString "value")) rfl (Or.inr (Or.inl rfl))))))) (dr_of_de (de_int pe_int)) rfl) (dw_or1 (dt_not (dt_val (de_isi t_str rfl c.f_isinstance rfl c.f_str bt_str (by decide) (dr_of_de (de_ix (dr_of_de (de_var (pe_var (i := 2) (x := (Str.ofString "value")) rfl (Or.inr (Or.inl rfl))))) (dr_of_de (de_int pe_int)) (fun _ _ => rfl))))))))))
      (ds_one (ds_ret (de_bl pe_bl)))
      ds_nil)
    (ds_cons (ds_if (dt_cmp (o_eq hu) (dr_of_de (de_ix (dr_of_de (de_var (pe_var (i := 2) (x := (Str.ofString "value")) rfl (Or.inr (Or.inl rfl))))) (dr_of_de (de_int pe_int)) (fun _ _ => rfl))) (dr_of_de (de_str pe_str)) rfl)
      (ds_one (ds_ret (de_and (de_callG (G__law_hb_is_lot c) ⟨hE.tb, hE.fa⟩ (hr.mono (by decide)) rfl (da_cons (de_ix (dr_of_de (de_var (pe_var (i := 0) (x := (Str.ofString "crowd")) rfl (Or.inr (Or.inl rfl))))) (dr_of_de (de_int pe_int)) (fun _ _ => rfl)) (da_cons (de_ix (dr_of_de (de_var (pe_var (i := 2) (x := (Str.ofString "value")) rfl (Or.inr (Or.inl rfl))))) (dr_of_de (de_int pe_int)) (fun _ _ => rfl)) da_nil))) (de_and (de_callG (G__law_hb_apart c) ⟨hE.tb, hE.fa⟩ (hr.mono (by decide)) rfl (da_cons (de_var (pe_var (i := 0) (x := (Str.ofString "crowd")) rfl (Or.inr (Or.inl rfl)))) (da_cons (de_ix (dr_of_de (de_var (pe_var (i := 2) (x := (Str.ofString "value")) rfl (Or.inr (Or.inl rfl))))) (dr_of_de (de_int pe_int)) (fun _ _ => rfl)) da_nil))) (de_one (de_cmp (o_eq hu) (dr_lst (df_lc (own := [((Str.ofString "person"), 4)]) rfl sc__law_k57_is.nd (di_seq (de_ix (dr_of_de (de_var (pe_var (i := 2) (x := (Str.ofString "value")) rfl (Or.inr (Or.inl rfl))))) (dr_of_de (de_int pe_int)) (fun _ _ => rfl))) (blkOk_by (by kernel_rfl)) (fun _ _ _ _ _ => (pgT (dg_name (i := 4) sc__law_k57_is.nd rfl (Or.inl rfl)))) (fun _ _ _ _ _ => (dts_one (dt_cmp (o_in hu) (dr_of_de (de_var (pe_var (i := 4) (x := (Str.ofString "person")) rfl (Or.inl rfl)))) (dr_of_de (de_var (pe_var (i := 1) (x := (Str.ofString "lot")) rfl (Or.inr (Or.inl rfl))))) rfl))) (fun _ _ _ _ _ => (de_int pe_int)) rfl)) (dr_lst (df_lst da_nil)) rfl))))))
      ds_nil)
    (ds_cons (ds_setLc (i := 3) (own := [((Str.ofString "person"), 4)]) rfl sc__law_k57_is.nd rfl rfl (sw_true rfl rfl rfl (by decide)) (di_seq (de_ix (dr_of_de (de_var (pe_var (i := 0) (x := (Str.ofString "crowd")) rfl (Or.inr (Or.inl rfl))))) (dr_of_de (de_int pe_int)) (fun _ _ => rfl))) (blkOk_by (by kernel_rfl)) (fun _ _ _ _ _ => (pgT (dg_name (i := 4) sc__law_k57_is.nd rfl (Or.inl rfl)))) (fun _ _ _ _ _ => (dts_one (dt_cmp (o_nin hu) (dr_of_de (de_var (pe_var (i := 4) (x := (Str.ofString "person")) rfl (Or.inl rfl)))) (dr_of_de (de_var (pe_var (i := 1) (x := (Str.ofString "lot")) rfl (Or.inr (Or.inl rfl))))) rfl))) (fun _ _ _ _ _ => (de_var (pe_var (i := 4) (x := (Str.ofString "person")) rfl (Or.inl rfl)))) rfl)
    (ds_cons (ds_if (PW.pt (dw_or (dt_cmp (o_ne hu) (dr_of_de (de_ix (dr_of_de (de_var (pe_var (i := 2) (x := (Str.ofString "value")) rfl (Or.inr (Or.inl rfl))))) (dr_of_de (de_int pe_int)) (fun _ _ => rfl))) (dr_of_de (de_str pe_str)) rfl) (dw_or (dt_not (dt_val (de_isi t_tuple rfl c.f_isinstance rfl c.f_tuple bt_tuple (by decide) (dr_of_de (de_ix (dr_of_de (de_var (pe_var (i := 2) (x := (Str.ofString "value")) rfl (Or.inr (Or.inl rfl))))) (dr_of_de (de_int pe_int)) (fun _ _ => rfl)))))) (dw_or (dt_cmp (o_ne hu) (dr_lst (df_lc (own := [((Str.ofString "one"), 6)]) rfl sc__law_k57_is.nd (di_seq (de_ix (dr_of_de (de_var (pe_var (i := 2) (x := (Str.ofString "value")) rfl (Or.inr (Or.inl rfl))))) (dr_of_de (de_int pe_int)) (fun _ _ => rfl))) (blkOk_by (by kernel_rfl)) (fun _ _ _ _ _ => (pgT (dg_name (i := 6) sc__law_k57_is.nd rfl (Or.inl rfl)))) (fun _ _ _ _ _ => (dts_one (dt_not (dt_val (de_isi t_str rfl c.f_isinstance rfl c.f_str bt_str (by decide) (dr_of_de (de_var (pe_var (i := 6) (x := (Str.ofString "one")) rfl (Or.inl rfl))))))))) (fun _ _ _ _ _ => (de_int pe_int)) rfl)) (dr_lst (df_lst da_nil)) rfl) (dw_or1 (dt_cmp (o_ne hu) (dr_lst (df_call1 (c_sorted hu) rfl c.f_sorted bt_sorted (dr_of_de (de_ix (dr_of_de (de_var (pe_var (i := 2) (x := (Str.ofString "value")) rfl (Or.inr (Or.inl rfl))))) (dr_of_de (de_int pe_int)) (fun _ _ => rfl))))) (dr_of_de (de_var (pe_var (i := 3) (x := (Str.ofString "others")) rfl (Or.inl rfl)))) rfl))))))
      (ds_one (ds_ret (de_bl pe_bl)))
      ds_nil)
    (ds_one (ds_ret (de_cmp (o_eq hu) (dr_lst (df_lc (own := [((Str.ofString "at"), 5), ((Str.ofString "person"), 4)]) rfl sc__law_k57_is.nd (di_enum rfl c.f_enumerate (da_cons (de_ix (dr_of_de (de_var (pe_var (i := 2) (x := (Str.ofString "value")) rfl (Or.inr (Or.inl rfl))))) (dr_of_de (de_int pe_int)) (fun _ _ => rfl)) da_nil)) (blkOk_by (by kernel_rfl)) (fun _ _ _ _ _ => (pgF (dg_tup rfl (dgs_cons (dg_name (i := 5) sc__law_k57_is.nd rfl (Or.inl rfl)) (dgs_cons (dg_name (i := 4) sc__law_k57_is.nd rfl (Or.inl rfl)) dgs_nil)) gtp2))) (fun _ _ _ _ _ => (dts_one (dt_not (dt_val (de_callG (G__law_hb_takes c) ⟨hE.tb, hE.fa⟩ (hr.mono (by decide)) rfl (da_cons (de_var (pe_var (i := 0) (x := (Str.ofString "crowd")) rfl (Or.inr (Or.inl rfl)))) (da_cons (de_bin o_add (dr_of_de (de_var (pe_var (i := 1) (x := (Str.ofString "lot")) rfl (Or.inr (Or.inl rfl))))) (dr_of_de (de_sl (dr_of_de (de_ix (dr_of_de (de_var (pe_var (i := 2) (x := (Str.ofString "value")) rfl (Or.inr (Or.inl rfl))))) (dr_of_de (de_int pe_int)) (fun _ _ => rfl))) dp_none (dp_some (de_var (pe_var (i := 5) (x := (Str.ofString "at")) rfl (Or.inl rfl))))))) (da_cons (de_var (pe_var (i := 4) (x := (Str.ofString "person")) rfl (Or.inl rfl))) da_nil)))))))) (fun _ _ _ _ _ => (de_int pe_int)) rfl)) (dr_lst (df_lst da_nil)) rfl)))))))
theorem g__law_k57_is (c : Txt w K mg base T) (hS : H__law_k57_is) : FnG pr w K mg base T 5 (Str.ofString "_law_k57_is") ([(Str.ofString "crowd"), (Str.ofString "lot"), (Str.ofString "value")] : List Str) 3 S__law_k57_is := by
  obtain ⟨f, F, hm⟩ := c.d__law_k57_is
  exact fnG_of F hm sc__law_k57_is rfl (by decide) (fun kV doc pm an cdv ct us h => match us, h with | [_a0, _a1, _a2], _ => rfl) (fun B cdv A outer s H E hE hC hr => b__law_k57_is c B cdv A outer s H E hE hC hr) (fun J ds j Q l q => match ds, l, q with | [d0, d1, d2], _, q => hS J d0 d1 d2 j Q q)
theorem G__law_k57_is (c : Txt w K mg base T) : FnG pr w K mg base T 5 (Str.ofString "_law_k57_is") ([(Str.ofString "crowd"), (Str.ofString "lot"), (Str.ofString "value")] : List Str) 3 S__law_k57_is := g__law_k57_is c h__law_k57_is
theorem sc__law_k57_kind : FnScope N__law_k57_kind ([(Str.ofString "error")] : List Str) (defScope (top 58)) := ⟨rfl, rfl, rfl, by decide, rfl, by decide, by decide⟩
theorem b__law_k57_kind (c : Txt w K mg base T) (B : Ent) (cdv : Value) (A : Around) (outer : List Env) (s : Shared) (H : Hp) (E : XK) (hE : EntOk mg T (envOfC (Str.ofString "_law_k57_kind") (defScope (top 58)) s.heap.objs.size f cdv).cells B.J) (hC : CodeAt K f cdv) (hr : Room 0 (A.deeper (envOfC (Str.ofString "_law_k57_kind") (defScope (top 58)) s.heap.objs.size f cdv))) : PSs (cxB pr w K mg base N__law_k57_kind (Str.ofString "_law_k57_kind") (top 58) f cdv A outer s H E) (defBody (top 58)) (dS K B (t__law_k57_kind B.J)) := by
  have hu := hu100 hr
  exact (ds_cons (ds_set (i := 1) sc__law_k57_kind.nd rfl (Or.inl rfl) (de_lst (df_lst (da_cons (by obtain ⟨_, hC⟩ := c.ee_BadCrowd; exact (de_isC hE.fa rfl c.f_isinstance rfl hC (fun y hy => ⟨c.ei y hy, (faOf_eq hC) ▸ c.s_BadCrowd y hy⟩) ((faOf_eq hC) ▸ c.n_BadCrowd) (de_var (pe_var (i := 0) (x := (Str.ofString "error")) rfl (Or.inl rfl))))) (da_cons (by obtain ⟨_, hC⟩ := c.ee_BadLot; exact (de_isC hE.fa rfl c.f_isinstance rfl hC (fun y hy => ⟨c.ei y hy, (faOf_eq hC) ▸ c.s_BadLot y hy⟩) ((faOf_eq hC) ▸ c.n_BadLot) (de_var (pe_var (i := 0) (x := (Str.ofString "error")) rfl (Or.inl rfl))))) da_nil)))))
    (ds_one (ds_ret (de_lst (df_lc (own := [((Str.ofString "at"), 2), ((Str.ofString "here"), 3)]) rfl sc__law_k57_kind.nd (di_enum rfl c.f_enumerate (da_cons (de_var (pe_var (i := 1) (x := (Str.ofString "told")) rfl (Or.inl rfl))) da_nil)) (blkOk_by (by kernel_rfl)) (fun _ _ _ _ _ => (pgF (dg_tup rfl (dgs_cons (dg_name (i := 2) sc__law_k57_kind.nd rfl (Or.inl rfl)) (dgs_cons (dg_name (i := 3) sc__law_k57_kind.nd rfl (Or.inl rfl)) dgs_nil)) gtp2))) (fun _ _ _ _ _ => (dts_one (dt_val (de_var (pe_var (i := 3) (x := (Str.ofString "here")) rfl (Or.inl rfl)))))) (fun _ _ _ _ _ => (de_var (pe_var (i := 2) (x := (Str.ofString "at")) rfl (Or.inl rfl)))) rfl)))))
theorem g__law_k57_kind (c : Txt w K mg base T) (hS : H__law_k57_kind) : FnG pr w K mg base T 1 (Str.ofString "_law_k57_kind") ([(Str.ofString "error")] : List Str) 1 S__law_k57_kind := by
  obtain ⟨f, F, hm⟩ := c.d__law_k57_kind
  exact fnG_of F hm sc__law_k57_kind rfl (by decide) (fun kV doc pm an cdv ct us h => match us, h with | [_a0], _ => rfl) (fun B cdv A outer s H E hE hC hr => b__law_k57_kind c B cdv A outer s H E hE hC hr) (fun J ds j Q l q => match ds, l, q with | [d0], _, q => hS J d0 j Q q)
theorem G__law_k57_kind (c : Txt w K mg base T) : FnG pr w K mg base T 1 (Str.ofString "_law_k57_kind") ([(Str.ofString "error")] : List Str) 1 S__law_k57_kind := g__law_k57_kind c h__law_k57_kind
theorem sc_law : FnScope N_law ([(Str.ofString "script")] : List Str) (defScope (top 59)) := ⟨rfl, rfl, rfl, by decide, rfl, by decide, by decide⟩
theorem b_law (c : Txt w K mg base T) (B : Ent) (cdv : Value) (A : Around) (outer : List Env) (s : Shared) (H : Hp) (E : XK) (hm : mg (Str.ofString "law") = some (.ref f)) (hE : EntOk mg T (envOfC (Str.ofString "law") (defScope (top 59)) s.heap.objs.size f cdv).cells B.J) (hC : CodeAt K f cdv) (hr : Room 9 (A.deeper (envOfC (Str.ofString "law") (defScope (top 59)) s.heap.objs.size f cdv))) : PSs (cxB pr w K mg base N_law (Str.ofString "law") (top 59) f cdv A outer s H E) ((defBody (top 59)).drop 1) (dS K B (t_law B.J)) := by
  have hu := hu100 hr
  exact (ds_cons (ds_for PassesOwn.never rfl (di_range1 rfl c.f_range (da_cons (de_bin o_add (dr_of_de (de_int pe_int)) (dr_of_de (de_min2 rfl rfl c.f_min bt_min (da_cons (de_call1 c_len rfl c.f_len bt_len (dr_of_de (de_var (pe_var (i := 0) (x := (Str.ofString "script")) rfl (Or.inl rfl))))) (da_cons (de_int pe_int) da_nil))))) da_nil)) (pgT (dg_name (i := 2) sc_law.nd rfl (Or.inl rfl)))
      (ds_cons (ds_set (i := 3) sc_law.nd rfl (Or.inr rfl) (de_callG (G__law_hb_crowd c) ⟨hE.tb, hE.fa⟩ (hr.mono (by decide)) rfl (da_cons (de_var (pe_var (i := 1) (x := (Str.ofString "draws")) rfl (Or.inr (Or.inl rfl)))) (da_cons (de_int pe_int) da_nil))))
    (ds_cons (ds_set (i := 4) sc_law.nd rfl (Or.inl rfl) (de_ix (dr_of_de (de_var (pe_var (i := 3) (x := (Str.ofString "crowd")) rfl (Or.inr (Or.inl rfl))))) (dr_of_de (de_int pe_int)) (fun _ _ => rfl)))
    (ds_cons (ds_for PassesOwn.never rfl (di_seq (de_lst (df_lst (da_cons (de_callG (G__law_hb_lot c) ⟨hE.tb, hE.fa⟩ (hr.mono (by decide)) rfl (da_cons (de_var (pe_var (i := 1) (x := (Str.ofString "draws")) rfl (Or.inr (Or.inl rfl)))) (da_cons (de_var (pe_var (i := 4) (x := (Str.ofString "people")) rfl (Or.inl rfl))) (da_cons (de_int pe_int) da_nil)))) (da_cons (de_callG (G__law_hb_lot c) ⟨hE.tb, hE.fa⟩ (hr.mono (by decide)) rfl (da_cons (de_var (pe_var (i := 1) (x := (Str.ofString "draws")) rfl (Or.inr (Or.inl rfl)))) (da_cons (de_var (pe_var (i := 4) (x := (Str.ofString "people")) rfl (Or.inl rfl))) (da_cons (de_int pe_int) da_nil)))) (da_cons (de_tupN da_nil) (da_cons (de_var (pe_var (i := 4) (x := (Str.ofString "people")) rfl (Or.inl rfl))) da_nil))))))) (pgT (dg_name (i := 5) sc_law.nd rfl (Or.inr rfl)))
      (ds_cons (ds_set (i := 6) sc_law.nd rfl (Or.inr rfl) (de_callN (G_reaching c) ⟨hE.tb, hE.fa⟩ (hr.mono (by decide)) rfl (da_cons (de_var (pe_var (i := 3) (x := (Str.ofString "crowd")) rfl (Or.inr (Or.inl rfl)))) (da_cons (de_var (pe_var (i := 5) (x := (Str.ofString "lot")) rfl (Or.inr (Or.inl rfl)))) da_nil))))
    (ds_cons (ds_set (i := 7) sc_law.nd rfl (Or.inr rfl) (de_callTy c_tuple rfl c.f_tuple bt_tuple (dr_lst (df_lc (own := [((Str.ofString "person"), 15)]) rfl sc_law.nd (di_seq (de_var (pe_var (i := 4) (x := (Str.ofString "people")) rfl (Or.inl rfl)))) (blkOk_by (by kernel_rfl)) (fun _ _ _ _ _ => (pgT (dg_name (i := 15) sc_law.nd rfl (Or.inl rfl)))) (fun _ _ _ _ _ => (dts_one (dt_cmp (o_nin hu) (dr_of_de (de_var (pe_var (i := 15) (x := (Str.ofString "person")) rfl (Or.inl rfl)))) (dr_of_de (de_ix (dr_of_de (de_callG (G__law_hb_rounds c) ⟨hE.tb, hE.fa⟩ (hr.mono (by decide)) rfl (da_cons (de_var (pe_var (i := 3) (x := (Str.ofString "crowd")) rfl (Or.inr (Or.inl rfl)))) (da_cons (de_var (pe_var (i := 5) (x := (Str.ofString "lot")) rfl (Or.inr (Or.inl rfl)))) da_nil)))) (dr_of_de (de_neg (de_int pe_int))) (fun _ _ => rfl))) rfl))) (fun _ _ _ _ _ => (de_var (pe_var (i := 15) (x := (Str.ofString "person")) rfl (Or.inl rfl)))) rfl))))
    (ds_cons (ds_if (PW.pt (dw_or (dt_not (dt_val (de_callG (G__law_k57_is c) ⟨hE.tb, hE.fa⟩ (hr.mono (by decide)) rfl (da_cons (de_var (pe_var (i := 3) (x := (Str.ofString "crowd")) rfl (Or.inr (Or.inl rfl)))) (da_cons (de_var (pe_var (i := 5) (x := (Str.ofString "lot")) rfl (Or.inr (Or.inl rfl)))) (da_cons (de_var (pe_var (i := 6) (x := (Str.ofString "found")) rfl (Or.inr (Or.inl rfl)))) da_nil)))))) (dw_or (dt_not (dt_val (de_callG (G__law_same c) ⟨hE.tb, hE.fa⟩ (hr.mono (by decide)) rfl (da_cons (de_kwN (ks := [(Str.ofString "lot"), (Str.ofString "crowd")]) (g := [1, 0]) (st := top 28) (G_reaching c) ⟨hE.tb, hE.fa⟩ (hr.mono (by decide)) rfl c.d_reaching (fun kV doc pm an cdv ct ws h => match ws, h with | [_w0, _w1], _ => rfl) (fun l h => match l, h with | [_w0, _w1], _ => rfl) (dk_cons (de_var (pe_var (i := 5) (x := (Str.ofString "lot")) rfl (Or.inr (Or.inl rfl)))) (dk_cons (de_var (pe_var (i := 3) (x := (Str.ofString "crowd")) rfl (Or.inr (Or.inl rfl)))) dk_nil))) (da_cons (de_var (pe_var (i := 6) (x := (Str.ofString "found")) rfl (Or.inr (Or.inl rfl)))) da_nil))))) (dw_or1 (dt_cmp (o_ne hu) (dr_of_de (de_cmp (o_eq hu) (dr_of_de (de_ix (dr_of_de (de_var (pe_var (i := 6) (x := (Str.ofString "found")) rfl (Or.inr (Or.inl rfl))))) (dr_of_de (de_int pe_int)) (fun _ _ => rfl))) (dr_of_de (de_str pe_str)) rfl)) (dr_of_de (de_cmp (o_eq hu) (dr_of_de (de_var (pe_var (i := 7) (x := (Str.ofString "left")) rfl (Or.inr (Or.inl rfl))))) (dr_of_de (de_tupN da_nil)) rfl)) rfl)))))
      (ds_one (ds_ret (de_bl pe_bl)))
      ds_nil)
    (ds_cons (ds_set (i := 8) sc_law.nd rfl (Or.inl rfl) (de_callTy c_tuple rfl c.f_tuple bt_tuple (dr_lst (df_lc (own := [((Str.ofString "person"), 15)]) rfl sc_law.nd (di_seq (de_var (pe_var (i := 4) (x := (Str.ofString "people")) rfl (Or.inl rfl)))) (blkOk_by (by kernel_rfl)) (fun _ _ _ _ _ => (pgT (dg_name (i := 15) sc_law.nd rfl (Or.inl rfl)))) (fun _ _ _ _ _ => (dts_one (dt_cmp (o_nin hu) (dr_of_de (de_var (pe_var (i := 15) (x := (Str.ofString "person")) rfl (Or.inl rfl)))) (dr_of_de (de_var (pe_var (i := 5) (x := (Str.ofString "lot")) rfl (Or.inr (Or.inl rfl))))) rfl))) (fun _ _ _ _ _ => (de_var (pe_var (i := 15) (x := (Str.ofString "person")) rfl (Or.inl rfl)))) rfl))))
    (ds_cons (ds_set (i := 9) sc_law.nd rfl (Or.inl rfl) (de_lst (df_lst (da_cons (de_var (pe_var (i := 6) (x := (Str.ofString "found")) rfl (Or.inr (Or.inl rfl)))) (da_cons (de_lst (df_callTy (c_list rfl) rfl c.f_list bt_list (dr_of_de (de_var (pe_var (i := 6) (x := (Str.ofString "found")) rfl (Or.inr (Or.inl rfl))))))) (da_cons (de_sl (dr_of_de (de_var (pe_var (i := 6) (x := (Str.ofString "found")) rfl (Or.inr (Or.inl rfl))))) dp_none (dp_some (de_int pe_int))) (da_cons (de_non pe_non) (da_cons (de_tupN (da_cons (de_str pe_str) (da_cons (de_var (pe_var (i := 8) (x := (Str.ofString "others")) rfl (Or.inl rfl))) da_nil))) (da_cons (de_tupN (da_cons (de_str pe_str) (da_cons (de_callTy c_tuple rfl c.f_tuple bt_tuple (dr_of_de (de_callG (G__law_shuffled c) ⟨hE.tb, hE.fa⟩ (hr.mono (by decide)) rfl (da_cons (de_var (pe_var (i := 1) (x := (Str.ofString "draws")) rfl (Or.inr (Or.inl rfl)))) (da_cons (de_lst (df_callTy (c_list rfl) rfl c.f_list bt_list (dr_of_de (de_var (pe_var (i := 8) (x := (Str.ofString "others")) rfl (Or.inl rfl)))))) da_nil))))) da_nil))) (da_cons (de_tupN (da_cons (de_str pe_str) (da_cons (de_var (pe_var (i := 8) (x := (Str.ofString "others")) rfl (Or.inl rfl))) da_nil))) (da_cons (de_tupN (da_cons (de_str pe_str) (da_cons (de_var (pe_var (i := 7) (x := (Str.ofString "left")) rfl (Or.inr (Or.inl rfl)))) da_nil))) (da_cons (de_tupN (da_cons (de_str pe_str) (da_cons (de_tupN da_nil) da_nil))) (da_cons (de_bin o_add (dr_of_de (de_tupN (da_cons (de_str pe_str) da_nil))) (dr_of_de (de_sl (dr_of_de (de_var (pe_var (i := 6) (x := (Str.ofString "found")) rfl (Or.inr (Or.inl rfl))))) (dp_some (de_int pe_int)) dp_none))) da_nil)))))))))))))
    (ds_one (ds_for PassesOwn.never rfl (di_seq (de_bin o_add (dr_of_de (de_bin o_add (dr_of_de (de_var (pe_var (i := 9) (x := (Str.ofString "values")) rfl (Or.inl rfl)))) (dr_lst (df_lc (own := [((Str.ofString "some"), 17)]) rfl sc_law.nd (di_seq (de_callG (G__law_hb_lots c) ⟨hE.tb, hE.fa⟩ (hr.mono (by decide)) rfl (da_cons (de_var (pe_var (i := 4) (x := (Str.ofString "people")) rfl (Or.inl rfl))) da_nil))) (blkOk_by (by kernel_rfl)) (fun _ _ _ _ _ => (pgT (dg_name (i := 17) sc_law.nd rfl (Or.inl rfl)))) (fun _ _ _ _ _ => dts_nilN) (fun _ _ _ _ _ => (de_tupN (da_cons (de_str pe_str) (da_cons (de_var (pe_var (i := 17) (x := (Str.ofString "some")) rfl (Or.inl rfl))) da_nil)))) rfl)))) (dr_lst (df_lc (own := [((Str.ofString "lap"), 16)]) rfl sc_law.nd (di_range1 rfl c.f_range (da_cons (de_int pe_int) da_nil)) (blkOk_by (by kernel_rfl)) (fun _ _ _ _ _ => (pgT (dg_name (i := 16) sc_law.nd rfl (Or.inl rfl)))) (fun _ _ _ _ _ => dts_nilN) (fun _ _ _ _ _ => (de_callG (G__law_hb_bent c) ⟨hE.tb, hE.fa⟩ (hr.mono (by decide)) rfl (da_cons (de_var (pe_var (i := 1) (x := (Str.ofString "draws")) rfl (Or.inr (Or.inl rfl)))) (da_cons (de_var (pe_var (i := 6) (x := (Str.ofString "found")) rfl (Or.inr (Or.inl rfl)))) da_nil)))) rfl)))) (pgT (dg_name (i := 10) sc_law.nd rfl (Or.inl rfl)))
      (ds_cons (ds_set (i := 11) sc_law.nd rfl (Or.inl rfl) (de_callG (G__law_k57_is c) ⟨hE.tb, hE.fa⟩ (hr.mono (by decide)) rfl (da_cons (de_var (pe_var (i := 3) (x := (Str.ofString "crowd")) rfl (Or.inr (Or.inl rfl)))) (da_cons (de_var (pe_var (i := 5) (x := (Str.ofString "lot")) rfl (Or.inr (Or.inl rfl)))) (da_cons (de_var (pe_var (i := 10) (x := (Str.ofString "value")) rfl (Or.inl rfl))) da_nil)))))
    (ds_cons (ds_if (PW.pt (dw_or (dt_not (dt_val (de_callG (G__law_is_truth c) ⟨hE.tb, hE.fa⟩ (hr.mono (by decide)) rfl (da_cons (de_callN (G_is_reaching c) ⟨hE.tb, hE.fa⟩ (hr.mono (by decide)) rfl (da_cons (de_var (pe_var (i := 3) (x := (Str.ofString "crowd")) rfl (Or.inr (Or.inl rfl)))) (da_cons (de_var (pe_var (i := 5) (x := (Str.ofString "lot")) rfl (Or.inr (Or.inl rfl)))) (da_cons (de_var (pe_var (i := 10) (x := (Str.ofString "value")) rfl (Or.inl rfl))) da_nil)))) (da_cons (de_var (pe_var (i := 11) (x := (Str.ofString "right")) rfl (Or.inl rfl))) da_nil))))) (dw_or1 (dt_not (dt_val (de_callG (G__law_is_truth c) ⟨hE.tb, hE.fa⟩ (hr.mono (by decide)) rfl (da_cons (de_kwN (ks := [(Str.ofString "value"), (Str.ofString "lot"), (Str.ofString "crowd")]) (g := [2, 1, 0]) (st := top 30) (G_is_reaching c) ⟨hE.tb, hE.fa⟩ (hr.mono (by decide)) rfl c.d_is_reaching (fun kV doc pm an cdv ct ws h => match ws, h with | [_w0, _w1, _w2], _ => rfl) (fun l h => match l, h with | [_w0, _w1, _w2], _ => rfl) (dk_cons (de_var (pe_var (i := 10) (x := (Str.ofString "value")) rfl (Or.inl rfl))) (dk_cons (de_var (pe_var (i := 5) (x := (Str.ofString "lot")) rfl (Or.inr (Or.inl rfl)))) (dk_cons (de_var (pe_var (i := 3) (x := (Str.ofString "crowd")) rfl (Or.inr (Or.inl rfl)))) dk_nil)))) (da_cons (de_var (pe_var (i := 11) (x := (Str.ofString "right")) rfl (Or.inl rfl))) da_nil))))))))
      (ds_one (ds_ret (de_bl pe_bl)))
      ds_nil)
    (ds_one (ds_if (PW.pt (dw_and (dt_val (de_var (pe_var (i := 11) (x := (Str.ofString "right")) rfl (Or.inl rfl)))) (dw_and1 (PW.pt (dw_or (dt_cmp (o_ne hu) (dr_of_de (de_ix (dr_of_de (de_var (pe_var (i := 10) (x := (Str.ofString "value")) rfl (Or.inl rfl)))) (dr_of_de (de_int pe_int)) (fun _ _ => rfl))) (dr_of_de (de_ix (dr_of_de (de_var (pe_var (i := 6) (x := (Str.ofString "found")) rfl (Or.inr (Or.inl rfl))))) (dr_of_de (de_int pe_int)) (fun _ _ => rfl))) rfl) (dw_or1 (PW.pt (dw_and (dt_cmp (o_eq hu) (dr_of_de (de_ix (dr_of_de (de_var (pe_var (i := 10) (x := (Str.ofString "value")) rfl (Or.inl rfl)))) (dr_of_de (de_int pe_int)) (fun _ _ => rfl))) (dr_of_de (de_str pe_str)) rfl) (dw_and1 (dt_cmp (o_ne hu) (dr_lst (df_lc (own := [((Str.ofString "person"), 15)]) rfl sc_law.nd (di_seq (de_ix (dr_of_de (de_var (pe_var (i := 10) (x := (Str.ofString "value")) rfl (Or.inl rfl)))) (dr_of_de (de_int pe_int)) (fun _ _ => rfl))) (blkOk_by (by kernel_rfl)) (fun _ _ _ _ _ => (pgT (dg_name (i := 15) sc_law.nd rfl (Or.inl rfl)))) (fun _ _ _ _ _ => (dts_one (dt_cmp (o_nin hu) (dr_of_de (de_var (pe_var (i := 15) (x := (Str.ofString "person")) rfl (Or.inl rfl)))) (dr_of_de (de_var (pe_var (i := 7) (x := (Str.ofString "left")) rfl (Or.inr (Or.inl rfl))))) rfl))) (fun _ _ _ _ _ => (de_int pe_int)) rfl)) (dr_lst (df_lst da_nil)) rfl))))))))))
      (ds_one (ds_ret (de_bl pe_bl)))
      ds_nil))))))))))))
    (ds_cons (ds_asg (de_tupN (da_cons (de_callG (G__law_odd c) ⟨hE.tb, hE.fa⟩ (hr.mono (by decide)) rfl (da_cons (de_var (pe_var (i := 1) (x := (Str.ofString "draws")) rfl (Or.inr (Or.inl rfl)))) da_nil)) (da_cons (de_callG (G__law_hb_no_lot c) ⟨hE.tb, hE.fa⟩ (hr.mono (by decide)) rfl (da_cons (de_var (pe_var (i := 1) (x := (Str.ofString "draws")) rfl (Or.inr (Or.inl rfl)))) (da_cons (de_var (pe_var (i := 4) (x := (Str.ofString "people")) rfl (Or.inl rfl))) da_nil))) da_nil))) (dgn_of (dg_tup rfl (dgs_cons (dg_name (i := 12) sc_law.nd rfl (Or.inr rfl)) (dgs_cons (dg_name (i := 13) sc_law.nd rfl (Or.inr rfl)) dgs_nil)) gtp2)))
    (ds_one (ds_for PassesOwn.never rfl (di_seq (de_lst (df_lst (da_cons (de_fn c.d_reaching hE.fa rfl) (da_cons (de_lam (T := lam_law_0) (ps := [(Str.ofString "one"), (Str.ofString "two")]) (mk_of hE hC (c.l_law _ hm)) rfl rfl (lamP_by (by kernel_rfl))) da_nil))))) (pgT (dg_name (i := 14) sc_law.nd rfl (Or.inr rfl)))
      (ds_cons (ds_if (dt_cmp (o_ne hu) (dr_of_de (de_callG (G__law_k57_kind c) ⟨hE.tb, hE.fa⟩ (hr.mono (by decide)) rfl (da_cons (de_callH (kA := 8) (V := V_law_0 _) (G__law_caught c) ⟨hE.tb, hE.fa⟩ (hr.mono (by decide)) rfl (fun ρ d A h => by
      obtain ⟨rfl, rfl⟩ := h
      exact cal_lam (k := 7) (T := lam_law_1) (tb := fun J ρ => l_law_1 J ρ) (lamP_by (by kernel_rfl)) sc_law.nd (fun q cl pm cv ctv us h => match us, h with | [], _ => rfl) rfl hE.cl (fun xk A outer s1 H1 E f0 c0 j F hx hr nest => by
        have hu := hu100 hr
        exact (de_callV (n := 2) (i := 14) (a := (Str.ofString "ask")) (V := W_law_1 _ ρ) (fun d S h => by
          rcases h with ⟨rfl, rfl⟩ | ⟨rfl, rfl⟩
          · exact calN_X (G_reaching c) ⟨hE.tb, hE.fa⟩ hx (hr.mono (by decide))
          · exact calN_lam (k := 6) (T := lam_law_0) (ps := [(Str.ofString "one"), (Str.ofString "two")]) (is := [18, 19]) (tb := fun J ρ => l_law_0 J ρ) (lamP_by (by kernel_rfl)) sc_law.nd (his_by rfl rfl) rfl (by decide) (by decide) (fun q cl pm cv ctv us h => match us, h with | [_a0, _a1], _ => rfl) rfl hE.cl nest hx (hr.mono (by decide)) (fun A outer s1 H1 E f0 c0 j F hx hr => by
          have hu := hu100 hr
          exact (de_callX hx (G_is_reaching c) ⟨hE.tb, hE.fa⟩ (hr.mono (by decide)) rfl (da_cons (de_var (pe_var (i := 18) (x := (Str.ofString "one")) rfl (Or.inl rfl))) (da_cons (de_var (pe_var (i := 19) (x := (Str.ofString "two")) rfl (Or.inl rfl))) (da_cons (de_non pe_non) da_nil))))) (fun _ _ _ _ _ _ h => h)) rfl (Or.inr (Or.inr rfl)) (da_cons (de_var (pe_var (i := 12) (x := (Str.ofString "odd")) rfl (Or.inr (Or.inr rfl)))) (da_cons (de_var (pe_var (i := 13) (x := (Str.ofString "wrong")) rfl (Or.inr (Or.inr rfl)))) da_nil)))) (fun _ _ _ _ _ _ h => h)) (da_cons (de_lam (T := lam_law_1) (ps := []) (mk_of hE hC (c.l_law _ hm)) rfl rfl (lamP_by (by kernel_rfl))) da_nil)) da_nil))) (dr_lst (df_lst (da_cons (de_int pe_int) da_nil))) rfl)
      (ds_one (ds_ret (de_bl pe_bl)))
      ds_nil)
    (ds_one (ds_if (dt_cmp (o_ne hu) (dr_of_de (de_callG (G__law_k57_kind c) ⟨hE.tb, hE.fa⟩ (hr.mono (by decide)) rfl (da_cons (de_callH (kA := 8) (V := V_law_2 _) (G__law_caught c) ⟨hE.tb, hE.fa⟩ (hr.mono (by decide)) rfl (fun ρ d A h => by
      obtain ⟨rfl, rfl⟩ := h
      exact cal_lam (k := 7) (T := lam_law_2) (tb := fun J ρ => l_law_2 J ρ) (lamP_by (by kernel_rfl)) sc_law.nd (fun q cl pm cv ctv us h => match us, h with | [], _ => rfl) rfl hE.cl (fun xk A outer s1 H1 E f0 c0 j F hx hr nest => by
        have hu := hu100 hr
        exact (de_callV (n := 2) (i := 14) (a := (Str.ofString "ask")) (V := W_law_3 _ ρ) (fun d S h => by
          rcases h with ⟨rfl, rfl⟩ | ⟨rfl, rfl⟩
          · exact calN_X (G_reaching c) ⟨hE.tb, hE.fa⟩ hx (hr.mono (by decide))
          · exact calN_lam (k := 6) (T := lam_law_0) (ps := [(Str.ofString "one"), (Str.ofString "two")]) (is := [18, 19]) (tb := fun J ρ => l_law_0 J ρ) (lamP_by (by kernel_rfl)) sc_law.nd (his_by rfl rfl) rfl (by decide) (by decide) (fun q cl pm cv ctv us h => match us, h with | [_a0, _a1], _ => rfl) rfl hE.cl nest hx (hr.mono (by decide)) (fun A outer s1 H1 E f0 c0 j F hx hr => by
          have hu := hu100 hr
          exact (de_callX hx (G_is_reaching c) ⟨hE.tb, hE.fa⟩ (hr.mono (by decide)) rfl (da_cons (de_var (pe_var (i := 18) (x := (Str.ofString "one")) rfl (Or.inl rfl))) (da_cons (de_var (pe_var (i := 19) (x := (Str.ofString "two")) rfl (Or.inl rfl))) (da_cons (de_non pe_non) da_nil))))) (fun _ _ _ _ _ _ h => h)) rfl (Or.inr (Or.inr rfl)) (da_cons (de_var (pe_var (i := 3) (x := (Str.ofString "crowd")) rfl (Or.inr (Or.inr rfl)))) (da_cons (de_var (pe_var (i := 13) (x := (Str.ofString "wrong")) rfl (Or.inr (Or.inr rfl)))) da_nil)))) (fun _ _ _ _ _ _ h => h)) (da_cons (de_lam (T := lam_law_2) (ps := []) (mk_of hE hC (c.l_law _ hm)) rfl rfl (lamP_by (by kernel_rfl))) da_nil)) da_nil))) (dr_lst (df_lst (da_cons (de_int pe_int) da_nil))) rfl)
      (ds_one (ds_ret (de_bl pe_bl)))
      ds_nil))))))))))
    (ds_one (ds_ret (de_bl pe_bl))))
end
end K57
/-! K57L -/
namespace K57
open PySem PySem.Spec PyProof.Rows L2 DL
def L0 (J : Jst) : DS := (dSet 3 (dCall (S__law_hb_crowd J) (dCons (dVar 1) (dCons (dC (.int 6)) dNil))))
def L1 (J : Jst) : DS := (dSet 4 (dOp dIx (dVar 3) (dC (.int 1))))
def L2B0 (J : Jst) : DS := (dSet 6 (dCall (S_reaching J.calm) (dCons (dVar 3) (dCons (dVar 5) dNil))))
def L2B1 (J : Jst) : DS := (dSet 7 (dO1 dTuple (dLst (dLc (dI seqR (dVar 4)) (gN 15) (dTest (dOp dNin (dVar 15) (dOp dIx (dCall (S__law_hb_rounds J) (dCons (dVar 3) (dCons (dVar 5) dNil))) (dNeg (dC (.int 1)))))) (dVar 15) [15]))))
def L2B2 (J : Jst) : DS := (dIfS (dOrT (dNotT (dTest (dCall (S__law_k57_is J) (dCons (dVar 3) (dCons (dVar 5) (dCons (dVar 6) dNil)))))) (dOrT (dNotT (dTest (dCall (S__law_same J) (dCons (dCall (S_reaching J.calm) (dPerm [1, 0] (dCons (dVar 5) (dCons (dVar 3) dNil)))) (dCons (dVar 6) dNil))))) (dTest (dOp dNe (dOp dEq (dOp dIx (dVar 6) (dC (.int 0))) (dC (.str (Str.ofString "row")))) (dOp dEq (dVar 7) (dTup dNil)))))) (dRet (dC (.bl false))) dNext)
def L2B3 (J : Jst) : DS := (dSet 8 (dO1 dTuple (dLst (dLc (dI seqR (dVar 4)) (gN 15) (dTest (dOp dNin (dVar 15) (dVar 5))) (dVar 15) [15]))))
def L2B4 (J : Jst) : DS := (dSet 9 (dLst (dCons (dVar 6) (dCons (dLst (dF1 dList (dVar 6))) (dCons (dSl (dVar 6) dNoP (dSomeP (dC (.int 1)))) (dCons (dC .non) (dCons (dTup (dCons (dC (.str (Str.ofString "row"))) (dCons (dVar 8) dNil))) (dCons (dTup (dCons (dC (.str (Str.ofString "row"))) (dCons (dO1 dTuple (dCall (S__law_shuffled J) (dCons (dVar 1) (dCons (dLst (dF1 dList (dVar 8))) dNil)))) dNil))) (dCons (dTup (dCons (dC (.str (Str.ofString "kept"))) (dCons (dVar 8) dNil))) (dCons (dTup (dCons (dC (.str (Str.ofString "kept"))) (dCons (dVar 7) dNil))) (dCons (dTup (dCons (dC (.str (Str.ofString "kept"))) (dCons (dTup dNil) dNil))) (dCons (dOp dAdd (dTup (dCons (dC (.str (Str.ofString "row"))) dNil)) (dSl (dVar 6) (dSomeP (dC (.int 1))) dNoP)) dNil))))))))))))
def L2B5B0 (J : Jst) : DS := (dSet 11 (dCall (S__law_k57_is J) (dCons (dVar 3) (dCons (dVar 5) (dCons (dVar 10) dNil)))))
def L2B5B1 (J : Jst) : DS := (dIfS (dOrT (dNotT (dTest (dCall (S__law_is_truth J) (dCons (dCall (S_is_reaching J.calm) (dCons (dVar 3) (dCons (dVar 5) (dCons (dVar 10) dNil)))) (dCons (dVar 11) dNil))))) (dNotT (dTest (dCall (S__law_is_truth J) (dCons (dCall (S_is_reaching J.calm) (dPerm [2, 1, 0] (dCons (dVar 10) (dCons (dVar 5) (dCons (dVar 3) dNil))))) (dCons (dVar 11) dNil)))))) (dRet (dC (.bl false))) dNext)
def L2B5B2 (J : Jst) : DS := (dIfS (dAndT (dTest (dVar 11)) (dOrT (dTest (dOp dNe (dOp dIx (dVar 10) (dC (.int 0))) (dOp dIx (dVar 6) (dC (.int 0))))) (dAndT (dTest (dOp dEq (dOp dIx (dVar 10) (dC (.int 0))) (dC (.str (Str.ofString "kept"))))) (dTest (dOp dNe (dLst (dLc (dI seqR (dOp dIx (dVar 10) (dC (.int 1)))) (gN 15) (dTest (dOp dNin (dVar 15) (dVar 7))) (dC (.int 1)) [15])) (dLst dNil)))))) (dRet (dC (.bl false))) dNext)
def L2B5B (J : Jst) : DS := (dSeq (L2B5B0 J) (dSeq (L2B5B1 J) (L2B5B2 J)))
def L2B5 (J : Jst) : DS := (dFor (dI seqR (dOp dAdd (dOp dAdd (dVar 9) (dLst (dLc (dI seqR (dCall (S__law_hb_lots J) (dCons (dVar 4) dNil))) (gN 17) dTrue (dTup (dCons (dC (.str (Str.ofString "kept"))) (dCons (dVar 17) dNil))) [17]))) (dLst (dLc (dRng1 (dCons (dC (.int 5)) dNil)) (gN 16) dTrue (dCall (S__law_hb_bent J) (dCons (dVar 1) (dCons (dVar 6) dNil))) [16])))) (gN 10) (L2B5B J))
def L2B (J : Jst) : DS := (dSeq (L2B0 J) (dSeq (L2B1 J) (dSeq (L2B2 J) (dSeq (L2B3 J) (dSeq (L2B4 J) (L2B5 J))))))
def L2 (J : Jst) : DS := (dFor (dI seqR (dLst (dCons (dCall (S__law_hb_lot J) (dCons (dVar 1) (dCons (dVar 4) (dCons (dC (.int 2)) dNil)))) (dCons (dCall (S__law_hb_lot J) (dCons (dVar 1) (dCons (dVar 4) (dCons (dC (.int 3)) dNil)))) (dCons (dTup dNil) (dCons (dVar 4) dNil)))))) (gN 5) (L2B J))
def L3 (J : Jst) : DS := (dAsg (dTup (dCons (dCall (S__law_odd J) (dCons (dVar 1) dNil)) (dCons (dCall (S__law_hb_no_lot J) (dCons (dVar 1) (dCons (dVar 4) dNil))) dNil))) (gTp (gCn (gN 12) (gCn (gN 13) gNl))))
def L4B0 (J : Jst) : DS := (dIfS (dTest (dOp dNe (dCall (S__law_k57_kind J) (dCons (dHo (V_law_0 J) (S__law_caught J) (dCons (dLam J lam_law_1) dNil)) dNil)) (dLst (dCons (dC (.int 0)) dNil)))) (dRet (dC (.bl false))) dNext)
def L4B1 (J : Jst) : DS := (dIfS (dTest (dOp dNe (dCall (S__law_k57_kind J) (dCons (dHo (V_law_2 J) (S__law_caught J) (dCons (dLam J lam_law_2) dNil)) dNil)) (dLst (dCons (dC (.int 1)) dNil)))) (dRet (dC (.bl false))) dNext)
def L4B (J : Jst) : DS := (dSeq (L4B0 J) (L4B1 J))
def L4 (J : Jst) : DS := (dFor (dI seqR (dLst (dCons (dC (.ref (J.fa (Str.ofString "reaching")))) (dCons (dLam J lam_law_0) dNil)))) (gN 14) (L4B J))
def L (J : Jst) : DS := (dSeq (L0 J) (dSeq (L1 J) (dSeq (L2 J) (dSeq (L3 J) (L4 J)))))
def T0 (J : Jst) : DS := (dFor (dRng1 (dCons (dOp dAdd (dC (.int 3)) (d2 oMin (dCons (dO1 dLen (dVar 0)) (dCons (dC (.int 5)) dNil)))) dNil)) (gN 2) (L J))
def T1 (J : Jst) : DS := (dRet (dC (.bl true)))
/-- draws in a list's rule -/
theorem compW_inv {g : DG} {te : DE} {ρ : List SD} {P : List D → JS → Prop} (I : Nat → JS → Prop) (G : D → Prop) : ∀ (l : List D) (i : Nat) (j : JS) (acc : List D), I i j → (∀ d ∈ acc, G d) → (∀ a ∈ l, ∀ i' j, i' < i + l.length → I i' j → ∀ Q : D → JS → Prop, (∀ d j', G d → I (i' + 1) j' → Q d j') → g a ρ fun ρ2 => te j ρ2 Q) → (∀ ds j', (∀ d ∈ ds, G d) → ds.length = acc.length + l.length → I (i + l.length) j' → P ds j') → compW g dTrue te ρ P l acc j
  | [], i, j, acc, h, ha, _, k => k acc j ha rfl h
  | a :: l, i, j, acc, h, ha, st, k => by
    have e : i + (a :: l).length = (i + 1) + l.length := by rw [List.length_cons]; omega
    refine st a List.mem_cons_self i j (by rw [List.length_cons]; omega) h _ fun d j' hd h' => ?_
    refine compW_inv I G l (i + 1) j' (acc ++ [d]) h' (fun y hy => ?_) (fun b hb i' j2 hi => st b (List.mem_cons_of_mem _ hb) i' j2 (by rw [e]; exact hi)) fun ds j2 hds hl h2 => k ds j2 hds (by rw [hl, List.length_append, List.length_cons, List.length_cons, List.length_nil]; omega) (by rw [e]; exact h2)
    rcases List.mem_append.mp hy with z | z
    · exact ha y z
    · simp at z; subst z; exact hd
theorem same_ok {J : Jst} {j : JS} {P : D → JS → Prop} {x : D} (h1 : lv 15 x = true) (h2 : sizeD x ≤ 1000000) (k : P (.bl true) j) : S__law_same J [x, x] j P := ⟨x, rfl, h1, h2, k⟩
/-- what is told -/
def told (c : Cr) (l : List Str) (w : Str) (m : List Str) : Prop := (w = Str.ofString "row" ∧ others c (reach c l) = [] ∧ m = rowB c c.P.length l) ∨ (w = Str.ofString "kept" ∧ others c (reach c l) ≠ [] ∧ m = others c (reach c l))
theorem told_of (c : Cr) (l : List Str) : ∃ w m, told c l w m ∧ reachV c l = .tup [.str w, lotD m] := by
  by_cases h : others c (reach c l) = []
  · exact ⟨_, _, .inl ⟨rfl, h, rfl⟩, by unfold reachV; rw [if_pos h]⟩
  · exact ⟨_, _, .inr ⟨rfl, h, rfl⟩, by unfold reachV; rw [if_neg h]⟩
theorem told_in {c : Cr} (g : GoodC c) {l : List Str} (hl : okL c.P l) {w : Str} {m : List Str} (h : told c l w m) : m.Nodup ∧ ∀ x ∈ m, x ∈ c.P := by
  rcases h with ⟨_, _, rfl⟩ | ⟨_, _, rfl⟩
  · obtain ⟨_, h2, h3, _⟩ := row_spec g _ l hl (Nat.le_add_left _ _)
    exact ⟨h2, fun x hx => (h3 x hx).1⟩
  · exact ⟨asc_nodup (others_ok g _).1, (others_ok g _).2⟩
theorem told_len {c : Cr} (g : GoodC c) {l : List Str} (hl : okL c.P l) {w : Str} {m : List Str} (h : told c l w m) : m.length ≤ 6 := by
  obtain ⟨h1, h2⟩ := told_in g hl h
  have := h1.length_le_of_subset h2
  have := P6 g
  omega
theorem l0_ok {J : Jst} {E : DEnds} {j : JS} {s0 s2 s3 s4 s5 s6 s7 s8 s9 s10 s11 s12 s13 s14 s15 s16 s17 s18 s19 : SD} {b : Int} (h : JB J b j) (hb : b < 2 ^ 188) (hc : J.cs.length ≤ 63) (k : ∀ c j', GoodC c → JB J (b + 2 ^ 102) j' → E.nx j' [s0, .val (.ref J.ad), s2, .val (crD c), s4, s5, s6, s7, s8, s9, s10, s11, s12, s13, s14, s15, s16, s17, s18, s19]) : L0 J E j [s0, .val (.ref J.ad), s2, s3, s4, s5, s6, s7, s8, s9, s10, s11, s12, s13, s14, s15, s16, s17, s18, s19] := by
  simp [L0]
  exact ⟨b, rfl, h, hb, hc, fun c j' g hW hj => k c j' g hj⟩
theorem l1_ok {J : Jst} {E : DEnds} {j : JS} {s0 s2 s4 s5 s6 s7 s8 s9 s10 s11 s12 s13 s14 s15 s16 s17 s18 s19 : SD} {c : Cr} (g : GoodC c) (k : E.nx j [s0, .val (.ref J.ad), s2, .val (crD c), .val (.tup (stD c.P)), s5, s6, s7, s8, s9, s10, s11, s12, s13, s14, s15, s16, s17, s18, s19]) : L1 J E j [s0, .val (.ref J.ad), s2, .val (crD c), s4, s5, s6, s7, s8, s9, s10, s11, s12, s13, s14, s15, s16, s17, s18, s19] := by
  simp [L1, crD]
  exact k
theorem l2b0_ok {J : Jst} {E : DEnds} {j : JS} {s0 s2 s6 s7 s8 s9 s10 s11 s12 s13 s14 s15 s16 s17 s18 s19 : SD} {c : Cr} (g : GoodC c) {l : List Str} (hl : okL c.P l) (k : ∀ w m, told c l w m → reachV c l = .tup [.str w, lotD m] → E.nx j [s0, .val (.ref J.ad), s2, .val (crD c), .val (.tup (stD c.P)), .val (lotD l), .val (.tup [.str w, lotD m]), s7, s8, s9, s10, s11, s12, s13, s14, s15, s16, s17, s18, s19]) : L2B0 J E j [s0, .val (.ref J.ad), s2, .val (crD c), .val (.tup (stD c.P)), .val (lotD l), s6, s7, s8, s9, s10, s11, s12, s13, s14, s15, s16, s17, s18, s19] := by
  simp [L2B0]
  obtain ⟨w, m, h1, h2⟩ := told_of c l
  refine ⟨_, _, rfl, .inl ⟨c, l, rfl, rfl, g, hl, ?_⟩⟩
  rw [h2]
  exact k w m h1 h2
theorem l2b1_ok {J : Jst} {E : DEnds} {j : JS} {s0 s2 s7 s8 s9 s10 s11 s12 s13 s14 s15 s16 s17 s18 s19 : SD} {c : Cr} (g : GoodC c) {l : List Str} (hl : okL c.P l) {w : Str} {m : List Str} (k : ∀ s15, E.nx j [s0, .val (.ref J.ad), s2, .val (crD c), .val (.tup (stD c.P)), .val (lotD l), .val (.tup [.str w, lotD m]), .val (lotD (others c (reach c l))), s8, s9, s10, s11, s12, s13, s14, s15, s16, s17, s18, s19]) : L2B1 J E j [s0, .val (.ref J.ad), s2, .val (crD c), .val (.tup (stD c.P)), .val (lotD l), .val (.tup [.str w, lotD m]), s7, s8, s9, s10, s11, s12, s13, s14, s15, s16, s17, s18, s19] := by
  simp [L2B1]
  refine compW_in (l := c.P) (fun x => decide (x ∉ reach c l)) (fun x hx Q q => ?_) (k _)
  simp
  refine ⟨c, l, rfl, g, hl, ?_⟩
  simp [rds_last, show lastR c c.P.length l = reach c l from rfl, lv_str, lv_stD, hasIn_stD]
  by_cases z : x ∈ reach c l <;> simp [z] at q ⊢ <;> exact q
theorem l2b2_ok {J : Jst} {E : DEnds} {j : JS} {s0 s2 s8 s9 s10 s11 s12 s13 s14 s15 s16 s17 s18 s19 : SD} {c : Cr} (g : GoodC c) {l : List Str} (hl : okL c.P l) {w : Str} {m : List Str} (ht : told c l w m) (e : reachV c l = .tup [.str w, lotD m]) (k : E.nx j [s0, .val (.ref J.ad), s2, .val (crD c), .val (.tup (stD c.P)), .val (lotD l), .val (.tup [.str w, lotD m]), .val (lotD (others c (reach c l))), s8, s9, s10, s11, s12, s13, s14, s15, s16, s17, s18, s19]) : L2B2 J E j [s0, .val (.ref J.ad), s2, .val (crD c), .val (.tup (stD c.P)), .val (lotD l), .val (.tup [.str w, lotD m]), .val (lotD (others c (reach c l))), s8, s9, s10, s11, s12, s13, s14, s15, s16, s17, s18, s19] := by
  have t6 := told_len g hl ht
  have right := told_right g hl
  rw [e] at right
  have hw : w.length ≤ 60 := by rcases ht with ⟨rfl, _⟩ | ⟨rfl, _⟩ <;> decide
  simp [L2B2]
  refine ⟨c, l, _, rfl, g, hl, pv_mk (by simp) (fun y hy => ?_), ?_⟩
  · simp at hy
    rcases hy with rfl | rfl
    · exact ⟨pv_str _ _, rfl⟩
    · exact ⟨pv_lot _ (by omega), rfl⟩
  · rw [right]
    simp
    refine ⟨_, _, rfl, .inl ⟨c, l, rfl, rfl, g, hl, ?_⟩⟩
    rw [e]
    refine same_ok ?_ ?_ ?_
    · rw [lv_tup]
      simp [lv_lot, lv_str]
    · have f1 := size_stD m
      simp only [sizeD, sizeAllD, lotD]
      omega
    · simp
      rcases ht with ⟨rfl, h1, _⟩ | ⟨rfl, h1, _⟩
      · rw [h1] at k
        simp [lv_str, h1]
        exact k
      · simp [lv_str, h1]
        exact k
theorem l2b3_ok {J : Jst} {E : DEnds} {j : JS} {s0 s2 s8 s9 s10 s11 s12 s13 s14 s15 s16 s17 s18 s19 : SD} {c : Cr} {l : List Str} {w : Str} {m : List Str} (k : ∀ s15, E.nx j [s0, .val (.ref J.ad), s2, .val (crD c), .val (.tup (stD c.P)), .val (lotD l), .val (.tup [.str w, lotD m]), .val (lotD (others c (reach c l))), .val (lotD (others c l)), s9, s10, s11, s12, s13, s14, s15, s16, s17, s18, s19]) : L2B3 J E j [s0, .val (.ref J.ad), s2, .val (crD c), .val (.tup (stD c.P)), .val (lotD l), .val (.tup [.str w, lotD m]), .val (lotD (others c (reach c l))), s8, s9, s10, s11, s12, s13, s14, s15, s16, s17, s18, s19] := by
  simp [L2B3]
  refine compW_in (l := c.P) (fun x => decide (x ∉ l)) (fun x hx Q q => ?_) (k _)
  simp [lv_str, lv_stD, hasIn_stD]
  by_cases z : x ∈ l <;> simp [z] at q ⊢ <;> exact q
theorem l2b4_ok {J : Jst} {E : DEnds} {j : JS} {s0 s2 s9 s10 s11 s12 s13 s14 s15 s16 s17 s18 s19 : SD} {c : Cr} (g : GoodC c) {l : List Str} {w : Str} {m : List Str} {b : Int} (h : JB J b j) (hb : b < 2 ^ 198) (k : ∀ vs j', (∀ d ∈ vs, pv 2 d) → vs.length = 10 → JB J (b + 6) j' → E.nx j' [s0, .val (.ref J.ad), s2, .val (crD c), .val (.tup (stD c.P)), .val (lotD l), .val (.tup [.str w, lotD m]), .val (lotD (others c (reach c l))), .val (lotD (others c l)), .val (.lst vs), s10, s11, s12, s13, s14, s15, s16, s17, s18, s19]) (hm : m.length ≤ 6) : L2B4 J E j [s0, .val (.ref J.ad), s2, .val (crD c), .val (.tup (stD c.P)), .val (lotD l), .val (.tup [.str w, lotD m]), .val (lotD (others c (reach c l))), .val (lotD (others c l)), s9, s10, s11, s12, s13, s14, s15, s16, s17, s18, s19] := by
  have o6 : (others c l).length ≤ 6 := Nat.le_trans (len_le (others_ok g l)) (P6 g)
  have sl : (stD (others c l)).length = (others c l).length := by simp
  simp [L2B4]
  show S__law_shuffled J [.ref J.ad, .lst (stD (others c l))] j _
  refine ⟨b, stD (others c l), rfl, h, by rw [sl]; omega, by rw [sl]; omega, fun d hd => ?_, fun l' j' hp hj => ?_⟩
  · obtain ⟨s, _, rfl⟩ := List.mem_map.mp hd
    exact lv_str _ _
  · refine ⟨by rw [sizeLine_eq]; decide, k _ j' (fun d hd => ?_) rfl (hj.mono (by rw [sl]; omega))⟩
    have r6 : (others c (reach c l)).length ≤ 6 := Nat.le_trans (len_le (others_ok g _)) (P6 g)
    have two : ∀ (v : Str) (y : D), pv 1 y → isLstD y = false → pv 2 (.tup [.str v, y]) := fun v y h1 h2 => pv_mk (by simp) fun z hz => by
      simp at hz
      rcases hz with rfl | rfl
      · exact ⟨pv_str _ _, rfl⟩
      · exact ⟨h1, h2⟩
    have pl := hp.length_eq
    rw [sl] at pl
    simp at hd
    rcases hd with rfl | rfl | rfl | rfl | rfl | rfl | rfl | rfl | rfl | rfl
    · exact two _ _ (pv_lot _ (by omega)) rfl
    · exact pv_leaf rfl (fun _ e => by cases e) _
    · exact pv_mk (by simp) fun z hz => by simp at hz; subst hz; exact ⟨pv_str _ _, rfl⟩
    · exact pv_leaf rfl (fun _ e => by cases e) _
    · exact two _ _ (pv_lot _ (by omega)) rfl
    · refine two _ _ (pv_mk (by omega) fun z hz => ?_) rfl
      obtain ⟨s, _, rfl⟩ := List.mem_map.mp (hp.subset hz)
      exact ⟨pv_str _ _, rfl⟩
    · exact two _ _ (pv_lot _ (by omega)) rfl
    · exact two _ _ (pv_lot _ (by omega)) rfl
    · exact two _ _ (pv_lot (l := []) _ (by decide)) rfl
    · exact two _ _ (pv_lot _ (by omega)) rfl

end K57

/-! K57L2 -/
namespace K57
open PySem PySem.Spec PyProof.Rows L2 DL
theorem l2b5b0_ok {J : Jst} {E : DEnds} {j : JS} {s0 s2 s11 s12 s13 s14 s15 s16 s17 s18 s19 : SD} {c : Cr} (g : GoodC c) {l : List Str} (hl : okL c.P l) {w : Str} {m : List Str} {vs : List D} {x : D} (hx : pv 2 x) (k : E.nx j [s0, .val (.ref J.ad), s2, .val (crD c), .val (.tup (stD c.P)), .val (lotD l), .val (.tup [.str w, lotD m]), .val (lotD (others c (reach c l))), .val (lotD (others c l)), .val (.lst vs), .val (x), .val (.bl (reachB c l x)), s12, s13, s14, s15, s16, s17, s18, s19]) : L2B5B0 J E j [s0, .val (.ref J.ad), s2, .val (crD c), .val (.tup (stD c.P)), .val (lotD l), .val (.tup [.str w, lotD m]), .val (lotD (others c (reach c l))), .val (lotD (others c l)), .val (.lst vs), .val (x), s11, s12, s13, s14, s15, s16, s17, s18, s19] := by
  simp [L2B5B0]
  exact ⟨c, l, x, rfl, g, hl, hx, k⟩
theorem l2b5b1_ok {J : Jst} {E : DEnds} {j : JS} {s0 s2 s12 s13 s14 s15 s16 s17 s18 s19 : SD} {c : Cr} (g : GoodC c) {l : List Str} (hl : okL c.P l) {w : Str} {m : List Str} {vs : List D} {x : D} (hx : pv 2 x) (k : E.nx j [s0, .val (.ref J.ad), s2, .val (crD c), .val (.tup (stD c.P)), .val (lotD l), .val (.tup [.str w, lotD m]), .val (lotD (others c (reach c l))), .val (lotD (others c l)), .val (.lst vs), .val (x), .val (.bl (reachB c l x)), s12, s13, s14, s15, s16, s17, s18, s19]) : L2B5B1 J E j [s0, .val (.ref J.ad), s2, .val (crD c), .val (.tup (stD c.P)), .val (lotD l), .val (.tup [.str w, lotD m]), .val (lotD (others c (reach c l))), .val (lotD (others c l)), .val (.lst vs), .val (x), .val (.bl (reachB c l x)), s12, s13, s14, s15, s16, s17, s18, s19] := by
  simp [L2B5B1]
  refine ⟨_, _, _, rfl, .inl ⟨c, l, rfl, rfl, g, hl, hx, ?_⟩⟩
  refine ⟨_, _, rfl, ?_⟩
  simp
  refine ⟨_, _, _, rfl, .inl ⟨c, l, rfl, rfl, g, hl, hx, ?_⟩⟩
  refine ⟨_, _, rfl, ?_⟩
  simp
  exact k
theorem row_form {c : Cr} {l : List Str} {y : D} (h : rowOk c l y = true) : ∃ r, y = lotD r := by
  cases y with
  | tup xs =>
    cases e : strsOf xs with
    | none => simp [rowOk, e] at h
    | some r => exact ⟨r, by rw [strsOf_some e]; rfl⟩
  | _ => cases h
theorem kept_form {c : Cr} {l : List Str} {y : D} (h : keptOk c l y = true) : ∃ r, y = lotD r := by
  have h : isLotB c.P y = true := by
    unfold keptOk at h
    rw [Bool.and_eq_true] at h
    exact h.1
  obtain ⟨r, e, _⟩ := isLotB_iff.mp h
  exact ⟨r, e⟩
theorem l2b5b2_ok {J : Jst} {E : DEnds} {j : JS} {s0 s2 s12 s13 s14 s15 s16 s17 s18 s19 : SD} {c : Cr} (g : GoodC c) {l : List Str} (hl : okL c.P l) {w : Str} {m : List Str} (ht : told c l w m) {vs : List D} {x : D} (hx : pv 2 x) (k : ∀ s15, E.nx j [s0, .val (.ref J.ad), s2, .val (crD c), .val (.tup (stD c.P)), .val (lotD l), .val (.tup [.str w, lotD m]), .val (lotD (others c (reach c l))), .val (lotD (others c l)), .val (.lst vs), .val (x), .val (.bl (reachB c l x)), s12, s13, s14, s15, s16, s17, s18, s19]) : L2B5B2 J E j [s0, .val (.ref J.ad), s2, .val (crD c), .val (.tup (stD c.P)), .val (lotD l), .val (.tup [.str w, lotD m]), .val (lotD (others c (reach c l))), .val (lotD (others c l)), .val (.lst vs), .val (x), .val (.bl (reachB c l x)), s12, s13, s14, s15, s16, s17, s18, s19] := by
  simp [L2B5B2]
  cases r : reachB c l x with
  | false =>
    simp
    rw [← r]
    exact k _
  | true =>
    simp
    have r0 := r
    unfold reachB at r
    split at r
    · rename_i v y
      by_cases h1 : v = Str.ofString "row"
      · subst h1
        rw [if_pos rfl] at r
        obtain ⟨r1, rfl⟩ := row_form r
        have oth := row_all g hl r
        rcases ht with ⟨rfl, h1, _⟩ | ⟨_, h1, _⟩
        · rw [r0] at k
          simp [lv_str]
          exact k _
        · exact absurd oth h1
      · rw [if_neg h1] at r
        by_cases h2 : v = Str.ofString "kept"
        · subst h2
          rw [if_pos rfl] at r
          obtain ⟨r1, rfl⟩ := kept_form r
          obtain ⟨n1, n2⟩ := kept_in g hl r
          rcases ht with ⟨_, h1, _⟩ | ⟨rfl, h1, _⟩
          · obtain ⟨z, hz⟩ := List.exists_mem_of_ne_nil _ n1
            have := n2 z hz
            rw [h1] at this
            cases this
          · rw [r0] at k
            simp [lv_str]
            refine compW_ones D.str (fun x => decide (x ∉ others c (reach c l))) (fun x hx Q q => ?_) ?_
            · simp [lv_str, lv_stD, hasIn_stD]
              by_cases z : x ∈ others c (reach c l) <;> simp [z] at q ⊢ <;> exact q
            · refine ⟨lv_ones 19 _, rfl, ?_⟩
              rw [deqv_ones, (count0 _ _).mpr fun x hx => by simp [n2 x hx]]
              simp
              exact k _
        · rw [if_neg h2] at r
          cases r
    · cases r
theorem l2b5b_ok {J : Jst} {E : DEnds} {j : JS} {s0 s2 s11 s12 s13 s14 s15 s16 s17 s18 s19 : SD} {c : Cr} (g : GoodC c) {l : List Str} (hl : okL c.P l) {w : Str} {m : List Str} (ht : told c l w m) {vs : List D} {x : D} (hx : pv 2 x) (k : ∀ s11 s15, E.nx j [s0, .val (.ref J.ad), s2, .val (crD c), .val (.tup (stD c.P)), .val (lotD l), .val (.tup [.str w, lotD m]), .val (lotD (others c (reach c l))), .val (lotD (others c l)), .val (.lst vs), .val (x), s11, s12, s13, s14, s15, s16, s17, s18, s19]) : L2B5B J E j [s0, .val (.ref J.ad), s2, .val (crD c), .val (.tup (stD c.P)), .val (lotD l), .val (.tup [.str w, lotD m]), .val (lotD (others c (reach c l))), .val (lotD (others c l)), .val (.lst vs), .val (x), s11, s12, s13, s14, s15, s16, s17, s18, s19] := by
  refine seq_ab fun E0 n0 => l2b5b0_ok g hl hx (n0 _ _ ?_)
  refine seq_ab fun E1 n1 => l2b5b1_ok g hl hx (n1 _ _ ?_)
  exact l2b5b2_ok g hl ht hx fun _ => k _ _
theorem told_hpw {c : Cr} (g : GoodC c) {l : List Str} (hl : okL c.P l) {w : Str} {m : List Str} (ht : told c l w m) : hpw 6 (.tup [.str w, lotD m]) = true ∧ dep (.tup [.str w, lotD m]) ≤ 5 := by
  have t6 := told_len g hl ht
  obtain ⟨_, ti⟩ := told_in g hl ht
  have hw : w.length ≤ 60 := by rcases ht with ⟨rfl, _⟩ | ⟨rfl, _⟩ <;> decide
  have d0 : ∀ q : List Str, depAll (stD q) = 0 := fun q => by
    induction q with
    | nil => rfl
    | cons a r ih =>
      show max (dep (.str a)) (depAll (stD r)) = 0
      rw [ih]
      rfl
  refine ⟨hpw_tup.mpr ⟨by simp, fun y hy => ?_⟩, ?_⟩
  · simp at hy
    rcases hy with rfl | rfl
    · simp [hpw]; omega
    · refine hpw_tup.mpr ⟨by simpa using t6, fun y hy => ?_⟩
      obtain ⟨s, hs, rfl⟩ := List.mem_map.mp hy
      have := (g.names.2.2.1 s (ti s hs)).2.1
      simp [hpw]; omega
  · simp [dep, depAll, lotD, d0]
theorem l2b5_ok {J : Jst} {E : DEnds} {j : JS} {s0 s2 s10 s11 s12 s13 s14 s15 s16 s17 s18 s19 : SD} {c : Cr} (g : GoodC c) {l : List Str} (hl : okL c.P l) {w : Str} {m : List Str} (ht : told c l w m) {vs : List D} (hv : ∀ d ∈ vs, pv 2 d) (v10 : vs.length = 10) {b : Int} (h : JB J b j) (hb : b < 2 ^ 194) (k : ∀ j' s10 s11 s15 s16 s17, JB J (b + 200) j' → E.nx j' [s0, .val (.ref J.ad), s2, .val (crD c), .val (.tup (stD c.P)), .val (lotD l), .val (.tup [.str w, lotD m]), .val (lotD (others c (reach c l))), .val (lotD (others c l)), .val (.lst vs), s10, s11, s12, s13, s14, s15, s16, s17, s18, s19]) : L2B5 J E j [s0, .val (.ref J.ad), s2, .val (crD c), .val (.tup (stD c.P)), .val (lotD l), .val (.tup [.str w, lotD m]), .val (lotD (others c (reach c l))), .val (lotD (others c l)), .val (.lst vs), s10, s11, s12, s13, s14, s15, s16, s17, s18, s19] := by
  have few := lots_few g
  obtain ⟨p1, p2⟩ := told_hpw g hl ht
  simp [L2B5]
  refine ⟨c.P, rfl, P6 g, ?_⟩
  dsimp only
  refine compW_map (fun d => .tup [.str (Str.ofString "kept"), d]) (fun d hd Q q => ?_) ⟨by rw [v10, List.length_map, List.length_map, sizeLine_eq]; omega, ?_⟩
  · simpa using q
  refine compW_inv (fun i j' => JB J (b + 24 * i) j') (fun d => pv 2 d) (upto 5) 0 j [] (by simpa using h) (by simp) (fun a ha i j1 il hi Q q => ?_) fun ds j1 hds dl h1 => ⟨by rw [upto_len] at dl; rw [v10, List.length_map, List.length_map, sizeLine_eq, dl]; simp; omega, ?_⟩
  · rw [upto_len] at il
    simp
    refine ⟨b + 24 * i, _, 6, rfl, p1, p2, by decide, by decide, hi, ?_, fun d j2 hd h2 => q d j2 (pv_hpw (by decide) 2 hd) (h2.mono ?_)⟩
    · show b + 24 * (i : Int) + 4 * (5 + 1) < 2 ^ 195
      omega
    · show b + 24 * (i : Int) + 4 * (5 + 1) ≤ b + 24 * ((i + 1 : Nat) : Int)
      omega
  refine for_okD (fun ρ => ∃ s10 s11 s15, ρ = [s0, .val (.ref J.ad), s2, .val (crD c), .val (.tup (stD c.P)), .val (lotD l), .val (.tup [.str w, lotD m]), .val (lotD (others c (reach c l))), .val (lotD (others c l)), .val (.lst vs), s10, s11, s12, s13, s14, s15, s16, s17, s18, s19]) _ _ ⟨_, _, _, rfl⟩ (fun d hd ρ ⟨s10, s11, s15, e⟩ E' k' => ?_) fun ρ ⟨s10, s11, s15, e⟩ => e ▸ k _ _ _ _ _ _ (h1.mono (by rw [upto_len]; omega))
  subst e
  have hd : pv 2 d := by
    rcases List.mem_append.mp hd with z | z
    · exact hv d z
    · rcases List.mem_append.mp z with z | z
      · obtain ⟨y, hy, rfl⟩ := List.mem_map.mp z
        obtain ⟨q, hq, rfl⟩ := List.mem_map.mp hy
        have := few.2 q hq
        exact pv_mk (by simp) fun y hy => by
          simp at hy
          rcases hy with rfl | rfl
          · exact ⟨pv_str _ _, rfl⟩
          · exact ⟨pv_lot _ (by omega), rfl⟩
      · exact hds d z
  exact l2b5b_ok g hl ht hd fun _ _ => k' _ ⟨_, _, _, rfl⟩
theorem l2b_ok {J : Jst} {E : DEnds} {j : JS} {s0 s2 s6 s7 s8 s9 s10 s11 s12 s13 s14 s15 s16 s17 s18 s19 : SD} {c : Cr} (g : GoodC c) {l : List Str} (hl : okL c.P l) {b : Int} (h : JB J b j) (hb : b < 2 ^ 193) (k : ∀ j' s6 s7 s8 s9 s10 s11 s15 s16 s17, JB J (b + 206) j' → E.nx j' [s0, .val (.ref J.ad), s2, .val (crD c), .val (.tup (stD c.P)), .val (lotD l), s6, s7, s8, s9, s10, s11, s12, s13, s14, s15, s16, s17, s18, s19]) : L2B J E j [s0, .val (.ref J.ad), s2, .val (crD c), .val (.tup (stD c.P)), .val (lotD l), s6, s7, s8, s9, s10, s11, s12, s13, s14, s15, s16, s17, s18, s19] := by
  refine seq_ab fun E0 n0 => l2b0_ok g hl fun w m ht e => n0 _ _ ?_
  refine seq_ab fun E1 n1 => l2b1_ok g hl fun _ => n1 _ _ ?_
  refine seq_ab fun E2 n2 => l2b2_ok g hl ht e (n2 _ _ ?_)
  refine seq_ab fun E3 n3 => l2b3_ok fun _ => n3 _ _ ?_
  refine seq_ab fun E4 n4 => l2b4_ok g h (by omega) (fun vs j1 hv v10 h1 => n4 _ _ ?_) (told_len g hl ht)
  exact l2b5_ok g hl ht hv v10 h1 (by omega) fun j2 _ _ _ _ _ h2 => k _ _ _ _ _ _ _ _ _ _ (h2.mono (by omega))

end K57

/-! K57L3 -/
namespace K57
open PySem PySem.Spec PyProof.Rows L2 DL
theorem l2_ok {J : Jst} {E : DEnds} {j : JS} {s0 s2 s5 s6 s7 s8 s9 s10 s11 s12 s13 s14 s15 s16 s17 s18 s19 : SD} {c : Cr} (g : GoodC c) {b : Int} (h : JB J b j) (hb : b < 2 ^ 192) (k : ∀ j' s5 s6 s7 s8 s9 s10 s11 s15 s16 s17, JB J (b + 4000) j' → E.nx j' [s0, .val (.ref J.ad), s2, .val (crD c), .val (.tup (stD c.P)), s5, s6, s7, s8, s9, s10, s11, s12, s13, s14, s15, s16, s17, s18, s19]) : L2 J E j [s0, .val (.ref J.ad), s2, .val (crD c), .val (.tup (stD c.P)), s5, s6, s7, s8, s9, s10, s11, s12, s13, s14, s15, s16, s17, s18, s19] := by
  have p6 := P6 g
  simp [L2]
  refine ⟨b, 2, c.P, rfl, h, by omega, by decide, by decide, g.names.2.2.2, by omega, fun l1 j1 ok1 h1 => ?_⟩
  refine ⟨b + 1000, 3, c.P, rfl, h1, by omega, by decide, by decide, g.names.2.2.2, by omega, fun l2 j2 ok2 h2 => ?_⟩
  refine for_invD (fun i j' ρ => JB J (b + 2000 + 206 * i) j' ∧ ∃ s5 s6 s7 s8 s9 s10 s11 s15 s16 s17, ρ = [s0, .val (.ref J.ad), s2, .val (crD c), .val (.tup (stD c.P)), s5, s6, s7, s8, s9, s10, s11, s12, s13, s14, s15, s16, s17, s18, s19]) _ j2 _ ⟨h2.mono (by omega), _, _, _, _, _, _, _, _, _, _, rfl⟩ (fun d hd i j3 ρ hi ⟨h3, s5, s6, s7, s8, s9, s10, s11, s15, s16, s17, e⟩ E' k' => ?_) fun j3 ρ ⟨h3, s5, s6, s7, s8, s9, s10, s11, s15, s16, s17, e⟩ => e ▸ k _ _ _ _ _ _ _ _ _ _ _ (h3.mono (by simp; omega))
  subst e
  have hi : i < 4 := by simpa using hi
  obtain ⟨l, rfl, ok⟩ : ∃ l, d = lotD l ∧ okL c.P l := by
    simp at hd
    rcases hd with rfl | rfl | rfl | rfl
    · exact ⟨_, rfl, ok1⟩
    · exact ⟨_, rfl, ok2⟩
    · exact ⟨[], rfl, List.Pairwise.nil, by simp⟩
    · exact ⟨_, rfl, g.names.2.2.2, fun x h => h⟩
  exact l2b_ok g ok h3 (by omega) fun j4 _ _ _ _ _ _ _ _ _ h4 => k' _ _ ⟨h4.mono (by omega), _, _, _, _, _, _, _, _, _, _, rfl⟩
theorem l3_ok {J : Jst} {E : DEnds} {j : JS} {s0 s2 s5 s6 s7 s8 s9 s10 s11 s12 s13 s14 s15 s16 s17 s18 s19 : SD} {c : Cr} (g : GoodC c) {b : Int} (h : JB J b j) (hb : b < 2 ^ 198) (k : ∀ d v j', noCr d → noLot c.P v → JB J (b + 2) j' → E.nx j' [s0, .val (.ref J.ad), s2, .val (crD c), .val (.tup (stD c.P)), s5, s6, s7, s8, s9, s10, s11, .val (d), .val (v), s14, s15, s16, s17, s18, s19]) : L3 J E j [s0, .val (.ref J.ad), s2, .val (crD c), .val (.tup (stD c.P)), s5, s6, s7, s8, s9, s10, s11, s12, s13, s14, s15, s16, s17, s18, s19] := by
  simp [L3]
  refine ⟨b, rfl, h, by omega, fun d j1 hd h1 => ?_⟩
  refine ⟨b + 1, c.P, rfl, g.names, h1, by omega, fun v j2 hv h2 => ?_⟩
  exact k d v j2 hd hv (h2.mono (by omega))
theorem asks {J : Jst} {f : D} (hf : f = .ref (J.fa (Str.ofString "reaching")) ∨ f = .clo lam_law_0 J.cl) : f = .ref (J.fa (Str.ofString "reaching")) ∨ f = .clo lam_law_0 J.cl := hf
theorem l4b0_ok {J : Jst} {E : DEnds} {j : JS} {s0 s2 s5 s6 s7 s8 s9 s10 s11 s15 s16 s17 s18 s19 : SD} {c : Cr} {d v f : D} (hd : noCr d) (hf : f = .ref (J.fa (Str.ofString "reaching")) ∨ f = .clo lam_law_0 J.cl) (k : E.nx j [s0, .val (.ref J.ad), s2, .val (crD c), .val (.tup (stD c.P)), s5, s6, s7, s8, s9, s10, s11, .val (d), .val (v), .val (f), s15, s16, s17, s18, s19]) : L4B0 J E j [s0, .val (.ref J.ad), s2, .val (crD c), .val (.tup (stD c.P)), s5, s6, s7, s8, s9, s10, s11, .val (d), .val (v), .val (f), s15, s16, s17, s18, s19] := by
  have er : ∃ y ∈ errs, J.fa (Str.ofString "BadCrowd") = J.fa y := ⟨Str.ofString "BadCrowd", by decide, rfl⟩
  have e : ∀ P : D → JS → Prop, P (.bl false) j → (dOp dNe (dC (.lst [.int 0])) (dC (.lst [.int 0]))) j [] P := fun P p => by
    simp [lv, deqv, enc, encAll, PyData.eqv, PyData.eqvAll]
    exact p
  refine ⟨_, ⟨rfl, rfl⟩, rfl, ?_⟩
  rcases hf with rfl | rfl
  · exact ⟨_, _, rfl, .inl ⟨rfl, rfl⟩, _, _, rfl, .inr (.inr ⟨hd, er, .inl ⟨_, _, rfl, e _ k⟩⟩)⟩
  · exact ⟨_, _, rfl, .inr ⟨rfl, rfl⟩, _, _, _, rfl, .inr (.inr ⟨hd, er, .inl ⟨_, _, rfl, e _ k⟩⟩)⟩
theorem l4b1_ok {J : Jst} {E : DEnds} {j : JS} {s0 s2 s5 s6 s7 s8 s9 s10 s11 s15 s16 s17 s18 s19 : SD} {c : Cr} (g : GoodC c) {d v f : D} (hv : noLot c.P v) (hf : f = .ref (J.fa (Str.ofString "reaching")) ∨ f = .clo lam_law_0 J.cl) (k : E.nx j [s0, .val (.ref J.ad), s2, .val (crD c), .val (.tup (stD c.P)), s5, s6, s7, s8, s9, s10, s11, .val (d), .val (v), .val (f), s15, s16, s17, s18, s19]) : L4B1 J E j [s0, .val (.ref J.ad), s2, .val (crD c), .val (.tup (stD c.P)), s5, s6, s7, s8, s9, s10, s11, .val (d), .val (v), .val (f), s15, s16, s17, s18, s19] := by
  have er : ∃ y ∈ errs, J.fa (Str.ofString "BadLot") = J.fa y := ⟨Str.ofString "BadLot", by decide, rfl⟩
  have e : ∀ P : D → JS → Prop, P (.bl false) j → (dOp dNe (dC (.lst [.int 1])) (dC (.lst [.int 1]))) j [] P := fun P p => by
    simp [lv, deqv, enc, encAll, PyData.eqv, PyData.eqvAll]
    exact p
  obtain ⟨q1, q2, q3, q4⟩ := noLot_judged hv
  have pv1 := pv1_of q3 q2 q4
  refine ⟨_, ⟨rfl, rfl⟩, rfl, ?_⟩
  rcases hf with rfl | rfl
  · exact ⟨_, _, rfl, .inl ⟨rfl, rfl⟩, _, _, rfl, .inr (.inl ⟨c, rfl, g, pv1, q1, er, .inr ⟨_, _, rfl, e _ k⟩⟩)⟩
  · exact ⟨_, _, rfl, .inr ⟨rfl, rfl⟩, _, _, _, rfl, .inr (.inl ⟨c, rfl, g, pv1, q1, er, .inr ⟨_, _, rfl, e _ k⟩⟩)⟩
theorem l4_ok {J : Jst} {E : DEnds} {j : JS} {s0 s2 s5 s6 s7 s8 s9 s10 s11 s14 s15 s16 s17 s18 s19 : SD} {c : Cr} (g : GoodC c) {d v : D} (hd : noCr d) (hv : noLot c.P v) (k : ∀ s14, E.nx j [s0, .val (.ref J.ad), s2, .val (crD c), .val (.tup (stD c.P)), s5, s6, s7, s8, s9, s10, s11, .val (d), .val (v), s14, s15, s16, s17, s18, s19]) : L4 J E j [s0, .val (.ref J.ad), s2, .val (crD c), .val (.tup (stD c.P)), s5, s6, s7, s8, s9, s10, s11, .val (d), .val (v), s14, s15, s16, s17, s18, s19] := by
  simp only [L4, dFor, dI, dLst, dCons, dC, dNil, dLam]
  refine for_okD (fun ρ => ∃ s14, ρ = [s0, .val (.ref J.ad), s2, .val (crD c), .val (.tup (stD c.P)), s5, s6, s7, s8, s9, s10, s11, .val (d), .val (v), s14, s15, s16, s17, s18, s19]) _ _ ⟨_, rfl⟩ (fun f hf ρ ⟨s14, e⟩ E' k' => ?_) fun ρ ⟨s14, e⟩ => e ▸ k _
  subst e
  have hf : f = .ref (J.fa (Str.ofString "reaching")) ∨ f = .clo lam_law_0 J.cl := by simpa using hf
  show L4B J E' j [s0, .val (.ref J.ad), s2, .val (crD c), .val (.tup (stD c.P)), s5, s6, s7, s8, s9, s10, s11, .val (d), .val (v), .val (f), s15, s16, s17, s18, s19]
  refine seq_ab fun E0 n0 => l4b0_ok hd hf (n0 _ _ ?_)
  exact l4b1_ok g hv hf (k' _ ⟨_, rfl⟩)

end K57

/-! K57E4 -/
namespace K57
open PySem PySem.Spec PyProof.Rows L2 DL
theorem turn_ok {J : Jst} {E : DEnds} {j : JS} {s0 s2 s3 s4 s5 s6 s7 s8 s9 s10 s11 s12 s13 s14 s15 s16 s17 s18 s19 : SD} {b : Int} (h : JB J b j) (hb : b < 2 ^ 187) (hc : J.cs.length ≤ 63) (k : ∀ (j' : JS) (s3 s4 s5 s6 s7 s8 s9 s10 s11 s12 s13 s14 s15 s16 s17 : SD), JB J (b + 2 ^ 103) j' → E.nx j' [s0, .val (.ref J.ad), s2, s3, s4, s5, s6, s7, s8, s9, s10, s11, s12, s13, s14, s15, s16, s17, s18, s19]) : L J E j [s0, .val (.ref J.ad), s2, s3, s4, s5, s6, s7, s8, s9, s10, s11, s12, s13, s14, s15, s16, s17, s18, s19] := by
  refine seq_ab fun E0 n0 => l0_ok h (by omega) hc fun c j1 g h1 => n0 _ _ ?_
  refine seq_ab fun E1 n1 => l1_ok g (n1 _ _ ?_)
  refine seq_ab fun E2 n2 => l2_ok g h1 (by omega) fun j2 _ _ _ _ _ _ _ _ _ _ h2 => n2 _ _ ?_
  refine seq_ab fun E3 n3 => l3_ok g h2 (by omega) fun d v j3 hd hv h3 => n3 _ _ ?_
  exact l4_ok g hd hv fun _ => k _ _ _ _ _ _ _ _ _ _ _ _ _ _ _ _ (h3.mono (by omega))
theorem law_ok (T : List (Addr × Str)) (mg : Str → Option Value) (J : Jst) (E : DEnds) (j : JS) (ns : List Int) (hA : At mg T J) (h : JB J 0 j) (hc : J.cs.length ≤ 63) (k : ∀ j, E.rt (.bl true) j) : t_law J E j (put (st0 N_law.length [.lst (ns.map D.int)]) 1 (.val (.ref J.ad))) := by
  have bd : (if (5 : Int) < ns.length then (5 : Int) else ns.length) ≤ 5 ∧ 0 ≤ (if (5 : Int) < ns.length then (5 : Int) else ns.length) := by split <;> omega
  show (dSeq (T0 J) (T1 J)) E j [.val (.lst (ns.map D.int)), .val (.ref J.ad), .no, .no, .no, .no, .no, .no, .no, .no, .no, .no, .no, .no, .no, .no, .no, .no, .no, .no]
  simp [T0]
  generalize (if (5 : Int) < ns.length then (5 : Int) else ns.length) = m at *
  refine ⟨⟨by omega, by omega⟩, ?_⟩
  have e : (upto (3 + m).toNat).length = (3 + m).toNat := upto_len _
  refine for_invD (fun i j ρ => JB J (i * 2 ^ 103) j ∧ ∃ s2 s3 s4 s5 s6 s7 s8 s9 s10 s11 s12 s13 s14 s15 s16 s17, ρ = [.val (.lst (ns.map D.int)), .val (.ref J.ad), s2, s3, s4, s5, s6, s7, s8, s9, s10, s11, s12, s13, s14, s15, s16, s17, .no, .no]) _ j _ ⟨by simpa using h, _, _, _, _, _, _, _, _, _, _, _, _, _, _, _, _, rfl⟩ (fun d hd i j ρ hi ⟨hj, s2, s3, s4, s5, s6, s7, s8, s9, s10, s11, s12, s13, s14, s15, s16, s17, eρ⟩ E' k' => ?_) fun j' ρ ⟨_, s2, s3, s4, s5, s6, s7, s8, s9, s10, s11, s12, s13, s14, s15, s16, s17, eρ⟩ => eρ ▸ k _
  subst eρ
  have hi8 : i < 8 := by rw [e] at hi; omega
  exact turn_ok (s2 := .val d) hj (by omega) hc fun j' s3 s4 s5 s6 s7 s8 s9 s10 s11 s12 s13 s14 s15 s16 s17 hj' => k' _ _ ⟨hj'.mono (by omega), _, _, _, _, _, _, _, _, _, _, _, _, _, _, _, _, rfl⟩

end K57

/-! K57Z -/
namespace K57
open PySem PySem.Spec PyProof.Rows L2 DL
section
variable {w : World} {K : PySem.W.Frag} {mg : Str → Option Value} {base : Heap} {T : List (Addr × Str)} {f : Addr}

theorem sc__law_begun : FnScope N_begun ([(Str.ofString "script")] : List Str) (defScope (top 32)) := ⟨rfl, rfl, rfl, by decide, rfl, by decide, by decide⟩
theorem b__law_begun (c : Txt w K mg base T) (B : Ent) (cdv : Value) (A : Around) (outer : List Env) (s : Shared) (H : Hp) (E : XK) (hr : Room 0 (A.deeper (envOfC (Str.ofString "_law_begun") (defScope (top 32)) s.heap.objs.size f cdv))) : PSs (cxB pr w K mg base N_begun (Str.ofString "_law_begun") (top 32) f cdv A outer s H E) (defBody (top 32)) (tSeq (dS K B t_great) (tRet (t_disp K B.J))) := by
  have hu := hu100 hr
  exact (pss_cons (ds_setLcF (i := 1) (own := [((Str.ofString "cell"), 2)]) rfl sc__law_begun.nd rfl rfl (sw_true rfl rfl rfl (by decide)) (di_seq (de_var (pe_var (i := 0) (x := (Str.ofString "script")) rfl (Or.inl rfl)))) (blkOk_by (by kernel_rfl)) (fun _ _ _ _ _ => (pgT (dg_name (i := 2) sc__law_begun.nd rfl (Or.inl rfl)))) (fun _ _ _ _ _ => (dts_one (dt_cmp (o_ge hu) (dr_of_de (de_call1 c_abs rfl c.f_abs bt_abs (dr_of_de (de_var (pe_var (i := 2) (x := (Str.ofString "cell")) rfl (Or.inl rfl)))))) (dr_of_de (de_bin o_pow2 (dr_of_de (de_int pe_int)) (dr_of_de (de_int pe_int)))) rfl))) (fun _ _ _ _ _ => (de_bin o_sub (dr_of_de (de_call1 c_abs rfl c.f_abs bt_abs (dr_of_de (de_var (pe_var (i := 2) (x := (Str.ofString "cell")) rfl (Or.inl rfl)))))) (dr_of_de (de_bin o_pow2 (dr_of_de (de_int pe_int)) (dr_of_de (de_int pe_int)))))) rfl) (pss_one (ps_ret (pe_disp (pps_cons pe_str (pe_var (i := 1) (x := (Str.ofString "great")) rfl (Or.inl rfl)) (pps_cons pe_str (df_lc (own := [((Str.ofString "cell"), 2)]) rfl sc__law_begun.nd (di_seq (de_var (pe_var (i := 0) (x := (Str.ofString "script")) rfl (Or.inl rfl)))) (blkOk_by (by kernel_rfl)) (fun _ _ _ _ _ => (pgT (dg_name (i := 2) sc__law_begun.nd rfl (Or.inl rfl)))) (fun _ _ _ _ _ => dts_nilN) (fun _ _ _ _ _ => (de_call1 c_abs rfl c.f_abs bt_abs (dr_of_de (de_var (pe_var (i := 2) (x := (Str.ofString "cell")) rfl (Or.inl rfl)))))) rfl) (pps_cons pe_str pe_int (pps_cons pe_str pe_int pps_nil)))) rfl rfl (by simp) (by decide)))))
theorem ok_begun (c : Txt w K mg base T) : ∃ f fd, FnOk pr w K mg base CX0 1 f fd ([(Str.ofString "script")] : List Str) (spBegun K) ∧ mg (Str.ofString "_law_begun") = some (.ref f) ∧ PySem.W.keepIn K (.ref f) = true ∧ Binds K fd ([(Str.ofString "script")] : List Str) [] := by
  obtain ⟨f, ⟨fd, F⟩, hm⟩ := c.d__law_begun
  refine ⟨f, fd, F.ok sc__law_begun (fun vs H Q E ⟨J, j, F, v, ns, _, _, _, e, _⟩ => by rw [e]; rfl) (fun cdv A outer s H vs Q E hr h => ?_), hm, F.kp, F.bindsN (fun kV doc pm an cdv ct us h => match us, h with | [_a0], _ => rfl)⟩
  obtain ⟨B, q⟩ := begun_pure vs H Q E h
  exact ⟨_, PSs.nox (b__law_begun c B cdv A outer s H E hr), q⟩
theorem ok_law (c : Txt w K mg base T) {f : Addr} {fd : FuncData} (hm : mg (Str.ofString "law") = some (.ref f)) (F : FunD K (Str.ofString "law") (Str.ofString "law") (defArgs (top 59)) (defBody (top 59)) (defScope (top 59)) [] [] f fd) : FnOk pr w K mg base CX0 10 f fd ([(Str.ofString "script")] : List Str) (spLaw K T) := by
  obtain ⟨fB, fdB, GB, mB, kB, bB⟩ := ok_begun c
  refine funD_ok F sc_law (fun vs H Q E ⟨a, ns, e, _⟩ => by rw [e]; rfl) (fun cdv A outer s H vs Q E hC hr h => ⟨t_all K mg T (envOfC (Str.ofString "law") (defScope (top 59)) s.heap.objs.size f cdv).cells t_law, PSs.nox ?_, law_pure (N := N_law) (by decide) (law_ok T mg) vs H Q E h⟩)
  exact pss_cons (ps_set (i := 1) sc_law.nd rfl (Or.inr rfl) (pe_call GB (hr.mono (by decide)) rfl mB kB bB .nil pass0 (pa_cons (pe_var (i := 0) (x := (Str.ofString "script")) rfl (Or.inl rfl)) pa_nil))) (pss_some fun B hE => b_law c B cdv A outer s H E hm hE hC hr)
end
abbrev rw' := PySem.Challenge.rw_tiesmade_k57_whole_reached_or_a_lot_that
def dd (x : String) (i : Nat) : He.DefD := ⟨(Str.ofString x, none), Str.ofString x, Str.ofString x, defArgs (top i), defBody (top i), defScope (top i), [], []⟩
def fnL : List He.DefD := [dd "is_whole" 6, dd "is_ratio" 7, dd "is_chance" 8, dd "is_word" 11, dd "are_names" 14, dd "is_pair_of" 15, dd "is_crowd" 16, dd "need_crowd" 17, dd "is_lot" 18, dd "need_lot" 19, dd "tied_to" 20, dd "does_take" 21, dd "taken_from" 22, dd "lots_behind" 23, dd "others_of" 25, dd "stays_apart" 26, dd "row_behind" 27, dd "reaching" 28, dd "is_row_behind" 29, dd "is_reaching" 30, dd "_law_begun" 32, dd "_law_blended" 33, dd "_law_draw" 34, dd "_law_pick" 35, dd "_law_shuffled" 36, dd "_law_caught" 37, dd "_law_is_truth" 38, dd "_law_same" 39, dd "_law_q" 40, dd "_law_times" 41, dd "_law_less" 42, dd "_law_words" 43, dd "_law_odd" 44, dd "_law_hb_bent" 45, dd "_law_hb_names" 46, dd "_law_hb_crowd" 47, dd "_law_hb_is_lot" 48, dd "_law_hb_near" 49, dd "_law_hb_takes" 50, dd "_law_hb_taking" 51, dd "_law_hb_rounds" 52, dd "_law_hb_apart" 53, dd "_law_hb_lots" 54, dd "_law_hb_lot" 55, dd "_law_hb_no_lot" 56, dd "_law_k57_is" 57, dd "_law_k57_kind" 58, dd "law" 59]
def faL : List He.Fa := [.glo "is_whole", .glo "is_ratio", .glo "is_chance", .glo "is_word", .glo "are_names", .glo "is_pair_of", .glo "is_crowd", .glo "need_crowd", .glo "is_lot", .glo "need_lot", .glo "tied_to", .glo "does_take", .glo "taken_from", .glo "lots_behind", .glo "others_of", .glo "stays_apart", .glo "row_behind", .glo "reaching", .glo "is_row_behind", .glo "is_reaching", .glo "_law_begun", .glo "_law_blended", .glo "_law_draw", .glo "_law_pick", .glo "_law_shuffled", .glo "_law_caught", .glo "_law_is_truth", .glo "_law_same", .glo "_law_q", .glo "_law_times", .glo "_law_less", .glo "_law_words", .glo "_law_odd", .glo "_law_hb_bent", .glo "_law_hb_names", .glo "_law_hb_crowd", .glo "_law_hb_is_lot", .glo "_law_hb_near", .glo "_law_hb_takes", .glo "_law_hb_taking", .glo "_law_hb_rounds", .glo "_law_hb_apart", .glo "_law_hb_lots", .glo "_law_hb_lot", .glo "_law_hb_no_lot", .glo "_law_k57_is", .glo "_law_k57_kind", .glo "law", .free "abs", .free "all", .free "any", .free "bool", .free "dict", .free "enumerate", .free "int", .free "isinstance", .free "len", .free "list", .free "min", .free "range", .free "set", .free "sorted", .free "str", .free "tuple", .free "zip", .str "LETTERS" "abcdefghijklmnopqrstuvwxyz", .int "MOST_CROWD" 6, .glo "BadCrowd", .glo "BadLot", .glo "TieError", .exc "BadCrowd", .exc "BadLot", .exm "BadCrowd" "TieError" true, .exm "BadLot" "TieError" true]
def tfL : List He.Defn := [("law", none)]
def clsIB (K : PySem.W.Frag) (D : Addr) : Bool := (PySem.W.clsIn K D).isSome && (He.eqO (PySem.W.findIn K (.ref D) "__getattribute__") (some (some (.builtin "BaseException.__getattribute__"))) && ((PySem.W.findIn K (.ref D) "__getattr__").isSome && (decide (PySem.W.subIn K (.ref D) (.type "BaseException") = some true) && (He.eqO (PySem.W.findIn K (.ref D) "__class__") (some (some (.builtin "object.__class__"))) && (He.eqO (PySem.W.specialIn K (.builtin "object.__class__") "__get__") (some (some (.builtin "getset_descriptor.__get__"))) && (decide (PySem.W.takesIn K (.builtin "object.__class__") = some true) && decide (PySem.W.mroIn K D (.type "object") = some true)))))))
theorem clsIB_ok {K : PySem.W.Frag} {D : Addr} (h : clsIB K D = true) : ClsI K D := by
  unfold clsIB at h
  obtain ⟨h1, h⟩ := He.ba h
  obtain ⟨h2, h⟩ := He.ba h
  obtain ⟨h3, h⟩ := He.ba h
  obtain ⟨h4, h⟩ := He.ba h
  obtain ⟨h5, h⟩ := He.ba h
  obtain ⟨h6, h⟩ := He.ba h
  obtain ⟨h7, h8⟩ := He.ba h
  exact ⟨h1, He.eqO_ok h2, Option.isSome_iff_exists.mp h3, of_decide_eq_true h4, He.eqO_ok h5, He.eqO_ok h6, of_decide_eq_true h7, of_decide_eq_true h8⟩
def exs (K : PySem.W.Frag) : List Bool := [He.eqO (PySem.W.nsIn K mainGlobals "gcd") (some (some (.builtin "math.gcd"))), clsIB K (He.ga K "BadCrowd"), clsIB K (He.ga K "BadLot"), decide (PySem.W.kitOne K (.ref (He.ga K "BadCrowd")) (.ref (He.ga K "BadCrowd")) = some true), decide (PySem.W.kitOne K (.ref (He.ga K "BadLot")) (.ref (He.ga K "BadCrowd")) = some false), decide (PySem.W.kitOne K (.type "NoneType") (.ref (He.ga K "BadCrowd")) = some false), decide (PySem.W.kitOne K (.ref (He.ga K "BadCrowd")) (.ref (He.ga K "BadLot")) = some false), decide (PySem.W.kitOne K (.ref (He.ga K "BadLot")) (.ref (He.ga K "BadLot")) = some true), decide (PySem.W.kitOne K (.type "NoneType") (.ref (He.ga K "BadLot")) = some false)]
def exL (K : PySem.W.Frag) : Bool := (exs K).all id
theorem ex_at {K : PySem.W.Frag} (h : exL K = true) (i : Nat) {b : Bool} (e : (exs K)[i]? = some b) : b = true := List.all_eq_true.mp h b (List.mem_of_getElem? e)
/-- the tables of the defs that make lambdas -/
def TT (K : PySem.W.Frag) : List (Addr × Str) := [((He.cT K ("law", none)).2, Str.ofString "law.<locals>.<lambda>")]
abbrev R : PySem.W.OpenRow := PySem.W.OpenLaw.row rw'
abbrev hk : PySem.W.Hook := He.hookX 4 faL fnL [] tfL exL
def ob (s : PySem.W.SharedT) : He.AlX := He.obsX 4 faL fnL [] tfL exL (HandSHeadRun.getT s)
theorem ob_eq (s : PySem.W.SharedT) : ob s = hk.obs s.abs := by
  unfold ob
  exact He.obsX_eq (HandSHeadRun.getT_eq s)
def loose : List PySem.Str := (["TieError", "BadLot", "BadCrowd", "is_whole", "is_ratio", "is_chance", "LETTERS", "is_word", "MOST_CROWD", "are_names", "is_pair_of", "is_crowd", "need_crowd", "is_lot", "need_lot", "tied_to", "does_take", "taken_from", "lots_behind", "others_of", "stays_apart", "row_behind", "reaching", "is_row_behind", "is_reaching", "_law_begun", "_law_blended", "_law_draw", "_law_pick", "_law_shuffled"] : List PySem.Str) ++ (["_law_caught", "_law_is_truth", "_law_same", "_law_q", "_law_times", "_law_less", "_law_words", "_law_odd", "_law_hb_bent", "_law_hb_names", "_law_hb_crowd", "_law_hb_is_lot", "_law_hb_near", "_law_hb_takes", "_law_hb_taking", "_law_hb_rounds", "_law_hb_apart", "_law_hb_lots", "_law_hb_lot", "_law_hb_no_lot", "_law_k57_is", "_law_k57_kind"] : List PySem.Str)
theorem run (w : World) : HandSHeadRun.RunEqI R (PySem.W.view R.prog [0, 59]) hk ob 6000 loose w := by
  unfold HandSHeadRun.RunEqI
  kernel_rfl
theorem txt {w : World} {K : PySem.W.Frag} {h : Heap} {mg : Str → Option Value} (base : Heap) (X : K.In h) (G : h.Ns mainGlobals mg) (c : He.SaysD faL fnL K) (cx : exL K = true) (hTB : ∀ p ∈ tfL, LamX.TabB base mg (He.cT K p).1 (He.cT K p).2) : Txt w K mg base (TT K) where
    d_is_whole := (by
      obtain ⟨fd, F⟩ := c.def_ 0 (d := dd "is_whole" 6) rfl
      exact ⟨_, ⟨fd, F⟩, (He.glo_ok X G (c.fact 0 (f := .glo "is_whole") rfl))⟩)
    d_is_ratio := (by
      obtain ⟨fd, F⟩ := c.def_ 1 (d := dd "is_ratio" 7) rfl
      exact ⟨_, ⟨fd, F⟩, (He.glo_ok X G (c.fact 1 (f := .glo "is_ratio") rfl))⟩)
    d_is_chance := (by
      obtain ⟨fd, F⟩ := c.def_ 2 (d := dd "is_chance" 8) rfl
      exact ⟨_, ⟨fd, F⟩, (He.glo_ok X G (c.fact 2 (f := .glo "is_chance") rfl))⟩)
    d_is_word := (by
      obtain ⟨fd, F⟩ := c.def_ 3 (d := dd "is_word" 11) rfl
      exact ⟨_, ⟨fd, F⟩, (He.glo_ok X G (c.fact 3 (f := .glo "is_word") rfl))⟩)
    d_are_names := (by
      obtain ⟨fd, F⟩ := c.def_ 4 (d := dd "are_names" 14) rfl
      exact ⟨_, ⟨fd, F⟩, (He.glo_ok X G (c.fact 4 (f := .glo "are_names") rfl))⟩)
    d_is_pair_of := (by
      obtain ⟨fd, F⟩ := c.def_ 5 (d := dd "is_pair_of" 15) rfl
      exact ⟨_, ⟨fd, F⟩, (He.glo_ok X G (c.fact 5 (f := .glo "is_pair_of") rfl))⟩)
    d_is_crowd := (by
      obtain ⟨fd, F⟩ := c.def_ 6 (d := dd "is_crowd" 16) rfl
      exact ⟨_, ⟨fd, F⟩, (He.glo_ok X G (c.fact 6 (f := .glo "is_crowd") rfl))⟩)
    d_need_crowd := (by
      obtain ⟨fd, F⟩ := c.def_ 7 (d := dd "need_crowd" 17) rfl
      exact ⟨_, ⟨fd, F⟩, (He.glo_ok X G (c.fact 7 (f := .glo "need_crowd") rfl))⟩)
    d_is_lot := (by
      obtain ⟨fd, F⟩ := c.def_ 8 (d := dd "is_lot" 18) rfl
      exact ⟨_, ⟨fd, F⟩, (He.glo_ok X G (c.fact 8 (f := .glo "is_lot") rfl))⟩)
    d_need_lot := (by
      obtain ⟨fd, F⟩ := c.def_ 9 (d := dd "need_lot" 19) rfl
      exact ⟨_, ⟨fd, F⟩, (He.glo_ok X G (c.fact 9 (f := .glo "need_lot") rfl))⟩)
    d_tied_to := (by
      obtain ⟨fd, F⟩ := c.def_ 10 (d := dd "tied_to" 20) rfl
      exact ⟨_, ⟨fd, F⟩, (He.glo_ok X G (c.fact 10 (f := .glo "tied_to") rfl))⟩)
    d_does_take := (by
      obtain ⟨fd, F⟩ := c.def_ 11 (d := dd "does_take" 21) rfl
      exact ⟨_, ⟨fd, F⟩, (He.glo_ok X G (c.fact 11 (f := .glo "does_take") rfl))⟩)
    d_taken_from := (by
      obtain ⟨fd, F⟩ := c.def_ 12 (d := dd "taken_from" 22) rfl
      exact ⟨_, ⟨fd, F⟩, (He.glo_ok X G (c.fact 12 (f := .glo "taken_from") rfl))⟩)
    d_lots_behind := (by
      obtain ⟨fd, F⟩ := c.def_ 13 (d := dd "lots_behind" 23) rfl
      exact ⟨_, ⟨fd, F⟩, (He.glo_ok X G (c.fact 13 (f := .glo "lots_behind") rfl))⟩)
    d_others_of := (by
      obtain ⟨fd, F⟩ := c.def_ 14 (d := dd "others_of" 25) rfl
      exact ⟨_, ⟨fd, F⟩, (He.glo_ok X G (c.fact 14 (f := .glo "others_of") rfl))⟩)
    d_stays_apart := (by
      obtain ⟨fd, F⟩ := c.def_ 15 (d := dd "stays_apart" 26) rfl
      exact ⟨_, ⟨fd, F⟩, (He.glo_ok X G (c.fact 15 (f := .glo "stays_apart") rfl))⟩)
    d_row_behind := (by
      obtain ⟨fd, F⟩ := c.def_ 16 (d := dd "row_behind" 27) rfl
      exact ⟨_, ⟨fd, F⟩, (He.glo_ok X G (c.fact 16 (f := .glo "row_behind") rfl))⟩)
    d_reaching := (by
      obtain ⟨fd, F⟩ := c.def_ 17 (d := dd "reaching" 28) rfl
      exact ⟨_, ⟨fd, F⟩, (He.glo_ok X G (c.fact 17 (f := .glo "reaching") rfl))⟩)
    d_is_row_behind := (by
      obtain ⟨fd, F⟩ := c.def_ 18 (d := dd "is_row_behind" 29) rfl
      exact ⟨_, ⟨fd, F⟩, (He.glo_ok X G (c.fact 18 (f := .glo "is_row_behind") rfl))⟩)
    d_is_reaching := (by
      obtain ⟨fd, F⟩ := c.def_ 19 (d := dd "is_reaching" 30) rfl
      exact ⟨_, ⟨fd, F⟩, (He.glo_ok X G (c.fact 19 (f := .glo "is_reaching") rfl))⟩)
    d__law_begun := (by
      obtain ⟨fd, F⟩ := c.def_ 20 (d := dd "_law_begun" 32) rfl
      exact ⟨_, ⟨fd, F⟩, (He.glo_ok X G (c.fact 20 (f := .glo "_law_begun") rfl))⟩)
    d__law_blended := (by
      obtain ⟨fd, F⟩ := c.def_ 21 (d := dd "_law_blended" 33) rfl
      exact ⟨_, ⟨fd, F⟩, (He.glo_ok X G (c.fact 21 (f := .glo "_law_blended") rfl))⟩)
    d__law_draw := (by
      obtain ⟨fd, F⟩ := c.def_ 22 (d := dd "_law_draw" 34) rfl
      exact ⟨_, ⟨fd, F⟩, (He.glo_ok X G (c.fact 22 (f := .glo "_law_draw") rfl))⟩)
    d__law_pick := (by
      obtain ⟨fd, F⟩ := c.def_ 23 (d := dd "_law_pick" 35) rfl
      exact ⟨_, ⟨fd, F⟩, (He.glo_ok X G (c.fact 23 (f := .glo "_law_pick") rfl))⟩)
    d__law_shuffled := (by
      obtain ⟨fd, F⟩ := c.def_ 24 (d := dd "_law_shuffled" 36) rfl
      exact ⟨_, ⟨fd, F⟩, (He.glo_ok X G (c.fact 24 (f := .glo "_law_shuffled") rfl))⟩)
    d__law_caught := (by
      obtain ⟨fd, F⟩ := c.def_ 25 (d := dd "_law_caught" 37) rfl
      exact ⟨_, ⟨fd, F⟩, (He.glo_ok X G (c.fact 25 (f := .glo "_law_caught") rfl))⟩)
    d__law_is_truth := (by
      obtain ⟨fd, F⟩ := c.def_ 26 (d := dd "_law_is_truth" 38) rfl
      exact ⟨_, ⟨fd, F⟩, (He.glo_ok X G (c.fact 26 (f := .glo "_law_is_truth") rfl))⟩)
    d__law_same := (by
      obtain ⟨fd, F⟩ := c.def_ 27 (d := dd "_law_same" 39) rfl
      exact ⟨_, ⟨fd, F⟩, (He.glo_ok X G (c.fact 27 (f := .glo "_law_same") rfl))⟩)
    d__law_q := (by
      obtain ⟨fd, F⟩ := c.def_ 28 (d := dd "_law_q" 40) rfl
      exact ⟨_, ⟨fd, F⟩, (He.glo_ok X G (c.fact 28 (f := .glo "_law_q") rfl))⟩)
    d__law_times := (by
      obtain ⟨fd, F⟩ := c.def_ 29 (d := dd "_law_times" 41) rfl
      exact ⟨_, ⟨fd, F⟩, (He.glo_ok X G (c.fact 29 (f := .glo "_law_times") rfl))⟩)
    d__law_less := (by
      obtain ⟨fd, F⟩ := c.def_ 30 (d := dd "_law_less" 42) rfl
      exact ⟨_, ⟨fd, F⟩, (He.glo_ok X G (c.fact 30 (f := .glo "_law_less") rfl))⟩)
    d__law_words := (by
      obtain ⟨fd, F⟩ := c.def_ 31 (d := dd "_law_words" 43) rfl
      exact ⟨_, ⟨fd, F⟩, (He.glo_ok X G (c.fact 31 (f := .glo "_law_words") rfl))⟩)
    d__law_odd := (by
      obtain ⟨fd, F⟩ := c.def_ 32 (d := dd "_law_odd" 44) rfl
      exact ⟨_, ⟨fd, F⟩, (He.glo_ok X G (c.fact 32 (f := .glo "_law_odd") rfl))⟩)
    d__law_hb_bent := (by
      obtain ⟨fd, F⟩ := c.def_ 33 (d := dd "_law_hb_bent" 45) rfl
      exact ⟨_, ⟨fd, F⟩, (He.glo_ok X G (c.fact 33 (f := .glo "_law_hb_bent") rfl))⟩)
    d__law_hb_names := (by
      obtain ⟨fd, F⟩ := c.def_ 34 (d := dd "_law_hb_names" 46) rfl
      exact ⟨_, ⟨fd, F⟩, (He.glo_ok X G (c.fact 34 (f := .glo "_law_hb_names") rfl))⟩)
    d__law_hb_crowd := (by
      obtain ⟨fd, F⟩ := c.def_ 35 (d := dd "_law_hb_crowd" 47) rfl
      exact ⟨_, ⟨fd, F⟩, (He.glo_ok X G (c.fact 35 (f := .glo "_law_hb_crowd") rfl))⟩)
    d__law_hb_is_lot := (by
      obtain ⟨fd, F⟩ := c.def_ 36 (d := dd "_law_hb_is_lot" 48) rfl
      exact ⟨_, ⟨fd, F⟩, (He.glo_ok X G (c.fact 36 (f := .glo "_law_hb_is_lot") rfl))⟩)
    d__law_hb_near := (by
      obtain ⟨fd, F⟩ := c.def_ 37 (d := dd "_law_hb_near" 49) rfl
      exact ⟨_, ⟨fd, F⟩, (He.glo_ok X G (c.fact 37 (f := .glo "_law_hb_near") rfl))⟩)
    d__law_hb_takes := (by
      obtain ⟨fd, F⟩ := c.def_ 38 (d := dd "_law_hb_takes" 50) rfl
      exact ⟨_, ⟨fd, F⟩, (He.glo_ok X G (c.fact 38 (f := .glo "_law_hb_takes") rfl))⟩)
    d__law_hb_taking := (by
      obtain ⟨fd, F⟩ := c.def_ 39 (d := dd "_law_hb_taking" 51) rfl
      exact ⟨_, ⟨fd, F⟩, (He.glo_ok X G (c.fact 39 (f := .glo "_law_hb_taking") rfl))⟩)
    d__law_hb_rounds := (by
      obtain ⟨fd, F⟩ := c.def_ 40 (d := dd "_law_hb_rounds" 52) rfl
      exact ⟨_, ⟨fd, F⟩, (He.glo_ok X G (c.fact 40 (f := .glo "_law_hb_rounds") rfl))⟩)
    d__law_hb_apart := (by
      obtain ⟨fd, F⟩ := c.def_ 41 (d := dd "_law_hb_apart" 53) rfl
      exact ⟨_, ⟨fd, F⟩, (He.glo_ok X G (c.fact 41 (f := .glo "_law_hb_apart") rfl))⟩)
    d__law_hb_lots := (by
      obtain ⟨fd, F⟩ := c.def_ 42 (d := dd "_law_hb_lots" 54) rfl
      exact ⟨_, ⟨fd, F⟩, (He.glo_ok X G (c.fact 42 (f := .glo "_law_hb_lots") rfl))⟩)
    d__law_hb_lot := (by
      obtain ⟨fd, F⟩ := c.def_ 43 (d := dd "_law_hb_lot" 55) rfl
      exact ⟨_, ⟨fd, F⟩, (He.glo_ok X G (c.fact 43 (f := .glo "_law_hb_lot") rfl))⟩)
    d__law_hb_no_lot := (by
      obtain ⟨fd, F⟩ := c.def_ 44 (d := dd "_law_hb_no_lot" 56) rfl
      exact ⟨_, ⟨fd, F⟩, (He.glo_ok X G (c.fact 44 (f := .glo "_law_hb_no_lot") rfl))⟩)
    d__law_k57_is := (by
      obtain ⟨fd, F⟩ := c.def_ 45 (d := dd "_law_k57_is" 57) rfl
      exact ⟨_, ⟨fd, F⟩, (He.glo_ok X G (c.fact 45 (f := .glo "_law_k57_is") rfl))⟩)
    d__law_k57_kind := (by
      obtain ⟨fd, F⟩ := c.def_ 46 (d := dd "_law_k57_kind" 58) rfl
      exact ⟨_, ⟨fd, F⟩, (He.glo_ok X G (c.fact 46 (f := .glo "_law_k57_kind") rfl))⟩)
    d_law := (by
      obtain ⟨fd, F⟩ := c.def_ 47 (d := dd "law" 59) rfl
      exact ⟨_, ⟨fd, F⟩, (He.glo_ok X G (c.fact 47 (f := .glo "law") rfl))⟩)
    f_abs := He.free_ok X G (c.fact 48 (f := .free "abs") rfl)
    f_all := He.free_ok X G (c.fact 49 (f := .free "all") rfl)
    f_any := He.free_ok X G (c.fact 50 (f := .free "any") rfl)
    f_bool := He.free_ok X G (c.fact 51 (f := .free "bool") rfl)
    f_dict := He.free_ok X G (c.fact 52 (f := .free "dict") rfl)
    f_enumerate := He.free_ok X G (c.fact 53 (f := .free "enumerate") rfl)
    f_int := He.free_ok X G (c.fact 54 (f := .free "int") rfl)
    f_isinstance := He.free_ok X G (c.fact 55 (f := .free "isinstance") rfl)
    f_len := He.free_ok X G (c.fact 56 (f := .free "len") rfl)
    f_list := He.free_ok X G (c.fact 57 (f := .free "list") rfl)
    f_min := He.free_ok X G (c.fact 58 (f := .free "min") rfl)
    f_range := He.free_ok X G (c.fact 59 (f := .free "range") rfl)
    f_set := He.free_ok X G (c.fact 60 (f := .free "set") rfl)
    f_sorted := He.free_ok X G (c.fact 61 (f := .free "sorted") rfl)
    f_str := He.free_ok X G (c.fact 62 (f := .free "str") rfl)
    f_tuple := He.free_ok X G (c.fact 63 (f := .free "tuple") rfl)
    f_zip := He.free_ok X G (c.fact 64 (f := .free "zip") rfl)
    c_LETTERS := He.str_ok X G (c.fact 65 (f := .str "LETTERS" "abcdefghijklmnopqrstuvwxyz") rfl)
    c_MOST_CROWD := He.int_ok X G (c.fact 66 (f := .int "MOST_CROWD" 6) rfl)
    m_gcd := PySem.W.mg_of X G (He.eqO_ok (ex_at cx 0 rfl))
    e_BadCrowd := (by
      obtain ⟨a1, a2, a3, a4⟩ := He.exc_ok (x := "BadCrowd") (c.fact 70 (f := .exc "BadCrowd") rfl)
      exact ⟨_, (He.glo_ok X G (c.fact 67 (f := .glo "BadCrowd") rfl)), ⟨a1, a2, a3, a4⟩, clsIB_ok (ex_at cx 1 rfl)⟩)
    e_BadLot := (by
      obtain ⟨a1, a2, a3, a4⟩ := He.exc_ok (x := "BadLot") (c.fact 71 (f := .exc "BadLot") rfl)
      exact ⟨_, (He.glo_ok X G (c.fact 68 (f := .glo "BadLot") rfl)), ⟨a1, a2, a3, a4⟩, clsIB_ok (ex_at cx 2 rfl)⟩)
    ee_BadCrowd := ⟨_, (He.glo_ok X G (c.fact 67 (f := .glo "BadCrowd") rfl))⟩
    ee_BadLot := ⟨_, (He.glo_ok X G (c.fact 68 (f := .glo "BadLot") rfl))⟩
    ee_TieError := ⟨_, (He.glo_ok X G (c.fact 69 (f := .glo "TieError") rfl))⟩
    ei := (fun y hy => by
      simp only [errs, List.mem_cons, List.not_mem_nil, or_false] at hy
      rcases hy with rfl | rfl
      · rw [faOf_eq (He.glo_ok X G (c.fact 67 (f := .glo "BadCrowd") rfl))]; exact clsIB_ok (ex_at cx 1 rfl)
      · rw [faOf_eq (He.glo_ok X G (c.fact 68 (f := .glo "BadLot") rfl))]; exact clsIB_ok (ex_at cx 2 rfl))
    s_BadCrowd := (fun y hy => by
      simp only [errs, List.mem_cons, List.not_mem_nil, or_false] at hy
      rcases hy with rfl | rfl
      · rw [faOf_eq (He.glo_ok X G (c.fact 67 (f := .glo "BadCrowd") rfl))]; exact (of_decide_eq_true (ex_at cx 3 rfl)).trans (by decide)
      · rw [faOf_eq (He.glo_ok X G (c.fact 68 (f := .glo "BadLot") rfl)), faOf_eq (He.glo_ok X G (c.fact 67 (f := .glo "BadCrowd") rfl))]; exact (of_decide_eq_true (ex_at cx 4 rfl)).trans (by decide))
    n_BadCrowd := (by rw [faOf_eq (He.glo_ok X G (c.fact 67 (f := .glo "BadCrowd") rfl))]; exact of_decide_eq_true (ex_at cx 5 rfl))
    s_BadLot := (fun y hy => by
      simp only [errs, List.mem_cons, List.not_mem_nil, or_false] at hy
      rcases hy with rfl | rfl
      · rw [faOf_eq (He.glo_ok X G (c.fact 67 (f := .glo "BadCrowd") rfl)), faOf_eq (He.glo_ok X G (c.fact 68 (f := .glo "BadLot") rfl))]; exact (of_decide_eq_true (ex_at cx 6 rfl)).trans (by decide)
      · rw [faOf_eq (He.glo_ok X G (c.fact 68 (f := .glo "BadLot") rfl))]; exact (of_decide_eq_true (ex_at cx 7 rfl)).trans (by decide))
    n_BadLot := (by rw [faOf_eq (He.glo_ok X G (c.fact 68 (f := .glo "BadLot") rfl))]; exact of_decide_eq_true (ex_at cx 8 rfl))
    x_TieError := (fun y hy => by
      simp only [errs, List.mem_cons, List.not_mem_nil, or_false] at hy
      rcases hy with rfl | rfl
      · rw [faOf_eq (He.glo_ok X G (c.fact 67 (f := .glo "BadCrowd") rfl)), faOf_eq (He.glo_ok X G (c.fact 69 (f := .glo "TieError") rfl))]; exact He.exm_ok (x := "BadCrowd") (y := "TieError") (b := true) (c.fact 72 (f := .exm "BadCrowd" "TieError" true) rfl)
      · rw [faOf_eq (He.glo_ok X G (c.fact 68 (f := .glo "BadLot") rfl)), faOf_eq (He.glo_ok X G (c.fact 69 (f := .glo "TieError") rfl))]; exact He.exm_ok (x := "BadLot") (y := "TieError") (b := true) (c.fact 73 (f := .exm "BadLot" "TieError" true) rfl))
    l_law := (fun f hf => by
      obtain ⟨fd, F⟩ := c.def_ 47 (d := dd "law" 59) rfl
      have e := hf.symm.trans (He.glo_ok X G (c.fact 47 (f := .glo "law") rfl))
      cases e
      obtain ⟨oc, od, dV, kV, doc, pm, an, cdv, ct, osl, rfl, lk, hcd, _, _⟩ := F.ex
      obtain ⟨cc, rfl⟩ := He.codeIn_ref hcd
      have ec : He.codeOf K ("law", none) = cc := He.codeOf_eq lk rfl
      refine ⟨_, _, _, _, cc, (He.cT K ("law", none)).2, lk, rfl, ?_, ?_, ?_⟩
      · have := hTB ("law", none) (by simp [tfL])
        rw [← ec]
        exact this
      · simp [TT]
      · intro p hp e
        simp [TT] at hp
        rw [hp])
theorem facts {w : World} {K : PySem.W.Frag} {h : Heap} {mg : Str → Option Value} {f : Addr} (X : K.In h) (G : h.Ns mainGlobals mg) (hfa : mg ("law" : Str) = some (.ref f)) (c : He.SaysX faL fnL [] tfL exL w h K) : LamX.LawAtS rw' w K CX0 10 63 "script" mg f h := by
  obtain ⟨fd, F⟩ := c.t.d.def_ 47 (d := dd "law" 59) rfl
  have e := hfa.symm.trans (He.glo_ok X G (c.t.d.fact 47 (f := .glo "law") rfl))
  cases e
  have b := FunD.bindsA (ps := ["script"]) F fun _ _ _ _ _ _ us hl => match us, hl with | [_], _ => rfl
  refine ⟨fd, tfL.map (He.cT K), spLaw K (TT K), fun p hp => ?_, fun p hp => ?_, fun p hp => ?_, fun s u => b s [u] rfl, fun H a ns hl _ hH hS => ⟨a, ns, rfl, hS, hl, fun p hp => ?_, fun _ => rfl⟩, fun base _ _ hTB => ok_law (txt base X G c.t.d c.more fun p hp => hTB _ (List.mem_map.mpr ⟨p, hp, rfl⟩)) hfa F⟩
  · obtain ⟨q, hq, rfl⟩ := List.mem_map.mp hp
    exact c.empty q hq
  · obtain ⟨q, hq, rfl⟩ := List.mem_map.mp hp
    exact c.out q hq
  · obtain ⟨q, hq, rfl⟩ := List.mem_map.mp hp
    exact PySem.W.codeHd_of_K X (c.hd q hq)
  · simp only [TT, List.mem_cons, List.not_mem_nil, or_false] at hp
    rcases hp with rfl
    · exact hH _ (List.mem_map.mpr ⟨("law", none), by simp [tfL], rfl⟩)
end K57
open PySem PySem.W PySem.Calls PyProof.Rows
theorem PySem.Challenge.cw_tiesmade_k57_whole_reached_or_a_lot_that_holds : PySem.Challenge.rw_tiesmade_k57_whole_reached_or_a_lot_that.Holds := by
  w_on; o_law
  refine HandSHeadRun.head_imp (r := OpenLaw.row PySem.Challenge.rw_tiesmade_k57_whole_reached_or_a_lot_that) (q := view (OpenLaw.row PySem.Challenge.rw_tiesmade_k57_whole_reached_or_a_lot_that).prog [0, 59]) (H := K57.hk) (ob := K57.ob) (M := 6000) (loose := K57.loose) (d := HandSHeadRun.topDef (OpenLaw.row PySem.Challenge.rw_tiesmade_k57_whole_reached_or_a_lot_that).prog 59) (kwd := []) K57.ob_eq
    K57.run (by kernel_rfl) (by kernel_rfl) (by kernel_rfl) (by rfl) (by first | assumption | decide +kernel) (by decide +kernel) ⟨rfl, rfl, rfl, rfl, rfl, by decide +kernel⟩ ?hw ?hc
  case hw => w_witness2
  case hc =>
    refine LamX.walk_ofTsE (l := PySem.Challenge.rw_tiesmade_k57_whole_reached_or_a_lot_that) (n := 63) (k := 10) (x := "script") (CX := fun _ => L2.CX0) rfl (by decide) (by kernel_rfl) ⟨rfl, by decide, by decide⟩ ?F (fun _ _ _ _ _ z => z)
    intro w mg fa h Y G hmg0
    obtain ⟨K, KX, c⟩ := Y
    have hmg : mg ("law" : PySem.Str) = some (.ref fa) := by
      have e : (HandSHeadRun.topDef (OpenLaw.row PySem.Challenge.rw_tiesmade_k57_whole_reached_or_a_lot_that).prog 59).name = ("law" : PySem.Str) := by kernel_rfl
      rw [← e]
      exact hmg0
    exact ⟨K, KX, K57.facts (w := w) KX G hmg c⟩
