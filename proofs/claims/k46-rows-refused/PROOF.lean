import PyProof.Rows.All
import Wide.All
import OpenK.AllK
import Wide.FinOn
import KE.KStateDown
import Lean
import HandS.HeadEnd
import HandS.HeadHook4
import HandS.ForMost
import HandS.More
import HandS.Defaults
import KE.DataEq
import KE.LtData
import HandS.Lambda
import HandS.TupAny
import HandS.Style
import HandS.StrMore
import HandS.IsInst
import HandS.FStr
import HandS.Strs
import HandS.Conv
import HandS.NoneIn
import HandS.Star
import HandS.WordsExc
import HandS.Head0
import HandS.Head1
import HandS.Head2
import HandS.HeadHook1
import HandS.HeadHook2
import HandS.HeadHook3
import KE.SortKeyHeap
import HandS.SortKw
import HandS.Iter
import PyProof.ReprRoads
import KE.GoesEnum
import KE.DataCmp
import KE.DataMinMax
import HandS.RaiseMore
import KE.KRevSl
import PyProof.StrLawsRepr
import KE.KDictZip
import KE.KDictItemsList
import HandS.ListItems
import HandS.TupSets
import KE.KeyNested
import KE.SortData
import HandS.TupMul
import PyProof.StrBlock2
import KE.DataMinKey
import KE.KDictPairs
import KE.KDictKeyed
import KE.KDictList
import HandS.ForExc
import HandS.ExcField
import HandS.ExcInit
import HandS.ExcIs
import HandS.TryOnly
import KE.KDflt
import KE.KExcIs
import HandS.HeadWalk
import KE.KNestM
import PyProof.SumAny
import KE.KIntText
import PyProof.Rows.Digits
import PyProof.AutoSeq1
import HandS.Wide
import HandS.Codes
import KE.DatumOrd
import KE.IntTextLaws
import KE.IntTextText
import PySem.Challenge.RW_pickedrelease_k46_rows_refused
set_option Elab.async false
set_option linter.all false
set_option maxRecDepth 100000
set_option autoImplicit false
local macro_rules
  | `(tactic| push_cast) => do
    let ids := #[`mSeq, `mSet, `mVar, `mC, `mOp, `seqE, `optE, `mTru, `mAnd, `mOr, `mNot, `mIf, `mBl, `mNil, `mCons, `mCall, `mTup, `argsD, `dsOf, `tupD, `mFz, `mLst, `mRet, `mDrop, `mNx, `mBk, `mCt, `mFail, `mItems, `itemsD, `mRng, `mgName, `mgNil, `mgCons, `mgTup, `mAsg, `mFor, `mNo, `mPart, `mSl, `mB, `mSetO, `mAppend, `mPop, `mPkOp, `mPkIx, `mPkLen, `mScrLen, `mYes, `mPar, `mPar3, `mParO, `mAug, `mMtS, `mIs, `mStar, `mFmt, `mJs, `mAndV, `mOrV, `mListO, `mCatO, `mgUnl, `truD, `pk, `mEnum, `mStep, `stepD, `List.getElem?_cons_zero, `List.getElem?_cons_succ, `List.set_cons_zero, `List.set_cons_succ, `List.length_cons, `List.length_nil, `Option.map_some, `Option.map_none, `List.map_cons, `List.map_nil, `List.cons_append, `List.nil_append, `List.replicate, `Nat.zero_add, `Nat.reduceAdd, `Nat.reduceSub, `Nat.reduceLeDiff, `if_true, `if_false, `Bool.not_true, `Bool.not_false, `reduceCtorEq, `reduceIte, `decide_true, `decide_false, `Bool.false_eq_true, `List.isEmpty_cons, `List.isEmpty_nil, `ixT0, `ixT1, `ixT2, `ixL0, `ixL1, `ixL2, `isD_nn, `isD_in, `isD_sn, `isD_tn, `isN_nn, `isN_in, `isN_sn, `isN_tn, `Int.cast_ofNat_Int, `Int.reduceEq, `Int.reduceLT, `Int.reduceLE, `Bool.and_false, `Bool.and_true, `Bool.true_and, `Bool.false_and, `Bool.or_false, `Bool.or_true, `Bool.true_or, `Bool.false_or].map Lean.mkIdent
    `(tactic| (simp only [$[$ids:ident],*] <;> rfl))
  | `(tactic| push_cast [$xs,*]) => do
    let ids := #[`mSeq, `mSet, `mVar, `mC, `mOp, `seqE, `optE, `mTru, `mAnd, `mOr, `mNot, `mIf, `mBl, `mNil, `mCons, `mCall, `mTup, `argsD, `dsOf, `tupD, `mFz, `mLst, `mRet, `mDrop, `mNx, `mBk, `mCt, `mFail, `mItems, `itemsD, `mRng, `mgName, `mgNil, `mgCons, `mgTup, `mAsg, `mFor, `mNo, `mPart, `mSl, `mB, `mSetO, `mAppend, `mPop, `mPkOp, `mPkIx, `mPkLen, `mScrLen, `mYes, `mPar, `mPar3, `mParO, `mAug, `mMtS, `mIs, `mStar, `mFmt, `mJs, `mAndV, `mOrV, `mListO, `mCatO, `mgUnl, `truD, `pk, `mEnum, `mStep, `stepD, `List.getElem?_cons_zero, `List.getElem?_cons_succ, `List.set_cons_zero, `List.set_cons_succ, `List.length_cons, `List.length_nil, `Option.map_some, `Option.map_none, `List.map_cons, `List.map_nil, `List.cons_append, `List.nil_append, `List.replicate, `Nat.zero_add, `Nat.reduceAdd, `Nat.reduceSub, `Nat.reduceLeDiff, `if_true, `if_false, `Bool.not_true, `Bool.not_false, `reduceCtorEq, `reduceIte, `decide_true, `decide_false, `Bool.false_eq_true, `List.isEmpty_cons, `List.isEmpty_nil, `ixT0, `ixT1, `ixT2, `ixL0, `ixL1, `ixL2, `isD_nn, `isD_in, `isD_sn, `isD_tn, `isN_nn, `isN_in, `isN_sn, `isN_tn, `Int.cast_ofNat_Int, `Int.reduceEq, `Int.reduceLT, `Int.reduceLE, `Bool.and_false, `Bool.and_true, `Bool.true_and, `Bool.false_and, `Bool.or_false, `Bool.or_true, `Bool.true_or, `Bool.false_or].map Lean.mkIdent
    `(tactic| (simp only [$[$ids:ident],*, $xs,*] <;> rfl))
set_option maxHeartbeats 4000000
namespace Dn
open PySem PySem.Spec PyProof.Rows L2

mutual
/-- the value v is the datum d, over the heap G of what is data (lists: tracked ones) -/
inductive Dq (K : PySem.W.Frag) (G : Hp) : V → PyData → Prop
  | non : Dq K G .non .none
  | bl (b : Bool) : Dq K G (.bl b) (.bool b)
  | int (i : Int) : Dq K G (.int i) (.int i)
  | str (x : Str) : Dq K G (.str x) (.str x)
  | lst {a : Addr} {xs : List V} {ds : List PyData} : G a = some (.lst xs) → DqA K G xs ds → Dq K G (.ref a) (.list ds)
  | tup {a : Addr} {xs : List V} {ds : List PyData} : SqT K G a xs → DqA K G xs ds → Dq K G (.ref a) (.tuple ds)
inductive DqA (K : PySem.W.Frag) (G : Hp) : List V → List PyData → Prop
  | nil : DqA K G [] []
  | cons {v : V} {vs : List V} {d : PyData} {ds : List PyData} : Dq K G v d → DqA K G vs ds → DqA K G (v :: vs) (d :: ds)
end
mutual
theorem Dq.dp {K : PySem.W.Frag} {G : Hp} : ∀ {v : V} {d : PyData}, Dq K G v d → Dp K G v d
  | _, _, .non => .non
  | _, _, .bl b => .bl b
  | _, _, .int i => .int i
  | _, _, .str x => .str x
  | _, _, .lst h a => .lst (SqL.of h) a.dp
  | _, _, .tup h a => .tup h a.dp
theorem DqA.dp {K : PySem.W.Frag} {G : Hp} : ∀ {vs : List V} {ds : List PyData}, DqA K G vs ds → DpAll K G vs ds
  | _, _, .nil => .nil
  | _, _, .cons a b => .cons a.dp b.dp
end
mutual
theorem dp_mono {K : PySem.W.Frag} {G G' : Hp} (s : Same G G') : ∀ {v : V} {d : PyData}, Dq K G v d → Dq K G' v d
  | _, _, .non => .non
  | _, _, .bl b => .bl b
  | _, _, .int i => .int i
  | _, _, .str x => .str x
  | _, _, .lst h a => .lst (s _ _ h) (dpA_mono s a)
  | _, _, .tup h a => .tup (by
      rcases h with (h | ⟨o, h⟩) | h
      · exact .inl (.inl (s _ _ h))
      · exact .inl (.inr ⟨o, s _ _ h⟩)
      · exact .inr h) (dpA_mono s a)
theorem dpA_mono {K : PySem.W.Frag} {G G' : Hp} (s : Same G G') : ∀ {vs : List V} {ds : List PyData}, DqA K G vs ds → DqA K G' vs ds
  | _, _, .nil => .nil
  | _, _, .cons a b => .cons (dp_mono s a) (dpA_mono s b)
end
mutual
/-- data in which empty dicts may lie -/
inductive Dl (K : PySem.W.Frag) (G : Hp) : V → PyData → Prop
  | of {v : V} {d : PyData} : Dq K G v d → Dl K G v d
  | lst {a : Addr} {xs : List V} {ds : List PyData} : G a = some (.lst xs) → DlA K G xs ds → Dl K G (.ref a) (.list ds)
  | tup {a : Addr} {xs : List V} {ds : List PyData} : SqT K G a xs → DlA K G xs ds → Dl K G (.ref a) (.tuple ds)
  | dct {a : Addr} : G a = some (.dK []) → Dl K G (.ref a) (.dict [])
inductive DlA (K : PySem.W.Frag) (G : Hp) : List V → List PyData → Prop
  | nil : DlA K G [] []
  | cons {v : V} {vs : List V} {d : PyData} {ds : List PyData} : Dl K G v d → DlA K G vs ds → DlA K G (v :: vs) (d :: ds)
end
mutual
theorem Dl.mono {K : PySem.W.Frag} {G G' : Hp} (s : Same G G') : ∀ {v : V} {d : PyData}, Dl K G v d → Dl K G' v d
  | _, _, .of h => .of (dp_mono s h)
  | _, _, .lst h a => .lst (s _ _ h) (a.mono s)
  | _, _, .tup h a => .tup (by
      rcases h with (h | ⟨o, h⟩) | h
      · exact .inl (.inl (s _ _ h))
      · exact .inl (.inr ⟨o, s _ _ h⟩)
      · exact .inr h) (a.mono s)
  | _, _, .dct h => .dct (s _ _ h)
theorem DlA.mono {K : PySem.W.Frag} {G G' : Hp} (s : Same G G') : ∀ {vs : List V} {ds : List PyData}, DlA K G vs ds → DlA K G' vs ds
  | _, _, .nil => .nil
  | _, _, .cons a b => .cons (a.mono s) (b.mono s)
end
theorem Same.sqT {K : PySem.W.Frag} {G G' : Hp} {a : Addr} {xs : List V} (s : Same G G') (h : SqT K G a xs) : SqT K G' a xs := by
  rcases h with (h | ⟨o, h⟩) | h
  · exact .inl (.inl (s _ _ h))
  · exact .inl (.inr ⟨o, s _ _ h⟩)
  · exact .inr h
theorem same_upd {G : Hp} {p : Addr} {o : HO} (h : G p = none) : Same G (upd G p o) := fun b u e => by rw [upd_ne (ne_of_none e h)]; exact e
theorem dpA_len {K : PySem.W.Frag} {G : Hp} : ∀ {vs : List V} {ds : List PyData}, DqA K G vs ds → vs.length = ds.length
  | _, _, .nil => rfl
  | _, _, .cons _ b => congrArg Nat.succ (dpA_len b)
theorem dpA_get {K : PySem.W.Frag} {G : Hp} : ∀ {vs : List V} {ds : List PyData} {i : Nat} {d : PyData}, DqA K G vs ds → ds[i]? = some d → ∃ v, vs[i]? = some v ∧ Dq K G v d
  | _, _, _, _, .nil, e => by simp at e
  | _, _, 0, _, .cons a _, e => by simp at e; subst e; exact ⟨_, rfl, a⟩
  | _, _, i + 1, _, .cons _ b, e => by
    obtain ⟨v, h1, h2⟩ := dpA_get (i := i) b (by simpa using e)
    exact ⟨v, by simpa using h1, h2⟩
theorem dpA_get' {K : PySem.W.Frag} {G : Hp} : ∀ {vs : List V} {ds : List PyData} {i : Nat} {v : V}, DqA K G vs ds → vs[i]? = some v → ∃ d, ds[i]? = some d ∧ Dq K G v d
  | _, _, _, _, .nil, e => by simp at e
  | _, _, 0, _, .cons a _, e => by simp at e; subst e; exact ⟨_, rfl, a⟩
  | _, _, i + 1, _, .cons _ b, e => by
    obtain ⟨v, h1, h2⟩ := dpA_get' (i := i) b (by simpa using e)
    exact ⟨v, by simpa using h1, h2⟩
theorem dpA_app {K : PySem.W.Frag} {G : Hp} : ∀ {vs ws : List V} {ds es : List PyData}, DqA K G vs ds → DqA K G ws es → DqA K G (vs ++ ws) (ds ++ es)
  | _, _, _, _, .nil, h => h
  | _, _, _, _, .cons a b, h => .cons a (dpA_app b h)
theorem dpA_take {K : PySem.W.Frag} {G : Hp} : ∀ {vs : List V} {ds : List PyData} (n : Nat), DqA K G vs ds → DqA K G (vs.take n) (ds.take n)
  | _, _, 0, _ => by simpa using DqA.nil
  | _, _, _ + 1, .nil => .nil
  | _, _, n + 1, .cons a b => .cons a (dpA_take n b)
theorem dpA_drop {K : PySem.W.Frag} {G : Hp} : ∀ {vs : List V} {ds : List PyData} (n : Nat), DqA K G vs ds → DqA K G (vs.drop n) (ds.drop n)
  | _, _, 0, h => by simpa using h
  | _, _, _ + 1, .nil => .nil
  | _, _, n + 1, .cons _ b => dpA_drop n b
theorem dpA_strs {K : PySem.W.Frag} {G : Hp} : ∀ (ns : List Str), DqA K G (ns.map V.str) (ns.map PyData.str)
  | [] => .nil
  | n :: ns => .cons (.str n) (dpA_strs ns)

/-- an exception: its class's name, the place that it keeps -/
structure Xc where
  cls : Str
  place : Option PyData
/-- what a slot holds: data; a list of this def's own that may still be changed; the law's drawing state; data with empty dicts; a caught exception; a dict of this def's own -/
inductive SD where
  | d (x : PyData)
  | own (xs : List PyData)
  | st
  | scr (n : Nat)
  | dic (kvs : List (Str × PyData))
  | l (x : PyData)
  | ex (a : Addr) (d : Option Addr) (p : Option PyData)
  | od (kvs : List (Str × PyData))
/-- the drawing state -/
structure DS where
  cells : List Int
  lefts : List Int
  pos : Int
  room : Int
abbrev Ev := List (Option SD)
abbrev W := Option DS
structure Ad where
  sa : Addr
  ca : Addr
  la : Addr
  tabs : List (Addr × Str)
structure Ct where
  ad : Ad
  H0 : Hp
  G0 : Hp
def kCells : Key := .inr "cells"
def kLefts : Key := .inr "lefts"
def kAt : Key := .inr "at"
def kRoom : Key := .inr "room"
/-- a def's table of code objects, and the name that its lambdas bear -/
def tabOf (K : PySem.W.Frag) (fd : FuncData) : Option (Addr × Str) := match fd.code with
  | .ref c => (match K.lookup c with
    | some ⟨_, _, .fields vs, _⟩ => (match (vs[11]? : Option Value) with
      | some (Value.ref P) => some (P, (fd.qualname ++ ".<locals>.") ++ "<lambda>")
      | _ => none)
    | _ => none)
  | _ => none
/-- a text with a def that is handed lambdas -/
def lamK (K : PySem.W.Frag) : Bool := K.any fun p => match p.2.data with
  | .func fd => decide (fd.qualname = "_law_said") || (decide (fd.qualname = "_law_refused") || decide (fd.qualname = "_law_heard"))
  | _ => false
/-- the tables of the defs of which a name is captured -/
def tabsOf (K : PySem.W.Frag) : List (Addr × Str) := if lamK K then K.filterMap (fun p => match p.2.data with
  | .func fd => if fd.scope.names.any (fun y => decide (y.2 = NameKind.cell)) then tabOf K fd else none
  | _ => none) else []
structure StAt (K : PySem.W.Frag) (ad : Ad) (s : DS) (G H : Hp) : Prop where
  sa : H ad.sa = some (.dK [(kCells, .ref ad.ca), (kLefts, .ref ad.la), (kAt, .int s.pos), (kRoom, .int s.room)])
  la : H ad.la = some (.lst (s.lefts.map V.int))
  ca : H ad.ca = some (.lst (s.cells.map V.int))
  gs : G ad.sa = none
  gl : G ad.la = none
  gc : G ad.ca = none
  ne : ad.ca ≠ ad.la
  tk : ad.tabs = tabsOf K
/-- the addresses that a def may change -/
def Mt (ad : Ad) (w : W) (b : Addr) : Prop := (w.isSome = true ∧ (b = ad.sa ∨ b = ad.la)) ∨ b ∈ ad.tabs.map (·.1)
theorem Mt.w {ad : Ad} {w w' : W} {b : Addr} (h : Mt ad w b) (hw : w'.isSome = w.isSome) : Mt ad w' b := h.elim (fun h => .inl ⟨by rw [hw]; exact h.1, h.2⟩) .inr
/-- the tables of code objects: they may grow, and are no data -/
structure CtOk (T : List (Addr × Str)) (G H : Hp) : Prop where
  tabs : LamX.Tabs T H
  gn : ∀ p ∈ T, G p.1 = none
theorem CtOk.nil {G H : Hp} : CtOk [] G H := ⟨fun p hp => absurd hp (by simp), fun p hp => absurd hp (by simp)⟩
theorem CtOk.at {T : List (Addr × Str)} {G H : Hp} (t : CtOk T G H) {b : Addr} (h : b ∈ T.map (·.1)) : ∃ ps, H b = some (.tbl ps) := by
  obtain ⟨p, hp, rfl⟩ := List.mem_map.mp h
  obtain ⟨ps, e, _⟩ := t.tabs p hp
  exact ⟨ps, e⟩
/-- the data's heap changed where no table is -/
theorem CtOk.grow {T : List (Addr × Str)} {G G' H : Hp} (t : CtOk T G H) (h : ∀ b ps, H b = some (.tbl ps) → G' b = G b) : CtOk T G' H := ⟨t.tabs, fun p hp => by
  obtain ⟨ps, e, _⟩ := t.tabs p hp
  rw [h _ _ e]
  exact t.gn p hp⟩
theorem CtOk.gset0 {T : List (Addr × Str)} {G H : Hp} {a : Addr} {o : HO} (t : CtOk T G H) (h : a ∉ T.map (·.1)) : CtOk T (upd G a o) H := ⟨t.tabs, fun p hp => by
  rw [upd_ne fun z => h (List.mem_map.mpr ⟨p, hp, z⟩)]
  exact t.gn p hp⟩
theorem CtOk.gset {T : List (Addr × Str)} {G H : Hp} {a : Addr} {vs : List V} {o : HO} (t : CtOk T G H) (h : H a = some (.lst vs)) : CtOk T (upd G a o) H := t.grow fun b ps e => upd_ne fun z => by
  rw [z, h] at e
  cases e
/-- a list changed -/
theorem CtOk.hoth {T : List (Addr × Str)} {G H : Hp} {a : Addr} {o : HO} (t : CtOk T G H) (h : a ∉ T.map (·.1)) (hx : ∀ φ, H a ≠ some (.ext φ)) : CtOk T G (upd H a o) := ⟨fun p hp => by
  obtain ⟨ps, h1, h2, h3⟩ := t.tabs p hp
  refine ⟨ps, (upd_ne (fun z => h (List.mem_map.mpr ⟨p, hp, z⟩))).trans h1, h2, fun pos cv hc => ?_⟩
  obtain ⟨c, e1, e2⟩ := h3 pos cv hc
  exact ⟨c, e1, (upd_ne (fun z => by rw [z] at e2; unfold LamX.CodeO at e2; exact hx _ e2)).trans e2⟩, t.gn⟩
theorem CtOk.hobj {T : List (Addr × Str)} {G H : Hp} {a : Addr} {u o : HO} (t : CtOk T G H) (h : H a = some u) (hu : ∀ ps, u ≠ .tbl ps) (hx : ∀ φ, u ≠ .ext φ) : CtOk T G (upd H a o) := t.hoth (fun m => by
  obtain ⟨ps, e⟩ := t.at m
  rw [h] at e
  exact hu ps (Option.some.inj e)) fun φ e => by
    rw [h] at e
    exact hx φ (Option.some.inj e)
theorem CtOk.hset {T : List (Addr × Str)} {G H : Hp} {a : Addr} {vs us : List V} (t : CtOk T G H) (h : H a = some (.lst vs)) : CtOk T G (upd H a (.lst us)) := ⟨fun p hp => by
  obtain ⟨ps, h1, h2, h3⟩ := t.tabs p hp
  refine ⟨ps, (upd_ne (fun z => by rw [z, h] at h1; cases h1)).trans h1, h2, fun pos cv hc => ?_⟩
  obtain ⟨c, e1, e2⟩ := h3 pos cv hc
  exact ⟨c, e1, (upd_ne (fun z => by rw [z, h] at e2; unfold LamX.CodeO at e2; cases e2)).trans e2⟩, t.gn⟩
/-- the entries of a dict with texts as keys -/
inductive DicQ (K : PySem.W.Frag) (G : Hp) : List (Key × V) → List (Str × PyData) → Prop
  | nil : DicQ K G [] []
  | cons {k : Str} {v : V} {d : PyData} {vs : List (Key × V)} {ds : List (Str × PyData)} : Dq K G v d → DicQ K G vs ds → DicQ K G ((.inr k, v) :: vs) ((k, d) :: ds)
theorem DicQ.mono {K : PySem.W.Frag} {G G' : Hp} (s : Same G G') : ∀ {vs : List (Key × V)} {ds : List (Str × PyData)}, DicQ K G vs ds → DicQ K G' vs ds
  | _, _, .nil => .nil
  | _, _, .cons a b => .cons (dp_mono s a) (b.mono s)
/-- a caught exception at a, its dict at d, its place -/
def ExOk (K : PySem.W.Frag) (C : Ct) (w : W) (G : Hp) (a : Addr) (d : Option Addr) (p : Option PyData) (v : V) : Prop := v = .ref a ∧ ∀ y, p = some y → ∃ dd u, d = some dd ∧ C.H0 dd = some (.xd [("place", u)]) ∧ ¬ Mt C.ad w dd ∧ Dq K G u y
theorem ExOk.mono {K : PySem.W.Frag} {C : Ct} {w w' : W} {G G' : Hp} {a : Addr} {d : Option Addr} {p : Option PyData} {v : V} (h : ExOk K C w G a d p v) (s : Same G G') (hw : w'.isSome = w.isSome) : ExOk K C w' G' a d p v :=
  ⟨h.1, fun y hy => let ⟨dd, u, h1, h2, h3, h4⟩ := h.2 y hy; ⟨dd, u, h1, h2, fun z => h3 (z.w hw.symm), dp_mono s h4⟩⟩
def SlotOk (K : PySem.W.Frag) (C : Ct) (w : W) (G H : Hp) : SD → V → Prop
  | .d x, v => Dq K G v x
  | .own xs, v => ∃ a vs, v = .ref a ∧ H a = some (.lst vs) ∧ DqA K G vs xs ∧ G a = none ∧ C.H0 a = none
  | .st, v => w.isSome = true ∧ v = .ref C.ad.sa
  | .dic kvs, v => ∃ a o vs, v = .ref a ∧ G a = some (.frz o (.dK vs)) ∧ DicQ K G vs kvs
  | .l x, v => Dl K G v x
  | .ex a d p, v => ExOk K C w G a d p v
  | .od kvs, v => ∃ a vs, v = .ref a ∧ H a = some (.dK vs) ∧ DicQ K G vs kvs ∧ G a = none ∧ C.H0 a = none
  | .scr n, v => ∃ a xs, v = .ref a ∧ xs.length = n ∧ ((∃ o, C.H0 a = some (.frz o (.lst xs)) ∧ ¬ Mt C.ad w a) ∨ ∀ H1, SqL K H1 a xs)
def ArgOk (K : PySem.W.Frag) (ad : Ad) (w : W) (G : Hp) : SD → V → Prop
  | .d x, v => Dq K G v x
  | .own _, _ => False
  | .st, v => w.isSome = true ∧ v = .ref ad.sa
  | .scr _, _ => False
  | .dic _, _ => False
  | .l x, v => Dl K G v x
  | .ex _ _ _, _ => False
  | .od _, _ => False
inductive ArgsOk (K : PySem.W.Frag) (ad : Ad) (w : W) (G : Hp) : List SD → List V → Prop
  | nil : ArgsOk K ad w G [] []
  | cons {r : SD} {rs : List SD} {v : V} {vs : List V} : ArgOk K ad w G r v → ArgsOk K ad w G rs vs → ArgsOk K ad w G (r :: rs) (v :: vs)
structure Rel (K : PySem.W.Frag) (C : Ct) (env : Ev) (w : W) (σ : L2.St) (G H : Hp) : Prop where
  sub : Same G H
  len : env.length = σ.length
  slot : ∀ (i : Nat) (sd : SD), env[i]? = some (some sd) → ∃ v, σ[i]? = some (some v) ∧ SlotOk K C w G H sd v
  sep : ∀ (i j : Nat) (xs ys : List PyData) (a : Addr), env[i]? = some (some (.own xs)) → env[j]? = some (some (.own ys)) → σ[i]? = some (some (.ref a)) → σ[j]? = some (some (.ref a)) → i = j
  st : ∀ s, w = some s → StAt K C.ad s G H
  st0 : w.isSome = true → C.H0 C.ad.sa ≠ none ∧ C.H0 C.ad.la ≠ none ∧ C.H0 C.ad.ca ≠ none
  fr : ∀ b o, C.H0 b = some o → ¬ Mt C.ad w b → H b = some o
  gr : ∀ b o, C.H0 b = some o → G b = C.G0 b
  tb : CtOk C.ad.tabs G H
  tb0 : ∀ p ∈ C.ad.tabs, C.H0 p.1 ≠ none
theorem ArgOk.mono {K : PySem.W.Frag} {ad : Ad} {w w' : W} {G G' : Hp} (s : Same G G') (hw : w'.isSome = w.isSome) : ∀ {r : SD} {v : V}, ArgOk K ad w G r v → ArgOk K ad w' G' r v
  | .d _, _, h => dp_mono s h
  | .own _, _, h => h.elim
  | .st, _, h => ⟨by rw [hw]; exact h.1, h.2⟩
  | .scr _, _, h => h.elim
  | .dic _, _, h => h.elim
  | .l _, _, h => Dl.mono s h
  | .ex _ _ _, _, h => h.elim
  | .od _, _, h => h.elim
theorem ArgsOk.mono {K : PySem.W.Frag} {ad : Ad} {w w' : W} {G G' : Hp} (s : Same G G') (hw : w'.isSome = w.isSome) : ∀ {rs : List SD} {vs : List V}, ArgsOk K ad w G rs vs → ArgsOk K ad w' G' rs vs
  | _, _, .nil => .nil
  | _, _, .cons a b => .cons (a.mono s hw) (b.mono s hw)
theorem ArgsOk.length {K : PySem.W.Frag} {ad : Ad} {w : W} {G : Hp} : ∀ {rs : List SD} {vs : List V}, ArgsOk K ad w G rs vs → rs.length = vs.length
  | _, _, .nil => rfl
  | _, _, .cons _ b => congrArg Nat.succ b.length
/-- what stood at the entry stands (something stands) now -/
theorem Rel.some0 {K : PySem.W.Frag} {C : Ct} {env : Ev} {w : W} {σ : L2.St} {G H : Hp} (R : Rel K C env w σ G H) {b : Addr} {o : HO} (h : C.H0 b = some o) : ∃ u, H b = some u := by
  by_cases m : Mt C.ad w b
  · by_cases mt : b ∈ C.ad.tabs.map (·.1)
    · obtain ⟨ps, q⟩ := R.tb.at mt
      exact ⟨_, q⟩
    obtain ⟨h1, h2⟩ := m.resolve_right mt
    cases e : w with
    | none => rw [e] at h1; cases h1
    | some s =>
      have q := R.st s e
      rcases h2 with rfl | rfl
      · exact ⟨_, q.sa⟩
      · exact ⟨_, q.la⟩
  · exact ⟨o, R.fr b o h m⟩
theorem Rel.none0 {K : PySem.W.Frag} {C : Ct} {env : Ev} {w : W} {σ : L2.St} {G H : Hp} (R : Rel K C env w σ G H) {b : Addr} (h : H b = none) : C.H0 b = none := by
  cases e : C.H0 b with
  | none => rfl
  | some o => obtain ⟨u, q⟩ := R.some0 e; rw [h] at q; cases q
/-- an own list's address is none of the state's -/
theorem Rel.own_ne {K : PySem.W.Frag} {C : Ct} {env : Ev} {w : W} {σ : L2.St} {G H : Hp} (R : Rel K C env w σ G H) {a : Addr} (h : C.H0 a = none) (hw : w.isSome = true) : a ≠ C.ad.sa ∧ a ≠ C.ad.la ∧ a ≠ C.ad.ca := by
  obtain ⟨h1, h2, h3⟩ := R.st0 hw
  exact ⟨fun e => h1 (e ▸ h), fun e => h2 (e ▸ h), fun e => h3 (e ▸ h)⟩

theorem Rel.not_Mt {K : PySem.W.Frag} {C : Ct} {env : Ev} {w : W} {σ : L2.St} {G H : Hp} {D : Addr} (R : Rel K C env w σ G H) (h0 : C.H0 D = none) : ¬ Mt C.ad w D := fun m => by
  rcases m with m | m
  · have ne := R.own_ne h0 m.1
    rcases m.2 with e | e
    · exact ne.1 e
    · exact ne.2.1 e
  · obtain ⟨p, hp, e⟩ := List.mem_map.mp m
    exact R.tb0 p hp (by rw [e]; exact h0)
theorem Rel.not_tab {K : PySem.W.Frag} {C : Ct} {env : Ev} {w : W} {σ : L2.St} {G H : Hp} {D : Addr} (R : Rel K C env w σ G H) (h0 : C.H0 D = none) : D ∉ C.ad.tabs.map (·.1) := fun m => R.not_Mt h0 (.inr m)

/-- the heap grew, nothing else -/
structure Ext (G H G' H' : Hp) : Prop where
  hh : Same H H'
  gg : Same G G'
  gh : Same G' H'
  old : ∀ b o, H b = some o → G' b = G b
theorem Ext.refl {G H : Hp} (s : Same G H) : Ext G H G H := ⟨Same.refl H, Same.refl G, s, fun _ _ _ => rfl⟩
theorem Ext.new {G H : Hp} {p : Addr} {o : HO} (s : Same G H) (h : H p = none) : Ext G H (upd G p o) (upd H p o) := by
  have hg : G p = none := s.free h
  refine ⟨same_upd h, same_upd hg, fun b u e => ?_, fun b u e => upd_ne (ne_of_none e h)⟩
  by_cases hb : b = p
  · subst hb; rw [upd_same] at e ⊢; exact e
  · rw [upd_ne hb] at e ⊢; exact s b u e
/-- .. where the new object is not data -/
theorem Ext.drop {G H H' : Hp} (s : Same G H) (h : Same H H') : Ext G H G H' := ⟨h, Same.refl G, s.trans h, fun _ _ _ => rfl⟩
theorem Ext.trans {G H G1 H1 G2 H2 : Hp} (a : Ext G H G1 H1) (b : Ext G1 H1 G2 H2) : Ext G H G2 H2 := ⟨a.hh.trans b.hh, a.gg.trans b.gg, b.gh, fun c o e => (b.old c o (a.hh c o e)).trans (a.old c o e)⟩
theorem StAt.ext {K : PySem.W.Frag} {ad : Ad} {s : DS} {G H G' H' : Hp} (q : StAt K ad s G H) (e : Ext G H G' H') : StAt K ad s G' H' :=
  ⟨e.hh _ _ q.sa, e.hh _ _ q.la, e.hh _ _ q.ca, (e.old _ _ q.sa).trans q.gs, (e.old _ _ q.la).trans q.gl, (e.old _ _ q.ca).trans q.gc, q.ne, q.tk⟩
theorem Rel.ext {K : PySem.W.Frag} {C : Ct} {env : Ev} {w : W} {σ : L2.St} {G H G' H' : Hp} (R : Rel K C env w σ G H) (e : Ext G H G' H') : Rel K C env w σ G' H' where
  sub := e.gh
  len := R.len
  slot := fun i sd h => by
    obtain ⟨v, h1, h2⟩ := R.slot i sd h
    refine ⟨v, h1, ?_⟩
    cases sd with
    | d x => exact dp_mono e.gg h2
    | own xs =>
      obtain ⟨a, vs, rfl, ha, hd, hg, h0⟩ := h2
      exact ⟨a, vs, rfl, e.hh _ _ ha, dpA_mono e.gg hd, (e.old _ _ ha).trans hg, h0⟩
    | st => exact h2
    | scr n => exact h2
    | dic kvs =>
      obtain ⟨a, o, vs, rfl, ha, hd⟩ := h2
      exact ⟨a, o, vs, rfl, e.gg _ _ ha, hd.mono e.gg⟩
    | l x => exact Dl.mono e.gg h2
    | ex a d p => exact ExOk.mono h2 e.gg rfl
    | od kvs =>
      obtain ⟨a, vs, rfl, ha, hd, hg, h0⟩ := h2
      exact ⟨a, vs, rfl, e.hh _ _ ha, hd.mono e.gg, (e.old _ _ ha).trans hg, h0⟩
  sep := R.sep
  st := fun s h => (R.st s h).ext e
  st0 := R.st0
  fr := fun b o h m => e.hh _ _ (R.fr b o h m)
  gr := fun b o h => by
    obtain ⟨u, q⟩ := R.some0 h
    exact (e.old _ _ q).trans (R.gr b o h)
  tb := ⟨R.tb.tabs.ext e.hh, fun p hp => by
    obtain ⟨ps, q, _⟩ := R.tb.tabs p hp
    rw [e.old _ _ q]
    exact R.tb.gn p hp⟩
  tb0 := R.tb0

abbrev Ex := Ev → W → Option (SD × Ev × W)
abbrev Tx := Ev → W → Option (Bool × Ev × W)
abbrev Ax := Ev → W → Option (List SD × Ev × W)
inductive Fl where
  | nx
  | rt (r : SD)
  | bk
  | ct
abbrev Sx := Ev → W → Option (Fl × Ev × W)
def tD (K : PySem.W.Frag) (m : Ex) : TE := fun σ H Q => ∃ C G env w r env' w', Rel K C env w σ G H ∧ m env w = some (r, env', w') ∧
  ∀ v G' H', Rel K C env' w' σ G' H' → Same G G' → w'.isSome = w.isSome → ArgOk K C.ad w' G' r v → Q v H'
def tT (K : PySem.W.Frag) (m : Tx) : TT := fun σ H Q => ∃ C G env w r env' w', Rel K C env w σ G H ∧ m env w = some (r, env', w') ∧
  ∀ G' H', Rel K C env' w' σ G' H' → Same G G' → w'.isSome = w.isSome → Q r H'
def tA (K : PySem.W.Frag) (m : Ax) : TA := fun σ H Q => ∃ C G env w r env' w', Rel K C env w σ G H ∧ m env w = some (r, env', w') ∧
  ∀ vs G' H', Rel K C env' w' σ G' H' → Same G G' → w'.isSome = w.isSome → ArgsOk K C.ad w' G' r vs → Q vs H'
def tS (K : PySem.W.Frag) (m : Sx) : TS := fun D σ H => ∃ C G env w fl env' w', Rel K C env w σ G H ∧ m env w = some (fl, env', w') ∧
  ∀ σ' G' H', Rel K C env' w' σ' G' H' → Same G G' → w'.isSome = w.isSome → match fl with
    | .nx => D.nx σ' H'
    | .bk => D.bk σ' H'
    | .ct => D.ct σ' H'
    | .rt r => ∀ v, ArgOk K C.ad w' G' r v → D.rt v H'
abbrev DE (X : Cx) (e : Expr) (m : Ex) : Prop := PE X e (tD X.K m)
abbrev DT (X : Cx) (e : Expr) (m : Tx) : Prop := PT X e (tT X.K m)
abbrev DA (X : Cx) (es : List Expr) (m : Ax) : Prop := PA X es (tA X.K m)
abbrev DSt (X : Cx) (s : Stmt) (m : Sx) : Prop := PS X s (tS X.K m)
abbrev DSs (X : Cx) (s : List Stmt) (m : Sx) : Prop := PSs X s (tS X.K m)
theorem PE.weak {X : Cx} {e : Expr} {t t' : TE} (h : PE X e t) (k : ∀ σ H Q, t' σ H Q → t σ H Q) : PE X e t' := ⟨fun pins s σ H Q I q => h.run pins s σ H Q I (k σ H Q q)⟩
theorem PT.weak {X : Cx} {e : Expr} {t t' : TT} (h : PT X e t) (k : ∀ σ H Q, t' σ H Q → t σ H Q) : PT X e t' := ⟨fun pins s σ H Q I q => h.run pins s σ H Q I (k σ H Q q)⟩
theorem PW.weak {X : Cx} {e : Expr} {t t' : TT} (h : PW X e t) (k : ∀ σ H Q, t' σ H Q → t σ H Q) : PW X e t' := ⟨fun wh pins s σ H Q I q => h.run wh pins s σ H Q I (k σ H Q q)⟩
theorem PA.weak {X : Cx} {e : List Expr} {t t' : TA} (h : PA X e t) (k : ∀ σ H Q, t' σ H Q → t σ H Q) : PA X e t' := ⟨fun pos pins s σ H Q I q => h.run pos pins s σ H Q I (k σ H Q q)⟩
theorem PS.weak {X : Cx} {e : Stmt} {t t' : TS} (h : PS X e t) (k : ∀ D σ H, t' D σ H → t D σ H) : PS X e t' := ⟨fun pins s σ H D I q => h.run pins s σ H D I (k D σ H q)⟩
theorem PSs.weak {X : Cx} {e : List Stmt} {t t' : TS} (h : PSs X e t) (k : ∀ D σ H, t' D σ H → t D σ H) : PSs X e t' := ⟨fun pins s σ H D I q => h.run pins s σ H D I (k D σ H q)⟩

def mVar (i : Nat) : Ex := fun env w => match env[i]? with
  | some (some (.d x)) => some (.d x, env, w)
  | some (some .st) => some (.st, env, w)
  | some (some (.own xs)) => some (.d (.list xs), env.set i (some (.d (.list xs))), w)
  | some (some (.l x)) => some (.l x, env, w)
  | _ => none
/-- an own list is data from now on -/
theorem Rel.freeze {K : PySem.W.Frag} {C : Ct} {env : Ev} {w : W} {σ : L2.St} {G H : Hp} (R : Rel K C env w σ G H) {i : Nat} {xs : List PyData} (h : env[i]? = some (some (.own xs))) :
    ∃ a G', σ[i]? = some (some (.ref a)) ∧ Same G G' ∧ Dq K G' (.ref a) (.list xs) ∧ Rel K C (env.set i (some (.d (.list xs)))) w σ G' H := by
  obtain ⟨v, h1, a, vs, rfl, ha, hd, hg, h0⟩ := R.slot i _ h
  have hi : i < env.length := (List.getElem?_eq_some_iff.mp h).1
  have sg : Same G (upd G a (.lst vs)) := same_upd hg
  have dp : Dq K (upd G a (.lst vs)) (.ref a) (.list xs) := .lst upd_same (dpA_mono sg hd)
  refine ⟨a, upd G a (.lst vs), h1, sg, dp, ?_, ?_, ?_, ?_, ?_, R.st0, R.fr, ?_, R.tb.gset ha, R.tb0⟩
  · intro b o e
    by_cases hb : b = a
    · subst hb; rw [upd_same] at e; rw [ha]; exact e
    · rw [upd_ne hb] at e; exact R.sub b o e
  · rw [List.length_set]; exact R.len
  · intro j sd e
    by_cases hj : i = j
    · subst hj
      rw [List.getElem?_set_self hi] at e
      cases e
      exact ⟨_, h1, dp⟩
    · rw [List.getElem?_set_ne hj] at e
      obtain ⟨v, q1, q2⟩ := R.slot j sd e
      refine ⟨v, q1, ?_⟩
      cases sd with
      | d x => exact dp_mono sg q2
      | own ys =>
        obtain ⟨b, us, rfl, hb, hd', hg', h0'⟩ := q2
        refine ⟨b, us, rfl, hb, dpA_mono sg hd', ?_, h0'⟩
        rw [upd_ne]
        · exact hg'
        · rintro rfl
          exact hj (R.sep i j xs ys b h e h1 q1)
      | st => exact q2
      | scr n => exact q2
      | dic kvs =>
        obtain ⟨b, o, us, rfl, hb, hd'⟩ := q2
        exact ⟨b, o, us, rfl, sg _ _ hb, hd'.mono sg⟩
      | l x => exact Dl.mono sg q2
      | ex b d p => exact ExOk.mono q2 sg rfl
      | od kvs =>
        obtain ⟨b, us, rfl, hb, hd', hg', h0'⟩ := q2
        refine ⟨b, us, rfl, hb, hd'.mono sg, ?_, h0'⟩
        rw [upd_ne]
        · exact hg'
        · rintro rfl
          rw [ha] at hb; cases hb
  · intro j k ys zs b e1 e2 s1 s2
    have hj : i ≠ j := by
      rintro rfl
      rw [List.getElem?_set_self hi] at e1; cases e1
    have hk : i ≠ k := by
      rintro rfl
      rw [List.getElem?_set_self hi] at e2; cases e2
    rw [List.getElem?_set_ne hj] at e1
    rw [List.getElem?_set_ne hk] at e2
    exact R.sep j k ys zs b e1 e2 s1 s2
  · intro s e
    have q := R.st s e
    have ne := R.own_ne h0 (by rw [e]; rfl)
    exact ⟨q.sa, q.la, q.ca, by rw [upd_ne ne.1.symm]; exact q.gs, by rw [upd_ne ne.2.1.symm]; exact q.gl, by rw [upd_ne ne.2.2.symm]; exact q.gc, q.ne, q.tk⟩
  · intro b o e
    rw [upd_ne]
    · exact R.gr b o e
    · rintro rfl
      rw [h0] at e; cases e
theorem de_var {X : Cx} {i : Nat} {x : Str} {pos : Pos} (h : PE X (.Name x pos) (tVar i)) : DE X (.Name x pos) (mVar i) := PE.weak h fun σ H Q ⟨C, G, env, w, r, env', w', R, hm, k⟩ => by
  unfold mVar at hm
  cases e : env[i]? with
  | none => rw [e] at hm; cases hm
  | some o =>
    rw [e] at hm
    cases o with
    | none => cases hm
    | some sd =>
      cases sd with
      | d y =>
        cases hm
        obtain ⟨v, h1, h2⟩ := R.slot i _ e
        exact ⟨v, h1, k v G H R (Same.refl G) rfl h2⟩
      | own xs =>
        cases hm
        obtain ⟨a, G', h1, sg, dp, R'⟩ := R.freeze e
        exact ⟨.ref a, h1, k _ G' H R' sg rfl dp⟩
      | st =>
        cases hm
        obtain ⟨v, h1, h2⟩ := R.slot i _ e
        exact ⟨v, h1, k v G H R (Same.refl G) rfl h2⟩
      | scr n => cases hm
      | dic _ => cases hm
      | l x =>
        cases hm
        obtain ⟨v, h1, h2⟩ := R.slot i _ e
        exact ⟨v, h1, k v G H R (Same.refl G) rfl h2⟩
      | ex _ _ _ => cases hm
      | od _ => cases hm
def mC (x : PyData) : Ex := fun env w => some (.d x, env, w)
theorem de_c {X : Cx} {e : Expr} {v : V} {x : PyData} (h : PE X e (tC v)) (hd : ∀ G, Dq X.K G v x) : DE X e (mC x) := PE.weak h fun σ H Q ⟨C, G, env, w, r, env', w', R, hm, k⟩ => by
  cases hm
  exact k v G H R (Same.refl G) rfl (hd G)
theorem de_int {X : Cx} {i j pos} : DE X (.Constant (.int i) j pos) (mC (.int i)) := de_c pe_int fun _ => .int i
theorem de_str {X : Cx} {i j pos} : DE X (.Constant (.str i) j pos) (mC (.str i)) := de_c pe_str fun _ => .str i
theorem de_bl {X : Cx} {i j pos} : DE X (.Constant (.bool i) j pos) (mC (.bool i)) := de_c pe_bl fun _ => .bl i
theorem de_non {X : Cx} {j pos} : DE X (.Constant .none j pos) (mC .none) := de_c pe_non fun _ => .non

def seqE {α : Type} (m : Ex) (k : PyData → Ev → W → Option α) : Ev → W → Option α := fun env w => match m env w with
  | some (.d x, e1, w1) => k x e1 w1
  | _ => none
def optE (o : Option PyData) : Ex := fun env w => match o with
  | some z => some (.d z, env, w)
  | none => none
theorem seqE_inv {α : Type} {m : Ex} {k : PyData → Ev → W → Option α} {env : Ev} {w : W} {r : α} (h : seqE m k env w = some r) : ∃ x e1 w1, m env w = some (.d x, e1, w1) ∧ k x e1 w1 = some r := by
  unfold seqE at h
  split at h
  · rename_i x e1 w1 e
    exact ⟨x, e1, w1, e, h⟩
  · cases h
theorem seqE_of {α : Type} {m : Ex} {k : PyData → Ev → W → Option α} {env : Ev} {w : W} {x : PyData} {e1 : Ev} {w1 : W} (h : m env w = some (.d x, e1, w1)) : seqE m k env w = k x e1 w1 := by
  unfold seqE; rw [h]
theorem optE_inv {o : Option PyData} {env : Ev} {w : W} {r : SD} {env' : Ev} {w' : W} (h : optE o env w = some (r, env', w')) : ∃ z, o = some z ∧ r = .d z ∧ env' = env ∧ w' = w := by
  unfold optE at h
  cases o with
  | none => cases h
  | some z => cases h; exact ⟨z, rfl, rfl, rfl, rfl⟩

/-- a two-place operation on data -/
def OpD (X : Cx) (f : Value → Value → Sem Value) (g : PyData → PyData → Option PyData) : Prop :=
  ∀ (pins : List (Addr × Obj)) (s : Shared) (σ : L2.St) (G H : Hp) (x y : V) (v u : Value) (dx dy dz : PyData) (Q : VK), Inv X pins σ H s → RelV x v → RelV y u → Same G H → Dq X.K G x dx → Dq X.K G y dy → g dx dy = some dz →
    (∀ z G' H', Ext G H G' H' → Dq X.K G' z dz → Q z H') → wpAny (model X.prog X.w) X.A (f v u) (EP X pins σ Q) X.xe s
def mOp (g : PyData → PyData → Option PyData) (ma mb : Ex) : Ex := seqE ma fun x => seqE mb fun y => optE (g x y)
def rSem (X : Cx) (f : Value → Value → Sem Value) : R2 := fun x y H Q => ∀ (pins : List (Addr × Obj)) (s : Shared) (σ : L2.St) (v u : Value), Inv X pins σ H s → RelV x v → RelV y u → wpAny (model X.prog X.w) X.A (f v u) (EP X pins σ Q) X.xe s
theorem op_sem {X : Cx} {f : Value → Value → Sem Value} : OpR X f (rSem X f) := fun pins s σ H x y v u Q I rx ry h => h pins s σ v u I rx ry
theorem two_D {X : Cx} {f : Value → Value → Sem Value} {g : PyData → PyData → Option PyData} {ma mb : Ex} (ho : OpD X f g) {σ : L2.St} {H : Hp} {Q : VK} (h : tD X.K (mOp g ma mb) σ H Q) :
    tD X.K ma σ H fun x H1 => tD X.K mb σ H1 fun y H2 => rSem X f x y H2 Q := by
  obtain ⟨C, G, env, w, r, env', w', R, hm, k⟩ := h
  obtain ⟨x, e1, w1, h1, hm⟩ := seqE_inv hm
  obtain ⟨y, e2, w2, h2, hm⟩ := seqE_inv hm
  obtain ⟨z, h3, rfl, rfl, rfl⟩ := optE_inv hm
  refine ⟨C, G, env, w, _, e1, w1, R, h1, fun v G1 H1 R1 s1 i1 a1 => ?_⟩
  refine ⟨C, G1, e1, w1, _, _, _, R1, h2, fun u G2 H2 R2 s2 i2 a2 => ?_⟩
  intro pins s σ' vv uu I rx ry
  exact ho pins s σ' G2 H2 v u vv uu x y z Q I rx ry R2.sub (dp_mono s2 a1) a2 h3 fun zz G' H' e dz => k zz G' H' (R2.ext e) (s1.trans (s2.trans e.gg)) (i2.trans i1) dz
section
variable {X : Cx} {a b : Expr} {ma mb : Ex} {pos : Pos} {g : PyData → PyData → Option PyData}
theorem de_op {op : Operator} (ho : OpD X (binaryOp op) g) (ha : DE X a ma) (hb : DE X b mb) : DE X (.BinOp a op b pos) (mOp g ma mb) := PE.weak (pe_op op_sem ha hb) fun _ _ _ h => two_D ho h
theorem de_cmp {op : CmpOp} (ho : OpD X (compareOp op) g) (ha : DE X a ma) (hb : DE X b mb) (hm : behindInMarks op b = false) : DE X (.Compare a [op] [b] pos) (mOp g ma mb) := PE.weak (pe_cmpR op_sem ha hb hm) fun _ _ _ h => two_D ho h
end
/-- a value's truth -/
def truD : PyData → Option Bool
  | .none => some false
  | .bool b => some b
  | .int i => some (i != 0)
  | .str y => if y.length ≤ sizeLine then some ((y.length : Int) != 0) else none
  | .list xs => some (!xs.isEmpty)
  | .tuple xs => some (!xs.isEmpty)
  | .dict _ => none
def mTru (m : Ex) : Tx := seqE m fun x env w => (truD x).map fun b => (b, env, w)
theorem mTru_inv {m : Ex} {env : Ev} {w : W} {b : Bool} {env' : Ev} {w' : W} (h : mTru m env w = some (b, env', w')) : ∃ x, m env w = some (.d x, env', w') ∧ truD x = some b := by
  obtain ⟨x, e1, w1, h1, h2⟩ := seqE_inv h
  cases e : truD x with
  | none => rw [e] at h2; cases h2
  | some c => rw [e] at h2; cases h2; exact ⟨x, h1, e⟩
theorem isEmpty_dpA {K : PySem.W.Frag} {G : Hp} : ∀ {vs : List V} {ds : List PyData}, DqA K G vs ds → (!ds.isEmpty) = !vs.isEmpty
  | _, _, .nil => rfl
  | _, _, .cons _ _ => rfl
theorem tru_ofD {K : PySem.W.Frag} {G H : Hp} {v : V} {x : PyData} {b : Bool} (s : Same G H) (hd : Dq K G v x) (h : truD x = some b) : TruV K v H b := by
  cases hd with
  | non => cases h; rfl
  | bl c => cases h; rfl
  | int i => cases h; rfl
  | str y =>
    simp only [truD] at h
    split at h
    · cases h; exact ⟨by assumption, rfl⟩
    · cases h
  | lst hs ha =>
    cases h
    exact .inl ⟨_, SqL.of (s _ _ hs), isEmpty_dpA ha⟩
  | tup hs ha =>
    cases h
    exact .inr (.inl ⟨_, Same.sqT s hs, isEmpty_dpA ha⟩)
theorem dt_val {X : Cx} {a : Expr} {m : Ex} (ha : DE X a m) (he : ∀ whole, isTrue a X.env whole = (do let v ← whole; standAt a.pos; holding [v] (truthy v)) := by intro _; rfl) : DT X a (mTru m) := by
  refine ⟨fun pins s σ H Q I h => ?_⟩
  obtain ⟨C, G, env, w, r, env', w', R, hm, k⟩ := h
  obtain ⟨x, h1, h2⟩ := mTru_inv hm
  refine isTrue_plain (thn (ha.run pins s σ H (fun v H1 => TruV X.K v H1 r ∧ Q r H1) I ⟨C, G, env, w, _, env', w', R, h1, fun v G' H' R' s' i' a' => ⟨tru_ofD R'.sub a' h2, k G' H' R' s' i'⟩⟩) fun v s1 ⟨y, H1, I1, r1, q1, q2⟩ => ?_) (he _)
  exact tru_ok pins s1 σ H1 y v Q I1 r1 ⟨r, q1, q2⟩
/-- a comparison as a test -/
theorem dt_cmp {X : Cx} {a b : Expr} {ma mb : Ex} {pos : Pos} {g : PyData → PyData → Option PyData} {op : CmpOp} (ho : OpD X (compareOp op) g) (ha : DE X a ma) (hb : DE X b mb) (hm : behindInMarks op b = false) :
    DT X (.Compare a [op] [b] pos) (mTru (mOp g ma mb)) := by
  refine ⟨fun pins s σ H Q I h => ?_⟩
  obtain ⟨C, G, env, w, r, env', w', R, h0, k⟩ := h
  obtain ⟨x, h1, h2⟩ := mTru_inv h0
  have t : tD X.K (mOp g ma mb) σ H fun v H1 => TruV X.K v H1 r ∧ Q r H1 := ⟨C, G, env, w, _, env', w', R, h1, fun v G' H' R' s' i' a' => ⟨tru_ofD R'.sub a' h2, k G' H' R' s' i'⟩⟩
  refine wpAny_isTrue_Compare1 ?_ hm
  refine binT ha hb I (two_D ho t) fun v u s2 x y H2 I2 rx ry q => ?_
  refine thn (q pins s2 σ v u I2 rx ry) fun c s3 ⟨z, H3, I3, r3, q1, q2⟩ => ?_
  exact tru_ok pins s3 σ H3 z c Q I3 r3 ⟨r, q1, q2⟩
def mAnd (a b : Tx) : Tx := fun env w => match a env w with
  | some (true, e1, w1) => b e1 w1
  | r => r
def mOr (a b : Tx) : Tx := fun env w => match a env w with
  | some (false, e1, w1) => b e1 w1
  | r => r
def mNot (a : Tx) : Tx := fun env w => match a env w with
  | some (b, e1, w1) => some (!b, e1, w1)
  | none => none
def mIf {α : Type} (t : Tx) (a b : Ev → W → Option α) : Ev → W → Option α := fun env w => match t env w with
  | some (true, e1, w1) => a e1 w1
  | some (false, e1, w1) => b e1 w1
  | none => none
/-- .. as values -/
def mBl (t : Tx) : Ex := fun env w => match t env w with
  | some (b, e1, w1) => some (.d (.bool b), e1, w1)
  | none => none
section
variable {X : Cx} {a b : Expr} {ta tb : Tx} {pos : Pos} {rest : List Expr}
abbrev DW (X : Cx) (e : Expr) (m : Tx) : Prop := PW X e (tT X.K m)
theorem dw_and1 (ha : DT X a ta) : DW X (.BoolOp .And [a] pos) ta := pw_and1 ha
theorem dw_or1 (ha : DT X a ta) : DW X (.BoolOp .Or [a] pos) ta := pw_or1 ha
theorem dw_and (ha : DT X a ta) (hb : DW X (.BoolOp .And (b :: rest) pos) tb) : DW X (.BoolOp .And (a :: b :: rest) pos) (mAnd ta tb) := PW.weak (pw_and ha hb) fun σ H Q ⟨C, G, env, w, r, env', w', R, hm, k⟩ => by
  unfold mAnd at hm
  split at hm
  · rename_i e1 w1 h1
    exact ⟨C, G, env, w, _, _, _, R, h1, fun G1 H1 R1 s1 i1 => ⟨C, G1, e1, w1, r, env', w', R1, hm, fun G2 H2 R2 s2 i2 => k G2 H2 R2 (s1.trans s2) (i2.trans i1)⟩⟩
  · rename_i h1
    cases r with
    | true => exact absurd hm (h1 _ _)
    | false => exact ⟨C, G, env, w, _, _, _, R, hm, fun G1 H1 R1 s1 i1 => k G1 H1 R1 s1 i1⟩
theorem dw_or (ha : DT X a ta) (hb : DW X (.BoolOp .Or (b :: rest) pos) tb) : DW X (.BoolOp .Or (a :: b :: rest) pos) (mOr ta tb) := PW.weak (pw_or ha hb) fun σ H Q ⟨C, G, env, w, r, env', w', R, hm, k⟩ => by
  unfold mOr at hm
  split at hm
  · rename_i e1 w1 h1
    exact ⟨C, G, env, w, _, _, _, R, h1, fun G1 H1 R1 s1 i1 => ⟨C, G1, e1, w1, r, env', w', R1, hm, fun G2 H2 R2 s2 i2 => k G2 H2 R2 (s1.trans s2) (i2.trans i1)⟩⟩
  · rename_i h1
    cases r with
    | false => exact absurd hm (h1 _ _)
    | true => exact ⟨C, G, env, w, _, _, _, R, hm, fun G1 H1 R1 s1 i1 => k G1 H1 R1 s1 i1⟩
theorem DW.dt {e : Expr} {m : Tx} (h : DW X e m) : DT X e m := PW.pt h
theorem dt_not (ha : DT X a ta) : DT X (.UnaryOp .Not a pos) (mNot ta) := PT.weak (pt_not ha) fun σ H Q ⟨C, G, env, w, r, env', w', R, hm, k⟩ => by
  unfold mNot at hm
  split at hm
  · rename_i c e1 w1 h1
    cases hm
    exact ⟨C, G, env, w, _, _, _, R, h1, fun G1 H1 R1 s1 i1 => k G1 H1 R1 s1 i1⟩
  · cases hm
theorem de_if {c : Expr} {tc : Tx} {ma mb : Ex} (hc : DT X c tc) (ha : DE X a ma) (hb : DE X b mb) : DE X (.IfExp c a b pos) (mIf tc ma mb) := PE.weak (pe_ifExp hc ha hb) fun σ H Q ⟨C, G, env, w, r, env', w', R, hm, k⟩ => by
  unfold mIf at hm
  split at hm
  · rename_i e1 w1 h1
    exact ⟨C, G, env, w, _, _, _, R, h1, fun G1 H1 R1 s1 i1 => ⟨C, G1, e1, w1, r, env', w', R1, hm, fun v G2 H2 R2 s2 i2 a2 => k v G2 H2 R2 (s1.trans s2) (i2.trans i1) a2⟩⟩
  · rename_i e1 w1 h1
    exact ⟨C, G, env, w, _, _, _, R, h1, fun G1 H1 R1 s1 i1 => ⟨C, G1, e1, w1, r, env', w', R1, hm, fun v G2 H2 R2 s2 i2 a2 => k v G2 H2 R2 (s1.trans s2) (i2.trans i1) a2⟩⟩
  · cases hm
end
end Dn

set_option maxHeartbeats 4000000
namespace Dn
open PySem PySem.Spec PyProof.Rows L2

def mNil : Ax := fun env w => some ([], env, w)
def mCons (a : Ex) (b : Ax) : Ax := fun env w => match a env w with
  | some (r, e1, w1) => (match b e1 w1 with
    | some (rs, e2, w2) => some (r :: rs, e2, w2)
    | none => none)
  | none => none
section
variable {X : Cx} {e : Expr} {es : List Expr} {m : Ex} {ms : Ax}
theorem da_nil : DA X [] mNil := PA.weak pa_nil fun σ H Q ⟨C, G, env, w, r, env', w', R, hm, k⟩ => by
  cases hm
  exact k [] G H R (Same.refl G) rfl .nil
theorem da_cons (ha : DE X e m) (hr : DA X es ms) (hs : starEach (e :: es) X.env = (false, eval e X.env) :: starEach es X.env := by rfl) : DA X (e :: es) (mCons m ms) := PA.weak (pa_cons ha hr hs) fun σ H Q ⟨C, G, env, w, r, env', w', R, hm, k⟩ => by
  unfold mCons at hm
  split at hm
  · rename_i r1 e1 w1 h1
    split at hm
    · rename_i rs e2 w2 h2
      cases hm
      refine ⟨C, G, env, w, _, _, _, R, h1, fun v G1 H1 R1 s1 i1 a1 => ⟨C, G1, e1, w1, _, _, _, R1, h2, fun vs G2 H2 R2 s2 i2 a2 => ?_⟩⟩
      exact k _ G2 H2 R2 (s1.trans s2) (i2.trans i1) (.cons (a1.mono s2 i2) a2)
    · cases hm
  · cases hm
end

def spM (K : PySem.W.Frag) (m : List SD → W → Option (SD × W)) : Sp := fun vs H Q _ => ∃ (G : Hp) (ad : Ad) (w : W) (as : List SD) (r : SD) (w' : W),
  Same G H ∧ (∀ s, w = some s → StAt K ad s G H) ∧ CtOk ad.tabs G H ∧ ArgsOk K ad w G as vs ∧ m as w = some (r, w') ∧
  ∀ v G' H', Same G G' → Same G' H' → (∀ b o, H b = some o → ¬ Mt ad w b → H' b = some o) → (∀ b o, H b = some o → G' b = G b) → w'.isSome = w.isSome → (∀ s, w' = some s → StAt K ad s G' H') → CtOk ad.tabs G' H' → ArgOk K ad w' G' r v → Q v H'
def mCall (m : List SD → W → Option (SD × W)) (ms : Ax) : Ex := fun env w => match ms env w with
  | some (as, e1, w1) => (match m as w1 with
    | some (r, w2) => some (r, e1, w2)
    | none => none)
  | none => none
theorem Rel.called {K : PySem.W.Frag} {C : Ct} {env : Ev} {w w' : W} {σ : L2.St} {G H G' H' : Hp} (R : Rel K C env w σ G H) (sg : Same G G') (gh : Same G' H') (fr : ∀ b o, H b = some o → ¬ Mt C.ad w b → H' b = some o)
    (old : ∀ b o, H b = some o → G' b = G b) (hw : w'.isSome = w.isSome) (st : ∀ s, w' = some s → StAt K C.ad s G' H') (tb : CtOk C.ad.tabs G' H') : Rel K C env w' σ G' H' where
  sub := gh
  len := R.len
  slot := fun i sd h => by
    obtain ⟨v, h1, h2⟩ := R.slot i sd h
    refine ⟨v, h1, ?_⟩
    cases sd with
    | d x => exact dp_mono sg h2
    | own xs =>
      obtain ⟨a, vs, rfl, ha, hd, hg, h0⟩ := h2
      refine ⟨a, vs, rfl, fr _ _ ha fun m => ?_, dpA_mono sg hd, (old _ _ ha).trans hg, h0⟩
      exact R.not_Mt h0 m
    | st => exact ⟨by rw [hw]; exact h2.1, h2.2⟩
    | dic kvs =>
      obtain ⟨a, o, vs, rfl, ha, hd⟩ := h2
      exact ⟨a, o, vs, rfl, sg _ _ ha, hd.mono sg⟩
    | l x => exact Dl.mono sg h2
    | ex a d p => exact ExOk.mono h2 sg hw
    | od kvs =>
      obtain ⟨a, vs, rfl, ha, hd, hg, h0⟩ := h2
      exact ⟨a, vs, rfl, fr _ _ ha fun m => R.not_Mt h0 m, hd.mono sg, (old _ _ ha).trans hg, h0⟩
    | scr n =>
      obtain ⟨a, xs, h3, h4, h5⟩ := h2
      refine ⟨a, xs, h3, h4, ?_⟩
      rcases h5 with ⟨o, h5, h6⟩ | h5
      · exact .inl ⟨o, h5, fun z => h6 (z.w hw.symm)⟩
      · exact .inr h5
  sep := R.sep
  st := st
  st0 := fun h => R.st0 (by rw [← hw]; exact h)
  fr := fun b o h m => by
    have m' : ¬ Mt C.ad w b := fun z => m (z.w hw)
    exact fr b o (R.fr b o h m') m'
  gr := fun b o h => by
    obtain ⟨u, q⟩ := R.some0 h
    exact (old _ _ q).trans (R.gr b o h)
  tb := tb
  tb0 := R.tb0
theorem call_D {K : PySem.W.Frag} {m : List SD → W → Option (SD × W)} {ms : Ax} {σ : L2.St} {H : Hp} {Q : VK} {E : XK} (h : tD K (mCall m ms) σ H Q) : tA K ms σ H fun vs H1 => spM K m (vs ++ []) H1 Q E := by
  obtain ⟨C, G, env, w, r, env', w', R, hm, k⟩ := h
  unfold mCall at hm
  split at hm
  · rename_i as e1 w1 h1
    split at hm
    · rename_i r2 w2 h2
      cases hm
      refine ⟨C, G, env, w, _, _, _, R, h1, fun vs G1 H1 R1 s1 i1 a1 => ?_⟩
      show spM K m (vs ++ []) H1 Q E
      rw [List.append_nil]
      exact ⟨G1, C.ad, w1, as, _, _, R1.sub, R1.st, R1.tb, a1, h2, fun v G' H' sg gh fr old hw st tb ar => k v G' H' (R1.called sg gh fr old hw st tb) (s1.trans sg) (hw.trans i1) ar⟩
    · cases hm
  · cases hm
/-- a def of the text that may be called -/
structure Fn (P : Program) (w : World) (K : PySem.W.Frag) (mg : Str → Option Value) (base : Heap) (k : Nat) (x : Str) (m : List SD → W → Option (SD × W)) : Prop where
  ex : ∃ (f : Addr) (fd : FuncData) (ps : List Str), FnOk P w K mg base CX0 k f fd ps (spM K m) ∧ mg x = some (.ref f) ∧ PySem.W.keepIn K (.ref f) = true ∧ Binds K fd ps []
section
variable {X : Cx} {x : Str} {e : Expr} {es : List Expr} {p pos : Pos} {m : List SD → W → Option (SD × W)} {ms : Ax} {j k : Nat}
theorem de_call (F : Fn X.prog X.w X.K X.mg X.base k x m) (hr : Room j X.A) (hk : k ≤ j) (ha : DA X (e :: es) ms) (hg : Gl X x := by rfl) (hdb : (x == ("__debug__" : Str)) = false := by decide)
    (he : starEach (e :: es) X.env = (false, eval e X.env) :: starEach es X.env := by rfl) (hpl : (backTo pos (starEach es X.env)).any (·.1) = false := by rfl) : DE X (.Call (.Name x p) (e :: es) [] pos) (mCall m ms) := by
  obtain ⟨f, fd, ps, F, hm, kp, hb⟩ := F.ex
  exact PE.weak (pe_call F (hr.mono hk) hg hm kp hb .nil pass0 ha hdb he hpl) fun _ _ _ h => call_D h
theorem de_call0 (F : Fn X.prog X.w X.K X.mg X.base k x m) (hr : Room j X.A) (hk : k ≤ j) (hg : Gl X x := by rfl) (hdb : (x == ("__debug__" : Str)) = false := by decide) : DE X (.Call (.Name x p) [] [] pos) (mCall m mNil) := by
  obtain ⟨f, fd, ps, F, hm, kp, hb⟩ := F.ex
  refine PE.weak (pe_call0 F (hr.mono hk) hg hm kp hb .nil pass0 hdb) fun σ H Q h => ?_
  obtain ⟨C, G, env, w, r, env', w', R, hm, k⟩ := h
  unfold mCall mNil at hm
  dsimp only at hm
  split at hm
  · rename_i r2 w2 h2
    cases hm
    show spM X.K m ([] ++ []) H Q E0
    exact ⟨G, C.ad, w, [], _, _, R.sub, R.st, R.tb, .nil, h2, fun v G' H' sg gh fr old hw st tb ar => k v G' H' (R.called sg gh fr old hw st tb) sg hw ar⟩
  · cases hm
end

def dsOf : List SD → Option (List PyData)
  | [] => some []
  | .d x :: r => (dsOf r).map (x :: ·)
  | _ :: _ => none
theorem dsOf_ok {K : PySem.W.Frag} {ad : Ad} {w : W} {G : Hp} : ∀ {rs : List SD} {vs : List V} {ds : List PyData}, ArgsOk K ad w G rs vs → dsOf rs = some ds → DqA K G vs ds
  | _, _, _, .nil, h => by cases h; exact .nil
  | .d x :: r, _, ds, .cons a b, h => by
    simp only [dsOf] at h
    cases e : dsOf r with
    | none => rw [e] at h; cases h
    | some es => rw [e] at h; cases h; exact .cons a (dsOf_ok b e)
  | .own _ :: _, _, _, .cons a _, _ => a.elim
  | .st :: _, _, _, .cons _ _, h => by cases h
  | .scr _ :: _, _, _, .cons a _, _ => a.elim
  | .l _ :: _, _, _, .cons _ _, h => by cases h
def argsD {α : Type} (ms : Ax) (k : List PyData → Ev → W → Option α) : Ev → W → Option α := fun env w => match ms env w with
  | some (rs, e1, w1) => (match dsOf rs with
    | some ds => k ds e1 w1
    | none => none)
  | none => none
theorem argsD_inv {α : Type} {ms : Ax} {k : List PyData → Ev → W → Option α} {env : Ev} {w : W} {r : α} (h : argsD ms k env w = some r) : ∃ rs ds e1 w1, ms env w = some (rs, e1, w1) ∧ dsOf rs = some ds ∧ k ds e1 w1 = some r := by
  unfold argsD at h
  split at h
  · rename_i rs e1 w1 h1
    split at h
    · rename_i ds h2
      exact ⟨rs, ds, e1, w1, h1, h2, h⟩
    · cases h
  · cases h
def tupD (ds : List PyData) : Option PyData := if ds.length ≤ 1000 then some (.tuple ds) else none
theorem len1000 {n : Nat} (h : n ≤ 1000) : n ≤ sizeLine := Nat.le_trans h (by decide)
def mTup (ms : Ax) : Ex := argsD ms fun ds => optE (tupD ds)
theorem de_tup {X : Cx} {e : Expr} {ms : Ax} (h : PE X e (tTup (tA X.K ms))) : DE X e (mTup ms) := PE.weak h fun σ H Q ⟨C, G, env, w, r, env', w', R, hm, k⟩ => by
  obtain ⟨rs, ds, e1, w1, h1, h2, hm⟩ := argsD_inv hm
  obtain ⟨z, h3, rfl, rfl, rfl⟩ := optE_inv hm
  unfold tupD at h3
  split at h3
  · rename_i hl
    cases h3
    refine ⟨C, G, env, w, _, _, _, R, h1, fun vs G1 H1 R1 s1 i1 a1 => ?_⟩
    have dA := dsOf_ok a1 h2
    refine ⟨len1000 (by rw [dpA_len dA]; exact hl), fun p hp => ?_⟩
    have ex : Ext G1 H1 (upd G1 p (.tup vs)) (upd H1 p (.tup vs)) := Ext.new R1.sub hp
    exact k _ _ _ (R1.ext ex) (s1.trans ex.gg) i1 (show Dq X.K _ _ _ from .tup (SqT.of upd_same) (dpA_mono ex.gg dA))
  · cases h3

abbrev Lx := Ev → W → Option (List PyData × Ev × W)
def tO (K : PySem.W.Frag) (m : Lx) : TE := fun σ H Q => ∃ C G env w xs env' w', Rel K C env w σ G H ∧ m env w = some (xs, env', w') ∧
  ∀ a vs G' H', Rel K C env' w' σ G' H' → Same G G' → w'.isSome = w.isSome → H' a = some (.lst vs) → DqA K G' vs xs → G' a = none → C.H0 a = none →
    (∀ (i : Nat) (ys : List PyData), env'[i]? = some (some (.own ys)) → σ[i]? ≠ some (some (.ref a))) → Q (.ref a) H'
abbrev DO (X : Cx) (e : Expr) (m : Lx) : Prop := PE X e (tO X.K m)
def mFz (m : Lx) : Ex := fun env w => match m env w with
  | some (xs, e, w) => some (.d (.list xs), e, w)
  | none => none
/-- an object that is not data becomes data -/
theorem Rel.add {K : PySem.W.Frag} {C : Ct} {env : Ev} {w : W} {σ : L2.St} {G H : Hp} {a : Addr} {o : HO} (R : Rel K C env w σ G H) (ha : H a = some o) (hg : G a = none) (h0 : C.H0 a = none)
    (hne : ∀ (i : Nat) (ys : List PyData), env[i]? = some (some (.own ys)) → σ[i]? ≠ some (some (.ref a))) (ho : ∀ kvs, o ≠ .dK kvs := by intro _ q; cases q) : Rel K C env w σ (upd G a o) H where
  sub := fun b u e => by
    by_cases hb : b = a
    · subst hb; rw [upd_same] at e; rw [ha]; exact e
    · rw [upd_ne hb] at e; exact R.sub b u e
  len := R.len
  slot := fun i sd h => by
    obtain ⟨v, h1, h2⟩ := R.slot i sd h
    refine ⟨v, h1, ?_⟩
    cases sd with
    | d x => exact dp_mono (same_upd hg) h2
    | own xs =>
      obtain ⟨b, vs, rfl, hb, hd, hgb, h0b⟩ := h2
      refine ⟨b, vs, rfl, hb, dpA_mono (same_upd hg) hd, ?_, h0b⟩
      rw [upd_ne]
      · exact hgb
      · rintro rfl
        exact hne i xs h h1
    | st => exact h2
    | dic kvs =>
      obtain ⟨b, o, vs, rfl, hb, hd⟩ := h2
      exact ⟨b, o, vs, rfl, same_upd hg _ _ hb, hd.mono (same_upd hg)⟩
    | l x => exact Dl.mono (same_upd hg) h2
    | ex b d p => exact ExOk.mono h2 (same_upd hg) rfl
    | od kvs =>
      obtain ⟨b, vs, rfl, hb, hd, hgb, h0b⟩ := h2
      refine ⟨b, vs, rfl, hb, hd.mono (same_upd hg), ?_, h0b⟩
      rw [upd_ne]
      · exact hgb
      · rintro rfl
        rw [ha] at hb
        exact ho _ (Option.some.inj hb)
    | scr n => exact h2
  sep := R.sep
  st := fun s e => by
    have q := R.st s e
    have ne := R.own_ne h0 (by rw [e]; rfl)
    exact ⟨q.sa, q.la, q.ca, by rw [upd_ne ne.1.symm]; exact q.gs, by rw [upd_ne ne.2.1.symm]; exact q.gl, by rw [upd_ne ne.2.2.symm]; exact q.gc, q.ne, q.tk⟩
  st0 := R.st0
  fr := R.fr
  gr := fun b u e => by
    rw [upd_ne]
    · exact R.gr b u e
    · rintro rfl
      rw [h0] at e; cases e
  tb := R.tb.gset0 (R.not_tab h0)
  tb0 := R.tb0
theorem do_fz {K : PySem.W.Frag} {m : Lx} {σ : L2.St} {H : Hp} {Q : VK} (h : tD K (mFz m) σ H Q) : tO K m σ H Q := by
  obtain ⟨C, G, env, w, r, env', w', R, hm, k⟩ := h
  unfold mFz at hm
  split at hm
  · rename_i xs e1 w1 h1
    cases hm
    refine ⟨C, G, env, w, _, _, _, R, h1, fun a vs G1 H1 R1 s1 i1 ha hd hg h0 hne => ?_⟩
    exact k _ (upd G1 a (.lst vs)) H1 (R1.add ha hg h0 hne) (s1.trans (same_upd hg)) i1 (show Dq K _ _ _ from .lst upd_same (dpA_mono (same_upd hg) hd))
  · cases hm
theorem DO.de {X : Cx} {e : Expr} {m : Lx} (h : DO X e m) : DE X e (mFz m) := PE.weak h fun _ _ _ h => do_fz h
def mLst (ms : Ax) : Lx := argsD ms fun ds env w => if ds.length ≤ 1000 then some (ds, env, w) else none
/-- what is new is no own slot's -/
theorem Rel.fresh_ne {K : PySem.W.Frag} {C : Ct} {env : Ev} {w : W} {σ : L2.St} {G H : Hp} (R : Rel K C env w σ G H) {p : Addr} (hp : H p = none) : ∀ (i : Nat) (ys : List PyData), env[i]? = some (some (.own ys)) → σ[i]? ≠ some (some (.ref p)) := fun i ys h e => by
  obtain ⟨v, h1, a, vs, rfl, ha, _⟩ := R.slot i _ h
  rw [h1] at e
  cases e
  rw [hp] at ha; cases ha
/-- a new list, not data yet -/
theorem new_O {K : PySem.W.Frag} {C : Ct} {G H : Hp} {env : Ev} {w : W} {σ : L2.St} {p : Addr} {vs : List V} (R : Rel K C env w σ G H) (hp : H p = none) :
    Rel K C env w σ G (upd H p (.lst vs)) ∧ (upd H p (.lst vs)) p = some (.lst vs) ∧ G p = none ∧ C.H0 p = none ∧ ∀ (i : Nat) (ys : List PyData), env[i]? = some (some (.own ys)) → σ[i]? ≠ some (some (.ref p)) :=
  ⟨R.ext (Ext.drop R.sub (same_upd hp)), upd_same, R.sub.free hp, R.none0 hp, R.fresh_ne hp⟩
theorem do_lst {X : Cx} {e : Expr} {ms : Ax} (h : PE X e (tLst (tA X.K ms))) : DO X e (mLst ms) := PE.weak h fun σ H Q ⟨C, G, env, w, r, env', w', R, hm, k⟩ => by
  obtain ⟨rs, ds, e1, w1, h1, h2, hm⟩ := argsD_inv hm
  split at hm
  · rename_i hl
    cases hm
    refine ⟨C, G, env, w, _, _, _, R, h1, fun vs G1 H1 R1 s1 i1 a1 => ?_⟩
    have dA := dsOf_ok a1 h2
    refine ⟨len1000 (by rw [dpA_len dA]; exact hl), fun p hp => ?_⟩
    obtain ⟨R2, q1, q2, q3, q4⟩ := new_O (vs := vs) R1 hp
    exact k p vs G1 _ R2 s1 i1 q1 dA q2 q3 q4
  · cases hm

def mSet (i : Nat) (m : Ex) : Sx := fun env w => match m env w with
  | some (r, e1, w1) => some (.nx, e1.set i (some r), w1)
  | none => none
theorem Rel.set {K : PySem.W.Frag} {C : Ct} {env : Ev} {w : W} {σ : L2.St} {G H : Hp} {r : SD} {v : V} (R : Rel K C env w σ G H) (a : ArgOk K C.ad w G r v) (i : Nat) : Rel K C (env.set i (some r)) w (σ.set i (some v)) G H where
  sub := R.sub
  len := by rw [List.length_set, List.length_set]; exact R.len
  slot := fun j sd h => by
    by_cases hj : i = j
    · subst hj
      have hi : i < env.length := by
        have := (List.getElem?_eq_some_iff.mp h).1
        rwa [List.length_set] at this
      rw [List.getElem?_set_self hi] at h
      cases h
      refine ⟨v, List.getElem?_set_self (by rw [← R.len]; exact hi), ?_⟩
      cases r with
      | d x => exact a
      | own _ => exact a.elim
      | st => exact a
      | l x => exact a
      | ex _ _ _ => exact a.elim
      | od _ => exact a.elim
      | scr _ => exact a.elim
      | dic _ => exact a.elim
    · rw [List.getElem?_set_ne hj] at h
      obtain ⟨v, h1, h2⟩ := R.slot j sd h
      exact ⟨v, by rw [List.getElem?_set_ne hj]; exact h1, h2⟩
  sep := fun j k xs ys b e1 e2 s1 s2 => by
    have no : ∀ (l : Nat) (zs : List PyData), (env.set i (some r))[l]? = some (some (.own zs)) → i ≠ l := fun l zs h z => by
      subst z
      have hi : i < env.length := by
        have := (List.getElem?_eq_some_iff.mp h).1
        rwa [List.length_set] at this
      rw [List.getElem?_set_self hi] at h
      cases h
      exact a.elim
    have hj := no j xs e1
    have hk := no k ys e2
    rw [List.getElem?_set_ne hj] at e1 s1
    rw [List.getElem?_set_ne hk] at e2 s2
    exact R.sep j k xs ys b e1 e2 s1 s2
  st := R.st
  st0 := R.st0
  fr := R.fr
  gr := R.gr
  tb := R.tb
  tb0 := R.tb0
section
variable {X : Cx} {s : Stmt} {m : Ex}
theorem ds_set {i : Nat} (h : PS X s (tAsg (tD X.K m) (gName i))) : DSt X s (mSet i m) := PS.weak h fun D σ H ⟨C, G, env, w, r, env', w', R, hm, k⟩ => by
  unfold mSet at hm
  split at hm
  · rename_i r1 e1 w1 h1
    cases hm
    exact ⟨C, G, env, w, _, _, _, R, h1, fun v G1 H1 R1 s1 i1 a1 => k _ G1 H1 (R1.set a1 i) s1 i1⟩
  · cases hm
def mRet (m : Ex) : Sx := fun env w => match m env w with
  | some (r, e1, w1) => some (.rt r, e1, w1)
  | none => none
theorem ds_ret (h : PS X s (tRet (tD X.K m))) : DSt X s (mRet m) := PS.weak h fun D σ H ⟨C, G, env, w, r, env', w', R, hm, k⟩ => by
  unfold mRet at hm
  split at hm
  · rename_i r1 e1 w1 h1
    cases hm
    exact ⟨C, G, env, w, _, _, _, R, h1, fun v G1 H1 R1 s1 i1 a1 => k σ G1 H1 R1 s1 i1 v a1⟩
  · cases hm
def mDrop (m : Ex) : Sx := fun env w => match m env w with
  | some (_, e1, w1) => some (.nx, e1, w1)
  | none => none
theorem ds_expr (h : PS X s (tDrop (tD X.K m))) : DSt X s (mDrop m) := PS.weak h fun D σ H ⟨C, G, env, w, r, env', w', R, hm, k⟩ => by
  unfold mDrop at hm
  split at hm
  · rename_i r1 e1 w1 h1
    cases hm
    exact ⟨C, G, env, w, _, _, _, R, h1, fun v G1 H1 R1 s1 i1 a1 => k σ G1 H1 R1 s1 i1⟩
  · cases hm
def mNx : Sx := fun env w => some (.nx, env, w)
def mBk : Sx := fun env w => some (.bk, env, w)
def mCt : Sx := fun env w => some (.ct, env, w)
def mFail : Sx := fun _ _ => none
theorem dss_nil : DSs X [] mNx := PSs.weak pss_nil fun D σ H ⟨C, G, env, w, r, env', w', R, hm, k⟩ => by
  cases hm
  exact k σ G H R (Same.refl G) rfl
/-- code that the proof never comes to (a raise) -/
theorem ds_fail : DSt X s mFail := PS.weak ps_never fun D σ H ⟨C, G, env, w, r, env', w', R, hm, k⟩ => by cases hm
def mSeq (a b : Sx) : Sx := fun env w => match a env w with
  | some (.nx, e1, w1) => b e1 w1
  | r => r
theorem dss_cons {rest : List Stmt} {a b : Sx} (h1 : DSt X s a) (h2 : DSs X rest b) : DSs X (s :: rest) (mSeq a b) := PSs.weak (pss_cons h1 h2) fun D σ H ⟨C, G, env, w, fl, env', w', R, hm, k⟩ => by
  unfold mSeq at hm
  split at hm
  · rename_i e1 w1 h1
    exact ⟨C, G, env, w, _, _, _, R, h1, fun σ1 G1 H1 R1 s1 i1 => ⟨C, G1, e1, w1, fl, env', w', R1, hm, fun σ2 G2 H2 R2 s2 i2 => k σ2 G2 H2 R2 (s1.trans s2) (i2.trans i1)⟩⟩
  · rename_i h1
    refine ⟨C, G, env, w, fl, _, _, R, hm, fun σ1 G1 H1 R1 s1 i1 => ?_⟩
    have q := k σ1 G1 H1 R1 s1 i1
    cases fl with
    | nx => exact absurd hm (h1 _ _)
    | bk => exact q
    | ct => exact q
    | rt r => exact q
theorem dss_one {a : Sx} (h1 : DSt X s a) : DSs X [s] a := pss_one h1
theorem ds_if {tc : Tx} {a b : Sx} (h : PS X s (tIfS (tT X.K tc) (tS X.K a) (tS X.K b))) : DSt X s (mIf tc a b) := PS.weak h fun D σ H ⟨C, G, env, w, fl, env', w', R, hm, k⟩ => by
  unfold mIf at hm
  split at hm
  · rename_i e1 w1 h1
    exact ⟨C, G, env, w, _, _, _, R, h1, fun G1 H1 R1 s1 i1 => ⟨C, G1, e1, w1, fl, env', w', R1, hm, fun σ2 G2 H2 R2 s2 i2 => k σ2 G2 H2 R2 (s1.trans s2) (i2.trans i1)⟩⟩
  · rename_i e1 w1 h1
    exact ⟨C, G, env, w, _, _, _, R, h1, fun G1 H1 R1 s1 i1 => ⟨C, G1, e1, w1, fl, env', w', R1, hm, fun σ2 G2 H2 R2 s2 i2 => k σ2 G2 H2 R2 (s1.trans s2) (i2.trans i1)⟩⟩
  · cases hm

def mWhile (c : Tx) (b : Sx) : Nat → Sx
  | 0 => fun _ _ => none
  | n + 1 => fun env w => match c env w with
    | some (false, e1, w1) => some (.nx, e1, w1)
    | some (true, e1, w1) => (match b e1 w1 with
      | some (.nx, e2, w2) => mWhile c b n e2 w2
      | some (.ct, e2, w2) => mWhile c b n e2 w2
      | some (.bk, e2, w2) => some (.nx, e2, w2)
      | some (.rt r, e2, w2) => some (.rt r, e2, w2)
      | none => none)
    | none => none
theorem ds_while {n : Nat} {c : Tx} {b : Sx} (h : PS X s (tWhile (tT X.K c) (tS X.K b))) : DSt X s (mWhile c b n) := PS.weak h fun D σ H ⟨C, G, env, w, fl, env', w', R, hm, k⟩ => by
  refine ⟨fun m σ1 H1 => ∃ G1 env1 w1, Rel X.K C env1 w1 σ1 G1 H1 ∧ Same G G1 ∧ w1.isSome = w.isSome ∧ mWhile c b m env1 w1 = some (fl, env', w'), ⟨n, G, env, w, R, Same.refl G, rfl, hm⟩, ?_⟩
  rintro m σ1 H1 ⟨G1, env1, w1, R1, s1, i1, h1⟩
  cases m with
  | zero => cases h1
  | succ m =>
    unfold mWhile at h1
    split at h1
    · rename_i e2 w2 h2
      refine ⟨C, G1, env1, w1, _, _, _, R1, h2, fun G2 H2 R2 s2 i2 => ?_⟩
      refine iteF ?_
      cases h1
      exact k σ1 G2 H2 R2 (s1.trans s2) (i2.trans i1)
    · rename_i e2 w2 h2
      refine ⟨C, G1, env1, w1, _, _, _, R1, h2, fun G2 H2 R2 s2 i2 => ?_⟩
      refine iteT ?_
      refine ⟨fun σ3 H3 => ∃ m', m' < m + 1 ∧ ∃ G1 env1 w1, Rel X.K C env1 w1 σ3 G1 H3 ∧ Same G G1 ∧ w1.isSome = w.isSome ∧ mWhile c b m' env1 w1 = some (fl, env', w'), fun _ _ h => h, ?_⟩
      split at h1
      · rename_i e3 w3 h3
        exact ⟨C, G2, e2, w2, _, _, _, R2, h3, fun σ3 G3 H3 R3 s3 i3 => ⟨m, Nat.lt_succ_self m, G3, e3, w3, R3, s1.trans (s2.trans s3), i3.trans (i2.trans i1), h1⟩⟩
      · rename_i e3 w3 h3
        exact ⟨C, G2, e2, w2, _, _, _, R2, h3, fun σ3 G3 H3 R3 s3 i3 => ⟨m, Nat.lt_succ_self m, G3, e3, w3, R3, s1.trans (s2.trans s3), i3.trans (i2.trans i1), h1⟩⟩
      · rename_i e3 w3 h3
        cases h1
        exact ⟨C, G2, e2, w2, _, _, _, R2, h3, fun σ3 G3 H3 R3 s3 i3 => k σ3 G3 H3 R3 (s1.trans (s2.trans s3)) (i3.trans (i2.trans i1))⟩
      · rename_i r3 e3 w3 h3
        cases h1
        exact ⟨C, G2, e2, w2, _, _, _, R2, h3, fun σ3 G3 H3 R3 s3 i3 v a => k σ3 G3 H3 R3 (s1.trans (s2.trans s3)) (i3.trans (i2.trans i1)) v a⟩
      · cases h1
    · cases h1
end

/-- the iterator J gives the data ds -/
structure Ito (K : PySem.W.Frag) (G : Hp) (J : It) (ds : List PyData) : Prop where
  small : ds.length ≤ sizeLine
  go : ∀ i G1 H1, i < ds.length → Same G G1 → Same G1 H1 → J.go i H1
  stop : ∀ i G1 H1, i = ds.length → Same G G1 → Same G1 H1 → J.stop i H1
  yld : ∀ i G1 H1 x H', i < ds.length → Same G G1 → Same G1 H1 → J.yld i H1 x H' → ∃ d G2, ds[i]? = some d ∧ Ext G1 H1 G2 H' ∧ Dq K G2 x d
def iD (K : PySem.W.Frag) (m : Lx) : TI := fun σ H R => ∃ C G env w ds env' w', Rel K C env w σ G H ∧ m env w = some (ds, env', w') ∧
  ∀ J G' H', Rel K C env' w' σ G' H' → Same G G' → w'.isSome = w.isSome → Ito K G' J ds → R J H'
abbrev DI (X : Cx) (tg iter : Expr) (m : Lx) : Prop := PI X tg iter (iD X.K m)
theorem ito_tup {K : PySem.W.Frag} {G : Hp} {a : Addr} {vs : List V} {ds : List PyData} (h : SqT K G a vs) (hd : DqA K G vs ds) (hz : ds.length ≤ sizeLine) : Ito K G (Itt K a) ds where
  small := hz
  go := fun i G1 H1 hi s1 s2 => by
    rw [← dpA_len hd] at hi
    exact ⟨vs, vs[i], Same.sqT s2 (Same.sqT s1 h), by simp [hi]⟩
  stop := fun i G1 H1 hi s1 s2 => ⟨vs, Same.sqT s2 (Same.sqT s1 h), by rw [dpA_len hd]; omega⟩
  yld := fun i G1 H1 x H' hi s1 s2 y => by
    obtain ⟨rfl, y⟩ := y
    have e := y vs (Same.sqT s2 (Same.sqT s1 h))
    obtain ⟨d, h1, h2⟩ := dpA_get' hd e
    exact ⟨d, G1, h1, Ext.refl s2, dp_mono s1 h2⟩
theorem ito_range {K : PySem.W.Frag} {G : Hp} (lo : Int) (n : Nat) (hz : n ≤ sizeLine) : Ito K G (Itr lo n) ((List.range n).map fun (i : Nat) => PyData.int (lo + i)) where
  small := by rw [List.length_map, List.length_range]; exact hz
  go := fun i G1 H1 hi s1 s2 => by
    rw [List.length_map, List.length_range] at hi
    exact hi
  stop := fun i G1 H1 hi s1 s2 => by
    rw [List.length_map, List.length_range] at hi
    exact Nat.le_of_eq hi.symm
  yld := fun i G1 H1 x H' hi s1 s2 y => by
    obtain ⟨rfl, rfl⟩ := y
    rw [List.length_map, List.length_range] at hi
    refine ⟨.int (lo + i), G1, ?_, Ext.refl s2, .int _⟩
    rw [List.getElem?_map, List.getElem?_range hi]
    rfl
/-- a list or a tuple of data -/
def itemsD : PyData → Option (List PyData)
  | .list xs => some xs
  | .tuple xs => some xs
  | _ => none
def mItems (m : Ex) : Lx := seqE m fun x env w => (itemsD x).map fun xs => (xs, env, w)
theorem di_seq {X : Cx} {tg l : Expr} {m : Ex} (hl : DE X l m) : DI X tg l (mItems m) := by
  refine ⟨fun pins s σ H R I h => ?_⟩
  obtain ⟨C, G, env, w, ds, env', w', Rl, hm, k⟩ := h
  obtain ⟨x, e1, w1, h1, h2⟩ := seqE_inv hm
  cases e : itemsD x with
  | none => rw [e] at h2; cases h2
  | some ys =>
    rw [e] at h2
    cases h2
    refine thn (hl.run pins s σ H (fun v H1 => ∃ G1, Rel X.K C env' w' σ G1 H1 ∧ Dq X.K G1 v x ∧ ∀ J, Ito X.K G1 J ds → R J H1) I ⟨C, G, env, w, _, _, _, Rl, h1, fun v G1 H1 R1 s1 i1 a1 => ⟨G1, R1, a1, fun J it => k J G1 H1 R1 s1 i1 it⟩⟩) fun v s1 ⟨y, H1, I1, r1, G1, R1, dp, kk⟩ => ?_
    cases dp with
    | @lst a vs es hs ha =>
      cases e
      cases r1
      have hq : SqL X.K H1 a vs := SqL.of (R1.sub _ _ hs)
      obtain ⟨its, rv, p, hz⟩ := I1.list hq
      refine wpAny_pyIter_list p.isList ?_
      refine ⟨s1.heap.objs.size, [s1.heap.objs.size], _, _, H1, rfl, I1.kept (t' := s1.toks) fun b o e => Heap.get?_push_of_some _ e, turn_list a _, ⟨_, Heap.get?_push_size _ rfl, rfl, rfl⟩, fun b hb => ?_, kk _ ⟨by rw [← dpA_len ha]; exact hz, ?_, ?_, ?_⟩⟩
      · have e : b = s1.heap.objs.size := by simpa using hb
        subst e
        exact I1.fpOk (Nat.le_refl _) (I1.hok.fresh (Nat.le_refl _))
      · exact fun i G2 H2 hi s2 s3 => by
          rw [← dpA_len ha] at hi
          exact ⟨vs, vs[i], SqL.of (s3 _ _ (s2 _ _ hs)), by simp [hi]⟩
      · exact fun i G2 H2 hi s2 s3 => ⟨vs, SqL.of (s3 _ _ (s2 _ _ hs)), by rw [dpA_len ha]; omega⟩
      · intro i G2 H2 x H' hi s2 s3 y
        obtain ⟨rfl, y⟩ := y
        obtain ⟨d, h1, h2⟩ := dpA_get' ha (y vs (SqL.of (s3 _ _ (s2 _ _ hs))))
        exact ⟨d, G2, h1, Ext.refl s3, dp_mono s2 h2⟩
    | @tup a vs es hs ha =>
      cases e
      cases r1
      have hq := Same.sqT R1.sub hs
      obtain ⟨its, rv, p, hz⟩ := I1.tuple hq
      refine wpAny_pyIter_tuple (show s1.heap.IsTuple a its.toArray from p) ?_
      refine ⟨s1.heap.objs.size, [s1.heap.objs.size], _, _, H1, rfl, I1.kept (t' := s1.toks) fun b o e => Heap.get?_push_of_some _ e, turn_tuple a _, ⟨_, Heap.get?_push_size _ rfl, rfl, rfl⟩, fun b hb => ?_, kk _ (ito_tup hs ha (by rw [← dpA_len ha]; exact hz))⟩
      have e : b = s1.heap.objs.size := by simpa using hb
      subst e
      exact I1.fpOk (Nat.le_refl _) (I1.hok.fresh (Nat.le_refl _))
    | _ => cases e
/-- range(n), range(a, b) -/
def rng1D (ds : List PyData) : Option (List PyData) := match ds with
  | [.int j] => if -1000000 ≤ j ∧ j ≤ 1000000 then some ((List.range j.toNat).map fun (i : Nat) => PyData.int (0 + i)) else none
  | _ => none
def mRng (f : List PyData → Option (List PyData)) (ms : Ax) : Lx := argsD ms fun ds env w => (f ds).map fun xs => (xs, env, w)
theorem dpA_one {K : PySem.W.Frag} {G : Hp} {vs : List V} {j : Int} (h : DqA K G vs [.int j]) : vs = [.int j] := by
  cases h with
  | cons a b => cases b; cases a; rfl
theorem di_range1 {X : Cx} {tg e : Expr} {ms : Ax} (h : PI X tg e (iRng1 (tA X.K ms))) : DI X tg e (mRng rng1D ms) := ⟨fun pins s σ H R I q => h.run pins s σ H R I (by
  obtain ⟨C, G, env, w, ds, env', w', Rl, hm, k⟩ := q
  obtain ⟨rs, es, e1, w1, h1, h2, hm⟩ := argsD_inv hm
  cases e : rng1D es with
  | none => rw [e] at hm; cases hm
  | some ys =>
    rw [e] at hm
    cases hm
    unfold rng1D at e
    split at e
    · rename_i j
      split at e
      · rename_i hj
        cases e
        refine ⟨C, G, env, w, _, _, _, Rl, h1, fun vs G1 H1 R1 s1 i1 a1 => ⟨j, dpA_one (dsOf_ok a1 h2), by omega, by omega, ?_⟩⟩
        exact k _ G1 H1 R1 s1 i1 (ito_range 0 j.toNat (by rw [sizeLine_eq]; omega))
      · cases e
    · cases e)⟩
/-- targets -/
abbrev Gx := PyData → Ev → Option Ev
abbrev Gsx := List PyData → Ev → Option Ev
def gD (K : PySem.W.Frag) (vs : List Nat) (m : Gx) : TG := fun v σ H Q => ∃ C G env w d env', Rel K C env w σ G H ∧ Dq K G v d ∧ m d env = some env' ∧ ∀ σ', Rel K C env' w σ' G H → wipe σ' vs = wipe σ vs → Q σ' H
def gsD (K : PySem.W.Frag) (vs : List Nat) (m : Gsx) : TGs := fun us σ H Q => ∃ C G env w ds env', Rel K C env w σ G H ∧ DqA K G us ds ∧ m ds env = some env' ∧ ∀ σ', Rel K C env' w σ' G H → wipe σ' vs = wipe σ vs → Q σ' H
abbrev DG (X : Cx) (vs : List Nat) (e : Expr) (m : Gx) : Prop := PG X e (gD X.K vs m)
abbrev DGs (X : Cx) (vs : List Nat) (es : List Expr) (m : Gsx) : Prop := PGs X es (gsD X.K vs m)
theorem PG.weak {X : Cx} {e : Expr} {t t' : TG} (h : PG X e t) (k : ∀ v σ H Q, t' v σ H Q → t v σ H Q) : PG X e t' := ⟨fun pins s σ H v u Q I r q => h.run pins s σ H v u Q I r (k v σ H Q q)⟩
theorem PGs.weak {X : Cx} {e : List Expr} {t t' : TGs} (h : PGs X e t) (k : ∀ v σ H Q, t' v σ H Q → t v σ H Q) : PGs X e t' := ⟨fun pins s σ H v u Q I r q => h.run pins s σ H v u Q I r (k v σ H Q q)⟩
def mgName (i : Nat) : Gx := fun d env => some (env.set i (some (.d d)))
theorem wipe_set_same {σ : L2.St} {x : Option V} {i : Nat} : ∀ {vs : List Nat}, i ∈ vs → wipe (σ.set i x) vs = wipe σ vs
  | [], h => by simp at h
  | v :: vs, h => by
    have cm : ∀ us : List Nat, i ∉ us → wipe (σ.set i x) us = (wipe σ us).set i x := by
      intro us
      induction us with
      | nil => intro _; rfl
      | cons u us ih =>
        intro hn
        simp only [List.mem_cons, not_or] at hn
        show (wipe (σ.set i x) us).set u none = ((wipe σ us).set u none).set i x
        rw [ih hn.2, List.set_comm _ _ hn.1]
    show (wipe (σ.set i x) vs).set v none = (wipe σ vs).set v none
    by_cases hi : i ∈ vs
    · rw [wipe_set_same hi]
    · have e : i = v := by
        rcases List.mem_cons.mp h with e | e
        · exact e
        · exact absurd e hi
      rw [cm vs hi, e, List.set_set]
theorem dg_name {X : Cx} {vs : List Nat} {e : Expr} {i : Nat} (h : PG X e (gName i)) (hi : i ∈ vs := by decide) : DG X vs e (mgName i) := PG.weak h fun v σ H Q ⟨C, G, env, w, d, env', R, hd, hm, k⟩ => by
  cases hm
  exact k _ (R.set (r := .d d) hd i) (wipe_set_same hi)
def mgNil : Gsx := fun ds env => match ds with
  | [] => some env
  | _ => none
def mgCons (a : Gx) (b : Gsx) : Gsx := fun ds env => match ds with
  | d :: r => (match a d env with
    | some e1 => b r e1
    | none => none)
  | [] => none
theorem dgs_nil {X : Cx} {vs : List Nat} : DGs X vs [] mgNil := PGs.weak pgs_nil fun v σ H Q ⟨C, G, env, w, d, env', R, hd, hm, k⟩ => by
  cases hd with
  | nil => cases hm; exact ⟨rfl, k σ R rfl⟩
  | cons _ _ => cases hm
theorem dgs_cons {X : Cx} {vs : List Nat} {e : Expr} {es : List Expr} {a : Gx} {b : Gsx} (h1 : DG X vs e a) (h2 : DGs X vs es b) (hs : (assignEach (e :: es) X.env).map (·.2) = assign e X.env :: (assignEach es X.env).map (·.2) := by rfl) : DGs X vs (e :: es) (mgCons a b) :=
  PGs.weak (pgs_cons h1 h2 hs) fun v σ H Q ⟨C, G, env, w, d, env', R, hd, hm, k⟩ => by
  cases hd with
  | nil => cases hm
  | cons d1 dr =>
    simp only [mgCons] at hm
    split at hm
    · rename_i e1 h1
      exact ⟨_, _, rfl, C, G, env, w, _, e1, R, d1, h1, fun σ1 R1 q1 => ⟨C, G, e1, w, _, env', R1, dr, hm, fun σ2 R2 q2 => k σ2 R2 (q2.trans q1)⟩⟩
    · cases hm
def mgTup (n : Nat) (b : Gsx) : Gx := fun d env => match d with
  | .tuple ds => if ds.length = n then b ds env else none
  | _ => none
theorem dg_tup {X : Cx} {vs : List Nat} {e : Expr} {n : Nat} {b : Gsx} (h : PG X e (gTup X.K n (gsD X.K vs b))) : DG X vs e (mgTup n b) := PG.weak h fun v σ H Q ⟨C, G, env, w, d, env', R, hd, hm, k⟩ => by
  cases hd with
  | tup hs ha =>
    simp only [mgTup] at hm
    split at hm
    · rename_i hl
      exact ⟨_, _, rfl, Same.sqT R.sub hs, by rw [dpA_len ha]; exact hl, C, G, env, w, _, env', R, ha, hm, k⟩
    · cases hm
  | _ => cases hm
/-- target = e -/
def mAsg (m : Ex) (g : Gx) : Sx := seqE m fun x env w => match g x env with
  | some e1 => some (.nx, e1, w)
  | none => none
theorem ds_asg {X : Cx} {vs : List Nat} {s : Stmt} {m : Ex} {g : Gx} (h : PS X s (tAsg (tD X.K m) (gD X.K vs g))) : DSt X s (mAsg m g) := PS.weak h fun D σ H ⟨C, G, env, w, fl, env', w', R, hm, k⟩ => by
  obtain ⟨x, e1, w1, h1, h2⟩ := seqE_inv hm
  split at h2
  · rename_i e2 h3
    cases h2
    exact ⟨C, G, env, w, _, _, _, R, h1, fun v G1 H1 R1 s1 i1 a1 => ⟨C, G1, e1, _, x, _, R1, a1, h3, fun σ2 R2 _ => k σ2 G1 H1 R2 s1 i1⟩⟩
  · cases h2

def mLoop (g : Gx) (b : Sx) : List PyData → Sx
  | [] => mNx
  | d :: ds => fun env w => match g d env with
    | some e1 => (match b e1 w with
      | some (.nx, e2, w2) => mLoop g b ds e2 w2
      | some (.ct, e2, w2) => mLoop g b ds e2 w2
      | some (.bk, e2, w2) => some (.nx, e2, w2)
      | some (.rt r, e2, w2) => some (.rt r, e2, w2)
      | none => none)
    | none => none
def mFor (m : Lx) (g : Gx) (b : Sx) : Sx := fun env w => match m env w with
  | some (ds, e1, w1) => mLoop g b ds e1 w1
  | none => none
theorem ds_for {X : Cx} {vs : List Nat} {s : Stmt} {m : Lx} {g : Gx} {b : Sx} (h : PS X s (tFor (iD X.K m) (gD X.K vs g) (tS X.K b))) : DSt X s (mFor m g b) := PS.weak h fun D σ H ⟨C, G, env, w, fl, env', w', R, hm, k⟩ => by
  unfold mFor at hm
  split at hm
  · rename_i ds e1 w1 h1
    refine ⟨C, G, env, w, _, _, _, R, h1, fun J G1 H1 R1 s1 i1 it => ?_⟩
    refine ⟨fun i m σ2 H2 => m = ds.length - i ∧ i ≤ ds.length ∧ ∃ G2 env2 w2, Rel X.K C env2 w2 σ2 G2 H2 ∧ Same G1 G2 ∧ w2.isSome = w1.isSome ∧ mLoop g b (ds.drop i) env2 w2 = some (fl, env', w'), ⟨ds.length, by simp, Nat.zero_le _, G1, e1, w1, R1, Same.refl G1, rfl, by simpa using hm⟩, ?_⟩
    rintro i m σ2 H2 ⟨rfl, hi, G2, env2, w2, R2, s2, i2, h2⟩
    by_cases hlt : i < ds.length
    · refine .inr ⟨it.go i G2 H2 hlt s2 R2.sub, fun σ3 H3 => ∃ G2 env2 w2, Rel X.K C env2 w2 σ3 G2 H3 ∧ Same G1 G2 ∧ w2.isSome = w1.isSome ∧ mLoop g b (ds.drop (i + 1)) env2 w2 = some (fl, env', w'),
        fun σ' H' q => ⟨ds.length - (i + 1), by omega, rfl, hlt, q⟩, fun x H' y => ?_⟩
      obtain ⟨d, G3, hd, ex, dp⟩ := it.yld i G2 H2 x H' hlt s2 R2.sub y
      have hdrop : ds.drop i = d :: ds.drop (i + 1) := by
        rw [List.drop_eq_getElem_cons hlt]
        rw [List.getElem?_eq_getElem hlt] at hd
        cases hd
        rfl
      rw [hdrop] at h2
      simp only [mLoop] at h2
      split at h2
      · rename_i e3 h3
        refine ⟨C, G3, env2, w2, d, e3, R2.ext ex, dp, h3, fun σ4 R4 _ => ?_⟩
        split at h2
        · rename_i e5 w5 h5
          exact ⟨C, G3, e3, w2, _, _, _, R4, h5, fun σ6 G6 H6 R6 s6 i6 => ⟨G6, e5, w5, R6, s2.trans (ex.gg.trans s6), i6.trans i2, h2⟩⟩
        · rename_i e5 w5 h5
          exact ⟨C, G3, e3, w2, _, _, _, R4, h5, fun σ6 G6 H6 R6 s6 i6 => ⟨G6, e5, w5, R6, s2.trans (ex.gg.trans s6), i6.trans i2, h2⟩⟩
        · rename_i e5 w5 h5
          cases h2
          exact ⟨C, G3, e3, w2, _, _, _, R4, h5, fun σ6 G6 H6 R6 s6 i6 => k σ6 G6 H6 R6 (s1.trans (s2.trans (ex.gg.trans s6))) (i6.trans (i2.trans i1))⟩
        · rename_i r5 e5 w5 h5
          cases h2
          exact ⟨C, G3, e3, w2, _, _, _, R4, h5, fun σ6 G6 H6 R6 s6 i6 v a => k σ6 G6 H6 R6 (s1.trans (s2.trans (ex.gg.trans s6))) (i6.trans (i2.trans i1)) v a⟩
        · cases h2
      · cases h2
    · have e : i = ds.length := by omega
      refine .inl ⟨it.stop i G2 H2 e s2 R2.sub, ?_⟩
      rw [e, List.drop_length] at h2
      cases h2
      exact k σ2 G2 H2 R2 (s1.trans s2) (i2.trans i1)
  · cases hm

def mFn (n N : Nat) (body : Sx) : List SD → W → Option (SD × W) := fun as w => if as.length = n then (match body (as.map some ++ List.replicate (N - as.length) none) w with
    | some (.rt r, _, w') => some (r, w')
    | some (.nx, _, w') => some (.d .none, w')
    | _ => none) else none
theorem args_get {K : PySem.W.Frag} {ad : Ad} {w : W} {G : Hp} : ∀ {rs : List SD} {vs : List V} {i : Nat} {r : SD}, ArgsOk K ad w G rs vs → rs[i]? = some r → ∃ v, vs[i]? = some v ∧ ArgOk K ad w G r v
  | _, _, _, _, .nil, e => by simp at e
  | _, _, 0, _, .cons a _, e => by simp at e; subst e; exact ⟨_, rfl, a⟩
  | _, _, i + 1, _, .cons _ b, e => by
    obtain ⟨v, h1, h2⟩ := args_get (i := i) b (by simpa using e)
    exact ⟨v, by simpa using h1, h2⟩
theorem start_get {as : List SD} {k i : Nat} {sd : SD} (h : (as.map some ++ List.replicate k (none : Option SD))[i]? = some (some sd)) : as[i]? = some sd := by
  by_cases hi : i < as.length
  · rw [List.getElem?_append_left (by simpa using hi), List.getElem?_map] at h
    cases e : as[i]? with
    | none => rw [e] at h; cases h
    | some a => rw [e] at h; cases h; rfl
  · rw [List.getElem?_append_right (by simpa using hi), List.getElem?_replicate] at h
    split at h <;> cases h
theorem rel_start {K : PySem.W.Frag} {ad : Ad} {w : W} {G H : Hp} {as : List SD} {vs : List V} {N : List Str} (s : Same G H) (st : ∀ s, w = some s → StAt K ad s G H) (tb : CtOk ad.tabs G H) (a : ArgsOk K ad w G as vs) (hN : as.length ≤ N.length) :
    Rel K ⟨ad, H, G⟩ (as.map some ++ List.replicate (N.length - as.length) none) w (L2.start N vs) G H where
  sub := s
  len := by
    unfold L2.start
    rw [List.length_append, List.length_map, List.length_replicate, List.length_append, List.length_map, List.length_replicate, a.length]
  slot := fun i sd h => by
    obtain ⟨v, h1, h2⟩ := args_get a (start_get h)
    have hi : i < vs.length := (List.getElem?_eq_some_iff.mp h1).1
    refine ⟨v, ?_, ?_⟩
    · unfold L2.start
      rw [List.getElem?_append_left (by simpa using hi), List.getElem?_map, h1]
      rfl
    · cases sd with
      | d x => exact h2
      | own _ => exact h2.elim
      | st => exact h2
      | l x => exact h2
      | ex _ _ _ => exact h2.elim
      | od _ => exact h2.elim
      | scr _ => exact h2.elim
      | dic _ => exact h2.elim
  sep := fun i j xs ys b h1 _ _ _ => by
    obtain ⟨v, _, h2⟩ := args_get a (start_get h1)
    exact h2.elim
  st := st
  st0 := fun h => by
    cases e : w with
    | none => rw [e] at h; cases h
    | some s =>
      have q := st s e
      refine ⟨?_, ?_, ?_⟩
      · show H ad.sa ≠ none
        rw [q.sa]; exact Option.some_ne_none _
      · show H ad.la ≠ none
        rw [q.la]; exact Option.some_ne_none _
      · show H ad.ca ≠ none
        rw [q.ca]; exact Option.some_ne_none _
  fr := fun b o h _ => h
  gr := fun b o h => rfl
  tb := tb
  tb0 := fun p hp => by
    obtain ⟨ps, e, _⟩ := tb.tabs p hp
    show H p.1 ≠ none
    rw [e]; exact Option.some_ne_none _
theorem spM_start {K : PySem.W.Frag} {scope : Scope} {N ps : List Str} {m : Sx} (S : FnScope N ps scope) {vs : List V} {H : Hp} {Q : VK} {E : XK} (h : spM K (mFn ps.length N.length m) vs H Q E) : tS K m { nx := fun _ H' => Q .non H', rt := Q } (L2.start N vs) H := by
  obtain ⟨G, ad, w, as, r, w', s, st, tb, a, hm, k⟩ := h
  have hpl : ps.length ≤ N.length := by have := congrArg List.length S.pre; rw [List.length_take] at this; omega
  unfold mFn at hm
  split at hm
  · rename_i hl
    have R0 := rel_start (K := K) (N := N) s st tb a (by omega)
    split at hm
    · rename_i r1 e1 w1 h1
      cases hm
      exact ⟨_, G, _, w, _, _, _, R0, h1, fun σ' G' H' R' s' i' v av => k v G' H' s' R'.sub (fun b o e nm => R'.fr b o e fun z => nm (z.w i'.symm)) (fun b o e => R'.gr b o e) i' R'.st R'.tb av⟩
    · rename_i e1 w1 h1
      cases hm
      exact ⟨_, G, _, w, _, _, _, R0, h1, fun σ' G' H' R' s' i' => k _ G' H' s' R'.sub (fun b o e nm => R'.fr b o e fun z => nm (z.w i'.symm)) (fun b o e => R'.gr b o e) i' R'.st R'.tb (show Dq K _ _ _ from .non)⟩
    · cases hm
  · cases hm
theorem fn_ok {P : Program} {w : World} {K : PySem.W.Frag} {mg : Str → Option Value} {base : Heap} {x qual : Str} {params : Arguments} {body : List Stmt} {scope : Scope} {f : Addr} {fd : FuncData} {N ps : List Str} {k n NN : Nat} {m : Sx}
    (hn : ps.length = n) (hNN : N.length = NN) (F : FunD K x qual params body scope [] [] f fd) (S : FnScope N ps scope)
    (hbody : ∀ (cdv : Value) (A : Around) (outer : List PySem.Env) (s : Shared) (H : Hp) (E : XK), Room k (A.deeper (envOfC qual scope s.heap.objs.size f cdv)) → DSs (cxOf CX0 P w K mg base N qual scope f cdv A outer s H E).nox body m) :
    FnOk P w K mg base CX0 (k + 1) f fd ps (spM K (mFn n NN m)) := by
  subst hn hNN
  refine F.ok S (fun vs H Q E h => ?_) (fun cdv A outer s H vs Q E hr h => ⟨_, PSs.nox (hbody cdv A outer s H E hr), spM_start S h⟩)
  obtain ⟨G, ad, w, as, r, w', _, _, _, a, hm, _⟩ := h
  unfold mFn at hm
  split at hm
  · rename_i hl
    rw [← a.length]; exact hl
  · cases hm
end Dn

set_option maxHeartbeats 4000000
namespace Dn
open PySem PySem.Spec PyProof.Rows L2

mutual
theorem dq_plain {K : PySem.W.Frag} {G : Hp} : ∀ {v : V} {d : PyData}, Dq K G v d → d.plain = true
  | _, _, .non => by simp [PyData.plain]
  | _, _, .bl b => by simp [PyData.plain]
  | _, _, .int i => by simp [PyData.plain]
  | _, _, .str x => by simp [PyData.plain]
  | _, _, .lst h a => by simpa [PyData.plain] using dqA_plain a
  | _, _, .tup h a => by simpa [PyData.plain] using dqA_plain a
theorem dqA_plain {K : PySem.W.Frag} {G : Hp} : ∀ {vs : List V} {ds : List PyData}, DqA K G vs ds → PyData.plainAll ds = true
  | _, _, .nil => by simp [PyData.plainAll]
  | _, _, .cons a b => by simp [PyData.plainAll, dq_plain a, dqA_plain b]
end
mutual
/-- not deeper than n -/
def dOk : Nat → PyData → Bool
  | _, .none => true
  | _, .bool _ => true
  | _, .int _ => true
  | _, .str _ => true
  | 0, .list _ => false
  | 0, .tuple _ => false
  | n + 1, .list xs => dOkAll n xs
  | n + 1, .tuple xs => dOkAll n xs
  | _, .dict _ => false
def dOkAll : Nat → List PyData → Bool
  | _, [] => true
  | n, x :: xs => dOk n x && dOkAll n xs
end
mutual
theorem dOk_depth : ∀ (n : Nat) (d : PyData), dOk n d = true → d.depth ≤ n
  | _, .none, _ => by simp [PyData.depth]
  | _, .bool _, _ => by simp [PyData.depth]
  | _, .int _, _ => by simp [PyData.depth]
  | _, .str _, _ => by simp [PyData.depth]
  | 0, .list _, h => by simp [dOk] at h
  | 0, .tuple _, h => by simp [dOk] at h
  | n + 1, .list xs, h => by
    simp only [dOk] at h
    simp only [PyData.depth]
    have := dOkAll_depth n xs h
    omega
  | n + 1, .tuple xs, h => by
    simp only [dOk] at h
    simp only [PyData.depth]
    have := dOkAll_depth n xs h
    omega
  | n, .dict _, h => by cases n <;> simp [dOk] at h
theorem dOkAll_depth : ∀ (n : Nat) (ds : List PyData), dOkAll n ds = true → PyData.depthAll ds ≤ n
  | _, [], _ => by simp [PyData.depthAll]
  | n, x :: xs, h => by
    simp only [dOkAll, Bool.and_eq_true] at h
    have h1 := dOk_depth n x h.1
    have h2 := dOkAll_depth n xs h.2
    simp only [PyData.depthAll]
    omega
end

theorem ext_tup {K : PySem.W.Frag} {G H : Hp} {p : Addr} {vs : List V} {ds : List PyData} (sg : Same G H) (hp : H p = none) (a : DqA K G vs ds) : Ext G H (upd G p (.tup vs)) (upd H p (.tup vs)) ∧ Dq K (upd G p (.tup vs)) (.ref p) (.tuple ds) :=
  ⟨Ext.new sg hp, .tup (SqT.of upd_same) (dpA_mono (Ext.new (o := .tup vs) sg hp).gg a)⟩
theorem ext_lst {K : PySem.W.Frag} {G H : Hp} {p : Addr} {vs : List V} {ds : List PyData} (sg : Same G H) (hp : H p = none) (a : DqA K G vs ds) : Ext G H (upd G p (.lst vs)) (upd H p (.lst vs)) ∧ Dq K (upd G p (.lst vs)) (.ref p) (.list ds) :=
  ⟨Ext.new sg hp, .lst upd_same (dpA_mono (Ext.new (o := .lst vs) sg hp).gg a)⟩
section
variable {X : Cx}
theorem OpD.or {f : Value → Value → Sem Value} {g g' : PyData → PyData → Option PyData} (h : OpD X f g) (h' : OpD X f g') : OpD X f (fun x y => (g x y).or (g' x y)) := by
  intro pins s σ G H x y v u dx dy dz Q I rx ry sg hx hy hg k
  dsimp only at hg
  cases e : g dx dy with
  | some z =>
    rw [e] at hg
    exact h pins s σ G H x y v u dx dy dz Q I rx ry sg hx hy (e.trans hg) k
  | none =>
    rw [e] at hg
    exact h' pins s σ G H x y v u dx dy dz Q I rx ry sg hx hy hg k
/-- from a rule by values: the answer is no new object -/
theorem opD_of {f : Value → Value → Sem Value} {g : PyData → PyData → Option PyData} {r : R2} (h : OpR X f r)
    (k : ∀ (G H : Hp) (x y : V) (dx dy dz : PyData) (Q : VK), Same G H → Dq X.K G x dx → Dq X.K G y dy → g dx dy = some dz → (∀ z G' H', Ext G H G' H' → Dq X.K G' z dz → Q z H') → r x y H Q) : OpD X f g :=
  fun pins s σ G H x y v u dx dy dz Q I rx ry sg hx hy hg q => h pins s σ H x y v u Q I rx ry (k G H x y dx dy dz Q sg hx hy hg q)
def int2 (f : Int → Int → Option PyData) : PyData → PyData → Option PyData
  | .int i, .int j => f i j
  | _, _ => none
theorem int2_inv {f : Int → Int → Option PyData} {x y z : PyData} (h : int2 f x y = some z) : ∃ i j, x = .int i ∧ y = .int j ∧ f i j = some z := by
  unfold int2 at h
  split at h
  · exact ⟨_, _, rfl, rfl, h⟩
  · cases h
theorem opD_int {f : Value → Value → Sem Value} {C : Int → Int → Prop} {g : Int → Int → PyData} {gv : Int → Int → V} [∀ i j, Decidable (C i j)] (h : OpR X f (rI C gv)) (hg : ∀ G i j, Dq X.K G (gv i j) (g i j)) :
    OpD X f (int2 fun i j => if C i j then some (g i j) else none) := opD_of h fun G H x y dx dy dz Q sg hx hy hz k => by
  obtain ⟨i, j, rfl, rfl, e⟩ := int2_inv hz
  split at e
  · rename_i hc
    cases e
    cases hx
    cases hy
    exact ⟨i, j, rfl, rfl, hc, k _ G H (Ext.refl sg) (hg G i j)⟩
  · cases e
theorem opD_int0 {f : Value → Value → Sem Value} {g : Int → Int → PyData} {gv : Int → Int → V} (h : OpR X f (rI0 gv)) (hg : ∀ G i j, Dq X.K G (gv i j) (g i j)) :
    OpD X f (int2 fun i j => some (g i j)) := opD_of h fun G H x y dx dy dz Q sg hx hy hz k => by
  obtain ⟨i, j, rfl, rfl, e⟩ := int2_inv hz
  cases e
  cases hx
  cases hy
  exact ⟨i, j, rfl, rfl, k _ G H (Ext.refl sg) (hg G i j)⟩
instance : ∀ i j, Decidable (CMul i j) := fun i j => by unfold CMul; infer_instance
instance : ∀ i j, Decidable (CDiv i j) := fun i j => by unfold CDiv; infer_instance
instance : ∀ i j, Decidable (CPow i j) := fun i j => by unfold CPow; infer_instance
def addI : PyData → PyData → Option PyData := int2 fun i j => some (.int (i + j))
def subI : PyData → PyData → Option PyData := int2 fun i j => some (.int (i - j))
def mulI : PyData → PyData → Option PyData := int2 fun i j => if CMul i j then some (.int (i * j)) else none
def addS : PyData → PyData → Option PyData
  | .str x, .str y => if x.length + y.length ≤ sizeLine then some (.str (x ++ y)) else none
  | _, _ => none
def addT : PyData → PyData → Option PyData
  | .tuple xs, .tuple ys => if xs.length + ys.length ≤ sizeLine then some (.tuple (xs ++ ys)) else none
  | _, _ => none
def addL : PyData → PyData → Option PyData
  | .list xs, .list ys => if xs.length + ys.length ≤ sizeLine then some (.list (xs ++ ys)) else none
  | _, _ => none
def addD (x y : PyData) : Option PyData := match x with
  | .int _ => addI x y
  | .str _ => addS x y
  | .tuple _ => addT x y
  | .list _ => addL x y
  | _ => none
theorem od_addI : OpD X (binaryOp .Add) addI := opD_int0 op_add fun _ _ _ => .int _
theorem od_sub : OpD X (binaryOp .Sub) subI := opD_int0 op_sub fun _ _ _ => .int _
theorem od_mulI : OpD X (binaryOp .Mult) mulI := opD_int op_mul fun _ _ _ => .int _
theorem od_addS : OpD X (binaryOp .Add) addS := opD_of op_add_str fun G H x y dx dy dz Q sg hx hy hz k => by
  unfold addS at hz
  split at hz
  · split at hz
    · rename_i hl
      cases hz
      cases hx
      cases hy
      exact ⟨_, _, rfl, rfl, hl, k _ G H (Ext.refl sg) (.str _)⟩
    · cases hz
  · cases hz
theorem od_addT : OpD X (binaryOp .Add) addT := opD_of op_catA fun G H x y dx dy dz Q sg hx hy hz k => by
  unfold addT at hz
  split at hz
  · split at hz
    · rename_i hl
      cases hz
      cases hx with
      | tup h1 a1 =>
        cases hy with
        | tup h2 a2 =>
          refine ⟨_, _, _, _, rfl, rfl, Same.sqT sg h1, Same.sqT sg h2, by rw [dpA_len a1, dpA_len a2]; exact hl, fun e => ?_, fun _ e => ?_, fun _ _ p hp => ?_⟩
          · subst e
            cases a1
            exact k _ G H (Ext.refl sg) (.tup h2 a2)
          · subst e
            cases a2
            rw [List.append_nil] at k
            exact k _ G H (Ext.refl sg) (.tup h1 a1)
          · obtain ⟨ex, dq⟩ := ext_tup sg hp (dpA_app a1 a2)
            exact k _ _ _ ex dq
    · cases hz
  · cases hz
theorem od_addL : OpD X (binaryOp .Add) addL := opD_of op_cat fun G H x y dx dy dz Q sg hx hy hz k => by
  unfold addL at hz
  split at hz
  · split at hz
    · rename_i hl
      cases hz
      cases hx with
      | lst h1 a1 =>
        cases hy with
        | lst h2 a2 =>
          refine ⟨_, _, _, _, rfl, rfl, sg _ _ h1, sg _ _ h2, by rw [dpA_len a1, dpA_len a2]; exact hl, fun p hp => ?_⟩
          obtain ⟨ex, dq⟩ := ext_lst sg hp (dpA_app a1 a2)
          exact k _ _ _ ex dq
    · cases hz
  · cases hz
theorem od_add : OpD X (binaryOp .Add) addD := fun pins s σ G H x y v u dx dy dz Q I rx ry sg hx hy hg k => by
  unfold addD at hg
  split at hg
  · exact od_addI pins s σ G H x y v u _ dy dz Q I rx ry sg hx hy hg k
  · exact od_addS pins s σ G H x y v u _ dy dz Q I rx ry sg hx hy hg k
  · exact od_addT pins s σ G H x y v u _ dy dz Q I rx ry sg hx hy hg k
  · exact od_addL pins s σ G H x y v u _ dy dz Q I rx ry sg hx hy hg k
  · cases hg
theorem dqA_rep {K : PySem.W.Frag} {G : Hp} {vs : List V} {ds : List PyData} (h : DqA K G vs ds) : ∀ n : Nat, DqA K G (List.replicate n vs).flatten (List.replicate n ds).flatten
  | 0 => .nil
  | n + 1 => by
    rw [List.replicate_succ, List.replicate_succ, List.flatten_cons, List.flatten_cons]
    exact dpA_app h (dqA_rep h n)
def mulL : PyData → PyData → Option PyData
  | .list xs, .int k => if -(2 ^ 63) ≤ k ∧ k < 2 ^ 63 ∧ xs.length * k.toNat ≤ sizeLine then some (.list (List.replicate k.toNat xs).flatten) else none
  | _, _ => none
theorem od_mulL : OpD X (binaryOp .Mult) mulL := opD_of op_rep fun G H x y dx dy dz Q sg hx hy hz k => by
  unfold mulL at hz
  split at hz
  · split at hz
    · rename_i hl
      cases hz
      cases hx with
      | lst h1 a1 =>
        cases hy
        refine ⟨_, _, _, rfl, rfl, sg _ _ h1, hl.1, hl.2.1, by rw [dpA_len a1]; exact hl.2.2, fun p hp => ?_⟩
        obtain ⟨ex, dq⟩ := ext_lst sg hp (dqA_rep a1 _)
        exact k _ _ _ ex dq
    · cases hz
  · cases hz
def mulD (x y : PyData) : Option PyData := match x with
  | .int _ => mulI x y
  | .list _ => mulL x y
  | _ => none
theorem od_mul : OpD X (binaryOp .Mult) mulD := fun pins s σ G H x y v u dx dy dz Q I rx ry sg hx hy hg k => by
  unfold mulD at hg
  split at hg
  · exact od_mulI pins s σ G H x y v u _ dy dz Q I rx ry sg hx hy hg k
  · exact od_mulL pins s σ G H x y v u _ dy dz Q I rx ry sg hx hy hg k
  · cases hg

def eqD (x y : PyData) : Option PyData := if dOk 60 x || dOk 60 y then some (.bool (PyData.eqv x y)) else none
def neD (x y : PyData) : Option PyData := if dOk 60 x || dOk 60 y then some (.bool (!PyData.eqv x y)) else none
theorem min60 {x y : PyData} {n : Nat} (h : (dOk 60 x || dOk 60 y) = true) (hu : n + 64 < cLine) : n + min x.depth y.depth < cLine := by
  rw [Bool.or_eq_true] at h
  rcases h with h | h
  · have := dOk_depth 60 x h
    have := Nat.min_le_left x.depth y.depth
    omega
  · have := dOk_depth 60 y h
    have := Nat.min_le_right x.depth y.depth
    omega
theorem od_eq (hu : X.A.units + 64 < cLine) : OpD X (compareOp .Eq) eqD := fun pins s σ G H x y v u dx dy dz Q I rx ry sg hx hy hg k => by
  unfold eqD at hg
  split at hg
  · rename_i hd
    cases hg
    obtain ⟨as, r1⟩ := Dp.reads I dx x v (dp_mono sg hx).dp rx
    obtain ⟨bs, r2⟩ := Dp.reads I dy y u (dp_mono sg hy).dp ry
    exact PySem.SeqAt.eq_plain r1 r2 (dq_plain hx) (dq_plain hy) (min60 hd hu) ⟨.bl _, H, I, rfl, k _ G H (Ext.refl sg) (.bl _)⟩
  · cases hg
theorem od_ne (hu : X.A.units + 64 < cLine) : OpD X (compareOp .NotEq) neD := fun pins s σ G H x y v u dx dy dz Q I rx ry sg hx hy hg k => by
  unfold neD at hg
  split at hg
  · rename_i hd
    cases hg
    obtain ⟨as, r1⟩ := Dp.reads I dx x v (dp_mono sg hx).dp rx
    obtain ⟨bs, r2⟩ := Dp.reads I dy y u (dp_mono sg hy).dp ry
    exact PySem.SeqAt.ne_plain r1 r2 (dq_plain hx) (dq_plain hy) (min60 hd hu) ⟨.bl _, H, I, rfl, k _ G H (Ext.refl sg) (.bl _)⟩
  · cases hg
def ltI : PyData → PyData → Option PyData := int2 fun i j => some (.bool (decide (i < j)))
def leI : PyData → PyData → Option PyData := int2 fun i j => some (.bool (decide (i ≤ j)))
def gtI : PyData → PyData → Option PyData := int2 fun i j => some (.bool (decide (j < i)))
theorem od_ltI : OpD X (compareOp .Lt) ltI := opD_int0 op_lt fun _ _ _ => .bl _
theorem od_leI : OpD X (compareOp .LtE) leI := opD_int0 op_le fun _ _ _ => .bl _
theorem od_gtI : OpD X (compareOp .Gt) gtI := opD_int0 op_gt fun _ _ _ => .bl _
/-- < of data -/
def ltT (x y : PyData) : Option PyData := if PySem.W.alike x y && (dOk 60 x || dOk 60 y) then some (.bool (PySem.W.dataLt x y)) else none
def ltD (x y : PyData) : Option PyData := match x with
  | .int _ => ltI x y
  | .tuple _ => ltT x y
  | .list _ => ltT x y
  | _ => none
theorem od_lt (hu : X.A.units + 64 < cLine) : OpD X (compareOp .Lt) ltD := fun pins s σ G H x y v u dx dy dz Q I rx ry sg hx hy hg k => by
  have T : ∀ (hn : dx ≠ .none) (e : ltT dx dy = some dz), wpAny (model X.prog X.w) X.A (compareOp .Lt v u) (EP X pins σ Q) X.xe s := fun hn e => by
    unfold ltT at e
    split at e
    · rename_i hd
      cases e
      rw [Bool.and_eq_true] at hd
      obtain ⟨as, r1⟩ := Dp.reads I dx x v (dp_mono sg hx).dp rx
      obtain ⟨bs, r2⟩ := Dp.reads I dy y u (dp_mono sg hy).dp ry
      exact PySem.W.rcLt_alike dx dy X.A s v u as bs r1 r2 hd.1 hn (min60 hd.2 hu) X.prog X.w X.xe _ ⟨.bl _, H, I, rfl, k _ G H (Ext.refl sg) (.bl _)⟩
    · cases e
  unfold ltD at hg
  split at hg
  · exact od_ltI pins s σ G H x y v u _ dy dz Q I rx ry sg hx hy hg k
  · exact T (fun z => by cases z) hg
  · exact T (fun z => by cases z) hg
  · cases hg
/-- x in y -/
def inS : PyData → PyData → Option Bool
  | .str x, .str y => some (!(Builtin.Str.occurrences y x 0 y.length 1).isEmpty)
  | x, .list ys => if dOk 60 x || dOkAll 60 ys then some (ys.any fun y => PyData.eqv y x) else none
  | x, .tuple ys => if dOk 60 x || dOkAll 60 ys then some (ys.any fun y => PyData.eqv y x) else none
  | _, _ => none
def inD (x y : PyData) : Option PyData := (inS x y).map .bool
def notInD (x y : PyData) : Option PyData := (inS x y).map fun b => .bool (!b)
theorem minA60 {x : PyData} {ys : List PyData} {n : Nat} (h : (dOk 60 x || dOkAll 60 ys) = true) (hu : n + 64 < cLine) : n + 1 + min (PyData.depthAll ys) x.depth < cLine := by
  rw [Bool.or_eq_true] at h
  rcases h with h | h
  · have := dOk_depth 60 x h
    have := Nat.min_le_right (PyData.depthAll ys) x.depth
    omega
  · have := dOkAll_depth 60 ys h
    have := Nat.min_le_left (PyData.depthAll ys) x.depth
    omega
theorem od_in (hu : X.A.units + 64 < cLine) : OpD X (compareOp .In) inD := fun pins s σ G H x y v u dx dy dz Q I rx ry sg hx hy hg k => by
  unfold inD at hg
  cases e : inS dx dy with
  | none => rw [e] at hg; cases hg
  | some b =>
    rw [e] at hg
    cases hg
    unfold inS at e
    split at e
    · cases e
      cases hx
      cases hy
      exact op_in_str pins s σ H _ _ v u Q I rx ry ⟨_, _, rfl, rfl, k _ G H (Ext.refl sg) (.bl _)⟩
    · split at e
      · rename_i hd
        cases e
        obtain ⟨as, r1⟩ := Dp.reads I _ x v (dp_mono sg hx).dp rx
        obtain ⟨bs, r2⟩ := Dp.reads I _ y u (dp_mono sg hy).dp ry
        exact PySem.SeqAt.in_list_data r2 r1 (by simpa [PyData.plain] using dq_plain hy) (dq_plain hx) (minA60 hd hu) ⟨.bl _, H, I, rfl, k _ G H (Ext.refl sg) (.bl _)⟩
      · cases e
    · split at e
      · rename_i hd
        cases e
        obtain ⟨as, r1⟩ := Dp.reads I _ x v (dp_mono sg hx).dp rx
        obtain ⟨bs, r2⟩ := Dp.reads I _ y u (dp_mono sg hy).dp ry
        exact PySem.SeqAt.in_tuple_data r2 r1 (by simpa [PyData.plain] using dq_plain hy) (dq_plain hx) (minA60 hd hu) ⟨.bl _, H, I, rfl, k _ G H (Ext.refl sg) (.bl _)⟩
      · cases e
    · cases e
theorem od_notIn (hu : X.A.units + 64 < cLine) : OpD X (compareOp .NotIn) notInD := fun pins s σ G H x y v u dx dy dz Q I rx ry sg hx hy hg k => by
  unfold notInD at hg
  cases e : inS dx dy with
  | none => rw [e] at hg; cases hg
  | some b =>
    rw [e] at hg
    cases hg
    unfold inS at e
    split at e
    · cases e
      cases hx
      cases hy
      exact op_notin_str pins s σ H _ _ v u Q I rx ry ⟨_, _, rfl, rfl, k _ G H (Ext.refl sg) (.bl _)⟩
    · split at e
      · rename_i hd
        cases e
        obtain ⟨as, r1⟩ := Dp.reads I _ x v (dp_mono sg hx).dp rx
        obtain ⟨bs, r2⟩ := Dp.reads I _ y u (dp_mono sg hy).dp ry
        exact PySem.SeqAt.notIn_list_data r2 r1 (by simpa [PyData.plain] using dq_plain hy) (dq_plain hx) (minA60 hd hu) ⟨.bl _, H, I, rfl, k _ G H (Ext.refl sg) (.bl _)⟩
      · cases e
    · split at e
      · rename_i hd
        cases e
        obtain ⟨as, r1⟩ := Dp.reads I _ x v (dp_mono sg hx).dp rx
        obtain ⟨bs, r2⟩ := Dp.reads I _ y u (dp_mono sg hy).dp ry
        exact PySem.SeqAt.notIn_tuple_data r2 r1 (by simpa [PyData.plain] using dq_plain hy) (dq_plain hx) (minA60 hd hu) ⟨.bl _, H, I, rfl, k _ G H (Ext.refl sg) (.bl _)⟩
      · cases e
    · cases e
/-- is None, is True -/
def isS : PyData → PyData → Option Bool
  | .none, .none => some true
  | .bool a, .bool b => some (decide (a = b))
  | _, .none => some false
  | _, _ => none
def isD (x y : PyData) : Option PyData := (isS x y).map .bool
def isNotD (x y : PyData) : Option PyData := (isS x y).map fun b => .bool (!b)
theorem od_is : OpD X (compareOp .Is) isD := fun pins s σ G H x y v u dx dy dz Q I rx ry sg hx hy hg k => by
  have N : ∀ b : Bool, y = .non → b = decide (x = .non) → Q (.bl b) H → wpAny (model X.prog X.w) X.A (compareOp .Is v u) (EP X pins σ Q) X.xe s := fun b ey eb q => by
    subst eb
    exact op_isN pins s σ H x y v u Q I rx ry ⟨ey, q⟩
  cases hx with
  | non => cases hy with
    | non => cases hg; exact N true rfl (by simp) (k _ G H (Ext.refl sg) (.bl _))
    | _ => cases hg
  | bl a => cases hy with
    | non => cases hg; exact N false rfl (by simp) (k _ G H (Ext.refl sg) (.bl _))
    | bl b =>
      cases hg
      exact op_isBl pins s σ H _ _ v u Q I rx ry ⟨a, b, rfl, rfl, k _ G H (Ext.refl sg) (.bl _)⟩
    | _ => cases hg
  | int i => cases hy with
    | non => cases hg; exact N false rfl (by simp) (k _ G H (Ext.refl sg) (.bl _))
    | _ => cases hg
  | str i => cases hy with
    | non => cases hg; exact N false rfl (by simp) (k _ G H (Ext.refl sg) (.bl _))
    | _ => cases hg
  | lst h a => cases hy with
    | non => cases hg; exact N false rfl (by simp) (k _ G H (Ext.refl sg) (.bl _))
    | _ => cases hg
  | tup h a => cases hy with
    | non => cases hg; exact N false rfl (by simp) (k _ G H (Ext.refl sg) (.bl _))
    | _ => cases hg
theorem od_isNot : OpD X (compareOp .IsNot) isNotD := fun pins s σ G H x y v u dx dy dz Q I rx ry sg hx hy hg k => by
  have N : ∀ b : Bool, y = .non → b = decide (x = .non) → Q (.bl (!b)) H → wpAny (model X.prog X.w) X.A (compareOp .IsNot v u) (EP X pins σ Q) X.xe s := fun b ey eb q => by
    subst eb
    exact op_notN pins s σ H x y v u Q I rx ry ⟨ey, q⟩
  cases hx with
  | non => cases hy with
    | non => cases hg; exact N true rfl (by simp) (k _ G H (Ext.refl sg) (.bl _))
    | _ => cases hg
  | bl a => cases hy with
    | non => cases hg; exact N false rfl (by simp) (k _ G H (Ext.refl sg) (.bl _))
    | bl b =>
      cases hg
      exact op_notBl pins s σ H _ _ v u Q I rx ry ⟨a, b, rfl, rfl, k _ G H (Ext.refl sg) (.bl _)⟩
    | _ => cases hg
  | int i => cases hy with
    | non => cases hg; exact N false rfl (by simp) (k _ G H (Ext.refl sg) (.bl _))
    | _ => cases hg
  | str i => cases hy with
    | non => cases hg; exact N false rfl (by simp) (k _ G H (Ext.refl sg) (.bl _))
    | _ => cases hg
  | lst h a => cases hy with
    | non => cases hg; exact N false rfl (by simp) (k _ G H (Ext.refl sg) (.bl _))
    | _ => cases hg
  | tup h a => cases hy with
    | non => cases hg; exact N false rfl (by simp) (k _ G H (Ext.refl sg) (.bl _))
    | _ => cases hg
end

def mNeg (m : Ex) : Ex := seqE m fun x => optE (match x with
  | .int i => some (.int (-i))
  | _ => none)
theorem de_neg {X : Cx} {a : Expr} {m : Ex} {pos : Pos} (ha : DE X a m) : DE X (.UnaryOp .USub a pos) (mNeg m) := PE.weak (pe_un un_neg ha) fun σ H Q ⟨C, G, env, w, r, env', w', R, hm, k⟩ => by
  obtain ⟨x, e1, w1, h1, hm⟩ := seqE_inv hm
  obtain ⟨z, h3, rfl, rfl, rfl⟩ := optE_inv hm
  split at h3
  · cases h3
    refine ⟨C, G, env, w, _, _, _, R, h1, fun v G1 H1 R1 s1 i1 a1 => ?_⟩
    cases a1
    exact ⟨_, rfl, k _ G1 H1 R1 s1 i1 (show Dq X.K _ _ _ from .int _)⟩
  · cases h3
def ixD : PyData → PyData → Option PyData
  | .list xs, .int i => atI xs i
  | .tuple xs, .int i => atI xs i
  | .str z, .int i => if z.length ≤ sizeLine then (atI z.cps.toList i).map fun c => .str ⟨#[c]⟩ else none
  | _, _ => none
theorem atI_dq {K : PySem.W.Frag} {G : Hp} {vs : List V} {ds : List PyData} {i : Int} {d : PyData} (h : DqA K G vs ds) (e : atI ds i = some d) : ∃ v, atI vs i = some v ∧ Dq K G v d := by
  unfold atI at e ⊢
  rw [dpA_len h]
  cases q : ixN ds.length i with
  | none => rw [q] at e; cases e
  | some j =>
    rw [q] at e
    exact dpA_get h e
theorem ix_run {X : Cx} {ma mb : Ex} {σ : L2.St} {H : Hp} {Q : VK} (h : tD X.K (mOp ixD ma mb) σ H Q) : tOp (rIx X.K) (tD X.K ma) (tD X.K mb) σ H Q := by
  obtain ⟨C, G, env, w, r, env', w', R, hm, k⟩ := h
  obtain ⟨x, e1, w1, h1, hm⟩ := seqE_inv hm
  obtain ⟨y, e2, w2, h2, hm⟩ := seqE_inv hm
  obtain ⟨z, h3, rfl, rfl, rfl⟩ := optE_inv hm
  refine ⟨C, G, env, w, _, e1, w1, R, h1, fun v G1 H1 R1 s1 i1 a1 => ?_⟩
  refine ⟨C, G1, e1, w1, _, _, _, R1, h2, fun u G2 H2 R2 s2 i2 a2 => ?_⟩
  have a1 : Dq X.K G2 v x := dp_mono s2 a1
  have fin : ∀ z', Dq X.K G2 z' z → Q z' H2 := fun z' d => k z' G2 H2 R2 (s1.trans s2) (i2.trans i1) d
  unfold ixD at h3
  split at h3
  · cases a1 with
    | lst hs ha =>
      cases a2
      obtain ⟨v, q1, q2⟩ := atI_dq ha h3
      exact .inl ⟨_, _, _, v, rfl, rfl, SqL.of (R2.sub _ _ hs), q1, fin v q2⟩
  · cases a1 with
    | tup hs ha =>
      cases a2
      obtain ⟨v, q1, q2⟩ := atI_dq ha h3
      exact .inr (.inl ⟨_, _, _, v, rfl, rfl, Same.sqT R2.sub hs, q1, fin v q2⟩)
  · split at h3
    · rename_i hl
      cases a1
      cases a2
      obtain ⟨c, e, q⟩ := Option.map_eq_some_iff.mp h3
      subst q
      exact .inr (.inr ⟨_, _, c, rfl, rfl, hl, e, fin _ (.str _)⟩)
    · cases h3
  · cases h3
theorem de_ix {X : Cx} {a b : Expr} {ma mb : Ex} {pos : Pos} (ha : DE X a ma) (hb : DE X b mb) (hs : PlainIx b := by exact fun _ _ => rfl) : DE X (.Subscript a b pos) (mOp ixD ma mb) := PE.weak (pe_ix ix_seq ha hb hs) fun _ _ _ h => ix_run h

abbrev Ox := Ev → W → Option (Option Int × Ev × W)
def tPo (K : PySem.W.Frag) (m : Ox) : TO := fun σ H Q => ∃ C G env w r env' w', Rel K C env w σ G H ∧ m env w = some (r, env', w') ∧
  ∀ G' H', Rel K C env' w' σ G' H' → Same G G' → w'.isSome = w.isSome → Q r H'
abbrev DPo (X : Cx) (e : Option Expr) (m : Ox) : Prop := PO X e (tPo X.K m)
def mNo : Ox := fun env w => some (none, env, w)
def mPart (m : Ex) : Ox := seqE m fun x env w => match x with
  | .int i => some (some i, env, w)
  | _ => none
theorem PO.weak {X : Cx} {e : Option Expr} {t t' : TO} (h : PO X e t) (k : ∀ σ H Q, t' σ H Q → t σ H Q) : PO X e t' := ⟨fun pins s σ H Q I q => h.run pins s σ H Q I (k σ H Q q)⟩
theorem dpo_none {X : Cx} : DPo X none mNo := PO.weak po_none fun σ H Q ⟨C, G, env, w, r, env', w', R, hm, k⟩ => by
  cases hm
  exact k G H R (Same.refl G) rfl
theorem dpo_some {X : Cx} {e : Expr} {m : Ex} (h : DE X e m) : DPo X (some e) (mPart m) := PO.weak (po_some h) fun σ H Q ⟨C, G, env, w, r, env', w', R, hm, k⟩ => by
  obtain ⟨x, e1, w1, h1, hm⟩ := seqE_inv hm
  split at hm
  · rename_i i
    cases hm
    exact ⟨C, G, env, w, _, _, _, R, h1, fun v G1 H1 R1 s1 i1 a1 => by cases a1; exact ⟨_, rfl, k G1 H1 R1 s1 i1⟩⟩
  · cases hm
/-- the items of xs[lo:hi] -/
def cutL {α : Type} (xs : List α) (lo hi : Option Int) : List α := (xs.drop (HT.sIx xs.length 0 lo)).take (HT.sIx xs.length xs.length hi - HT.sIx xs.length 0 lo)
def slD (x : PyData) (lo hi : Option Int) : Option PyData := match x with
  | .str z => if z.length ≤ sizeLine then some (.str (cutS z lo hi)) else none
  | .tuple xs => some (.tuple (cutL xs lo hi))
  | .list xs => some (.list (cutL xs lo hi))
  | _ => none
def mSl (m : Ex) (ml mh : Ox) : Ex := seqE m fun x env w => match ml env w with
  | some (lo, e1, w1) => (match mh e1 w1 with
    | some (hi, e2, w2) => optE (slD x lo hi) e2 w2
    | none => none)
  | none => none
theorem cut_dq {K : PySem.W.Frag} {G : Hp} {vs : List V} {ds : List PyData} (h : DqA K G vs ds) (lo hi : Option Int) : DqA K G (cutV vs lo hi) (cutL ds lo hi) := by
  unfold cutV cutL
  rw [dpA_len h]
  exact dpA_take _ (dpA_drop _ h)
theorem cut_whole {α : Type} {xs : List α} {lo hi : Option Int} (h : HT.sIx xs.length 0 lo = 0 ∧ HT.sIx xs.length xs.length hi = xs.length) : cutL xs lo hi = xs := by
  unfold cutL
  rw [h.1, h.2]
  simp
def rSlAll (K : PySem.W.Frag) : V → Option Int → Option Int → Hp → VK → Prop := fun x lo hi H Q => rSlS x lo hi H Q ∨ rSlA K x lo hi H Q ∨ rSlL K x lo hi H Q
theorem sl_all {X : Cx} : SlR X (rSlAll X.K) := SlR.or sl_str (SlR.or sl_tupA sl_list)
theorem sl_run {X : Cx} {ma : Ex} {ml mh : Ox} {σ : L2.St} {H : Hp} {Q : VK} (h : tD X.K (mSl ma ml mh) σ H Q) : tSl (rSlAll X.K) (tD X.K ma) (tPo X.K ml) (tPo X.K mh) σ H Q := by
  obtain ⟨C, G, env, w, r, env', w', R, hm, k⟩ := h
  obtain ⟨x, e1, w1, h1, hm⟩ := seqE_inv hm
  split at hm
  · rename_i lo e2 w2 h2
    split at hm
    · rename_i hi e3 w3 h3
      obtain ⟨z, h4, rfl, rfl, rfl⟩ := optE_inv hm
      refine ⟨C, G, env, w, _, e1, w1, R, h1, fun v G1 H1 R1 s1 i1 a1 => ?_⟩
      refine ⟨C, G1, e1, w1, _, _, _, R1, h2, fun G2 H2 R2 s2 i2 => ?_⟩
      refine ⟨C, G2, e2, w2, _, _, _, R2, h3, fun G3 H3 R3 s3 i3 => ?_⟩
      have a3 : Dq X.K G3 v x := dp_mono (s2.trans s3) a1
      have sg : Same G G3 := s1.trans (s2.trans s3)
      have is := i3.trans (i2.trans i1)
      unfold slD at h4
      split at h4
      · split at h4
        · rename_i hl
          cases h4
          cases a3
          exact .inl ⟨_, rfl, hl, k _ G3 H3 R3 sg is (show Dq X.K _ _ _ from .str _)⟩
        · cases h4
      · cases h4
        cases a3 with
        | tup hs ha =>
          refine .inr (.inl ⟨_, _, rfl, Same.sqT R3.sub hs, fun hw => ?_, fun _ p hp => ?_⟩)
          · rw [dpA_len ha] at hw
            rw [cut_whole hw] at k
            exact k _ G3 H3 R3 sg is (show Dq X.K _ _ _ from .tup hs ha)
          · obtain ⟨ex, dq⟩ := ext_tup R3.sub hp (cut_dq ha lo hi)
            exact k _ _ _ (R3.ext ex) (sg.trans ex.gg) is dq
      · cases h4
        cases a3 with
        | lst hs ha =>
          refine .inr (.inr ⟨_, _, rfl, SqL.of (R3.sub _ _ hs), fun p hp => ?_⟩)
          obtain ⟨ex, dq⟩ := ext_lst R3.sub hp (cut_dq ha lo hi)
          exact k _ _ _ (R3.ext ex) (sg.trans ex.gg) is dq
      · cases h4
    · cases hm
  · cases hm
theorem de_sl {X : Cx} {a : Expr} {ma : Ex} {lo hi : Option Expr} {ml mh : Ox} {pos p2 : Pos} (ha : DE X a ma) (hl : DPo X lo ml) (hh : DPo X hi mh) : DE X (.Subscript a (.Slice lo hi none p2) pos) (mSl ma ml mh) :=
  PE.weak (pe_slice sl_all ha hl hh) fun _ _ _ h => sl_run h

def CallD (X : Cx) (f : Value) (g : List PyData → Option PyData) : Prop :=
  ∀ (pins : List (Addr × Obj)) (s : Shared) (σ : L2.St) (G H : Hp) (xs : List V) (us : List Value) (ds : List PyData) (dz : PyData) (Q : VK), Inv X pins σ H s → Vals xs us → Same G H → DqA X.K G xs ds → g ds = some dz →
    (∀ z G' H', Ext G H G' H' → Dq X.K G' z dz → Q z H') → wpAny (model X.prog X.w) X.A (call f us) (EP X pins σ Q) X.xe s
def rSemC (X : Cx) (f : Value) : List V → Hp → VK → Prop := fun xs H Q => ∀ (pins : List (Addr × Obj)) (s : Shared) (σ : L2.St) (us : List Value), Inv X pins σ H s → Vals xs us → wpAny (model X.prog X.w) X.A (call f us) (EP X pins σ Q) X.xe s
theorem call_sem {X : Cx} {f : Value} : CallR X f (rSemC X f) := fun pins s σ H xs us Q I r h => h pins s σ us I r
def mB (g : List PyData → Option PyData) (ms : Ax) : Ex := argsD ms fun ds => optE (g ds)
theorem callB_run {X : Cx} {f : Value} {g : List PyData → Option PyData} {ms : Ax} (hc : CallD X f g) {σ : L2.St} {H : Hp} {Q : VK} (h : tD X.K (mB g ms) σ H Q) : tCB (rSemC X f) (tA X.K ms) σ H Q := by
  obtain ⟨C, G, env, w, r, env', w', R, hm, k⟩ := h
  obtain ⟨rs, ds, e1, w1, h1, h2, hm⟩ := argsD_inv hm
  obtain ⟨z, h3, rfl, rfl, rfl⟩ := optE_inv hm
  refine ⟨C, G, env, w, _, _, _, R, h1, fun vs G1 H1 R1 s1 i1 a1 => ?_⟩
  intro pins s σ' us I r
  exact hc pins s σ' G1 H1 vs us ds z Q I r R1.sub (dsOf_ok a1 h2) h3 fun zz G' H' e dz => k zz G' H' (R1.ext e) (s1.trans e.gg) i1 dz
section
variable {X : Cx} {x : Str} {e : Expr} {es : List Expr} {p pos : Pos} {id T : String} {g g' : List PyData → Option PyData} {ms : Ax}
theorem de_callB (hc : CallD X (.builtin id) g) (hm : X.mg x = none) (hv : bootBuiltins x = some (.builtin id)) (ha : DA X (e :: es) ms) (hg : Gl X x := by rfl) (hn : x ≠ "__name__" := by decide) (hdb : (x == ("__debug__" : Str)) = false := by decide)
    (he : starEach (e :: es) X.env = (false, eval e X.env) :: starEach es X.env := by rfl) (hpl : (backTo pos (starEach es X.env)).any (·.1) = false := by rfl) : DE X (.Call (.Name x p) (e :: es) [] pos) (mB g ms) :=
  PE.weak (pe_callB call_sem hg hm hv ha hn hdb he hpl) fun _ _ _ h => callB_run hc h
theorem de_callTy (hc : CallD X (.type T) g) (hm : X.mg x = none) (hv : bootBuiltins x = some (.type T)) (ha : DA X (e :: es) ms) (hg : Gl X x := by rfl) (hn : x ≠ "__name__" := by decide) (hdb : (x == ("__debug__" : Str)) = false := by decide)
    (he : starEach (e :: es) X.env = (false, eval e X.env) :: starEach es X.env := by rfl) (hpl : (backTo pos (starEach es X.env)).any (·.1) = false := by rfl) : DE X (.Call (.Name x p) (e :: es) [] pos) (mB g ms) :=
  PE.weak (pe_callTy call_sem hg hm hv ha hn hdb he hpl) fun _ _ _ h => callB_run hc h
theorem callD_of {f : Value} {r : List V → Hp → VK → Prop} (h : CallR X f r)
    (k : ∀ (G H : Hp) (xs : List V) (ds : List PyData) (dz : PyData) (Q : VK), Same G H → DqA X.K G xs ds → g ds = some dz → (∀ z G' H', Ext G H G' H' → Dq X.K G' z dz → Q z H') → r xs H Q) : CallD X f g :=
  fun pins s σ G H xs us ds dz Q I rx sg hx hg q => h pins s σ H xs us Q I rx (k G H xs ds dz Q sg hx hg q)
theorem dqA1 {K : PySem.W.Frag} {G : Hp} {vs : List V} {d : PyData} (h : DqA K G vs [d]) : ∃ v, vs = [v] ∧ Dq K G v d := by
  cases h with
  | cons a b => cases b; exact ⟨_, rfl, a⟩
theorem dqA2 {K : PySem.W.Frag} {G : Hp} {vs : List V} {d e : PyData} (h : DqA K G vs [d, e]) : ∃ v u, vs = [v, u] ∧ Dq K G v d ∧ Dq K G u e := by
  cases h with
  | cons a b =>
    obtain ⟨u, rfl, q⟩ := dqA1 b
    exact ⟨_, u, rfl, a, q⟩
def lenD : List PyData → Option PyData
  | [.list xs] => some (.int xs.length)
  | [.tuple xs] => some (.int xs.length)
  | [.str z] => if z.length ≤ sizeLine then some (.int z.length) else none
  | _ => none
theorem cd_len : CallD X (.builtin "len") lenD := callD_of (CallR.or call_len_seq call_len_str) fun G H xs ds dz Q sg hx hg k => by
  unfold lenD at hg
  split at hg
  · cases hg
    obtain ⟨v, rfl, h⟩ := dqA1 hx
    cases h with
    | lst hs ha =>
      refine .inl ⟨_, _, rfl, .inl (SqL.of (sg _ _ hs)), ?_⟩
      rw [dpA_len ha]
      exact k _ G H (Ext.refl sg) (.int _)
  · cases hg
    obtain ⟨v, rfl, h⟩ := dqA1 hx
    cases h with
    | tup hs ha =>
      refine .inl ⟨_, _, rfl, .inr (Same.sqT sg hs), ?_⟩
      rw [dpA_len ha]
      exact k _ G H (Ext.refl sg) (.int _)
  · split at hg
    · rename_i hl
      cases hg
      obtain ⟨v, rfl, h⟩ := dqA1 hx
      cases h
      exact .inr ⟨_, rfl, hl, k _ G H (Ext.refl sg) (.int _)⟩
    · cases hg
  · cases hg
def intD : List PyData → Option PyData
  | [.int i] => some (.int i)
  | [.bool b] => some (.int (if b then 1 else 0))
  | [.str z] => (match PySem.intText? z with
    | some n => if z.length ≤ 640 then some (.int n) else none
    | none => none)
  | _ => none
theorem cd_int : CallD X (.type "int") intD := callD_of (CallR.or call_int1 call_int_str) fun G H xs ds dz Q sg hx hg k => by
  unfold intD at hg
  split at hg
  · cases hg
    obtain ⟨v, rfl, h⟩ := dqA1 hx
    cases h
    exact .inl (.inl ⟨_, rfl, k _ G H (Ext.refl sg) (.int _)⟩)
  · cases hg
    obtain ⟨v, rfl, h⟩ := dqA1 hx
    cases h
    exact .inl (.inr ⟨_, rfl, k _ G H (Ext.refl sg) (.int _)⟩)
  · split at hg
    · rename_i n hn
      split at hg
      · rename_i hl
        cases hg
        obtain ⟨v, rfl, h⟩ := dqA1 hx
        cases h
        exact .inr ⟨_, _, rfl, hn, hl, k _ G H (Ext.refl sg) (.int _)⟩
      · cases hg
    · cases hg
  · cases hg
def strD : List PyData → Option PyData
  | [.int i] => if i.natAbs.log2 < 1920 then some (.str (toString i)) else none
  | _ => none
theorem cd_str : CallD X (.type "str") strD := callD_of call_str_int fun G H xs ds dz Q sg hx hg k => by
  unfold strD at hg
  split at hg
  · split at hg
    · rename_i hl
      cases hg
      obtain ⟨v, rfl, h⟩ := dqA1 hx
      cases h
      exact ⟨_, rfl, hl, k _ G H (Ext.refl sg) (.str _)⟩
    · cases hg
  · cases hg
def tupleD : List PyData → Option PyData
  | [.list xs] => some (.tuple xs)
  | [.tuple xs] => some (.tuple xs)
  | _ => none
theorem cd_tuple : CallD X (.type "tuple") tupleD := callD_of call_tuple_of fun G H xs ds dz Q sg hx hg k => by
  unfold tupleD at hg
  split at hg
  · cases hg
    obtain ⟨v, rfl, h⟩ := dqA1 hx
    cases h with
    | lst hs ha =>
      refine ⟨_, _, rfl, .inl ⟨SqL.of (sg _ _ hs), fun l hl => ?_⟩⟩
      obtain ⟨ex, dq⟩ := ext_tup sg hl ha
      exact k _ _ _ ex dq
  · cases hg
    obtain ⟨v, rfl, h⟩ := dqA1 hx
    cases h with
    | tup hs ha => exact ⟨_, _, rfl, .inr ⟨Same.sqT sg hs, k _ G H (Ext.refl sg) (.tup hs ha)⟩⟩
  · cases hg
def min2D : List PyData → Option PyData
  | [.int i, .int j] => some (.int (if j < i then j else i))
  | _ => none
theorem cd_min2 (hc : X.calm = true) : CallD X (.builtin "min") min2D := callD_of (call_min2 hc) fun G H xs ds dz Q sg hx hg k => by
  unfold min2D at hg
  split at hg
  · cases hg
    obtain ⟨v, u, rfl, h, h'⟩ := dqA2 hx
    cases h
    cases h'
    exact ⟨_, _, rfl, k _ G H (Ext.refl sg) (.int _)⟩
  · cases hg
end
end Dn

set_option maxHeartbeats 4000000
namespace Dn
open PySem PySem.Spec PyProof.Rows L2

abbrev NoOd (env : Ev) (σ : L2.St) (a : Addr) : Prop := ∀ (i : Nat) (kvs : List (Str × PyData)), env[i]? = some (some (.od kvs)) → σ[i]? ≠ some (some (.ref a))
abbrev NoOwn (env : Ev) (σ : L2.St) (a : Addr) : Prop := ∀ (i : Nat) (ys : List PyData), env[i]? = some (some (.own ys)) → σ[i]? ≠ some (some (.ref a))
theorem Rel.setO {K : PySem.W.Frag} {C : Ct} {env : Ev} {w : W} {σ : L2.St} {G H : Hp} {a : Addr} {vs : List V} {xs : List PyData} (R : Rel K C env w σ G H) (ha : H a = some (.lst vs)) (hd : DqA K G vs xs) (hg : G a = none) (h0 : C.H0 a = none)
    (hne : NoOwn env σ a) (i : Nat) : Rel K C (env.set i (some (.own xs))) w (σ.set i (some (.ref a))) G H where
  sub := R.sub
  len := by rw [List.length_set, List.length_set]; exact R.len
  slot := fun j sd h => by
    by_cases hj : i = j
    · subst hj
      have hi : i < env.length := by
        have := (List.getElem?_eq_some_iff.mp h).1
        rwa [List.length_set] at this
      rw [List.getElem?_set_self hi] at h
      cases h
      exact ⟨_, List.getElem?_set_self (by rw [← R.len]; exact hi), a, vs, rfl, ha, hd, hg, h0⟩
    · rw [List.getElem?_set_ne hj] at h
      obtain ⟨v, h1, h2⟩ := R.slot j sd h
      exact ⟨v, by rw [List.getElem?_set_ne hj]; exact h1, h2⟩
  sep := fun j k ys zs b e1 e2 s1 s2 => by
    have at_i : ∀ (l : Nat) (us : List PyData), (env.set i (some (.own xs)))[l]? = some (some (.own us)) → (σ.set i (some (.ref a)))[l]? = some (some (.ref b)) → i = l → b = a := fun l us e s z => by
      subst z
      have hi : i < env.length := by
        have := (List.getElem?_eq_some_iff.mp e).1
        rwa [List.length_set] at this
      rw [List.getElem?_set_self (by rw [← R.len]; exact hi)] at s
      cases s
      rfl
    by_cases hj : i = j
    · by_cases hk : i = k
      · exact hj.symm.trans hk
      · have := at_i j ys e1 s1 hj
        subst this
        rw [List.getElem?_set_ne hk] at e2 s2
        exact absurd s2 (hne k zs e2)
    · by_cases hk : i = k
      · have := at_i k zs e2 s2 hk
        subst this
        rw [List.getElem?_set_ne hj] at e1 s1
        exact absurd s1 (hne j ys e1)
      · rw [List.getElem?_set_ne hj] at e1 s1
        rw [List.getElem?_set_ne hk] at e2 s2
        exact R.sep j k ys zs b e1 e2 s1 s2
  st := R.st
  st0 := R.st0
  fr := R.fr
  gr := R.gr
  tb := R.tb
  tb0 := R.tb0
def mSetO (i : Nat) (m : Lx) : Sx := fun env w => match m env w with
  | some (xs, e1, w1) => some (.nx, e1.set i (some (.own xs)), w1)
  | none => none
theorem ds_setO {X : Cx} {s : Stmt} {i : Nat} {m : Lx} (h : PS X s (tAsg (tO X.K m) (gName i))) : DSt X s (mSetO i m) := PS.weak h fun D σ H ⟨C, G, env, w, r, env', w', R, hm, k⟩ => by
  unfold mSetO at hm
  split at hm
  · rename_i xs e1 w1 h1
    cases hm
    exact ⟨C, G, env, w, _, _, _, R, h1, fun a vs G1 H1 R1 s1 i1 ha hd hg h0 hne => k _ G1 H1 (R1.setO ha hd hg h0 hne i) s1 i1⟩
  · cases hm
/-- the own list at slot i is changed -/
theorem Rel.chg {K : PySem.W.Frag} {C : Ct} {env : Ev} {w : W} {σ : L2.St} {G H : Hp} {a : Addr} {us : List V} {xs ys : List PyData} {i : Nat} (R : Rel K C env w σ G H) (he : env[i]? = some (some (.own xs))) (hs : σ[i]? = some (some (.ref a))) (hd : DqA K G us ys) :
    Rel K C (env.set i (some (.own ys))) w σ G (upd H a (.lst us)) := by
  obtain ⟨v, h1, a', vs, rfl, ha, hd0, hg, h0⟩ := R.slot i _ he
  rw [h1] at hs
  cases hs
  have hi : i < env.length := (List.getElem?_eq_some_iff.mp he).1
  have nes : ∀ h : w.isSome = true, a ≠ C.ad.sa ∧ a ≠ C.ad.la ∧ a ≠ C.ad.ca := fun h => R.own_ne h0 h
  refine ⟨fun b o e => ?_, by rw [List.length_set]; exact R.len, fun j sd e => ?_, fun j k zs zs' b e1 e2 s1 s2 => ?_, fun s e => ?_, R.st0, fun b o e m => ?_, R.gr, R.tb.hset ha, R.tb0⟩
  · rw [upd_ne]
    · exact R.sub b o e
    · rintro rfl
      rw [hg] at e; cases e
  · by_cases hj : i = j
    · subst hj
      rw [List.getElem?_set_self hi] at e
      cases e
      exact ⟨_, h1, a, us, rfl, upd_same, hd, hg, h0⟩
    · rw [List.getElem?_set_ne hj] at e
      obtain ⟨v, q1, q2⟩ := R.slot j sd e
      refine ⟨v, q1, ?_⟩
      cases sd with
      | d x => exact q2
      | own zs =>
        obtain ⟨b, ws, rfl, hb, hd', hg', h0'⟩ := q2
        refine ⟨b, ws, rfl, ?_, hd', hg', h0'⟩
        rw [upd_ne]
        · exact hb
        · rintro rfl
          exact hj (R.sep i j xs zs b he e h1 q1)
      | st => exact q2
      | dic kvs => exact q2
      | scr n => exact q2
      | l x => exact q2
      | ex b d p => exact q2
      | od kvs =>
        obtain ⟨b, ws, rfl, hb, hd', hg', h0'⟩ := q2
        refine ⟨b, ws, rfl, ?_, hd', hg', h0'⟩
        rw [upd_ne]
        · exact hb
        · rintro rfl
          rw [ha] at hb; cases hb
  · have fix : ∀ (l : Nat) (us' : List PyData), (env.set i (some (.own ys)))[l]? = some (some (.own us')) → ∃ us'', env[l]? = some (some (.own us'')) := fun l us' e => by
      by_cases hl : i = l
      · subst hl; exact ⟨xs, he⟩
      · rw [List.getElem?_set_ne hl] at e; exact ⟨us', e⟩
    obtain ⟨u1, q1⟩ := fix j zs e1
    obtain ⟨u2, q2⟩ := fix k zs' e2
    exact R.sep j k u1 u2 b q1 q2 s1 s2
  · have q := R.st s e
    have ne := nes (by rw [e]; rfl)
    exact ⟨by rw [upd_ne ne.1.symm]; exact q.sa, by rw [upd_ne ne.2.1.symm]; exact q.la, by rw [upd_ne ne.2.2.symm]; exact q.ca, q.gs, q.gl, q.gc, q.ne, q.tk⟩
  · rw [upd_ne]
    · exact R.fr b o e m
    · rintro rfl
      rw [h0] at e; cases e
/-- xs.append(e) -/
def mAppend (i : Nat) (m : Ex) : Sx := fun env w => match env[i]? with
  | some (some (.own _)) => seqE m (fun y e1 w1 => match e1[i]? with
    | some (some (.own xs)) => if xs.length < sizeLine then some (.nx, e1.set i (some (.own (xs ++ [y]))), w1) else none
    | _ => none) env w
  | _ => none
theorem ds_append {X : Cx} {s : Stmt} {i : Nat} {m : Ex} (h : PS X s (tDrop (tBM X.K "list" rAppend (tVar i) (tCons (tD X.K m) tNil)))) : DSt X s (mAppend i m) := PS.weak h fun D σ H ⟨C, G, env, w, fl, env', w', R, hm, k⟩ => by
  unfold mAppend at hm
  split at hm
  · rename_i xs0 h0
    obtain ⟨y, e1, w1, h1, hm⟩ := seqE_inv hm
    split at hm
    · rename_i xs h2
      split at hm
      · rename_i hl
        cases hm
        obtain ⟨v, q1, a, vs, rfl, ha, hd, hg, hz⟩ := R.slot i _ h0
        refine ⟨_, q1, .inl ⟨rfl, vs, SqL.of ha⟩, C, G, env, w, _, _, _, R, h1, fun u G1 H1 R1 s1 i1 a1 => ?_⟩
        obtain ⟨v, p1, a', vs', rfl, ha', hd', hg', hz'⟩ := R1.slot i _ h2
        rw [q1] at p1
        cases p1
        refine ⟨a, vs', u, rfl, rfl, ha', by rw [dpA_len hd']; exact hl, ?_⟩
        exact k σ G1 _ (R1.chg h2 q1 (dpA_app hd' (.cons a1 .nil))) s1 i1
      · cases hm
    · cases hm
  · cases hm
/-- xs.pop() -/
def mPop (i : Nat) : Sx := fun env w => match env[i]? with
  | some (some (.own xs)) => (match xs with
    | [] => none
    | _ :: _ => some (.nx, env.set i (some (.own xs.dropLast)), w))
  | _ => none
/-- an answer that needs no heap -/
def flat : PyData → Bool
  | .none => true
  | .bool _ => true
  | .int _ => true
  | .str _ => true
  | _ => false
def flatO (o : Option PyData) : Option PyData := match o with
  | some z => if flat z then some z else none
  | none => none
def pk (env : Ev) (i : Nat) : Option (List PyData) := match env[i]? with
  | some (some (.own xs)) => some xs
  | some (some (.d (.list xs))) => some xs
  | _ => none
/-- over a wider heap the list is data -/
theorem Rel.pkd {K : PySem.W.Frag} {C : Ct} {env : Ev} {w : W} {σ : L2.St} {G H : Hp} {i : Nat} {xs : List PyData} (R : Rel K C env w σ G H) (h : pk env i = some xs) : ∃ a vs, σ[i]? = some (some (.ref a)) ∧ H a = some (.lst vs) ∧ DqA K G vs xs := by
  unfold Dn.pk at h
  split at h
  · rename_i ys e
    cases h
    obtain ⟨v, q1, a, vs, rfl, ha, hd, hg, hz⟩ := R.slot i _ e
    exact ⟨a, vs, q1, ha, hd⟩
  · rename_i ys e
    cases h
    obtain ⟨v, q1, q2⟩ := R.slot i _ e
    cases q2 with
    | lst h a => exact ⟨_, _, q1, R.sub _ _ h, a⟩
  · cases h
/-- xs == e -/
def mPkOp (g : PyData → PyData → Option PyData) (i : Nat) (mb : Ex) : Ex := fun env w => match pk env i with
  | some _ => seqE mb (fun y e1 w1 => match pk e1 i with
    | some xs => optE (flatO (g (.list xs) y)) e1 w1
    | none => none) env w
  | none => none
section
variable {X : Cx} {b : Expr} {mb : Ex} {pos pos' : Pos} {g : PyData → PyData → Option PyData} {x : Str} {i : Nat}
/-- xs[i] -/
def mPkIx (i : Nat) (mb : Ex) : Ex := fun env w => match pk env i with
  | some _ => seqE mb (fun y e1 w1 => match pk e1 i with
    | some xs => optE (ixD (.list xs) y) e1 w1
    | none => none) env w
  | none => none
/-- len(xs) -/
def mPkLen (i : Nat) : Ex := fun env w => match pk env i with
  | some xs => some (.d (.int xs.length), env, w)
  | none => none
theorem de_pklen {p : Pos} (hm : X.mg "len" = none) (ha : PE X (.Name x pos') (tVar i)) (hg : Gl X "len" := by rfl) : DE X (.Call (.Name "len" p) [.Name x pos'] [] pos) (mPkLen i) :=
  PE.weak (pe_callB call_len_seq hg hm PySem.boot_len (pa_cons ha pa_nil)) fun σ H Q ⟨C, G, env, w, r, env', w', R, hm, k⟩ => by
  unfold mPkLen at hm
  split at hm
  · rename_i xs h0
    cases hm
    obtain ⟨a, vs, q1, ha', hd⟩ := R.pkd h0
    refine ⟨_, q1, a, vs, rfl, .inl (SqL.of ha'), ?_⟩
    rw [dpA_len hd]
    exact k _ G H R (Same.refl G) rfl (show Dq X.K _ _ _ from .int _)
  · cases hm
/-- len(script) -/
def mScrLen (i : Nat) : Ex := fun env w => match env[i]? with
  | some (some (.scr n)) => some (.d (.int n), env, w)
  | _ => none
theorem de_scrlen {p : Pos} (hm : X.mg "len" = none) (ha : PE X (.Name x pos') (tVar i)) (hg : Gl X "len" := by rfl) : DE X (.Call (.Name "len" p) [.Name x pos'] [] pos) (mScrLen i) :=
  PE.weak (pe_callB call_len_seq hg hm PySem.boot_len (pa_cons ha pa_nil)) fun σ H Q ⟨C, G, env, w, r, env', w', R, hm, k⟩ => by
  unfold mScrLen at hm
  split at hm
  · rename_i n h0
    cases hm
    obtain ⟨v, q1, a, xs, rfl, rfl, hs⟩ := R.slot i _ h0
    have sq : SqL X.K H a xs := by
      rcases hs with ⟨o, ha', nm⟩ | hs
      · exact .inl (.inr ⟨o, R.fr a _ ha' nm⟩)
      · exact hs H
    exact ⟨_, q1, a, xs, rfl, .inl sq, k _ G H R (Same.refl G) rfl (show Dq X.K _ _ _ from .int _)⟩
  · cases hm
end

def Ct.grd (C : Ct) (D : Addr) (o : HO) : Ct := ⟨C.ad, upd C.H0 D o, fun b => if b = D then none else C.G0 b⟩
theorem Rel.grd {K : PySem.W.Frag} {C : Ct} {env : Ev} {w : W} {σ : L2.St} {G H : Hp} {D : Addr} {o : HO} (R : Rel K C env w σ G H) (hD : H D = some o) (hg : G D = none) (h0 : C.H0 D = none) (hne : NoOwn env σ D) (hod : (∀ kvs, o ≠ .dK kvs) ∨ NoOd env σ D := by exact .inl (fun _ q => by cases q)) : Rel K (C.grd D o) env w σ G H where
  sub := R.sub
  len := R.len
  slot := fun i sd h => by
    obtain ⟨v, h1, h2⟩ := R.slot i sd h
    refine ⟨v, h1, ?_⟩
    cases sd with
    | d x => exact h2
    | own xs =>
      obtain ⟨a, vs, rfl, ha, hd, hga, h0a⟩ := h2
      refine ⟨a, vs, rfl, ha, hd, hga, ?_⟩
      show upd C.H0 D o a = none
      rw [upd_ne]
      · exact h0a
      · rintro rfl
        exact hne i xs h h1
    | st => exact h2
    | dic kvs => exact h2
    | l x => exact h2
    | od kvs =>
      obtain ⟨a, vs, rfl, ha, hd, hga, h0a⟩ := h2
      refine ⟨a, vs, rfl, ha, hd, hga, ?_⟩
      show upd C.H0 D o a = none
      rw [upd_ne]
      · exact h0a
      · rintro rfl
        rcases hod with q | q
        · rw [hD] at ha
          exact q _ (Option.some.inj ha)
        · exact q i kvs h h1
    | ex b d p =>
      refine ⟨h2.1, fun y hy => ?_⟩
      obtain ⟨dd, u, z1, z2, z3, z4⟩ := h2.2 y hy
      refine ⟨dd, u, z1, ?_, z3, z4⟩
      show upd C.H0 D o dd = _
      rw [upd_ne]
      · exact z2
      · rintro rfl
        rw [h0] at z2; cases z2
    | scr n =>
      obtain ⟨a, xs, h3, h4, h5⟩ := h2
      refine ⟨a, xs, h3, h4, ?_⟩
      rcases h5 with ⟨ob, h5, h6⟩ | h5
      · refine .inl ⟨ob, ?_, h6⟩
        show upd C.H0 D o a = _
        rw [upd_ne (ne_of_none h5 h0)]
        exact h5
      · exact .inr h5
  sep := R.sep
  st := R.st
  st0 := fun h => by
    obtain ⟨h1, h2, h3⟩ := R.st0 h
    have ne : ∀ b, C.H0 b ≠ none → upd C.H0 D o b ≠ none := fun b hb => by
      rw [upd_ne]
      · exact hb
      · rintro rfl
        exact hb h0
    exact ⟨ne _ h1, ne _ h2, ne _ h3⟩
  fr := fun b u e m => by
    by_cases hb : b = D
    · subst hb
      have e' : upd C.H0 b o b = some u := e
      rw [upd_same] at e'
      rw [hD]; exact e'
    · have e' : upd C.H0 D o b = some u := e
      rw [upd_ne hb] at e'
      exact R.fr b u e' m
  gr := fun b u e => by
    show G b = if b = D then none else C.G0 b
    by_cases hb : b = D
    · rw [if_pos hb, hb]; exact hg
    · rw [if_neg hb]
      have e' : upd C.H0 D o b = some u := e
      rw [upd_ne hb] at e'
      exact R.gr b u e'
  tb := R.tb
  tb0 := fun p hp => by
    show upd C.H0 D o p.1 ≠ none
    rw [upd_ne fun z => R.tb0 p hp (by rw [z]; exact h0)]
    exact R.tb0 p hp
theorem Rel.ungrd {K : PySem.W.Frag} {C : Ct} {env : Ev} {w : W} {σ : L2.St} {G H : Hp} {D : Addr} {o : HO} (R : Rel K (C.grd D o) env w σ G H) (h0 : C.H0 D = none) (ho : ∀ ob u, o ≠ .frz ob u) (nm : ¬ Mt C.ad w D) (s0 : w.isSome = true → C.H0 C.ad.sa ≠ none ∧ C.H0 C.ad.la ≠ none ∧ C.H0 C.ad.ca ≠ none) (hx : ∀ fs, o ≠ .xd fs := by intro fs q; cases q) :
    Rel K C env w σ G H ∧ H D = some o ∧ G D = none ∧ NoOwn env σ D := by
  refine ⟨⟨R.sub, R.len, fun i sd h => ?_, R.sep, R.st, s0, fun b u e m => ?_, fun b u e => ?_, R.tb, fun p hp => ?_⟩, R.fr D o (show upd C.H0 D o D = some o from upd_same) nm, ?_, fun i ys h e => ?_⟩
  · obtain ⟨v, h1, h2⟩ := R.slot i sd h
    refine ⟨v, h1, ?_⟩
    cases sd with
    | d x => exact h2
    | own xs =>
      obtain ⟨a, vs, rfl, ha, hd, hga, h0a⟩ := h2
      have h0a : upd C.H0 D o a = none := h0a
      refine ⟨a, vs, rfl, ha, hd, hga, ?_⟩
      by_cases hb : a = D
      · rw [hb]; exact h0
      · rw [upd_ne hb] at h0a; exact h0a
    | st => exact h2
    | dic kvs => exact h2
    | l x => exact h2
    | od kvs =>
      obtain ⟨a, vs, rfl, ha, hd, hga, h0a⟩ := h2
      have h0a : upd C.H0 D o a = none := h0a
      refine ⟨a, vs, rfl, ha, hd, hga, ?_⟩
      by_cases hb : a = D
      · rw [hb]; exact h0
      · rw [upd_ne hb] at h0a; exact h0a
    | ex b d p =>
      refine ⟨h2.1, fun y hy => ?_⟩
      obtain ⟨dd, u, z1, z2, z3, z4⟩ := h2.2 y hy
      have z2 : upd C.H0 D o dd = some (.xd [("place", u)]) := z2
      refine ⟨dd, u, z1, ?_, z3, z4⟩
      by_cases hb : dd = D
      · rw [hb, upd_same] at z2
        exact absurd (Option.some.inj z2) (hx _)
      · rw [upd_ne hb] at z2; exact z2
    | scr n =>
      obtain ⟨a, xs, h3, h4, h5⟩ := h2
      refine ⟨a, xs, h3, h4, ?_⟩
      rcases h5 with ⟨ob, h5, h6⟩ | h5
      · have h5 : upd C.H0 D o a = some (.frz ob (.lst xs)) := h5
        refine .inl ⟨ob, ?_, h6⟩
        by_cases hb : a = D
        · rw [hb, upd_same] at h5
          exact absurd (Option.some.inj h5) (ho _ _)
        · rw [upd_ne hb] at h5; exact h5
      · exact .inr h5
  · have hb : b ≠ D := ne_of_none e h0
    exact R.fr b u (show upd C.H0 D o b = some u by rw [upd_ne hb]; exact e) m
  · have hb : b ≠ D := ne_of_none e h0
    have q := R.gr b u (show upd C.H0 D o b = some u by rw [upd_ne hb]; exact e)
    have q' : G b = if b = D then none else C.G0 b := q
    rw [if_neg hb] at q'
    exact q'
  · have q : upd C.H0 D o p.1 ≠ none := R.tb0 p hp
    rwa [upd_ne fun z => nm (.inr (List.mem_map.mpr ⟨p, hp, z⟩))] at q
  · have q := R.gr D o (show upd C.H0 D o D = some o from upd_same)
    have q' : G D = if D = D then none else C.G0 D := q
    rw [if_pos rfl] at q'
    exact q'
  · obtain ⟨v, h1, a, vs, rfl, ha, hd, hga, h0a⟩ := R.slot i _ h
    rw [h1] at e
    cases e
    have h0a : upd C.H0 D o D = none := h0a
    rw [upd_same] at h0a
    cases h0a
def wipeE (env : Ev) : List Nat → Ev
  | [] => env
  | v :: vs => (wipeE env vs).set v none
theorem wipeE_length (env : Ev) : ∀ vs : List Nat, (wipeE env vs).length = env.length
  | [] => rfl
  | v :: vs => by unfold wipeE; rw [List.length_set, wipeE_length env vs]
theorem wipeE_some {env : Ev} {i : Nat} {x : SD} : ∀ {vs : List Nat}, (wipeE env vs)[i]? = some (some x) → env[i]? = some (some x) ∧ i ∉ vs
  | [], h => ⟨h, by simp⟩
  | v :: vs, h => by
    unfold wipeE at h
    by_cases hi : v = i
    · subst hi
      by_cases hv : v < (wipeE env vs).length
      · rw [List.getElem?_set_self hv] at h; cases h
      · rw [List.getElem?_eq_none (by simpa using hv)] at h; cases h
    · rw [List.getElem?_set_ne hi] at h
      obtain ⟨h1, h2⟩ := wipeE_some h
      exact ⟨h1, by simp only [List.mem_cons, not_or]; exact ⟨fun e => hi e.symm, h2⟩⟩
theorem wipe_get {σ : L2.St} {i : Nat} : ∀ {vs : List Nat}, i ∉ vs → (wipe σ vs)[i]? = σ[i]?
  | [], _ => rfl
  | v :: vs, h => by
    simp only [List.mem_cons, not_or] at h
    unfold wipe
    rw [List.getElem?_set_ne (Ne.symm h.1)]
    exact wipe_get h.2
/-- .. behind the comprehension its names are what they were (own lists: forgotten) -/
def keepS : Option (Option SD) → Option SD
  | some (some (.d x)) => some (.d x)
  | some (some .st) => some .st
  | _ => none
def rst (env0 env : Ev) : List Nat → Ev
  | [] => env
  | v :: vs => (rst env0 env vs).set v (keepS env0[v]?)
theorem rst_length (env0 env : Ev) : ∀ vs : List Nat, (rst env0 env vs).length = env.length
  | [] => rfl
  | v :: vs => by unfold rst; rw [List.length_set, rst_length env0 env vs]
theorem rst_in {env0 env : Ev} {i : Nat} {x : SD} : ∀ {vs : List Nat}, i ∈ vs → (rst env0 env vs)[i]? = some (some x) → env0[i]? = some (some x) ∧ (∀ xs, x ≠ .own xs) ∧ (∀ xs, x ≠ .dic xs) ∧ (∀ xs, x ≠ .od xs)
  | [], h, _ => by simp at h
  | v :: vs, h, e => by
    unfold rst at e
    by_cases hi : v = i
    · subst hi
      have hv : v < (rst env0 env vs).length := by
        have := (List.getElem?_eq_some_iff.mp e).1
        rwa [List.length_set] at this
      rw [List.getElem?_set_self hv] at e
      unfold keepS at e
      split at e
      · cases e; exact ⟨by assumption, (fun _ z => by cases z), (fun _ z => by cases z), (fun _ z => by cases z)⟩
      · cases e; exact ⟨by assumption, (fun _ z => by cases z), (fun _ z => by cases z), (fun _ z => by cases z)⟩
      · cases e
    · rw [List.getElem?_set_ne hi] at e
      have hm : i ∈ vs := by
        rcases List.mem_cons.mp h with z | z
        · exact absurd z.symm hi
        · exact z
      exact rst_in hm e
theorem rst_out {env0 env : Ev} {i : Nat} : ∀ {vs : List Nat}, i ∉ vs → (rst env0 env vs)[i]? = env[i]?
  | [], _ => rfl
  | v :: vs, h => by
    simp only [List.mem_cons, not_or] at h
    unfold rst
    rw [List.getElem?_set_ne (Ne.symm h.1)]
    exact rst_out h.2
theorem Rel.wiped {K : PySem.W.Frag} {C : Ct} {env : Ev} {w : W} {σ : L2.St} {G H : Hp} (R : Rel K C env w σ G H) (vs : List Nat) : Rel K C (wipeE env vs) w (wipe σ vs) G H where
  sub := R.sub
  len := by rw [wipeE_length, wipe_length]; exact R.len
  slot := fun i sd h => by
    obtain ⟨h1, hn⟩ := wipeE_some h
    obtain ⟨v, h2, h3⟩ := R.slot i sd h1
    exact ⟨v, by rw [wipe_get hn]; exact h2, h3⟩
  sep := fun i j xs ys a e1 e2 s1 s2 => by
    obtain ⟨h1, n1⟩ := wipeE_some e1
    obtain ⟨h2, n2⟩ := wipeE_some e2
    rw [wipe_get n1] at s1
    rw [wipe_get n2] at s2
    exact R.sep i j xs ys a h1 h2 s1 s2
  st := R.st
  st0 := R.st0
  fr := R.fr
  gr := R.gr
  tb := R.tb
  tb0 := R.tb0
theorem Rel.unwiped {K : PySem.W.Frag} {C : Ct} {env0 env : Ev} {w0 w : W} {σ : L2.St} {G0 H0 G H : Hp} {vs : List Nat} (R0 : Rel K C env0 w0 σ G0 H0) (R : Rel K C env w (wipe σ vs) G H) (s : Same G0 G) (hw : w.isSome = w0.isSome) :
    Rel K C (rst env0 env vs) w σ G H where
  sub := R.sub
  len := by rw [rst_length, R.len, wipe_length]
  slot := fun i sd h => by
    by_cases hi : i ∈ vs
    · obtain ⟨h1, hn, hn2, hn3⟩ := rst_in hi h
      obtain ⟨v, h2, h3⟩ := R0.slot i sd h1
      refine ⟨v, h2, ?_⟩
      cases sd with
      | d x => exact dp_mono s h3
      | dic kvs => exact absurd rfl (hn2 kvs)
      | own xs => exact absurd rfl (hn xs)
      | st => exact ⟨by rw [hw]; exact h3.1, h3.2⟩
      | l x => exact Dl.mono s h3
      | ex b d p => exact ExOk.mono h3 s hw
      | od kvs => exact absurd rfl (hn3 kvs)
      | scr n =>
        obtain ⟨a, xs, h4, h5, h6⟩ := h3
        refine ⟨a, xs, h4, h5, ?_⟩
        rcases h6 with ⟨o, h6, h7⟩ | h6
        · exact .inl ⟨o, h6, fun z => h7 (z.w hw.symm)⟩
        · exact .inr h6
    · rw [rst_out hi] at h
      obtain ⟨v, h2, h3⟩ := R.slot i sd h
      rw [wipe_get hi] at h2
      exact ⟨v, h2, h3⟩
  sep := fun i j xs ys a e1 e2 s1 s2 => by
    have no : ∀ (l : Nat) (zs : List PyData), (rst env0 env vs)[l]? = some (some (.own zs)) → l ∉ vs := fun l zs e hl => (rst_in hl e).2.1 zs rfl
    have n1 := no i xs e1
    have n2 := no j ys e2
    rw [rst_out n1] at e1
    rw [rst_out n2] at e2
    exact R.sep i j xs ys a e1 e2 (by rw [wipe_get n1]; exact s1) (by rw [wipe_get n2]; exact s2)
  st := R.st
  st0 := R.st0
  fr := R.fr
  gr := R.gr
  tb := R.tb
  tb0 := R.tb0
def mYes : Tx := fun env w => some (true, env, w)
theorem tT_yes {K : PySem.W.Frag} {σ : L2.St} {H : Hp} {Q : Bool → Hp → Prop} (h : tT K mYes σ H Q) : tYes σ H Q := by
  obtain ⟨C, G, env, w, r, env', w', R, hm, k⟩ := h
  cases hm
  exact k G H R (Same.refl G) rfl
abbrev DTs (X : Cx) (es : List Expr) (m : Tx) : Prop := PTs X es (tT X.K m)
theorem dts_nil {X : Cx} : DTs X [] mYes := ⟨fun pins s σ H Q I h => pts_nil.run pins s σ H Q I (tT_yes h)⟩
theorem dts_one {X : Cx} {e : Expr} {m : Tx} (h : DT X e m) : DTs X [e] m := pts_one h
def lcLoop (g : Gx) (tt : Tx) (me : Ex) (vs : List Nat) : List PyData → List PyData → Ev → W → Option (List PyData × Ev × W)
  | [], acc, env, w => some (acc, env, w)
  | d :: ds, acc, env, w => match g d env with
    | some e1 => (match tt e1 w with
      | some (true, e2, w2) => (match me e2 w2 with
        | some (.d y, e3, w3) => lcLoop g tt me vs ds (acc ++ [y]) (wipeE e3 vs) w3
        | _ => none)
      | some (false, e2, w2) => lcLoop g tt me vs ds acc (wipeE e2 vs) w2
      | none => none)
    | none => none
def mLc (mi : Lx) (g : Gx) (tt : Tx) (me : Ex) (vs : List Nat) : Lx := fun env w => match mi env w with
  | some (ds, e1, w1) => (match lcLoop g tt me vs ds [] (wipeE e1 vs) w1 with
    | some (ys, e2, w2) => some (ys, rst e1 e2 vs, w2)
    | none => none)
  | none => none
theorem wipe_idem {σ : L2.St} : ∀ {vs : List Nat}, wipe (wipe σ vs) vs = wipe σ vs := by
  intro vs
  apply List.ext_getElem?
  intro i
  by_cases hi : i ∈ vs
  · have : ∀ (τ : L2.St) (us : List Nat), i ∈ us → (wipe τ us)[i]? = if i < τ.length then some none else none := by
      intro τ us
      induction us with
      | nil => intro h; simp at h
      | cons u us ih =>
        intro h
        unfold wipe
        by_cases hu : u = i
        · subst hu
          rw [List.getElem?_set]
          simp [wipe_length]
        · rw [List.getElem?_set_ne hu]
          apply ih
          rcases List.mem_cons.mp h with z | z
          · exact absurd z.symm hu
          · exact z
    rw [this _ _ hi, this _ _ hi, wipe_length]
  · rw [wipe_get hi]
theorem lc_O {K : PySem.W.Frag} {mi : Lx} {g : Gx} {tt : Tx} {me : Ex} {vs : List Nat} {σ : L2.St} {H : Hp} {Q : VK} (h : tO K (mLc mi g tt me vs) σ H Q) : tLc (iD K mi) (gD K vs g) (tT K tt) (tD K me) vs σ H Q := by
  obtain ⟨C, G, env, w, r, env', w', R, hm, k⟩ := h
  unfold mLc at hm
  split at hm
  · rename_i ds e1 w1 h1
    split at hm
    · rename_i ys e2 w2 h2
      cases hm
      refine ⟨C, G, env, w, _, _, _, R, h1, fun J G1 H1 R1 s1 i1 it D hD => ?_⟩
      have h0 : C.H0 D = none := R1.none0 hD
      have nmt : ¬ Mt C.ad w1 D := R1.not_Mt h0
      refine ⟨fun i m H2 => m = ds.length - i ∧ i ≤ ds.length ∧ ∃ G2 env2 w2 acc vacc, Rel K C env2 w2 (wipe σ vs) G2 H2 ∧ H2 D = some (.lst vacc) ∧ DqA K G2 vacc acc ∧ G2 D = none ∧ NoOwn env2 (wipe σ vs) D ∧ Same G1 G2 ∧ w2.isSome = w1.isSome ∧ acc.length ≤ i ∧
        lcLoop g tt me vs (ds.drop i) acc env2 w2 = some (r, e2, w'), ⟨ds.length, by simp, Nat.zero_le _, G1, wipeE e1 vs, w1, [], [], ?_⟩, ?_⟩
      · obtain ⟨R2, q1, q2, q3, q4⟩ := new_O (vs := []) (R1.wiped vs) hD
        exact ⟨R2, q1, .nil, q2, q4, Same.refl G1, rfl, by simp, by simpa using h2⟩
      · rintro i m H2 ⟨rfl, hi, G2, env2, w2', acc, vacc, R2, hD2, dA, gD2, no2, s2, i2, ha, hl⟩
        have hz := it.small
        by_cases hlt : i < ds.length
        · refine .inr ⟨it.go i G2 H2 hlt s2 R2.sub, fun H3 => ∃ G2 env2 w2 acc vacc, Rel K C env2 w2 (wipe σ vs) G2 H3 ∧ H3 D = some (.lst vacc) ∧ DqA K G2 vacc acc ∧ G2 D = none ∧ NoOwn env2 (wipe σ vs) D ∧ Same G1 G2 ∧ w2.isSome = w1.isSome ∧ acc.length ≤ i + 1 ∧
            lcLoop g tt me vs (ds.drop (i + 1)) acc env2 w2 = some (r, e2, w'), fun H' q => ⟨ds.length - (i + 1), by omega, rfl, hlt, q⟩, fun x H' y => ?_⟩
          obtain ⟨d, G3, hd, ex, dp⟩ := it.yld i G2 H2 x H' hlt s2 R2.sub y
          have hdrop : ds.drop i = d :: ds.drop (i + 1) := by
            rw [List.drop_eq_getElem_cons hlt]
            rw [List.getElem?_eq_getElem hlt] at hd
            cases hd
            rfl
          rw [hdrop] at hl
          simp only [lcLoop] at hl
          have R3 := R2.ext ex
          have hD3 : H' D = some (.lst vacc) := ex.hh _ _ hD2
          have gD3 : G3 D = none := (ex.old _ _ hD2).trans gD2
          have R3g := R3.grd (o := .lst vacc) hD3 gD3 h0 no2
          have no : ∀ ob u, HO.lst vacc ≠ .frz ob u := fun _ _ z => by cases z
          split at hl
          · rename_i e3 h3
            refine ⟨C.grd D (.lst vacc), G3, env2, w2', d, e3, R3g, dp, h3, fun σ4 R4 q4 => ⟨q4.trans wipe_idem, ?_⟩⟩
            have back : ∀ {env5 : Ev} {w5 : W} {G5 H5 : Hp}, Rel K (C.grd D (.lst vacc)) env5 w5 σ4 G5 H5 → w5.isSome = w2'.isSome → Rel K C (wipeE env5 vs) w5 (wipe σ vs) G5 H5 ∧ H5 D = some (.lst vacc) ∧ G5 D = none ∧ NoOwn (wipeE env5 vs) (wipe σ vs) D := fun {env5 w5 G5 H5} R5 i5 => by
              have i51 : w5.isSome = w1.isSome := i5.trans i2
              obtain ⟨R6, p1, p2, p3⟩ := R5.ungrd h0 no (fun z => nmt (z.w i51.symm)) (fun z => R1.st0 (by rw [← i51]; exact z))
              have e4 : wipe σ4 vs = wipe σ vs := q4.trans wipe_idem
              have R7 := R6.wiped vs
              rw [e4] at R7
              refine ⟨R7, p1, p2, fun j ys ej sj => ?_⟩
              obtain ⟨z1, z2⟩ := wipeE_some ej
              rw [← e4, wipe_get z2] at sj
              exact p3 j ys z1 sj
            split at hl
            · rename_i e5 w5 h5
              split at hl
              · rename_i y5 e6 w6 h6
                refine ⟨C.grd D (.lst vacc), G3, e3, w2', _, _, _, R4, h5, fun G5 H5 R5 s5 i5 => ?_⟩
                refine iteT ⟨C.grd D (.lst vacc), G5, e5, w5, _, _, _, R5, h6, fun v G6 H6 R6 s6 i6 a6 => ?_⟩
                obtain ⟨R7, p1, p2, p3⟩ := back R6 (i6.trans i5)
                have hlen := dpA_len dA
                refine ⟨vacc, p1, by omega, G6, wipeE e6 vs, w6, acc ++ [y5], vacc ++ [v], ?_, upd_same, dpA_app (dpA_mono (ex.gg.trans (s5.trans s6)) dA) (.cons a6 .nil), p2, p3, s2.trans (ex.gg.trans (s5.trans s6)), i6.trans (i5.trans i2), by simp; omega, hl⟩
                -- the list at D has grown
                have hz6 : C.H0 D = none := h0
                refine ⟨fun b o e => ?_, R7.len, fun j sd e => ?_, R7.sep, fun s e => ?_, R7.st0, fun b o e m => ?_, R7.gr, R7.tb.hset p1, R7.tb0⟩
                · rw [upd_ne]
                  · exact R7.sub b o e
                  · rintro rfl
                    rw [p2] at e; cases e
                · obtain ⟨v', z1, z2⟩ := R7.slot j sd e
                  refine ⟨v', z1, ?_⟩
                  cases sd with
                  | d x => exact z2
                  | own zs =>
                    obtain ⟨b, ws, rfl, hb, hd', hg', h0'⟩ := z2
                    refine ⟨b, ws, rfl, ?_, hd', hg', h0'⟩
                    rw [upd_ne]
                    · exact hb
                    · rintro rfl
                      exact p3 j zs e z1
                  | st => exact z2
                  | dic kvs => exact z2
                  | scr n => exact z2
                  | l x => exact z2
                  | ex b d p => exact z2
                  | od kvs =>
                    obtain ⟨b, ws, rfl, hb, hd', hg', h0'⟩ := z2
                    refine ⟨b, ws, rfl, ?_, hd', hg', h0'⟩
                    rw [upd_ne]
                    · exact hb
                    · rintro rfl
                      rw [p1] at hb; cases hb
                · have q := R7.st s e
                  have ne := R7.own_ne hz6 (by rw [e]; rfl)
                  exact ⟨by rw [upd_ne ne.1.symm]; exact q.sa, by rw [upd_ne ne.2.1.symm]; exact q.la, by rw [upd_ne ne.2.2.symm]; exact q.ca, q.gs, q.gl, q.gc, q.ne, q.tk⟩
                · rw [upd_ne]
                  · exact R7.fr b o e m
                  · rintro rfl
                    rw [hz6] at e; cases e
              · cases hl
            · rename_i e5 w5 h5
              refine ⟨C.grd D (.lst vacc), G3, e3, w2', _, _, _, R4, h5, fun G5 H5 R5 s5 i5 => iteF ?_⟩
              obtain ⟨R7, p1, p2, p3⟩ := back R5 i5
              exact ⟨G5, wipeE e5 vs, w5, acc, vacc, R7, p1, dpA_mono (ex.gg.trans s5) dA, p2, p3, s2.trans (ex.gg.trans s5), i5.trans i2, by omega, hl⟩
            · cases hl
          · cases hl
        · have e : i = ds.length := by omega
          refine .inl ⟨it.stop i G2 H2 e s2 R2.sub, ?_⟩
          rw [e, List.drop_length] at hl
          cases hl
          refine k D vacc G2 H2 (R1.unwiped R2 s2 i2) (s1.trans s2) (i2.trans i1) hD2 dA gD2 h0 fun j ys ej sj => ?_
          have nj : j ∉ vs := fun z => (rst_in z ej).2.1 ys rfl
          rw [rst_out nj] at ej
          exact no2 j ys ej (by rw [wipe_get nj]; exact sj)
    · cases hm
  · cases hm
theorem do_lc {X : Cx} {e : Expr} {mi : Lx} {g : Gx} {tt : Tx} {me : Ex} {vs : List Nat} (h : PE X e (tLc (iD X.K mi) (gD X.K vs g) (tT X.K tt) (tD X.K me) vs)) : DO X e (mLc mi g tt me vs) := PE.weak h fun _ _ _ h => lc_O h
theorem ds_setLc {X : Cx} {s : Stmt} {i : Nat} {mi : Lx} {g : Gx} {tt : Tx} {me : Ex} {vs : List Nat} (h : PS X s (tAsg (tLc (iD X.K mi) (gD X.K vs g) (tT X.K tt) (tD X.K me) vs) (gName i))) : DSt X s (mSet i (mFz (mLc mi g tt me vs))) :=
  ds_set (PS.weak h fun _ _ _ q => lc_O (do_fz q))

def mPar (i j : Nat) (ma mb : Ex) : Sx := fun env w => match mCons ma (mCons mb mNil) env w with
  | some ([r1, r2], e1, w1) => some (.nx, (e1.set i (some r1)).set j (some r2), w1)
  | _ => none
theorem ds_par {X : Cx} {s : Stmt} {i j : Nat} {ma mb : Ex} (h : PS X s (tPar i j (tA X.K (mCons ma (mCons mb mNil))))) : DSt X s (mPar i j ma mb) := PS.weak h fun D σ H ⟨C, G, env, w, fl, env', w', R, hm, k⟩ => by
  unfold mPar at hm
  split at hm
  · rename_i r1 r2 e1 w1 h1
    cases hm
    refine ⟨C, G, env, w, _, _, _, R, h1, fun vs G1 H1 R1 s1 i1 a1 => ?_⟩
    cases a1 with
    | cons a1 b1 =>
      cases b1 with
      | cons a2 b2 =>
        cases b2
        exact ⟨_, _, rfl, k _ G1 H1 ((R1.set a1 i).set a2 j) s1 i1⟩
  · cases hm
def mPar3 (i j l : Nat) (ma mb mc : Ex) : Sx := fun env w => match mCons ma (mCons mb (mCons mc mNil)) env w with
  | some ([r1, r2, r3], e1, w1) => some (.nx, ((e1.set i (some r1)).set j (some r2)).set l (some r3), w1)
  | _ => none
theorem ds_par3 {X : Cx} {s : Stmt} {i j l : Nat} {ma mb mc : Ex} (h : PS X s (tPar3 i j l (tA X.K (mCons ma (mCons mb (mCons mc mNil)))))) : DSt X s (mPar3 i j l ma mb mc) := PS.weak h fun D σ H ⟨C, G, env, w, fl, env', w', R, hm, k⟩ => by
  unfold mPar3 at hm
  split at hm
  · rename_i r1 r2 r3 e1 w1 h1
    cases hm
    refine ⟨C, G, env, w, _, _, _, R, h1, fun vs G1 H1 R1 s1 i1 a1 => ?_⟩
    cases a1 with
    | cons a1 b1 =>
      cases b1 with
      | cons a2 b2 =>
        cases b2 with
        | cons a3 b3 =>
          cases b3
          exact ⟨_, _, _, rfl, k _ G1 H1 (((R1.set a1 i).set a2 j).set a3 l) s1 i1⟩
  · cases hm
/-- xs, b = [..], y: the first an own list -/
def mParO (i j : Nat) (ma : Lx) (mb : Ex) : Sx := fun env w => match ma env w with
  | some (xs, e1, w1) => (match mb e1 w1 with
    | some (r, e2, w2) => some (.nx, (e2.set i (some (.own xs))).set j (some r), w2)
    | none => none)
  | none => none
theorem ds_parO {X : Cx} {s : Stmt} {i j : Nat} {ma : Lx} {mb : Ex} (h : PS X s (tPar i j (tCons (tO X.K ma) (tCons (tD X.K mb) tNil)))) : DSt X s (mParO i j ma mb) := PS.weak h fun D σ H ⟨C, G, env, w, fl, env', w', R, hm, k⟩ => by
  unfold mParO at hm
  split at hm
  · rename_i xs e1 w1 h1
    split at hm
    · rename_i r e2 w2 h2
      cases hm
      refine ⟨C, G, env, w, _, _, _, R, h1, fun a vs G1 H1 R1 s1 i1 ha hd hg h0 hne => ?_⟩
      have no : ∀ ob u, HO.lst vs ≠ .frz ob u := fun _ _ z => by cases z
      refine ⟨C.grd a (.lst vs), G1, e1, w1, _, _, _, R1.grd ha hg h0 hne, h2, fun v G2 H2 R2 s2 i2 a2 => ?_⟩
      obtain ⟨R3, p1, p2, p3⟩ := R2.ungrd h0 no (fun z => R1.not_Mt h0 (z.w i2.symm)) (fun z => R1.st0 (by rw [← i2]; exact z))
      refine ⟨_, _, rfl, k _ G2 H2 ((R3.setO p1 (dpA_mono s2 hd) p2 h0 p3 i).set ?_ j) (s1.trans s2) (i2.trans i1)⟩
      exact a2
    · cases hm
  · cases hm
/-- x op= e -/
def mAug (g : PyData → PyData → Option PyData) (i : Nat) (m : Ex) : Sx := fun env w => match env[i]? with
  | some (some (.d x)) => seqE m (fun y e1 w1 => match g x y with
    | some z => some (.nx, e1.set i (some (.d z)), w1)
    | none => none) env w
  | _ => none
theorem ds_aug {X : Cx} {s : Stmt} {i : Nat} {m : Ex} {op : Operator} {g : PyData → PyData → Option PyData} (ho : OpD X (inplaceOp op) g) (h : PS X s (tAug i (tD X.K m) (rSem X (inplaceOp op)))) : DSt X s (mAug g i m) := PS.weak h fun D σ H ⟨C, G, env, w, fl, env', w', R, hm, k⟩ => by
  unfold mAug at hm
  split at hm
  · rename_i x h0
    obtain ⟨y, e1, w1, h1, hm⟩ := seqE_inv hm
    split at hm
    · rename_i z h2
      cases hm
      obtain ⟨v, q1, q2⟩ := R.slot i _ h0
      refine ⟨v, q1, C, G, env, w, _, _, _, R, h1, fun u G1 H1 R1 s1 i1 a1 => ?_⟩
      intro pins s σ' vv uu I rx ry
      exact ho pins s σ' G1 H1 v u vv uu x y z _ I rx ry R1.sub (dp_mono s1 q2) a1 h2 fun zz G' H' e dz => k _ G' H' ((R1.ext e).set (r := .d z) dz i) (s1.trans e.gg) i1
    · cases hm
  · cases hm
theorem oi_addI {X : Cx} : OpD X (inplaceOp .Add) addI := opD_int0 iop_add fun _ _ _ => .int _
theorem oi_sub {X : Cx} : OpD X (inplaceOp .Sub) subI := opD_int0 iop_sub fun _ _ _ => .int _
end Dn

set_option maxHeartbeats 4000000
namespace Dn
open PySem PySem.Spec PyProof.Rows L2

def MtD (X : Cx) (id : String) (g : PyData → List PyData → Option PyData) : Prop :=
  ∀ (pins : List (Addr × Obj)) (s : Shared) (σ : L2.St) (G H : Hp) (x : V) (v : Value) (xs : List V) (us : List Value) (dx : PyData) (ds : List PyData) (dz : PyData) (Q : VK), Inv X pins σ H s → RelV x v → Vals xs us → Same G H → Dq X.K G x dx → DqA X.K G xs ds → g dx ds = some dz →
    (∀ z G' H', Ext G H G' H' → Dq X.K G' z dz → Q z H') → wpAny (model X.prog X.w) X.A (call (.builtin id) (v :: us)) (EP X pins σ Q) X.xe s
def rSemM (X : Cx) (id : String) : V → List V → Hp → VK → Prop := fun x xs H Q => ∀ (pins : List (Addr × Obj)) (s : Shared) (σ : L2.St) (v : Value) (us : List Value), Inv X pins σ H s → RelV x v → Vals xs us → wpAny (model X.prog X.w) X.A (call (.builtin id) (v :: us)) (EP X pins σ Q) X.xe s
theorem mt_sem {X : Cx} {id : String} : MtR X id (rSemM X id) := fun pins s σ H x xs v us Q I rx r h => h pins s σ v us I rx r
theorem mtD_of {X : Cx} {id : String} {g : PyData → List PyData → Option PyData} {r : V → List V → Hp → VK → Prop} (h : MtR X id r)
    (k : ∀ (G H : Hp) (x : V) (xs : List V) (dx : PyData) (ds : List PyData) (dz : PyData) (Q : VK), Same G H → Dq X.K G x dx → DqA X.K G xs ds → g dx ds = some dz → (∀ z G' H', Ext G H G' H' → Dq X.K G' z dz → Q z H') → r x xs H Q) : MtD X id g :=
  fun pins s σ G H x v xs us dx ds dz Q I rx r sg hx hs hg q => h pins s σ H x xs v us Q I rx r (k G H x xs dx ds dz Q sg hx hs hg q)
/-- a text's method -/
def mMtS (g : PyData → List PyData → Option PyData) (mo : Ex) (ms : Ax) : Ex := seqE mo fun x env w => match x with
  | .str _ => argsD ms (fun ds => optE (g x ds)) env w
  | _ => none
theorem mtS_run {X : Cx} {id : String} {g : PyData → List PyData → Option PyData} {mo : Ex} {ms : Ax} (hc : MtD X id g) {σ : L2.St} {H : Hp} {Q : VK} (h : tD X.K (mMtS g mo ms) σ H Q) : tBM X.K "str" (rSemM X id) (tD X.K mo) (tA X.K ms) σ H Q := by
  obtain ⟨C, G, env, w, r, env', w', R, hm, k⟩ := h
  obtain ⟨x, e1, w1, h1, hm⟩ := seqE_inv hm
  split at hm
  · obtain ⟨rs, ds, e2, w2, h2, h3, hm⟩ := argsD_inv hm
    obtain ⟨z, h4, rfl, rfl, rfl⟩ := optE_inv hm
    refine ⟨C, G, env, w, _, _, _, R, h1, fun v G1 H1 R1 s1 i1 a1 => ?_⟩
    cases a1 with
    | str =>
      refine ⟨rfl, C, G1, e1, w1, _, _, _, R1, h2, fun vs G2 H2 R2 s2 i2 a2 => ?_⟩
      intro pins s σ' v us I rx r
      exact hc pins s σ' G2 H2 _ v vs us _ ds z Q I rx r R2.sub (.str _) (dsOf_ok a2 h3) h4 fun zz G' H' e dz => k zz G' H' (R2.ext e) (s1.trans (s2.trans e.gg)) (i2.trans i1) dz
  · cases hm
section
variable {X : Cx} {o e : Expr} {es : List Expr} {mo : Ex} {ms : Ax} {name : Str} {apos cpos : Pos} {id : String} {g : PyData → List PyData → Option PyData}
theorem de_mtS (slot : Slot "str" name id) (hty : typeOf (.builtin id) = pure (.type "method_descriptor")) (hm : MtD X id g) (ho : DE X o mo) (ha : DA X (e :: es) ms)
    (hbase : attributeBase o name X.env (eval o X.env) = eval o X.env := by rfl)
    (hfew : ((backTo cpos (starEach (e :: es) X.env)).all (fun x => !x.1) && (backToKw cpos (keywordEach [] X.env)).all (fun x => x.1.isSome)
      && decide ((e :: es).length + ([] : List Keyword).length + (if ([] : List Keyword).isEmpty then 0 else 1) < 30)) = true := by rfl)
    (hline : (apos.endLine == cpos.line) = true := by rfl) (hs : starEach (e :: es) X.env = (false, eval e X.env) :: starEach es X.env := by rfl) (hplain : (backTo cpos (starEach es X.env)).any (·.1) = false := by rfl) :
    DE X (.Call (.Attribute o name apos) (e :: es) [] cpos) (mMtS g mo ms) := PE.weak (pe_bm PySem.F.plainAttrs_str slot hty mt_sem ho ha hbase hfew hline hs hplain) fun _ _ _ h => mtS_run hm h
def s1b (f : Str → Str → Bool) : PyData → List PyData → Option PyData
  | .str a, [.str b] => some (.bool (f a b))
  | _, _ => none
theorem s1b_inv {f : Str → Str → Bool} {x z : PyData} {ds : List PyData} (h : s1b f x ds = some z) : ∃ a b, x = .str a ∧ ds = [.str b] ∧ z = .bool (f a b) := by
  unfold s1b at h
  split at h
  · cases h; exact ⟨_, _, rfl, rfl, rfl⟩
  · cases h
def endsD : PyData → List PyData → Option PyData := s1b Txt.endswith
theorem md_ends : MtD X "str.endswith" endsD := mtD_of mt_endswith fun G H x xs dx ds dz Q sg hx hs hg k => by
  obtain ⟨a, b, rfl, rfl, rfl⟩ := s1b_inv hg
  obtain ⟨v, rfl, h⟩ := dqA1 hs
  cases hx; cases h
  exact ⟨_, _, rfl, rfl, k _ G H (Ext.refl sg) (.bl _)⟩
def starts2D : PyData → List PyData → Option PyData
  | .str a, [.str b, .int i] => some (.bool (Txt.startswith3 a b i))
  | _, _ => none
theorem md_starts2 : MtD X "str.startswith" starts2D := mtD_of mt_startswith3 fun G H x xs dx ds dz Q sg hx hs hg k => by
  unfold starts2D at hg
  split at hg
  · cases hg
    obtain ⟨v, u, rfl, h, h'⟩ := dqA2 hs
    cases hx; cases h; cases h'
    exact ⟨_, _, _, rfl, rfl, k _ G H (Ext.refl sg) (.bl _)⟩
  · cases hg
end

def idxOf (z : Str) : List Str → Nat → Option Nat
  | [], _ => none
  | y :: r, n => if y = z then some n else idxOf z r (n + 1)
theorem idxOf_ok {z : Str} : ∀ {ys : List Str} {n j : Nat}, idxOf z ys n = some j → n ≤ j ∧ ys[j - n]? = some z ∧ ∀ m, m < j - n → ys[m]? ≠ some z
  | [], _, _, h => by cases h
  | y :: r, n, j, h => by
    unfold idxOf at h
    split at h
    · rename_i e
      cases h
      subst e
      refine ⟨Nat.le_refl _, by simp, fun m hm => ?_⟩
      omega
    · rename_i e
      obtain ⟨h1, h2, h3⟩ := idxOf_ok h
      have hj : j - n = (j - (n + 1)) + 1 := by omega
      refine ⟨by omega, by rw [hj]; simpa using h2, fun m hm => ?_⟩
      cases m with
      | zero => intro q; simp at q; exact e q
      | succ m => intro q; exact h3 m (by omega) (by simpa using q)
def idxD (ys : List Str) (ds : List PyData) : Option PyData := match ds with
  | [.str z] => (idxOf z ys 0).map fun (j : Nat) => .int j
  | _ => none
/-- a tuple of texts of the module -/
structure GTup (K : PySem.W.Frag) (mg : Str → Option Value) (x : Str) (ys : List Str) : Prop where
  ex : ∃ a, mg x = some (.ref a) ∧ (∀ H, SqT K H a (ys.map V.str)) ∧ ∃ o, K.lookup a = some o ∧ o.cls = .type "tuple" ∧ o.dict = none
theorem de_gtup {X : Cx} {x : Str} {ys : List Str} {pos : Pos} (h : GTup X.K X.mg x ys) (hg : Gl X x := by rfl) (hd : (x == ("__debug__" : Str)) = false := by decide) : DE X (.Name x pos) (mC (.tuple (ys.map .str))) := by
  obtain ⟨a, h1, h2, _⟩ := h.ex
  exact de_c (pe_glob (v := .ref a) hg h1 rfl hd) fun G => .tup (h2 G) (dpA_strs ys)
theorem de_gidx {X : Cx} {x : Str} {ys : List Str} {e : Expr} {ms : Ax} {pos apos cpos : Pos} (h : GTup X.K X.mg x ys) (ha : DA X [e] ms) (hg : Gl X x := by rfl) (hd : (x == ("__debug__" : Str)) = false := by decide)
    (hbase : attributeBase (.Name x pos) "index" X.env (eval (.Name x pos) X.env) = eval (.Name x pos) X.env := by rfl)
    (hfew : ((backTo cpos (starEach [e] X.env)).all (fun x => !x.1) && (backToKw cpos (keywordEach [] X.env)).all (fun x => x.1.isSome)
      && decide ([e].length + ([] : List Keyword).length + (if ([] : List Keyword).isEmpty then 0 else 1) < 30)) = true := by rfl)
    (hline : (apos.endLine == cpos.line) = true := by rfl) (hs : starEach [e] X.env = (false, eval e X.env) :: starEach [] X.env := by rfl) (hplain : (backTo cpos (starEach [] X.env)).any (·.1) = false := by rfl) :
    DE X (.Call (.Attribute (.Name x pos) "index" apos) [e] [] cpos) (mB (idxD ys) ms) := by
  obtain ⟨a, h1, h2, o, h3, h4, h5⟩ := h.ex
  refine PE.weak (pe_bm PySem.F.plainAttrs_tuple PySem.F.slot_tuple_index PySem.F.type_tuple_index mt_tup_index (pe_glob (v := .ref a) hg h1 rfl hd) ha hbase hfew hline hs hplain) fun σ H Q ⟨C, G, env, w, r, env', w', R, hm, k⟩ => ?_
  obtain ⟨rs, ds, e1, w1, q1, q2, hm⟩ := argsD_inv hm
  obtain ⟨z, q3, rfl, rfl, rfl⟩ := optE_inv hm
  refine ⟨.inr (.inl ⟨rfl, o, h3, h4, h5⟩), C, G, env, w, _, _, _, R, q1, fun vs G1 H1 R1 s1 i1 a1 => ?_⟩
  have dA := dsOf_ok a1 q2
  unfold idxD at q3
  split at q3
  · rename_i zz
    cases e : idxOf zz ys 0 with
    | none => rw [e] at q3; cases q3
    | some j =>
      rw [e] at q3
      cases q3
      obtain ⟨v, rfl, dv⟩ := dqA1 dA
      cases dv
      obtain ⟨_, p2, p3⟩ := idxOf_ok e
      exact ⟨a, ys, zz, j, rfl, rfl, h2 H1, by simpa using p2, by simpa using p3, k _ G1 H1 R1 s1 i1 (show Dq X.K _ _ _ from .int _)⟩
  · cases q3

def tyN : PyData → String
  | .none => "NoneType"
  | .bool _ => "bool"
  | .int _ => "int"
  | .str _ => "str"
  | .list _ => "list"
  | .tuple _ => "tuple"
  | .dict _ => "dict"
def isStr : PyData → Bool
  | .str _ => true
  | _ => false
def isTup : PyData → Bool
  | .tuple _ => true
  | _ => false
theorem ty_of {K : PySem.W.Frag} {G H : Hp} {v : V} {d : PyData} (s : Same G H) (h : Dq K G v d) : TyX K H v (.type (tyN d)) := by
  cases h with
  | non => exact .base .non
  | bl b => exact .base (.bl b)
  | int i => exact .base (.int i)
  | str x => exact .base (.str x)
  | lst h a => exact .base (.lst (s _ _ h))
  | tup h a =>
    rcases h with (h | ⟨o, h⟩) | ⟨o, its, n, h1, h2, _⟩
    · exact .base (.tup (s _ _ h))
    · exact .fTuple (s _ _ h)
    · exact .kTuple h1 h2
def mIs (f : PyData → Bool) (m : Ex) : Ex := seqE m fun x => optE (some (.bool (f x)))
theorem de_is {X : Cx} {a : Expr} {m : Ex} {p p2 pos : Pos} {f : PyData → Bool} {T : String} {x : Str} (ha : DE X a m) (hf : ∀ K G v d, Dq K G v d → kitB (tyN d) T = some (f d)) (hm : X.mg "isinstance" = none) (hx : X.mg x = none) (hv : bootBuiltins x = some (.type T)) (hg : Gl X "isinstance" := by rfl) (hgx : Gl X x := by rfl)
    (hn : x ≠ "__name__" := by decide) (hdb : (x == ("__debug__" : Str)) = false := by decide) (hs : starEach [a, .Name x p2] X.env = (false, eval a X.env) :: starEach [.Name x p2] X.env := by rfl) :
    DE X (.Call (.Name "isinstance" p) [a, .Name x p2] [] pos) (mIs f m) := PE.weak (pe_callB call_isi hg hm (by decide +kernel) (pa_cons ha (pa_cons (pe_bltn (v := .ty T) hgx hx hv rfl hn hdb) pa_nil) hs) (he := hs)) fun σ H Q ⟨C, G, env, w, r, env', w', R, hm, k⟩ => by
  obtain ⟨y, e1, w1, h1, hm⟩ := seqE_inv hm
  obtain ⟨z, h3, rfl, rfl, rfl⟩ := optE_inv hm
  cases h3
  refine ⟨C, G, env, w, _, _, _, R, h1, fun v G1 H1 R1 s1 i1 a1 => ?_⟩
  exact ⟨v, .ty T, _, _, f y, rfl, .ty T, ty_of R1.sub a1, kit_ty (hf _ _ _ _ a1), k _ G1 H1 R1 s1 i1 (show Dq X.K _ _ _ from .bl _)⟩
theorem kit_str : ∀ (K : PySem.W.Frag) (G : Hp) (v : V) (d : PyData), Dq K G v d → kitB (tyN d) "str" = some (isStr d) := fun K G v d h => by
  cases h with
  | non => decide +kernel
  | bl b => exact (by decide +kernel : kitB "bool" "str" = some false)
  | int i => exact (by decide +kernel : kitB "int" "str" = some false)
  | str x => exact (by decide +kernel : kitB "str" "str" = some true)
  | lst h a => exact (by decide +kernel : kitB "list" "str" = some false)
  | tup h a => exact (by decide +kernel : kitB "tuple" "str" = some false)
theorem kit_tup : ∀ (K : PySem.W.Frag) (G : Hp) (v : V) (d : PyData), Dq K G v d → kitB (tyN d) "tuple" = some (isTup d) := fun K G v d h => by
  cases h with
  | non => decide +kernel
  | bl b => exact (by decide +kernel : kitB "bool" "tuple" = some false)
  | int i => exact (by decide +kernel : kitB "int" "tuple" = some false)
  | str x => exact (by decide +kernel : kitB "str" "tuple" = some false)
  | lst h a => exact (by decide +kernel : kitB "list" "tuple" = some false)
  | tup h a => exact (by decide +kernel : kitB "tuple" "tuple" = some true)

def mStar (m : Ex) (ms : Ax) : Ax := seqE m fun x env w => match itemsD x with
  | some ds => (match ms env w with
    | some (rs, e2, w2) => some (ds.map SD.d ++ rs, e2, w2)
    | none => none)
  | none => none
theorem args_of {K : PySem.W.Frag} {ad : Ad} {w : W} {G : Hp} : ∀ {vs : List V} {ds : List PyData}, DqA K G vs ds → ArgsOk K ad w G (ds.map SD.d) vs
  | _, _, .nil => .nil
  | _, _, .cons a b => .cons a (args_of b)
theorem ArgsOk.app {K : PySem.W.Frag} {ad : Ad} {w : W} {G : Hp} : ∀ {vs us : List V} {rs qs : List SD}, ArgsOk K ad w G rs vs → ArgsOk K ad w G qs us → ArgsOk K ad w G (rs ++ qs) (vs ++ us)
  | _, _, _, _, .nil, h => h
  | _, _, _, _, .cons a b, h => .cons a (b.app h)
theorem da_star {X : Cx} {e : Expr} {es : List Expr} {m : Ex} {ms : Ax} {p : Pos} (he : DE X e m) (hr : DA X es ms) (hs : starEach (.Starred e p :: es) X.env = (true, eval e X.env) :: starEach es X.env := by rfl) : DA X (.Starred e p :: es) (mStar m ms) :=
  PA.weak (StX.pa_star he hr hs) fun σ H Q ⟨C, G, env, w, r, env', w', R, hm, k⟩ => by
  obtain ⟨x, e1, w1, h1, hm⟩ := seqE_inv hm
  split at hm
  · rename_i ds h2
    split at hm
    · rename_i rs e2 w2 h3
      cases hm
      refine ⟨C, G, env, w, _, _, _, R, h1, fun v G1 H1 R1 s1 i1 a1 => ?_⟩
      have fin : ∀ {vs : List V}, DqA X.K G1 vs ds → ∀ us G2 H2, Rel X.K C env' w' σ G2 H2 → Same G1 G2 → Option.isSome w' = Option.isSome w1 → ArgsOk X.K C.ad w' G2 rs us → Q (vs ++ us) H2 := fun {vs} dA us G2 H2 R2 s2 i2 a2 =>
        k _ G2 H2 R2 (s1.trans s2) (i2.trans i1) ((args_of (dpA_mono s2 dA)).app a2)
      cases a1 with
      | lst q a => cases h2; exact ⟨_, _, rfl, .inr (SqL.of (R1.sub _ _ q)), C, G1, e1, w1, _, _, _, R1, h3, fin a⟩
      | tup q a => cases h2; exact ⟨_, _, rfl, .inl (Same.sqT R1.sub q), C, G1, e1, w1, _, _, _, R1, h3, fin a⟩
      | _ => cases h2
    · cases hm
  · cases hm

def fmtD : PyData → Option PyData
  | .str y => if y.length ≤ sizeLine then some (.str y) else none
  | .int i => if i.natAbs.log2 < 1920 then some (.str (toString i)) else none
  | _ => none
def mFmt (m : Ex) : Ex := seqE m fun x => optE (fmtD x)
def mJs : List Ex → Str → Ex
  | [], acc => fun env w => some (.d (.str acc), env, w)
  | m :: ms, acc => seqE m fun x env w => match x with
    | .str y => if (acc ++ y).length ≤ sizeLine then mJs ms (acc ++ y) env w else none
    | _ => none
inductive DJ (X : Cx) : List Expr → List Ex → Prop where
  | nil : DJ X [] []
  | cons {e : Expr} {m : Ex} {es : List Expr} {ms : List Ex} (h : DE X e m) (r : DJ X es ms) : DJ X (e :: es) (m :: ms)
def mAndV (ma mb : Ex) : Ex := seqE ma fun x env w => match x with
  | .bool true => mb env w
  | .bool false => some (.d (.bool false), env, w)
  | _ => none
def mOrV (ma mb : Ex) : Ex := seqE ma fun x env w => match x with
  | .bool true => some (.d (.bool true), env, w)
  | .bool false => mb env w
  | _ => none
section
variable {X : Cx} {a b : Expr} {ma mb : Ex} {pos : Pos} {rest : List Expr}
theorem de_one {op : BoolOp} (h : DE X a ma) : DE X (.BoolOp op [a] pos) ma := pe_one h
theorem de_and (ha : DE X a ma) (hb : DE X (.BoolOp .And (b :: rest) pos) mb) : DE X (.BoolOp .And (a :: b :: rest) pos) (mAndV ma mb) := PE.weak (pe_and ha hb) fun σ H Q ⟨C, G, env, w, r, env', w', R, hm, k⟩ => by
  obtain ⟨x, e1, w1, h1, hm⟩ := seqE_inv hm
  refine ⟨C, G, env, w, _, _, _, R, h1, fun v G1 H1 R1 s1 i1 a1 => ?_⟩
  split at hm
  · cases a1
    exact ⟨true, rfl, iteT ⟨C, G1, e1, w1, r, env', w', R1, hm, fun v G2 H2 R2 s2 i2 a2 => k v G2 H2 R2 (s1.trans s2) (i2.trans i1) a2⟩⟩
  · cases a1
    cases hm
    exact ⟨false, rfl, iteF (k _ G1 H1 R1 s1 i1 (show Dq X.K _ _ _ from .bl _))⟩
  · cases hm
theorem de_or (ha : DE X a ma) (hb : DE X (.BoolOp .Or (b :: rest) pos) mb) : DE X (.BoolOp .Or (a :: b :: rest) pos) (mOrV ma mb) := PE.weak (pe_or ha hb) fun σ H Q ⟨C, G, env, w, r, env', w', R, hm, k⟩ => by
  obtain ⟨x, e1, w1, h1, hm⟩ := seqE_inv hm
  refine ⟨C, G, env, w, _, _, _, R, h1, fun v G1 H1 R1 s1 i1 a1 => ?_⟩
  split at hm
  · cases a1
    cases hm
    exact ⟨true, rfl, iteT (k _ G1 H1 R1 s1 i1 (show Dq X.K _ _ _ from .bl _))⟩
  · cases a1
    exact ⟨false, rfl, iteF ⟨C, G1, e1, w1, r, env', w', R1, hm, fun v G2 H2 R2 s2 i2 a2 => k v G2 H2 R2 (s1.trans s2) (i2.trans i1) a2⟩⟩
  · cases hm
/-- constants of the module -/
theorem de_gint {x : Str} {i : Int} (h : ∃ t, X.mg x = some (.int i t)) (hg : Gl X x := by rfl) (hd : (x == ("__debug__" : Str)) = false := by decide) : DE X (.Name x pos) (mC (.int i)) := by
  obtain ⟨t, h⟩ := h
  exact de_c (pe_glob (v := .int i) hg h ⟨t, rfl⟩ hd) fun _ => .int i
theorem de_gstr {x i : Str} (h : ∃ t, X.mg x = some (.str i t)) (hg : Gl X x := by rfl) (hd : (x == ("__debug__" : Str)) = false := by decide) : DE X (.Name x pos) (mC (.str i)) := by
  obtain ⟨t, h⟩ := h
  exact de_c (pe_glob (v := .str i) hg h ⟨t, rfl⟩ hd) fun _ => .str i
end
def mListO (ms : Ax) : Lx := argsD ms fun ds env w => match ds with
  | [x] => (itemsD x).map fun xs => (xs, env, w)
  | _ => none
def mCatO (ma mb : Ex) : Lx := seqE ma fun x => seqE mb fun y env w => match x, y with
  | .list xs, .list ys => if xs.length + ys.length ≤ sizeLine then some (xs ++ ys, env, w) else none
  | _, _ => none
/-- (a, b) = a list -/
def mgUnl (n : Nat) (b : Gsx) : Gx := fun d env => match d with
  | .list ds => if ds.length = n then b ds env else none
  | _ => none
theorem dg_unl {X : Cx} {vs : List Nat} {e : Expr} {n : Nat} {b : Gsx} (h : PG X e (gUnl X.K n (gsD X.K vs b))) : DG X vs e (mgUnl n b) := PG.weak h fun v σ H Q ⟨C, G, env, w, d, env', R, hd, hm, k⟩ => by
  cases hd with
  | lst hs ha =>
    simp only [mgUnl] at hm
    split at hm
    · rename_i hl
      exact ⟨_, _, rfl, SqL.of (R.sub _ _ hs), by rw [dpA_len ha]; exact hl, C, G, env, w, _, env', R, ha, hm, k⟩
    · cases hm
  | _ => cases hm
/-- tuple(text) -/
def signsD (z : Str) : List PyData := z.cps.toList.map fun c => .str ⟨#[c]⟩
def tupStrD : List PyData → Option PyData
  | [.str z] => if z.length ≤ sizeLine then some (.tuple (signsD z)) else none
  | _ => none
theorem cd_tupStr {X : Cx} (hc : X.calm = true) : CallD X (.type "tuple") tupStrD := fun pins s σ G H xs us ds dz Q I rx sg hx hg k => by
  unfold tupStrD at hg
  split at hg
  · rename_i z
    split at hg
    · rename_i hl
      cases hg
      obtain ⟨v, rfl, dv⟩ := dqA1 hx
      cases dv
      obtain ⟨u, rfl, t, rfl⟩ := vals1 rx
      refine call_tuple_str (I.ok.hd hc) z t (fun h' tk acc hk hacc => ?_) hl
      have I1 : Inv X pins σ H { s with heap := h', toks := tk } := I.kept hk
      have hv : Vals (z.cps.toList.map fun c => V.str ⟨#[c]⟩) acc.toList := by
        obtain ⟨h1, h2⟩ := hacc
        have all : ∀ (cs : List Nat) (us : List Value), us.length = cs.length → (∀ (j : Nat) (v : Value), us[j]? = some v → ∃ c u, cs[j]? = some c ∧ v = .str ⟨#[c]⟩ u) → Vals (cs.map fun c => V.str ⟨#[c]⟩) us := by
          intro cs
          induction cs with
          | nil =>
            intro us hl _
            cases us with
            | nil => exact .nil
            | cons _ _ => cases hl
          | cons c cs ih =>
            intro us hl hu
            cases us with
            | nil => cases hl
            | cons v us =>
              obtain ⟨c', u, e1, e2⟩ := hu 0 v rfl
              simp at e1
              subst e1
              refine .cons ⟨u, e2⟩ (ih us (by simpa using hl) fun j v' hj => ?_)
              obtain ⟨c', u', e3, e4⟩ := hu (j + 1) v' (by simpa using hj)
              exact ⟨c', u', by simpa using e3, e4⟩
        refine all z.cps.toList acc.toList (by simpa using h1) fun j v hj => ?_
        obtain ⟨c, u, e1, e2⟩ := h2 j v (by simpa using hj)
        exact ⟨c, u, by simpa using e1, e2⟩
      have hlen : (z.cps.toList.map fun c => V.str ⟨#[c]⟩).length ≤ sizeLine := by
        rw [List.length_map, Array.length_toList]
        exact hl
      have I2 : Inv X pins σ (upd H h'.objs.size (.tup (z.cps.toList.map fun c => V.str ⟨#[c]⟩))) { s with heap := h'.push { cls := .type "tuple", data := .seq acc }, toks := tk } :=
        I1.laid (t' := tk) (fun b o e => Heap.get?_push_of_some _ e) (Nat.le_refl _) (show ObjOk X.prog X.w _ _ _ (.tup _) from ⟨hlen, acc.toList, hv, ⟨_, Heap.get?_push_size _ rfl, rfl, 0, by simp⟩⟩)
      have dA : DqA X.K G (z.cps.toList.map fun c => V.str ⟨#[c]⟩) (signsD z) := by
        have : ∀ cs : List Nat, DqA X.K G (cs.map fun c => V.str ⟨#[c]⟩) (cs.map fun c => PyData.str ⟨#[c]⟩) := by
          intro cs
          induction cs with
          | nil => exact .nil
          | cons c cs ih => exact .cons (.str _) ih
        exact this _
      obtain ⟨ex, dq⟩ := ext_tup sg (I1.hok.fresh (Nat.le_refl _)) dA
      exact ⟨.ref h'.objs.size, _, I2, rfl, k _ _ _ ex dq⟩
    · cases hg
  · cases hg
end Dn

set_option maxHeartbeats 4000000
namespace Dn
open PySem PySem.Spec PyProof.Rows L2
def fuel : Nat := 16777300
def mixed (cell k : Int) : Int := ((cell % 2147483647) * (48271 + 2 * k * k) + 69621 * k + 11) % 2147483647 * 69621 % 2147483629
theorem mixed_nn (c k : Int) : 0 ≤ mixed c k := Int.emod_nonneg _ (by decide)
theorem mixed_lt (c k : Int) : mixed c k < 2147483629 := Int.emod_lt_of_pos _ (by decide)
/-- the state is in order, and many draws are left -/
structure DS.Ok (s : DS) : Prop where
  p0 : 0 ≤ s.pos
  p1 : s.pos ≤ 1152921504606846976
  ne : s.cells ≠ []
  ln : s.lefts.length = s.cells.length
  sm : s.cells.length ≤ 1000
def DS.at_ (s : DS) : Nat := (s.pos % (s.cells.length : Int)).toNat
def DS.left (s : DS) : Int := s.lefts.getD s.at_ 0
def DS.cell (s : DS) : Int := s.cells.getD s.at_ 0
def DS.num (s : DS) : Int := mixed (mixed s.cell s.pos) (40 + s.pos)
def DS.val (s : DS) (many : Int) : Int := if 0 < s.left then s.left % many else (s.num * 2147483647 + mixed s.num (7 + s.pos)) / 64 % many
def DS.next (s : DS) (many : Int) : DS := if 0 < s.left then { s with lefts := s.lefts.set s.at_ (s.left / many), pos := s.pos + 1 } else { s with pos := s.pos + 1 }
open Classical in
noncomputable def m__law_draw : List SD → W → Option (SD × W) := fun as w => match as, w with
  | [.st, .d (.int many)], some s => if s.Ok ∧ 0 < many ∧ many < 1073741824 then some (.d (.int (s.val many)), some (s.next many)) else none
  | _, _ => none
theorem DS.at_lt {s : DS} (h : s.Ok) : s.at_ < s.cells.length := by
  have hl : 0 < s.cells.length := List.length_pos_iff.mpr h.ne
  have h1 := Int.emod_nonneg s.pos (show (s.cells.length : Int) ≠ 0 by omega)
  have h2 := Int.emod_lt_of_pos s.pos (show (0 : Int) < s.cells.length by omega)
  unfold DS.at_
  omega
/-- some draws have been done -/
structure Adv (n : Int) (s s' : DS) : Prop where
  cells : s'.cells = s.cells
  ln : s'.lefts.length = s.lefts.length
  lo : s.pos ≤ s'.pos
  hi : s'.pos ≤ s.pos + n
theorem Adv.refl (s : DS) : Adv 0 s s := ⟨rfl, rfl, Int.le_refl _, by omega⟩
theorem Adv.trans {a b : Int} {s t u : DS} (x : Adv a s t) (y : Adv b t u) : Adv (a + b) s u := ⟨y.cells.trans x.cells, y.ln.trans x.ln, Int.le_trans x.lo y.lo, by have := x.hi; have := y.hi; omega⟩
theorem Adv.mono {a b : Int} {s t : DS} (x : Adv a s t) (h : a ≤ b) : Adv b s t := ⟨x.cells, x.ln, x.lo, by have := x.hi; omega⟩
theorem Adv.ok {a : Int} {s t : DS} (x : Adv a s t) (h : s.Ok) (hp : s.pos + a ≤ 1152921504606846976) : t.Ok := ⟨by have := x.lo; have := h.p0; omega, by have := x.hi; omega, by rw [x.cells]; exact h.ne, by rw [x.ln, x.cells]; exact h.ln, by rw [x.cells]; exact h.sm⟩
theorem draw_adv (s : DS) (many : Int) : Adv 1 s (s.next many) := by
  unfold DS.next
  split
  · exact ⟨rfl, by simp, by show s.pos ≤ s.pos + 1; omega, Int.le_refl _⟩
  · exact ⟨rfl, rfl, by show s.pos ≤ s.pos + 1; omega, Int.le_refl _⟩
theorem draw_range (s : DS) {many : Int} (h : 0 < many) : 0 ≤ s.val many ∧ s.val many < many := by
  unfold DS.val
  split
  · exact ⟨Int.emod_nonneg _ (by omega), Int.emod_lt_of_pos _ h⟩
  · exact ⟨Int.emod_nonneg _ (by omega), Int.emod_lt_of_pos _ h⟩
theorem draw_eq {s : DS} {many : Int} (h : s.Ok) (h1 : 0 < many) (h2 : many < 1073741824) : m__law_draw [.st, .d (.int many)] (some s) = some (.d (.int (s.val many)), some (s.next many)) := by
  simp only [m__law_draw]
  rw [if_pos ⟨h, h1, h2⟩]
def spMixed : Sp := fun vs H Q _ => ∃ c k : Int, vs = [.int c, .int k] ∧ 0 ≤ k ∧ k < 2305843009213693952 ∧ Q (.int (mixed c k)) H
def beginCells (ns : List Int) : List Int := if ns = [] then [0] else ns
def beginDS (ns : List Int) : DS := ⟨beginCells ns, (beginCells ns).map fun c => if 1000000000000000000 ≤ c then c else 0, 0, 0⟩
def spBegin (K : PySem.W.Frag) : Sp := fun vs H Q _ => ∃ (a : Addr) (ns : List Int), vs = [.ref a] ∧ SqL K H a (ns.map V.int) ∧ ns.length ≤ 63 ∧
  ∀ (ad : Ad) (H' : Hp), Same H H' → H ad.sa = none → H ad.ca = none → H ad.la = none → ad.ca ≠ ad.la →
    H' ad.sa = some (.dK [(kCells, .ref ad.ca), (kLefts, .ref ad.la), (kAt, .int 0), (kRoom, .int 0)]) → H' ad.la = some (.lst ((beginDS ns).lefts.map V.int)) → H' ad.ca = some (.lst ((beginDS ns).cells.map V.int)) → Q (.ref ad.sa) H'
theorem begin_ok (ns : List Int) (h : ns.length ≤ 63) : (beginDS ns).Ok := by
  have e : (beginCells ns).length ≤ 64 ∧ beginCells ns ≠ [] := by
    unfold beginCells
    split
    · exact ⟨by simp, by simp⟩
    · exact ⟨by omega, by assumption⟩
  exact ⟨Int.le_refl _, by show (0 : Int) ≤ 1152921504606846976; decide, e.2, by simp [beginDS], by have := e.1; show (beginCells ns).length ≤ 1000; omega⟩
theorem putAt {a b c d v : V} : putK [(kCells, a), (kLefts, b), (kAt, c), (kRoom, d)] kAt v = [(kCells, a), (kLefts, b), (kAt, v), (kRoom, d)] := by
  have e1 : ¬ kCells = kAt := by decide +kernel
  have e2 : ¬ kLefts = kAt := by decide +kernel
  have e3 : ¬ kRoom = kAt := by decide +kernel
  simp [putK, e1, e2, e3]
theorem valAt {a b c d : V} : valV [(kCells, a), (kLefts, b), (kAt, c), (kRoom, d)] kAt = some c := by
  have e1 : ¬ kCells = kAt := by decide +kernel
  have e2 : ¬ kLefts = kAt := by decide +kernel
  rw [valV_neg e1, valV_neg e2, valV_pos rfl]
theorem valLefts {a b c d : V} : valV [(kCells, a), (kLefts, b), (kAt, c), (kRoom, d)] kLefts = some b := by
  have e1 : ¬ kCells = kLefts := by decide +kernel
  rw [valV_neg e1, valV_pos rfl]
theorem valCells {a b c d : V} : valV [(kCells, a), (kLefts, b), (kAt, c), (kRoom, d)] kCells = some a := valV_pos rfl
theorem atI_int {ns : List Int} {p : Int} {j : Nat} (hj : j < ns.length) (e : p = (j : Int)) : atI (ns.map V.int) p = some (.int (ns.getD j 0)) := by
  subst e
  refine atI_nat ?_
  rw [List.getElem?_map, List.getElem?_eq_getElem hj]
  simp [List.getD_eq_getElem?_getD, List.getElem?_eq_getElem hj]
theorem merge4 {a b c d : V} : mergeK [] [(kCells, a), (kLefts, b), (kAt, c), (kRoom, d)] = [(kCells, a), (kLefts, b), (kAt, c), (kRoom, d)] := by
  have e1 : ¬ kCells = kLefts := by decide +kernel
  have e2 : ¬ kCells = kAt := by decide +kernel
  have e3 : ¬ kLefts = kAt := by decide +kernel
  have e4 : ¬ kCells = kRoom := by decide +kernel
  have e5 : ¬ kLefts = kRoom := by decide +kernel
  have e6 : ¬ kAt = kRoom := by decide +kernel
  simp [mergeK, putK, e1, e2, e3, e4, e5, e6]
/-- a != b over data -/
def rNeP (K : PySem.W.Frag) : R2 := fun x y H Q => ∃ d e, Dp K H x d ∧ Dp K H y e ∧ d.plain = true ∧ e.plain = true ∧ dOk 60 e = true ∧ Q (.bl (!PyData.eqv d e)) H
theorem op_neP {X : Cx} (hu : X.A.units + 64 < cLine) : OpR X (compareOp .NotEq) (rNeP X.K) := by
  intro pins s σ H x y v u Q I rx ry h
  obtain ⟨d, e, hd, he, p1, p2, dk, q⟩ := h
  obtain ⟨as, r1⟩ := Dp.reads I d x v hd rx
  obtain ⟨bs, r2⟩ := Dp.reads I e y u he ry
  exact PySem.SeqAt.ne_plain r1 r2 p1 p2 (min60 (by rw [dk]; simp) hu) ⟨.bl _, H, I, rfl, q⟩
theorem plain_ints : ∀ ns : List Int, PyData.plainAll (ns.map PyData.int) = true
  | [] => by simp [PyData.plainAll]
  | n :: ns => by simp [PyData.plainAll, PyData.plain, plain_ints ns]
theorem dpAll_ints {K : PySem.W.Frag} {G : Hp} : ∀ (ns : List Int), DpAll K G (ns.map V.int) (ns.map PyData.int)
  | [] => .nil
  | n :: ns => .cons (.int n) (dpAll_ints ns)
end Dn

set_option maxHeartbeats 4000000
namespace Dn
open PySem PySem.Spec PyProof.Rows L2
/-- what is tracked at the start: the script, and the tables, empty -/
structure OnlyT (K : PySem.W.Frag) (H : Hp) : Prop where
  only : ∀ b, H b = none ∨ b ∈ (tabsOf K).map (·.1) ∨ ∃ o xs, H b = some (.frz o (.lst xs))
  tab : ∀ p ∈ tabsOf K, H p.1 = some (.tbl #[])
theorem OnlyT.of {K : PySem.W.Frag} {H : Hp} (h : Only H) (e : tabsOf K = []) : OnlyT K H := ⟨fun b => (h b).elim .inl fun z => .inr (.inr z), fun p hp => by rw [e] at hp; simp at hp⟩
def spLaw (K : PySem.W.Frag) : Sp := fun vs H Q _ => ∃ (a : Addr) (ns : List Int), vs = [.ref a] ∧ ns.length ≤ 63 ∧ OnlyT K H ∧ SqL K H a (ns.map V.int) ∧ ∀ H', Q (.bl true) H'
/-- the slots behind state = _law_begin(script) -/
def env0 (n NN i : Nat) : Ev := (some (SD.scr n) :: List.replicate (NN - 1) none).set i (some SD.st)
theorem law_rest {K : PySem.W.Frag} {H H' : Hp} {a : Addr} {ns : List Int} {ad : Ad} {m : Sx} {N : List Str} {i NN : Nat} {D : Ends} {env' : Ev} {w' : W} (hO : OnlyT K H) (hS : SqL K H a (ns.map V.int)) (hNN : N.length = NN) (h0 : 0 < NN) (hi : i ≠ 0)
    (sm : Same H H') (n1 : H ad.sa = none) (n2 : H ad.ca = none) (n3 : H ad.la = none) (ne : ad.ca ≠ ad.la)
    (e1 : H' ad.sa = some (.dK [(kCells, .ref ad.ca), (kLefts, .ref ad.la), (kAt, .int 0), (kRoom, .int 0)])) (e2 : H' ad.la = some (.lst ((beginDS ns).lefts.map V.int))) (e3 : H' ad.ca = some (.lst ((beginDS ns).cells.map V.int)))
    (hm : m (env0 ns.length NN i) (some (beginDS ns)) = some (.rt (.d (.bool true)), env', w')) (hQ : ∀ H2, D.rt (.bl true) H2) : tS K m D ((L2.start N [.ref a]).set i (some (.ref ad.sa))) H' := by
  have hs : ((L2.start N [.ref a]).set i (some (.ref ad.sa)))[0]? = some (some (.ref a)) := by
    rw [List.getElem?_set_ne hi]
    rfl
  refine ⟨⟨⟨ad.sa, ad.ca, ad.la, tabsOf K⟩, H', fun _ => none⟩, fun _ => none, _, some (beginDS ns), _, env', w', ⟨fun b o e => (by cases e), ?_, fun j sd h => ?_, fun j k xs ys b e _ _ _ => ?_, fun s e => ?_, fun _ => ⟨?_, ?_, ?_⟩, fun b o e _ => e, fun b o e => rfl, ⟨fun p hp => LamX.TabS.nil (sm _ _ (hO.tab p hp)), fun p hp => rfl⟩, fun p hp => (by show H' p.1 ≠ none; rw [sm _ _ (hO.tab p hp)]; exact Option.some_ne_none _)⟩, hm, fun σ2 G2 H2 R2 s2 i2 v av => ?_⟩
  · unfold env0 L2.start
    simp only [List.length_set, List.length_cons, List.length_replicate, List.length_append, List.length_map, List.length_nil]
    omega
  · by_cases hj : i = j
    · subst hj
      have hlt : i < (some (SD.scr ns.length) :: List.replicate (NN - 1) none).length := by
        have := (List.getElem?_eq_some_iff.mp h).1
        unfold env0 at this
        rwa [List.length_set] at this
      unfold env0 at h
      rw [List.getElem?_set_self hlt] at h
      cases h
      refine ⟨_, List.getElem?_set_self ?_, rfl, rfl⟩
      unfold L2.start
      simp only [List.length_cons, List.length_replicate, List.length_append, List.length_map, List.length_nil] at hlt ⊢
      omega
    · unfold env0 at h
      rw [List.getElem?_set_ne hj] at h
      cases j with
      | zero =>
        cases h
        refine ⟨_, hs, a, ns.map V.int, rfl, by rw [List.length_map], ?_⟩
        rcases hS with (hS | ⟨o, hS⟩) | hS
        · rcases hO.only a with z | z | ⟨o, xs, z⟩
          · rw [z] at hS; cases hS
          · obtain ⟨p, hp, rfl⟩ := List.mem_map.mp z
            rw [hO.tab p hp] at hS; cases hS
          · rw [z] at hS; cases hS
        · refine .inl ⟨o, sm _ _ hS, fun z => ?_⟩
          have z : (some (beginDS ns)).isSome = true ∧ (a = ad.sa ∨ a = ad.la) := z.resolve_right fun z => by
            obtain ⟨p, hp, e⟩ := List.mem_map.mp z
            rw [← e, hO.tab p hp] at hS; cases hS
          rcases z.2 with z | z
          · subst z; rw [n1] at hS; cases hS
          · subst z; rw [n3] at hS; cases hS
        · exact .inr fun H1 => .inr hS
      | succ j =>
        rw [List.getElem?_cons_succ, List.getElem?_replicate] at h
        split at h <;> cases h
  · have no : ∀ (l : Nat) (zs : List PyData), (env0 ns.length NN i)[l]? ≠ some (some (.own zs)) := fun l zs h => by
      by_cases hl : i = l
      · subst hl
        have hlt : i < (some (SD.scr ns.length) :: List.replicate (NN - 1) none).length := by
          have := (List.getElem?_eq_some_iff.mp h).1
          unfold env0 at this
          rwa [List.length_set] at this
        unfold env0 at h
        rw [List.getElem?_set_self hlt] at h
        cases h
      · unfold env0 at h
        rw [List.getElem?_set_ne hl] at h
        cases l with
        | zero => cases h
        | succ l =>
          rw [List.getElem?_cons_succ, List.getElem?_replicate] at h
          split at h <;> cases h
    exact absurd e (no j xs)
  · cases e
    exact ⟨e1, e2, e3, rfl, rfl, rfl, ne, rfl⟩
  · show H' ad.sa ≠ none
    rw [e1]; exact Option.some_ne_none _
  · show H' ad.la ≠ none
    rw [e2]; exact Option.some_ne_none _
  · show H' ad.ca ≠ none
    rw [e3]; exact Option.some_ne_none _
  · cases av
    exact hQ H2
end Dn

set_option maxHeartbeats 4000000
namespace Dn
open PySem PySem.Spec PyProof.Rows L2
mutual
def kdB (K : PySem.W.Frag) : Nat → Value → PyData → Bool
  | _, .none, .none => true
  | _, .bool b, .bool c => b == c
  | _, .int i _, .int j => decide (i = j)
  | _, .str x _, .str y => decide (x = y)
  | n + 1, .ref a, .tuple ds => (match K.lookup a with
    | some ⟨.type c, _, .seq its _, _⟩ => decide (c = "tuple") && (decide (its.size ≤ sizeLine) && kdAll K n its.toList ds)
    | _ => false)
  | _, _, _ => false
def kdAll (K : PySem.W.Frag) : Nat → List Value → List PyData → Bool
  | _, [], [] => true
  | n, u :: us, d :: ds => kdB K n u d && kdAll K n us ds
  | _, _, _ => false
end
theorem kdA_of {K : PySem.W.Frag} {n : Nat} (B : ∀ (u : Value) (d : PyData), kdB K n u d = true → ∃ v, RelV v u ∧ ∀ G, Dq K G v d) : ∀ (us : List Value) (ds : List PyData), kdAll K n us ds = true → ∃ vs, Vals vs us ∧ ∀ G, DqA K G vs ds
  | [], [], _ => ⟨[], .nil, fun _ => .nil⟩
  | [], _ :: _, h => by simp [kdAll] at h
  | _ :: _, [], h => by simp [kdAll] at h
  | u :: us, d :: ds, h => by
    simp only [kdAll, Bool.and_eq_true] at h
    obtain ⟨v, r, q⟩ := B u d h.1
    obtain ⟨vs, rs, qs⟩ := kdA_of B us ds h.2
    exact ⟨v :: vs, .cons r rs, fun G => .cons (q G) (qs G)⟩
theorem kdB_ok {K : PySem.W.Frag} : ∀ {n : Nat} {u : Value} {d : PyData}, kdB K n u d = true → ∃ v, RelV v u ∧ ∀ G, Dq K G v d := by
  intro n
  induction n with
  | zero =>
    intro u d h
    unfold kdB at h
    split at h
    · exact ⟨.non, rfl, fun _ => .non⟩
    · rename_i b c
      have e : b = c := by simpa using h
      subst e
      exact ⟨.bl b, rfl, fun _ => .bl b⟩
    · rename_i i t j
      have e : i = j := by simpa using h
      subst e
      exact ⟨.int i, ⟨t, rfl⟩, fun _ => .int i⟩
    · rename_i x t y
      have e : x = y := by simpa using h
      subst e
      exact ⟨.str x, ⟨t, rfl⟩, fun _ => .str x⟩
    · rename_i hz; cases hz
    · cases h
  | succ n ih =>
    intro u d h
    unfold kdB at h
    split at h
    · exact ⟨.non, rfl, fun _ => .non⟩
    · rename_i b c
      have e : b = c := by simpa using h
      subst e
      exact ⟨.bl b, rfl, fun _ => .bl b⟩
    · rename_i i t j
      have e : i = j := by simpa using h
      subst e
      exact ⟨.int i, ⟨t, rfl⟩, fun _ => .int i⟩
    · rename_i x t y
      have e : x = y := by simpa using h
      subst e
      exact ⟨.str x, ⟨t, rfl⟩, fun _ => .str x⟩
    · rename_i m a ds hz
      cases hz
      split at h
      · rename_i c od its m sl q
        rw [Bool.and_eq_true, Bool.and_eq_true] at h
        obtain ⟨h1, h2, h3⟩ := h
        obtain ⟨vs, r, dA⟩ := kdA_of (fun u d => ih) _ _ h3
        exact ⟨.ref a, rfl, fun G => .tup (.inr ⟨_, its, m, q, congrArg Value.type (of_decide_eq_true h1), rfl, of_decide_eq_true h2, r⟩) (dA G)⟩
      · cases h
    · cases h
/-- the module's name x stands for the datum d -/
structure GCon (K : PySem.W.Frag) (mg : Str → Option Value) (x : Str) (d : PyData) : Prop where
  ex : ∃ u v, mg x = some u ∧ RelV v u ∧ ∀ G, Dq K G v d
theorem de_gcon {X : Cx} {x : Str} {d : PyData} {pos : Pos} (h : GCon X.K X.mg x d) (hg : Gl X x := by rfl) (hd : (x == ("__debug__" : Str)) = false := by decide) : DE X (.Name x pos) (mC d) := by
  obtain ⟨u, v, h1, h2, h3⟩ := h.ex
  exact de_c (pe_glob hg h1 h2 hd) h3
def conB (K : PySem.W.Frag) (x : Str) (d : PyData) : Bool := match PySem.W.nsIn K mainGlobals x with
  | some (some u) => kdB K 20 u d
  | _ => false
theorem conB_ok {K : PySem.W.Frag} {h : Heap} {mg : Str → Option Value} {x : Str} {d : PyData} (X : K.In h) (G : h.Ns mainGlobals mg) (c : conB K x d = true) : GCon K mg x d := by
  unfold conB at c
  split at c
  · rename_i u q
    obtain ⟨v, r, z⟩ := kdB_ok c
    exact ⟨u, v, PySem.W.mg_of X G q, r, z⟩
  · cases c
def gtB (K : PySem.W.Frag) (x : Str) (ys : List Str) : Bool := match PySem.W.nsIn K mainGlobals x with
  | some (some (.ref a)) => (match K.lookup a with
    | some ⟨.type c, none, .seq its _, _⟩ => decide (c = "tuple") && (decide (its.size ≤ sizeLine) && He.relAll (ys.map V.str) its.toList)
    | _ => false)
  | _ => false
theorem gtB_ok {K : PySem.W.Frag} {h : Heap} {mg : Str → Option Value} {x : Str} {ys : List Str} (X : K.In h) (G : h.Ns mainGlobals mg) (c : gtB K x ys = true) : GTup K mg x ys := by
  unfold gtB at c
  split at c
  · rename_i a q
    split at c
    · rename_i cc its m sl lk
      rw [Bool.and_eq_true, Bool.and_eq_true] at c
      obtain ⟨h1, h2, h3⟩ := c
      have e := of_decide_eq_true h1
      exact ⟨a, PySem.W.mg_of X G q, fun H => .inr ⟨_, its, m, lk, congrArg Value.type e, rfl, of_decide_eq_true h2, He.relAll_ok h3⟩, _, lk, congrArg Value.type e, rfl⟩
    · cases c
  · cases c
/-- one def of the top -/
def mkD (x : Str) (st : Stmt) : He.DefD := ⟨(x, none), x, x, defArgs st, defBody st, defScope st, [], []⟩
theorem def_ok {K : PySem.W.Frag} {h : Heap} {mg : Str → Option Value} {fa : List He.Fa} {fn : List He.DefD} {x : Str} {st : Stmt} (X : K.In h) (G : h.Ns mainGlobals mg) (c : He.SaysD fa fn K) (i j : Nat) (hi : fn[i]? = some (mkD x st)) (hj : fa[j]? = some (.glo x)) :
    ∃ f fd, FunD K x x (defArgs st) (defBody st) (defScope st) [] [] f fd ∧ mg x = some (.ref f) := by
  obtain ⟨fd, F⟩ := c.def_ i hi
  exact ⟨_, fd, F, He.glo_ok X G (c.fact j hj)⟩
theorem con_int {K : PySem.W.Frag} {h : Heap} {mg : Str → Option Value} {x : Str} {n : Int} (X : K.In h) (G : h.Ns mainGlobals mg) (c : conB K x (.int n) = true) : ∃ t, mg x = some (.int n t) := by
  obtain ⟨u, v, h1, h2, h3⟩ := (conB_ok X G c).ex
  cases h3 fun _ => none
  obtain ⟨t, rfl⟩ := h2
  exact ⟨t, h1⟩
theorem con_str {K : PySem.W.Frag} {h : Heap} {mg : Str → Option Value} {x y : Str} (X : K.In h) (G : h.Ns mainGlobals mg) (c : conB K x (.str y) = true) : ∃ t, mg x = some (.str y t) := by
  obtain ⟨u, v, h1, h2, h3⟩ := (conB_ok X G c).ex
  cases h3 fun _ => none
  obtain ⟨t, rfl⟩ := h2
  exact ⟨t, h1⟩
end Dn

set_option maxHeartbeats 4000000
namespace Dn
open PySem PySem.Spec PyProof.Rows L2

section
variable {X : Cx} {pins : List (Addr × Obj)} {σ : L2.St} {H : Hp} {s : Shared}
end
theorem vals_ix {xs : List V} {us : List Value} {i : Nat} {u : Value} (r : Vals xs us) (e : us[i]? = some u) : ∃ x, xs[i]? = some x ∧ RelV x u := by
  have h1 : i < us.length := (List.getElem?_eq_some_iff.mp e).1
  have h2 : i < xs.length := by rw [r.length]; exact h1
  obtain ⟨u', q1, q2⟩ := r.get (List.getElem?_eq_getElem h2)
  rw [e] at q1; cases q1
  exact ⟨_, List.getElem?_eq_getElem h2, q2⟩
theorem Inv.filled {X : Cx} {pins : List (Addr × Obj)} {σ : L2.St} {H : Hp} {s : Shared} {h' : Heap} {t' : Nat} {a k : Addr} {o : HO} (I : Inv X pins σ H s) (fa : FpOk X pins H a) (fk : FpOk X pins H k)
    (keep : ∀ b ob, b ≠ a → b ≠ k → s.heap.get? b = some ob → h'.get? b = some ob) (new : ObjOk X.prog X.w (upd H a o) h' a o) : Inv X pins σ (upd H a o) { s with heap := h', toks := t' } := by
  have nin : ∀ b, b ∉ [a, k] → b ≠ a ∧ b ≠ k := fun b z => ⟨fun e => z (by simp [e]), fun e => z (by simp [e])⟩
  have ne : ∀ b u, H b = some u → b ≠ a ∧ b ≠ k := fun b u e => ⟨fun z => (by rw [z, fa.1] at e; cases e), fun z => (by rw [z, fk.1] at e; cases e)⟩
  refine I.step (g' := s.gens) (d' := s.drawn) (ch := [a, k]) (fun b hb => ?_) (fun b ob _ _ hc e _ => keep b ob (nin b hc).1 (nin b hc).2 e) (fun b ob _ _ hc e _ => ⟨ob.slots, keep b ob (nin b hc).1 (nin b hc).2 e⟩)
    (fun b ob hc _ n => by rw [upd_ne (nin b hc).1]; exact n) (fun b ob hc e => ⟨ob, keep b ob (nin b hc).1 (nin b hc).2 e⟩) (fun b xs e => by rw [upd_ne (ne b _ e).1]; exact e) (fun b ob u e => by rw [upd_ne (ne b _ e).1]; exact e)
    (fun b ps e => ⟨#[], by rw [upd_ne (ne b _ e).1, e]; simp⟩) (fun m hm => ?_) (fun b u e => ?_) I.bare
  · have f : FpOk X pins H b := by
      rcases List.mem_cons.mp hb with rfl | hb
      · exact fa
      · rw [List.mem_singleton.mp hb]; exact fk
    exact ⟨f.2.2.2.1, f.2.1, f.2.2.2.2.1, f.2.2.2.2.2⟩
  · obtain ⟨ob, es, ep, ho, r⟩ := hm
    exact ⟨ob, es, ep, keep _ ob (Ne.symm fa.2.1) (Ne.symm fk.2.1) ho, r⟩
  · by_cases hb : b = a
    · subst hb
      rw [upd_same] at e
      cases e
      exact new
    · rw [upd_ne hb] at e
      refine (I.hok b u e).stay (fun c v hc q => ?_) (fun c q => by rw [upd_ne (ne c _ q).1]; exact q) fun c xs q => by rw [upd_ne (ne c _ q).1]; exact q
      rcases hc with rfl | hc
      · exact keep _ v (ne _ _ e).1 (ne _ _ e).2 q
      · exact keep c v (ne c _ hc).1 (ne c _ hc).2 q

section
variable {X : Cx} {pins : List (Addr × Obj)} {σ : L2.St} {G H : Hp} {a kS : Addr} {e1 : Nat} {m : List SD → W → Option (SD × W)} {f : Addr} {fd : FuncData} {ps : List Str} {j k : Nat}
end

section
variable {X : Cx} {pins : List (Addr × Obj)} {σ : L2.St} {G H : Hp} {s : Shared} {m : List SD → W → Option (SD × W)} {f : Addr} {fd : FuncData} {ps : List Str} {k : Nat} {ds ks : List PyData} {xs : List V} {us : List Value}
end
end Dn

set_option maxHeartbeats 4000000
namespace Dn
open PySem PySem.Spec PyProof.Rows L2

/-- as FnOk, but only where no repr is under way -/
structure OkG (P : Program) (w : World) (K : PySem.W.Frag) (mg : Str → Option Value) (base : Heap) (k : Nat) (f : Addr) (fd : FuncData) (ps : List Str) (sp : Sp) : Prop where
  len : ∀ vs H Q E, sp vs H Q E → vs.length = ps.length
  go : ∀ {A : Around} {outer : List PySem.Env} {s : Shared} {H : Hp} {args : Args} {us : List Value} {vs : List V} {Q : VK} {E : XK}, A.guards = some [] → Room k A → Env0 P w K mg base A outer s H → BindsTo s fd args (ps.zip us) → Vals vs us → sp vs H Q E →
    codeAny (model P w) A (.call (.ref f) args) (CR CX0 outer P w H s Q E) s
structure FnG (P : Program) (w : World) (K : PySem.W.Frag) (mg : Str → Option Value) (base : Heap) (k : Nat) (x : Str) (m : List SD → W → Option (SD × W)) : Prop where
  ex : ∃ (f : Addr) (fd : FuncData) (ps : List Str), OkG P w K mg base k f fd ps (spM K m) ∧ mg x = some (.ref f) ∧ PySem.W.keepIn K (.ref f) = true ∧ Binds K fd ps []
section
variable {X : Cx} {x : Str} {e : Expr} {es : List Expr} {p pos : Pos} {m : List SD → W → Option (SD × W)} {ms : Ax} {j k : Nat} {f : Addr} {fd : FuncData} {ps : List Str} {sp : Sp} {pins : List (Addr × Obj)} {σ : L2.St} {H : Hp} {s : Shared} {Q : VK} {us : List Value} {vs : List V}
theorem OkG.call (F : OkG X.prog X.w X.K X.mg X.base k f fd ps sp) (hG : X.A.guards = some []) (hr : Room k X.A) (hb : Binds X.K fd ps []) (I : Inv X pins σ H s) (r : Vals vs us) (h : sp vs H Q E0) :
    wpAny (model X.prog X.w) X.A (call (.ref f) us) (EP X pins σ Q) X.xe s := by
  have hl : (us ++ []).length = ps.length := by rw [List.append_nil, ← r.length]; exact F.len _ _ _ _ h
  have hb' := hb s us I.kIn hl
  rw [List.append_nil] at hb'
  have C := F.go hG hr I.env0 hb' r h
  refine wpAny_call (codeAny_mono C ?_)
  intro res s' q
  match res, q with
  | .error v, q => exact (pass0 (X := X)) pins σ H s v s' I q
  | .ok (.ret _), q => exact I.after q
theorem de_callG (F : FnG X.prog X.w X.K X.mg X.base k x m) (hG : X.A.guards = some []) (hr : Room j X.A) (hk : k ≤ j) (ha : DA X (e :: es) ms) (hg : Gl X x := by rfl) (hdb : (x == ("__debug__" : Str)) = false := by decide)
    (he : starEach (e :: es) X.env = (false, eval e X.env) :: starEach es X.env := by rfl) (hpl : (backTo pos (starEach es X.env)).any (·.1) = false := by rfl) : DE X (.Call (.Name x p) (e :: es) [] pos) (mCall m ms) := by
  obtain ⟨f, fd, ps, F, hm, kp, hb⟩ := F.ex
  constructor
  intro pins s σ H Q I h
  have h' := call_D (E := E0) h
  refine wpAny_Call_Name_kw (ld_glob I hg hm (PySem.W.callWith_K (h₀ := X.base) I.ok.mod.kin kp (thn (ha.run pos pins s σ H _ I h') ?_) he hpl) hdb)
  rintro us s1 ⟨vs, H1, I1, r, q⟩
  rw [List.append_nil] at q
  exact ⟨I1.kIn, F.call hG (hr.mono hk) hb I1 r q⟩
theorem de_callG0 (F : FnG X.prog X.w X.K X.mg X.base k x m) (hG : X.A.guards = some []) (hr : Room j X.A) (hk : k ≤ j) (hg : Gl X x := by rfl) (hdb : (x == ("__debug__" : Str)) = false := by decide) : DE X (.Call (.Name x p) [] [] pos) (mCall m mNil) := by
  obtain ⟨f, fd, ps, F, hm, kp, hb⟩ := F.ex
  constructor
  intro pins s σ H Q I h
  refine wpAny_Call_Name_kw (ld_glob I hg hm (PySem.W.callWith_K0 I.kIn kp (F.call (us := []) hG (hr.mono hk) hb I .nil ?_)) hdb)
  obtain ⟨C, G, env, w, r, env', w', R, hm, k⟩ := h
  unfold mCall mNil at hm
  dsimp only at hm
  split at hm
  · rename_i r2 w2 h2
    cases hm
    exact ⟨G, C.ad, w, [], _, _, R.sub, R.st, R.tb, .nil, h2, fun v G' H' sg gh fr old hw st tb ar => k v G' H' (R.called sg gh fr old hw st tb) sg hw ar⟩
  · cases hm
end
/-- a def by its body -/
theorem OkG.of {P : Program} {w : World} {K : PySem.W.Frag} {mg : Str → Option Value} {base : Heap} {x qual : Str} {params : Arguments} {body : List Stmt} {scope : Scope} {f : Addr} {fd : FuncData} {N ps : List Str} {k : Nat} {sp : Sp}
    (F : FunD K x qual params body scope [] [] f fd) (S : FnScope N ps scope) (hlen : ∀ vs H Q E, sp vs H Q E → vs.length = ps.length)
    (hbody : ∀ (cdv : Value) (A : Around) (outer : List PySem.Env) (s : Shared) (H : Hp) (vs : List V) (Q : VK) (E : XK), A.guards = some [] → Room k (A.deeper (envOfC qual scope s.heap.objs.size f cdv)) → sp vs H Q E →
      ∃ t, PSs (cxOf CX0 P w K mg base N qual scope f cdv A outer s H E) body t ∧ t { nx := fun _ H' => Q .non H', rt := Q } (L2.start N vs) H) : OkG P w K mg base (k + 1) f fd ps sp := by
  obtain ⟨oc, od, dV, kV, doc, pm, an, cdv, ct, osl, rfl, lk, hcd, _, _⟩ := F.ex
  refine ⟨hlen, ?_⟩
  intro A outer s H args us vs Q E hG hr e0 hb r hsp
  have up : ∀ b o, base.get? b = some o → s.heap.get? b = some o := fun b o e => (e0.bs b o e).1
  have inK := e0.mod.kin.keeps up
  have par : ∀ y ∈ ps.zip us, scope.names.lookup y.1 = some .local ∨ (scope.names.lookup y.1 = some .cell ∧ ((cellsFrom (s.heap.objs.size + 1) scope.names []).lookup y.1).isSome = true) := by
    rintro ⟨n, v⟩ hy
    exact (S.par n (List.of_mem_zip hy).1).imp id fun q => ⟨q, PySem.W.cellsFrom_some _ _ _ (.inl q)⟩
  refine codeAny_call_function hr.depth (inK _ _ lk) rfl S.co S.gen rfl (PySem.W.codeRec_of inK hcd) (hb _ _ _ _ (wpAny_newFunctionEnv_cells S.kind par ?_))
  rintro env rfl s1 x1
  refine ⟨(e0.mod.nolimit.keeps up).keeps x1.toInCall.keep, codeAny_func ?_⟩
  obtain ⟨t, ht, hq⟩ := hbody cdv A outer s H vs Q E hG (hr.deeper _) hsp
  have I := inv_start (CX := CX0) (qual := qual) (f := f) (cd := cdv) (E := E) S hr.hd e0 (hlen _ _ _ _ hsp) r x1
  refine wpAny_mono (ht.run [] s1 _ H _ I hq) ?_ fun _ _ q => q
  intro fl s' q
  match fl, q with
  | .ret _, ⟨v, _, H', J, rv, q⟩ => exact ⟨v, H', J.os, J.bare, J.base, J.hok, rv, q⟩
  | .next, ⟨_, H', J, q⟩ => exact ⟨.non, H', J.os, J.bare, J.base, J.hok, rfl, q⟩
  | .brk, ⟨_, _, _, q⟩ => exact q.elim
  | .cont, ⟨_, _, _, q⟩ => exact q.elim
/-- .. the mirror's -/
theorem fn_okG {P : Program} {w : World} {K : PySem.W.Frag} {mg : Str → Option Value} {base : Heap} {x qual : Str} {params : Arguments} {body : List Stmt} {scope : Scope} {f : Addr} {fd : FuncData} {N ps : List Str} {k n NN : Nat} {m : Sx}
    (hn : ps.length = n) (hNN : N.length = NN) (F : FunD K x qual params body scope [] [] f fd) (S : FnScope N ps scope)
    (hbody : ∀ (cdv : Value) (A : Around) (outer : List PySem.Env) (s : Shared) (H : Hp) (E : XK), A.guards = some [] → Room k (A.deeper (envOfC qual scope s.heap.objs.size f cdv)) → DSs (cxOf CX0 P w K mg base N qual scope f cdv A outer s H E).nox body m) :
    OkG P w K mg base (k + 1) f fd ps (spM K (mFn n NN m)) := by
  subst hn hNN
  refine OkG.of F S (fun vs H Q E h => ?_) (fun cdv A outer s H vs Q E hG hr h => ⟨_, PSs.nox (hbody cdv A outer s H E hG hr), spM_start S h⟩)
  obtain ⟨G, ad, w, as, r, w', _, _, _, a, hm, _⟩ := h
  unfold mFn at hm
  split at hm
  · rename_i hl
    rw [← a.length]; exact hl
  · cases hm

end Dn

set_option maxHeartbeats 4000000
namespace Dn
open PySem PySem.Spec PyProof.Rows L2

section
variable {prog : Program} {w : World} {A : Around} {E : Value → Shared → Prop} {s : Shared}
theorem meets_enumT (a : Addr) (its : Array Value) :
    Meets (Builtin.«enumerate.__new__» ⟨[.type "enumerate", .ref a], []⟩) (fun _ R s => s.heap.IsTuple a its ∧
      R (.ok (.ret (.ref (s.heap.push { cls := .type "tuple_iterator", data := .fields #[.ref a, .int 0 0] }).objs.size)))
        { s with heap := (s.heap.push { cls := .type "tuple_iterator", data := .fields #[.ref a, .int 0 0] }).push { cls := .type "enumerate", data := .fields #[.none, .bool false, .ref s.heap.objs.size, rawInt 0, .none, .none] } }) :=
  .of_wp fun prog w A R s h => by
    obtain ⟨hp, g, d, tk, os⟩ := s
    obtain ⟨hT, h⟩ := h
    have hsub := sub_enumerate
    have q1 : ∀ {A' : Around} {E : Value → Shared → Prop} {Q : Value → Shared → Prop}, Q (.ref hp.objs.size) ⟨hp.push { cls := .type "tuple_iterator", data := .fields #[.ref a, .int 0 0] }, g, d, tk, os⟩ → wpAny (model prog w) A' (pyIter (.ref a)) Q E ⟨hp, g, d, tk, os⟩ :=
      fun q => wpAny_pyIter_tuple (s := ⟨hp, g, d, tk, os⟩) hT q
    wp_walk using q1
    refine wpAny_stack_any fun st => wpAny_pure ?_
    split
    · rename_i c _ _ _ _ _
      cases (c == Value.type "enumerate") <;> wp_walk using q1 <;> exact ⟨_, rfl, h⟩
    · wp_walk using q1
      exact ⟨_, rfl, h⟩
theorem call_enumT {a : Addr} {its : Array Value} {Q : Value → Shared → Prop} (hT : s.heap.IsTuple a its)
    (h : ∀ h', IsEnum h' (s.heap.objs.size + 1) s.heap.objs.size 0 .none → h'.IsTupleIter s.heap.objs.size a 0 → (∀ b o, s.heap.get? b = some o → h'.get? b = some o) → Q (.ref (s.heap.objs.size + 1)) { s with heap := h' }) :
    wpAny (model prog w) A (call (.type "enumerate") [.ref a]) Q E s := by
  refine callType_new F.called_enumerate (by decide) (F.typeCall_enumerate_1 _) (F.newCall_enumerate_1 _) (fun obj => F.args_object_init_2 obj _) F.entry_enumerate_new (meets_enumT a its) ⟨hT, ?_⟩
  have hz : (s.heap.push { cls := .type "tuple_iterator", data := .fields #[.ref a, .int 0 0] }).objs.size = s.heap.objs.size + 1 := Heap.size_push ..
  have he := Heap.get?_push_size (s.heap.push { cls := .type "tuple_iterator", data := .fields #[.ref a, .int 0 0] }) (o := { cls := .type "enumerate", data := .fields #[.none, .bool false, .ref s.heap.objs.size, rawInt 0, .none, .none] }) rfl
  show _ ∧ _
  rw [hz] at he ⊢
  exact ⟨⟨_, he, rfl⟩, h _ he ⟨_, Heap.get?_push_of_some _ (Heap.get?_push_size _ rfl), rfl, rfl⟩ fun b o x => Heap.get?_push_of_some _ (Heap.get?_push_of_some _ x)⟩
end
def IteT (K : PySem.W.Frag) (a : Addr) : It :=
  ⟨fun i H => ∃ (xs : List V) (x : V), SqT K H a xs ∧ xs[i]? = some x, fun i H v H' => ∃ T x, v = .ref T ∧ H T = none ∧ H' = upd H T (.tup [.int (i : Nat), x]) ∧ ∀ xs, SqT K H a xs → xs[i]? = some x, fun i H => ∃ xs : List V, SqT K H a xs ∧ xs.length = i⟩
/-- an enumerate at e, i turns in, over the iterator at it of the tuple at a -/
def EnAt (a e it : Addr) (i : Nat) (h : Heap) : Prop := (∃ old, IsEnum h e it ((i : Nat) : Int) old) ∧ h.IsTupleIter it a i ∧ e ≠ it
section
variable {h : Heap} {a e it : Addr} {i : Nat} {its : Array Value}
theorem EnAt.lies (S : EnAt a e it i h) (b : Addr) (m : b ∈ [e, it]) : ∃ o, h.get? b = some o ∧ (∀ v, o.data ≠ .cell v) ∧ o.cls ≠ .type "tuple" := by
  obtain ⟨⟨old, one⟩, ⟨o, two, cls, data⟩, _⟩ := S
  simp only [List.mem_cons, List.not_mem_nil, or_false] at m
  rcases m with rfl | rfl
  · exact ⟨_, one, fun v z => (by cases z), fun z => absurd (Value.type.inj z) (by decide)⟩
  · exact ⟨o, two, fun v z => (by rw [data] at z; cases z), fun z => absurd (Value.type.inj (cls.symm.trans z)) (by decide)⟩
theorem EnAt.off (S : EnAt a e it i h) (T : h.IsTuple a its) : a ∉ [e, it] := fun m => by
  obtain ⟨o, p, _, n⟩ := S.lies a m
  obtain ⟨o', q, c, _⟩ := T
  rw [p] at q
  cases q
  exact n c
theorem EnAt.below (S : EnAt a e it i h) (b : Addr) (m : b ∈ [e, it]) : b < h.objs.size := let ⟨_, p, _⟩ := S.lies b m; Heap.lt_size p
end
theorem turn_enumT {P : Program} {w : World} {K : PySem.W.Frag} {elts : List Expr} {kk : Nat} {tpos : Pos} (a e it : Addr) : Turn P w K (.Tuple elts kk tpos) (IteT K a) [e, it] e (EnAt a e it) where
  mem := List.mem_cons_self
  obj := fun i h S b m => let ⟨o, p, n, _⟩ := S.lies b m; ⟨o, p, n⟩
  keep := fun i h h' S k => let ⟨⟨old, one⟩, two, ne⟩ := S; ⟨⟨old, k e List.mem_cons_self _ one⟩, two.at (k it (by simp)), ne⟩
  item := by
    rintro X rfl rfl rfl calm i pins s σ H E I own S ⟨xs, x, tup, at_⟩
    obtain ⟨its, vals, T, _⟩ := I.tuple tup
    obtain ⟨u, there, same⟩ := vals.get at_
    have T : s.heap.IsTuple a its.toArray := T
    have off := S.off T
    have low := S.below
    obtain ⟨⟨old, one⟩, two, ne⟩ := S
    have draws := Draws.tuple (prog := X.prog) (w := X.w) (A := X.A.in1) (I.ok.hd calm) it a (fun z => off (by simp [z])) its.toArray
    refine wpAny_pyNext_enum_itemD draws one ⟨two, T⟩ (by rw [List.size_toArray]; exact (List.getElem?_eq_some_iff.mp there).1) ne (by simp [ne, show e ≠ a from fun z => off (by simp [z])]) fun y h' tk hy ho two' fresh size more => ?_
    obtain rfl : u = y := by
      rw [List.getElem?_toArray, there] at hy
      exact Option.some.inj hy
    refine ⟨_, rfl, wpAny_letOwnedTupleGo_enum (s := { s with heap := h', toks := tk + 1 }) ho fun h'' one' but => ?_⟩
    have J : Inv X pins σ (upd H s.heap.objs.size (.tup [.int (i : Nat), x])) { s with heap := h'', toks := tk + 1 } := I.turnedNew (ch := [e, it]) (fun b ob n q => (but.2 b fun z => n (by simp [z])).trans (more b ob (fun z => n (by simp [z])) (fun z => n (by simp [z])) q)) own (Nat.le_refl _)
      ⟨by show 2 ≤ sizeLine; decide, [.int i tk, u], .cons ⟨_, rfl⟩ (.cons same .nil), ⟨_, (but.2 _ (Nat.ne_of_gt (low e List.mem_cons_self))).trans fresh, rfl, _, rfl⟩⟩
    refine ⟨.ref s.heap.objs.size, _, J, rfl, ⟨_, x, rfl, I.hok.fresh (Nat.le_refl _), rfl, fun ys q => by rw [I.tuple_inj q tup]; exact at_⟩, ⟨⟨u, ?_⟩, two'.1.at fun o q => (but.2 it ne.symm).trans q, ne⟩, fun b m => (upd_ne (Nat.ne_of_lt (low b m))).trans (own b m).1⟩
    rw [show ((i + 1 : Nat) : Int) = (i : Int) + 1 from Int.natCast_succ i]
    exact one'
  done := by
    rintro X rfl rfl rfl calm i pins s σ H E I own S ⟨xs, tup, len⟩
    obtain ⟨its, vals, T, _⟩ := I.tuple tup
    have T : s.heap.IsTuple a its.toArray := T
    have off := S.off T
    obtain ⟨⟨old, one⟩, two, ne⟩ := S
    have draws := Draws.tuple (prog := X.prog) (w := X.w) (A := X.A.in1) (I.ok.hd calm) it a (fun z => off (by simp [z])) its.toArray
    obtain rfl : its.toArray.size = i := by rw [List.size_toArray, ← vals.length]; exact len
    obtain ⟨g0, g1, _, g3, g4, g5⟩ := own it (by simp)
    exact wpAny_pyNext_enum_endD draws one ⟨two, T⟩ fun h' but => ⟨rfl, I.turned (t' := s.toks) (fun b o n q => but b o n q) g0 g1 g3 g4 g5⟩
  self := fun A i s Q E S h => wpAny_pyIter_enum S.1.choose_spec h
/-- enumerate of data -/
def enumL (xs : List PyData) : List PyData := xs.zipIdx.map fun p => .tuple [.int (p.2 : Nat), p.1]
theorem enumL_get {xs : List PyData} {i : Nat} {d : PyData} (h : xs[i]? = some d) : (enumL xs)[i]? = some (.tuple [.int (i : Nat), d]) := by
  unfold enumL
  rw [List.getElem?_map, List.getElem?_zipIdx, h]
  simp
theorem enumL_len (xs : List PyData) : (enumL xs).length = xs.length := by unfold enumL; simp
def mEnum (ms : Ax) : Lx := argsD ms fun ds env w => match ds with
  | [x] => (itemsD x).map fun xs => (enumL xs, env, w)
  | _ => none
theorem di_enum {X : Cx} {e : Expr} {ms : Ax} {p pos tpos : Pos} {elts : List Expr} {kk : Nat} (hm : X.mg "enumerate" = none) (ha : DA X [e] ms) (hg : Gl X "enumerate" := by rfl) (hs : starEach [e] X.env = [(false, eval e X.env)] := by rfl) :
    DI X (.Tuple elts kk tpos) (.Call (.Name "enumerate" p) [e] [] pos) (mEnum ms) := by
  refine ⟨fun pins s σ H R I h => ?_⟩
  obtain ⟨C, G, env, w, ds, env', w', Rl, hmm, k⟩ := h
  obtain ⟨rs, dd, e1, w1, h1, h2, hmm⟩ := argsD_inv hmm
  split at hmm
  · rename_i x
    obtain ⟨ys, hy, q⟩ := Option.map_eq_some_iff.mp hmm
    cases q
    refine Call_ (ld_blt I hg hm boot_enumerate (PyProof.Rows.callWith_type1 (thn (ha.run pos pins s σ H (fun vs H1 => ∃ G1 v, vs = [v] ∧ Rel X.K C env' w' σ G1 H1 ∧ Dq X.K G1 v x ∧ ∀ J, Ito X.K G1 J (enumL ys) → R J H1) I ⟨C, G, env, w, _, _, _, Rl, h1, fun vs G1 H1 R1 s1 i1 a1 => ?_⟩) fun us s1 ⟨vs, H1, I1, r1, G1, v, ev, R1, dq, kk⟩ => ?_) hs rfl))
    · have dA := dsOf_ok a1 h2
      obtain ⟨v, rfl, dv⟩ := dqA1 dA
      exact ⟨G1, v, rfl, R1, dv, fun J it => k J G1 H1 R1 s1 i1 it⟩
    subst ev
    cases r1 with
    | cons r rr =>
      cases rr
      have near : ∀ (h' : Heap) (b : Addr), b ∈ [s1.heap.objs.size + 1, s1.heap.objs.size] → FpOk X pins H1 b := fun h' b hb => by
        have hle : s1.heap.objs.size ≤ b := by
          simp only [List.mem_cons, List.not_mem_nil, or_false] at hb
          rcases hb with rfl | rfl
          · exact Nat.le_succ _
          · exact Nat.le_refl _
        exact I1.fpOk hle (I1.hok.fresh hle)
      cases dq with
      | @lst a vs es hs ha =>
        cases hy
        cases r
        have hq : SqL X.K H1 a vs := SqL.of (R1.sub _ _ hs)
        obtain ⟨its, rv, p', hz⟩ := I1.list hq
        refine call_enumerate_list p'.isList fun h' he hit hsz hk => wpAny_pyIter_enum he ?_
        refine ⟨s1.heap.objs.size + 1, [s1.heap.objs.size + 1, s1.heap.objs.size], _, _, H1, rfl, I1.kept (t' := s1.toks) hk, turn_enum a (s1.heap.objs.size + 1) s1.heap.objs.size, ⟨⟨.none, he⟩, hit, Nat.succ_ne_self _⟩, near h', kk _ ⟨?_, ?_, ?_, ?_⟩⟩
        · rw [enumL_len, ← dpA_len ha]; exact hz
        · intro i G2 H2 hi s2 s3
          rw [enumL_len, ← dpA_len ha] at hi
          exact ⟨vs, vs[i], SqL.of (s3 _ _ (s2 _ _ hs)), by simp [hi]⟩
        · intro i G2 H2 hi s2 s3
          exact ⟨vs, SqL.of (s3 _ _ (s2 _ _ hs)), by rw [dpA_len ha, hi, enumL_len]; exact Nat.le_refl _⟩
        · intro i G2 H2 x H' hi s2 s3 y
          obtain ⟨T, z, rfl, hT, rfl, y⟩ := y
          obtain ⟨d, q1, q2⟩ := dpA_get' ha (y vs (SqL.of (s3 _ _ (s2 _ _ hs))))
          obtain ⟨ex, dq⟩ := ext_tup (K := X.K) s3 hT (DqA.cons (Dq.int (i : Nat)) (.cons (dp_mono s2 q2) .nil))
          exact ⟨_, _, enumL_get q1, ex, dq⟩
      | @tup a vs es hs ha =>
        cases hy
        cases r
        have hq := Same.sqT R1.sub hs
        obtain ⟨its, rv, p', hz⟩ := I1.tuple hq
        refine call_enumT (show s1.heap.IsTuple a its.toArray from p') fun h' he hit hk => wpAny_pyIter_enum he ?_
        refine ⟨s1.heap.objs.size + 1, [s1.heap.objs.size + 1, s1.heap.objs.size], _, _, H1, rfl, I1.kept (t' := s1.toks) hk, turn_enumT a (s1.heap.objs.size + 1) s1.heap.objs.size, ⟨⟨.none, he⟩, hit, Nat.succ_ne_self _⟩, near h', kk _ ⟨?_, ?_, ?_, ?_⟩⟩
        · rw [enumL_len, ← dpA_len ha]; exact hz
        · intro i G2 H2 hi s2 s3
          rw [enumL_len, ← dpA_len ha] at hi
          exact ⟨vs, vs[i], Same.sqT s3 (Same.sqT s2 hs), by simp [hi]⟩
        · intro i G2 H2 hi s2 s3
          exact ⟨vs, Same.sqT s3 (Same.sqT s2 hs), by rw [dpA_len ha, hi, enumL_len]⟩
        · intro i G2 H2 x H' hi s2 s3 y
          obtain ⟨T, z, rfl, hT, rfl, y⟩ := y
          obtain ⟨d, q1, q2⟩ := dpA_get' ha (y vs (Same.sqT s3 (Same.sqT s2 hs)))
          obtain ⟨ex, dq⟩ := ext_tup (K := X.K) s3 hT (DqA.cons (Dq.int (i : Nat)) (.cons (dp_mono s2 q2) .nil))
          exact ⟨_, _, enumL_get q1, ex, dq⟩
      | _ => cases hy
  · cases hmm
end Dn

set_option maxHeartbeats 4000000
namespace Dn
open PySem PySem.Spec PyProof.Rows L2

section
variable {X : Cx}
def cmpOk (x y : PyData) : Bool := PySem.W.alike x y && (dOk 60 x || dOk 60 y) && (match x with
  | .none => false
  | .int _ => false
  | _ => true)
def leT (x y : PyData) : Option PyData := if cmpOk x y then some (.bool (!PySem.W.dataLt y x)) else none
def leD (x y : PyData) : Option PyData := match x with
  | .int _ => leI x y
  | _ => leT x y
theorem cmpOk_inv {x y : PyData} (h : cmpOk x y = true) : PySem.W.alike x y = true ∧ (dOk 60 x || dOk 60 y) = true ∧ x ≠ .none := by
  unfold cmpOk at h
  rw [Bool.and_eq_true, Bool.and_eq_true] at h
  refine ⟨h.1.1, h.1.2, ?_⟩
  rintro rfl
  cases h.2
theorem od_leT (hu : X.A.units + 64 < cLine) : OpD X (compareOp .LtE) leT := fun pins s σ G H x y v u dx dy dz Q I rx ry sg hx hy hg k => by
  unfold leT at hg
  split at hg
  · rename_i hd
    cases hg
    obtain ⟨h1, h2, h3⟩ := cmpOk_inv hd
    obtain ⟨as, r1⟩ := Dp.reads I dx x v (dp_mono sg hx).dp rx
    obtain ⟨bs, r2⟩ := Dp.reads I dy y u (dp_mono sg hy).dp ry
    exact PySem.W.rcLe_alike dx dy X.A s v u as bs r1 r2 h1 h3 (min60 h2 hu) X.prog X.w X.xe _ ⟨.bl _, H, I, rfl, k _ G H (Ext.refl sg) (.bl _)⟩
  · cases hg
theorem od_le (hu : X.A.units + 64 < cLine) : OpD X (compareOp .LtE) leD := fun pins s σ G H x y v u dx dy dz Q I rx ry sg hx hy hg k => by
  unfold leD at hg
  split at hg
  · exact od_leI pins s σ G H x y v u _ dy dz Q I rx ry sg hx hy hg k
  · exact od_leT hu pins s σ G H x y v u dx dy dz Q I rx ry sg hx hy hg k
end

section
variable {prog : Program} {w : World} {A : Around} {E : Value → Shared → Prop} {s : Shared} {Q : Value → Shared → Prop}
open PySem.W in
theorem pair_best {op : CmpOp} {a b : Value} {f : PyData → PyData → Bool} {x y : PyData} {as : List Addr} (hh : A.handled = none) (hr : ReadsAll s.heap [a, b] [x, y] as) (ha : AlikeAll [x, y]) (hu : A.units + 1 + PyData.depthAll [x, y] < cLine)
    (hc : op = .Lt ∧ (f = fun p q => dataLt p q) ∨ op = .Gt ∧ (f = fun p q => dataLt q p))
    (h : ∀ h' tk, (∀ b o, s.heap.get? b = some o → h'.get? b = some o) → Q (if f y x then b else a) { s with heap := h', toks := tk }) :
    wpAny (model prog w) A.in1 (pyIter (.ref s.heap.objs.size)) (fun it s₂ => ∃ I fp wr G n P St H bt, it = .ref I ∧ WalksS prog w A.in1 I fp wr G n P St ∧ St 0 s₂ ∧ (∀ b ∈ fp, b < s₂.heap.objs.size) ∧ 0 < n ∧
      (∀ b o, H.get? b = some o → b ∉ wr) ∧ (∀ b o, H.get? b = some o → s₂.heap.get? b = some o) ∧ CmpIn prog w A.in1 op H P bt ∧ ∀ v s', P (argBest bt (n - 1)) v → Moved wr G s₂ s' → Q v s') E
      { s with heap := s.heap.push { cls := .type "tuple", data := .seq #[a, b] } } := by
  have hT : (s.heap.push { cls := .type "tuple", data := .seq #[a, b] }).IsTuple s.heap.objs.size #[a, b] := ⟨_, Heap.get?_push_size _ rfl, rfl, _, rfl⟩
  refine iter_tupleW (s := { s with heap := s.heap.push { cls := .type "tuple", data := .seq #[a, b] } }) (A := A.in1) hh hT fun s₂ e W st hfp hw hk => ?_
  have hr2 : ReadsAll (s.heap.push { cls := .type "tuple", data := .seq #[a, b] }) (#[a, b] : Array Value).toList [x, y] as := ReadsAll.keeps (fun b o q => Heap.get?_push_of_some _ q) hr
  have fin : ∀ (bt : Nat → Nat → Bool), bt 1 0 = f y x → ∀ v s', (#[a, b] : Array Value)[argBest bt (2 - 1)]? = some v → Moved [(s.heap.push { cls := .type "tuple", data := .seq #[a, b] }).objs.size] (fun a b => b = a) s₂ s' → Q v s' := fun bt hbt v s' hP m => by
    obtain ⟨h', tk, rfl, hk'⟩ := moved_old e rfl m
    have q := h h' tk fun b o z => hk' b o (Heap.get?_push_of_some _ z)
    have e1 : argBest bt (2 - 1) = if f y x then 1 else 0 := by
      show (if bt 1 0 = true then 1 else 0) = _
      rw [hbt]
    rw [e1] at hP
    cases hf : f y x with
    | true => rw [hf] at hP q; cases hP; exact q
    | false => rw [hf] at hP q; cases hP; exact q
  rcases hc with ⟨rfl, rfl⟩ | ⟨rfl, rfl⟩
  · exact ⟨_, _, _, _, _, _, _, _, _, rfl, W, st, hfp, by simp, hw, hk, cmpIn_lt (s := { s with heap := s.heap.push { cls := .type "tuple", data := .seq #[a, b] } }) (A := A.in1) hr2 ha (by show A.units + 1 + _ < _; exact hu), fin _ rfl⟩
  · exact ⟨_, _, _, _, _, _, _, _, _, rfl, W, st, hfp, by simp, hw, hk, cmpIn_gt (s := { s with heap := s.heap.push { cls := .type "tuple", data := .seq #[a, b] } }) (A := A.in1) hr2 ha (by show A.units + 1 + _ < _; exact hu), fin _ rfl⟩
open PySem.W in
theorem call_max2D {a b : Value} {x y : PyData} {as : List Addr} (hh : A.handled = none) (hr : ReadsAll s.heap [a, b] [x, y] as) (ha : AlikeAll [x, y]) (hu : A.units + 1 + PyData.depthAll [x, y] < cLine)
    (h : ∀ h' tk, (∀ b o, s.heap.get? b = some o → h'.get? b = some o) → Q (if dataLt x y then b else a) { s with heap := h', toks := tk }) : wpAny (model prog w) A (call (.builtin "max") [a, b]) Q E s := by
  refine call_function_tree F.kind_max F.plain_max F.entry_max (F.args_max2 _ _) ?_
  show wpAny _ A.in1 (Builtin.Builtins.bindParams "max" ["key", "default"] 0 ⟨[], []⟩ >>= _) _ _ s
  refine wpAny_bind (wpAny_of_eq (a := [none, none]) rfl ?_)
  show wpAny _ A.in1 (newTuple [a, b] >>= _) _ _ s
  refine wpAny_bind (wpAny_newObj_type (wpAny_bind (wpAny_mono (pair_best (op := .Gt) (f := fun p q => dataLt q p) (Q := Q) (E := E) hh hr ha hu (.inr ⟨rfl, rfl⟩) h) ?_ fun _ _ e => e)))
  rintro it s₂ ⟨I, fp, wr, G, n, P, St, H, bt, rfl, W, hst, hfp, hn, hw, hkeep, hcmp, hQ⟩
  refine wpAny_bind (wpAny_newObj_type ?_)
  rw [show (toString "max" ++ toString ".loop" : String) = "max.loop" by decide]
  exact wpAny_pure ⟨plainId_quiet F.plain_max_loop _, codeAny_max_loop_firstH W H hw bt hcmp s₂.heap.objs.size (fun hm => Nat.lt_irrefl _ (hfp _ hm)) (PySem.fresh_in hkeep) _ hn (fun b o e => Heap.get?_push_of_some _ (hkeep b o e)) (W.frame 0 s₂ _ s₂.toks hst (Nat.le_refl _) fun b _ o e => Heap.get?_push_of_some _ e) (Heap.get?_push_size _ rfl) fun v s' hP hm => hQ v s' hP (Moved.drop_new (tk := s₂.toks) hm (Nat.le_refl _))⟩
open PySem.W in
theorem call_min2D {a b : Value} {x y : PyData} {as : List Addr} (hh : A.handled = none) (hr : ReadsAll s.heap [a, b] [x, y] as) (ha : AlikeAll [x, y]) (hu : A.units + 1 + PyData.depthAll [x, y] < cLine)
    (h : ∀ h' tk, (∀ b o, s.heap.get? b = some o → h'.get? b = some o) → Q (if dataLt y x then b else a) { s with heap := h', toks := tk }) : wpAny (model prog w) A (call (.builtin "min") [a, b]) Q E s := by
  refine call_function_tree F.kind_min F.plain_min F.entry_min (F.args_min2 _ _) ?_
  show wpAny _ A.in1 (Builtin.Builtins.bindParams "min" ["key", "default"] 0 ⟨[], []⟩ >>= _) _ _ s
  refine wpAny_bind (wpAny_of_eq (a := [none, none]) rfl ?_)
  show wpAny _ A.in1 (newTuple [a, b] >>= _) _ _ s
  refine wpAny_bind (wpAny_newObj_type (wpAny_bind (wpAny_mono (pair_best (op := .Lt) (f := fun p q => dataLt p q) (Q := Q) (E := E) hh hr ha hu (.inl ⟨rfl, rfl⟩) h) ?_ fun _ _ e => e)))
  rintro it s₂ ⟨I, fp, wr, G, n, P, St, H, bt, rfl, W, hst, hfp, hn, hw, hkeep, hcmp, hQ⟩
  refine wpAny_bind (wpAny_newObj_type ?_)
  rw [show (toString "min" ++ toString ".loop" : String) = "min.loop" by decide]
  exact wpAny_pure ⟨plainId_quiet F.plain_min_loop _, codeAny_min_loop_firstH W H hw bt hcmp s₂.heap.objs.size (fun hm => Nat.lt_irrefl _ (hfp _ hm)) (PySem.fresh_in hkeep) _ hn (fun b o e => Heap.get?_push_of_some _ (hkeep b o e)) (W.frame 0 s₂ _ s₂.toks hst (Nat.le_refl _) fun b _ o e => Heap.get?_push_of_some _ e) (Heap.get?_push_size _ rfl) fun v s' hP hm => hQ v s' hP (Moved.drop_new (tk := s₂.toks) hm (Nat.le_refl _))⟩
end

def alAll (xs : List PyData) : Bool := xs.all (fun x => xs.all fun y => PySem.W.alike x y) && (xs.all (fun x => match x with
  | .none => false
  | _ => true) && dOkAll 59 xs)
theorem alAll_ok {xs : List PyData} (h : alAll xs = true) : PySem.W.AlikeAll xs ∧ PyData.depthAll xs ≤ 59 := by
  unfold alAll at h
  rw [Bool.and_eq_true, Bool.and_eq_true] at h
  refine ⟨⟨fun x hx y hy => List.all_eq_true.mp (List.all_eq_true.mp h.1 x hx) y hy, fun x hx => ?_⟩, dOkAll_depth 59 xs h.2.2⟩
  rintro rfl
  cases List.all_eq_true.mp h.2.1 _ hx
def max2E : List PyData → Option PyData
  | [x, y] => if alAll [x, y] then some (if PySem.W.dataLt x y then y else x) else none
  | _ => none
def min2E : List PyData → Option PyData
  | [x, y] => if alAll [x, y] then some (if PySem.W.dataLt y x then y else x) else none
  | _ => none
section
variable {X : Cx}
theorem cd_max2E (hu : X.A.units + 64 < cLine) (hc : X.calm = true) : CallD X (.builtin "max") max2E := fun pins s σ G H xs us ds dz Q I rx sg hx hg k => by
  unfold max2E at hg
  split at hg
  · split at hg
    · rename_i ha
      cases hg
      obtain ⟨v, u, rfl, h1, h2⟩ := dqA2 hx
      obtain ⟨a, b, rfl, ra, rb⟩ := vals2 rx
      obtain ⟨as, r⟩ := Dp.readsAll I _ _ _ (dpA_mono sg hx).dp rx
      obtain ⟨a1, a2⟩ := alAll_ok ha
      refine call_max2D (I.ok.hd hc) r a1 (by omega) fun h' tk hk => ?_
      split
      · rename_i hlt
        exact ⟨_, H, I.kept hk, rb, k _ G H (Ext.refl sg) (by rw [if_pos hlt]; exact h2)⟩
      · rename_i hlt
        exact ⟨_, H, I.kept hk, ra, k _ G H (Ext.refl sg) (by rw [if_neg hlt]; exact h1)⟩
    · cases hg
  · cases hg
theorem cd_min2E (hu : X.A.units + 64 < cLine) (hc : X.calm = true) : CallD X (.builtin "min") min2E := fun pins s σ G H xs us ds dz Q I rx sg hx hg k => by
  unfold min2E at hg
  split at hg
  · split at hg
    · rename_i ha
      cases hg
      obtain ⟨v, u, rfl, h1, h2⟩ := dqA2 hx
      obtain ⟨a, b, rfl, ra, rb⟩ := vals2 rx
      obtain ⟨as, r⟩ := Dp.readsAll I _ _ _ (dpA_mono sg hx).dp rx
      obtain ⟨a1, a2⟩ := alAll_ok ha
      refine call_min2D (I.ok.hd hc) r a1 (by omega) fun h' tk hk => ?_
      split
      · rename_i hlt
        exact ⟨_, H, I.kept hk, rb, k _ G H (Ext.refl sg) (by rw [if_pos hlt]; exact h2)⟩
      · rename_i hlt
        exact ⟨_, H, I.kept hk, ra, k _ G H (Ext.refl sg) (by rw [if_neg hlt]; exact h1)⟩
    · cases hg
  · cases hg
/-- max(xs), xs a list of data -/
def maxLE : List PyData → Option PyData
  | [.list (x :: xs)] => if alAll (x :: xs) then some (PySem.W.maxD x xs) else none
  | _ => none
theorem cd_maxL (hu : X.A.units + 64 < cLine) (hc : X.calm = true) : CallD X (.builtin "max") maxLE := fun pins s σ G H xs us ds dz Q I rx sg hx hg k => by
  unfold maxLE at hg
  split at hg
  · rename_i x ys
    split at hg
    · rename_i ha
      cases hg
      obtain ⟨v, rfl, h1⟩ := dqA1 hx
      obtain ⟨a, rfl, ra⟩ := vals1 rx
      cases h1 with
      | @lst l vs es hs hd =>
        obtain rfl : a = Value.ref l := ra
        have hq : SqL X.K H l vs := SqL.of (sg _ _ hs)
        obtain ⟨its, rv, p, hz⟩ := I.list hq
        obtain ⟨as, r⟩ := Dp.readsAll I _ _ _ (dpA_mono sg hd).dp rv
        obtain ⟨a1, a2⟩ := alAll_ok ha
        refine PySem.W.max_list_data (I.ok.hd hc) p.isList (by simpa using r) a1 (by omega) fun i v h' tk bs hi hr hk => ?_
        have hi' : its[i]? = some v := by simpa using hi
        obtain ⟨z, hz1, hz2⟩ := vals_ix rv hi'
        obtain ⟨d, hd1, hd2⟩ := dpA_get' hd hz1
        have I' : Inv X pins σ H { s with heap := h', toks := tk } := I.kept hk
        obtain ⟨cs, r2⟩ := Dp.reads I' d z v (dp_mono sg hd2).dp hz2
        have e := PySem.SeqAt.plain_unique d _ _ _ _ (dq_plain hd2) r2 hr
        subst e
        exact ⟨_, H, I', hz2, k _ G H (Ext.refl sg) hd2⟩
    · cases hg
  · cases hg
end

def pickL {α : Type} (xs : List α) (k : Int) : List α := (sliceRange (sliceBounds none none (some k) xs.length).1 (sliceBounds none none (some k) xs.length).2.1 (sliceBounds none none (some k) xs.length).2.2).filterMap (xs[·]?)
def stepD (k : Int) : PyData → Option PyData
  | .list xs => if 2 ≤ k then some (.list (pickL xs k)) else if k = -1 then some (.list xs.reverse) else none
  | .tuple xs => if k = -1 then some (.tuple xs.reverse) else none
  | _ => none
def mStep (k : Int) (m : Ex) : Ex := seqE m fun x => optE (stepD k x)
section
variable {prog : Program} {w : World} {A : Around} {E : Value → Shared → Prop} {s : Shared}
end
section
variable {X : Cx}
end

end Dn

set_option maxHeartbeats 4000000
namespace Dn
open PySem PySem.Spec PyProof.Rows L2

def reprD : List PyData → Option PyData
  | [d] => if d.showable && dOk 58 d && decide (d.shown.length ≤ sizeLine) then some (.str d.shown) else none
  | _ => none
mutual
theorem dOk_noDict : ∀ (n : Nat) (d : PyData), dOk n d = true → d.hasDict = false
  | _, .none, _ => by simp [PyData.hasDict]
  | _, .bool _, _ => by simp [PyData.hasDict]
  | _, .int _, _ => by simp [PyData.hasDict]
  | _, .str _, _ => by simp [PyData.hasDict]
  | 0, .list _, h => by simp [dOk] at h
  | 0, .tuple _, h => by simp [dOk] at h
  | n + 1, .list xs, h => by
    simp only [dOk] at h
    simp only [PyData.hasDict]
    exact dOkAll_noDict n xs h
  | n + 1, .tuple xs, h => by
    simp only [dOk] at h
    simp only [PyData.hasDict]
    exact dOkAll_noDict n xs h
  | n, .dict _, h => by cases n <;> simp [dOk] at h
theorem dOkAll_noDict : ∀ (n : Nat) (ds : List PyData), dOkAll n ds = true → PyData.hasDictAll ds = false
  | _, [], _ => by simp [PyData.hasDictAll]
  | n, x :: xs, h => by
    simp only [dOkAll, Bool.and_eq_true] at h
    simp only [PyData.hasDictAll, dOk_noDict n x h.1, dOkAll_noDict n xs h.2, Bool.or_self]
end
theorem cd_repr {X : Cx} (hG : X.A.guards = some []) (hu : X.A.units + 64 < cLine) : CallD X (.builtin "repr") reprD := fun pins s σ G H xs us ds dz Q I rx sg hx hg k => by
  unfold reprD at hg
  split at hg
  · rename_i d
    split at hg
    · rename_i hc
      cases hg
      rw [Bool.and_eq_true, Bool.and_eq_true, decide_eq_true_iff] at hc
      obtain ⟨⟨hs, hd⟩, hz⟩ := hc
      obtain ⟨v, rfl, h1⟩ := dqA1 hx
      obtain ⟨a, rfl, ra⟩ := vals1 rx
      have fin : Q (.str d.shown) H := k _ G H (Ext.refl sg) (.str _)
      have hdep := dOk_depth 58 d hd
      have ref : ∀ b, a = Value.ref b → wpAny (model X.prog X.w) X.A (call (.builtin "repr") [a]) (EP X pins σ Q) X.xe s := fun b e => by
        subst e
        obtain ⟨as, r⟩ := Dp.reads I d v _ (dp_mono sg h1).dp ra
        exact repr_of_reads' r hs (PyData.noDict_hsm (dOk_noDict 58 d hd)) hG (by omega) (fun _ _ e => e) (fun h' u tk hk => ⟨.str d.shown, H, I.kept hk, ⟨_, rfl⟩, fin⟩) hz
      cases h1 with
      | non =>
        cases ra
        exact PySem.P.repr_of_none ⟨.str _, H, I.tok _, ⟨_, rfl⟩, fin⟩
      | bl b =>
        cases ra
        exact PySem.P.repr_of_bool ⟨.str (PyData.shown (.bool b)), H, I.tok _, ⟨_, rfl⟩, fin⟩
      | int i =>
        obtain ⟨t, rfl⟩ := ra
        simp only [PyData.showable, decide_eq_true_eq] at hs
        exact PySem.P.repr_of_int hs ⟨.str _, H, I.tok _, ⟨_, rfl⟩, fin⟩
      | str x =>
        obtain ⟨t, rfl⟩ := ra
        exact PySem.P.repr_of_str ⟨.str _, H, I.tok _, ⟨_, rfl⟩, fin⟩ hz
      | lst _ _ => exact ref _ ra
      | tup _ _ => exact ref _ ra
    · cases hg
  · cases hg
def boolsOf : List PyData → Option (List Bool)
  | [] => some []
  | .bool b :: ds => (boolsOf ds).map (b :: ·)
  | _ :: _ => none
theorem boolsOf_dq {K : PySem.W.Frag} {G : Hp} : ∀ {ds : List PyData} {vs : List V} {bs : List Bool}, DqA K G vs ds → boolsOf ds = some bs → vs = bs.map V.bl
  | [], _, _, h, e => by cases h; cases e; rfl
  | .bool b :: ds, _, _, .cons a r, e => by
    obtain ⟨cs, h1, h2⟩ := Option.map_eq_some_iff.mp e
    subst h2
    cases a
    rw [boolsOf_dq r h1]
    rfl
  | .none :: _, _, _, _, e => by cases e
  | .int _ :: _, _, _, _, e => by cases e
  | .str _ :: _, _, _, _, e => by cases e
  | .list _ :: _, _, _, _, e => by cases e
  | .tuple _ :: _, _, _, _, e => by cases e
  | .dict _ :: _, _, _, _, e => by cases e
theorem boolsOf_map : ∀ bs : List Bool, boolsOf (bs.map .bool) = some bs
  | [] => rfl
  | b :: bs => by
    rw [List.map_cons, boolsOf, boolsOf_map bs]
    rfl
def anyD : List PyData → Option PyData
  | [.list xs] => (boolsOf xs).map fun bs => .bool (bs.any id)
  | _ => none
theorem cd_any {X : Cx} (hc : X.calm = true) : CallD X (.builtin "any") anyD := callD_of (cr_any hc) fun G H xs ds dz Q sg hx hg k => by
  unfold anyD at hg
  split at hg
  · obtain ⟨bs, h1, h2⟩ := Option.map_eq_some_iff.mp hg
    subst h2
    obtain ⟨v, rfl, h⟩ := dqA1 hx
    cases h with
    | lst hs ha =>
      rw [boolsOf_dq ha h1] at hs
      exact ⟨_, bs, rfl, SqL.of (sg _ _ hs), k _ G H (Ext.refl sg) (.bl _)⟩
  · cases hg
end Dn

set_option maxHeartbeats 4000000
namespace Dn
open PySem PySem.Spec PyProof.Rows L2

def putS (kvs : List (Str × PyData)) (k : Str) (v : PyData) : List (Str × PyData) := if (kvs.any fun kv => decide (kv.1 = k)) = true then kvs.map (fun kv => if kv.1 = k then (kv.1, v) else kv) else kvs ++ [(k, v)]
def valS (kvs : List (Str × PyData)) (k : Str) : Option PyData := (kvs.find? fun kv => decide (kv.1 = k)).map (·.2)
section
variable {K : PySem.W.Frag} {G : Hp}
theorem DicQ.len : ∀ {vs : List (Key × V)} {ds : List (Str × PyData)}, DicQ K G vs ds → vs.length = ds.length
  | _, _, .nil => rfl
  | _, _, .cons _ b => congrArg Nat.succ b.len
theorem DicQ.app : ∀ {vs us : List (Key × V)} {ds es : List (Str × PyData)}, DicQ K G vs ds → DicQ K G us es → DicQ K G (vs ++ us) (ds ++ es)
  | _, _, _, _, .nil, h => h
  | _, _, _, _, .cons a b, h => .cons a (b.app h)
theorem DicQ.any (k : Str) : ∀ {vs : List (Key × V)} {ds : List (Str × PyData)}, DicQ K G vs ds → (vs.any fun kv => decide (kv.1 = .inr k)) = ds.any fun kv => decide (kv.1 = k)
  | _, _, .nil => rfl
  | _, _, .cons a b => by
    rw [List.any_cons, List.any_cons, b.any k]
    simp
theorem DicQ.upd (k : Str) {v : V} {d : PyData} (h : Dq K G v d) : ∀ {vs : List (Key × V)} {ds : List (Str × PyData)}, DicQ K G vs ds → DicQ K G (vs.map fun kv => if kv.1 = .inr k then (kv.1, v) else kv) (ds.map fun kv => if kv.1 = k then (kv.1, d) else kv)
  | _, _, .nil => .nil
  | _, _, .cons (k := j) a b => by
    rw [List.map_cons, List.map_cons]
    by_cases e : j = k
    · subst e
      rw [if_pos rfl, if_pos rfl]
      exact .cons h (b.upd j h)
    · rw [if_neg (fun z => e (Sum.inr.inj z)), if_neg e]
      exact .cons a (b.upd k h)
theorem DicQ.put {k : Str} {v : V} {d : PyData} {vs : List (Key × V)} {ds : List (Str × PyData)} (h : DicQ K G vs ds) (a : Dq K G v d) : DicQ K G (putK vs (.inr k) v) (putS ds k d) := by
  unfold putK putS
  rw [h.any k]
  split
  · exact h.upd k a
  · exact h.app (.cons a .nil)
theorem DicQ.val {k : Str} {d : PyData} : ∀ {vs : List (Key × V)} {ds : List (Str × PyData)}, DicQ K G vs ds → valS ds k = some d → ∃ v, valV vs (.inr k) = some v ∧ Dq K G v d
  | _, _, .nil, e => by cases e
  | _, _, .cons (k := j) (v := v) (ds := ds) a b, e => by
    by_cases hj : j = k
    · subst hj
      unfold valS at e
      rw [List.find?_cons] at e
      simp at e
      subst e
      exact ⟨v, valV_pos rfl, a⟩
    · have e' : valS ds k = some d := by
        unfold valS at e ⊢
        rw [List.find?_cons, decide_eq_false hj] at e
        exact e
      obtain ⟨u, h1, h2⟩ := b.val e'
      exact ⟨u, (valV_neg (fun z => hj (Sum.inr.inj z))).trans h1, h2⟩
end
section
variable {X : Cx}
theorem DicQ.key {K : PySem.W.Frag} {G : Hp} : ∀ {vs : List (Key × V)} {ds : List (Str × PyData)} {i : Nat} {k : Key} {v : V}, DicQ K G vs ds → vs[i]? = some (k, v) → ∃ x, (ds.map fun kv => PyData.str kv.1)[i]? = some (.str x) ∧ k = .inr x
  | _, _, _, _, _, .nil, e => by simp at e
  | _, _, 0, _, _, .cons (k := j) a b, e => by
    simp at e
    obtain ⟨rfl, rfl⟩ := e
    exact ⟨j, rfl, rfl⟩
  | _, _, i + 1, _, _, .cons a b, e => by
    obtain ⟨x, h1, h2⟩ := b.key (i := i) (by simpa using e)
    exact ⟨x, by simpa using h1, h2⟩
end

end Dn

set_option maxHeartbeats 4000000
namespace Dn
open PySem PySem.Spec PyProof.Rows L2

section
variable {X : Cx}
end
end Dn

set_option maxHeartbeats 4000000
namespace Bl
open PySem PySem.Calls PyProof.Rows PyProof.V PySem.Spec
section
variable {P : Program} {w : World} {A : Around} {E : Value → Shared → Prop} {s : Shared}
/-- the list that is filled -/
abbrev Holds (h : Heap) (S : Addr) (vs : List Value) : Prop := ∃ c acc, h.get? S = some { cls := .type "list", dict := none, data := .seq acc c, slots := #[] } ∧ acc.toList = vs
/-- J i vs tells of a heap that the iterator at z has given i items, vs, F vs that it is over; neither is about the list at S -/
structure Feeds (P : Program) (w : World) (A : Around) (S z : Addr) (n : Nat) (J : Nat → List Value → Heap → Prop) (F : List Value → Heap → Prop) : Prop where
  stay : ∀ {i vs h h'}, J i vs h → (∀ b o, b ≠ S → h.get? b = some o → h'.get? b = some o) → J i vs h'
  next : ∀ {i vs} {s : Shared} {E : Value → Shared → Prop} {Q : Option Value → Shared → Prop}, i < n → J i vs s.heap → S < s.heap.objs.size → (∀ v h', J (i + 1) (vs ++ [v]) h' → (∀ o, s.heap.get? S = some o → h'.get? S = some o) → Q (some v) { s with heap := h' }) → wpAny (model P w) A (pyNext (.ref z)) Q E s
  done : ∀ {vs} {s : Shared} {E : Value → Shared → Prop} {Q : Option Value → Shared → Prop}, J n vs s.heap → (∀ h', F vs h' → (∀ o, s.heap.get? S = some o → h'.get? S = some o) → Q none { s with heap := h' }) → wpAny (model P w) A (pyNext (.ref z)) Q E s
variable {S z : Addr} {n : Nat} {J : Nat → List Value → Heap → Prop} {F : List Value → Heap → Prop}
/-- the heap ahead of a push, and behind it -/
theorem push {xs : Array Value} {c : Nat} (hS : s.heap.get? S = some { cls := .type "list", dict := none, data := .seq xs c, slots := #[] }) (hn : xs.size ≤ sizeLine) {f : Array Value → Array Value} (hf : (f xs).size ≤ sizeLine + 1) {Q : Unit → Shared → Prop}
    (q : ∀ h', (∀ b o, b ≠ S → s.heap.get? b = some o → h'.get? b = some o) → Holds h' S (f xs).toList → Q () { s with heap := h' }) : wpAny (model P w) A (updateSeq S f) Q E s :=
  wpAny_updateSeq hS rfl (q _ (fun b o hb e => (Heap.get?_update_other _ _ (Ne.symm hb)).trans e) ⟨_, _, Heap.get?_update_self _ hS rfl, rfl⟩) hn hf
theorem loop (G : Feeds P w A.in1 S z n J F) (hn : n ≤ sizeLine) (res : Value) {R : Result → Shared → Prop} {s0 : Shared} (hR : ∀ h' vs, F vs h' → Holds h' S vs → vs.length = n → R (.ok (.ret res)) { s0 with heap := h' }) :
    ∀ (k i : Nat) (h : Heap) (vs : List Value), i + k = n → vs.length = i → J i vs h → Holds h S vs → codeAny (model P w) A (.builtin "list.extend.loop" ⟨[.ref S, .ref z, res], []⟩) R { s0 with heap := h } := by
  intro k
  induction k with
  | zero =>
    intro i h vs hi hl hJ ⟨c, acc, hS, e⟩
    obtain rfl : i = n := hi
    refine codeAny_builtin PySem.F.entry_extend_loop ?_
    rw [Around.under_plainId PySem.F.plain_extend_loop _]
    exact wpAny_bind (m := pyNext (.ref z)) (G.done hJ fun h' hJ' kS => wpAny_pure (hR h' vs hJ' ⟨c, acc, kS _ hS, e⟩ hl))
  | succ k ih =>
    intro i h vs hi hl hJ ⟨c, acc, hS, e⟩
    have sz : acc.size = i := by rw [← hl, ← e, Array.length_toList]
    refine codeAny_builtin PySem.F.entry_extend_loop ?_
    rw [Around.under_plainId PySem.F.plain_extend_loop _]
    refine wpAny_bind (m := pyNext (.ref z)) (G.next (by omega) hJ (Heap.lt_size hS) fun v h' hJ' kS => ?_)
    refine wpAny_bind (m := updateSeq S (·.push v)) (push (s := { s0 with heap := h' }) (kS _ hS) (by omega) (by rw [Array.size_push]; omega) fun h2 k2 hold => ?_)
    exact wpAny_pure ⟨plainId_quiet PySem.F.plain_extend_loop _, ih (i + 1) h2 (vs ++ [v]) (by omega) (by simp [hl]) (G.stay hJ' k2) (by rw [Array.toList_push, e] at hold; exact hold)⟩
end
end Bl

set_option maxHeartbeats 4000000
namespace Zpl
open PySem PySem.Calls PyProof.Rows PyProof.V PySem.Spec
open Sem (wp)
section
variable {prog : Program} {w : World} {A : Around} {E : Value → Shared → Prop} {s : Shared} {z TI TO i1 i2 l1 l2 S : Addr} {xs ys : Array Value}
end
section
variable {prog : Program} {w : World} {A : Around} {E : Value → Shared → Prop} {s : Shared} {z TI TO i1 i2 l1 l2 : Addr} {xs ys : Array Value}
end
end Zpl
namespace Dn
open PySem PySem.Spec PyProof.Rows L2
end Dn

set_option maxHeartbeats 4000000
namespace Bs
open PySem PySem.Spec PyProof.Rows L2
section
variable {P : Program} {w : World}
abbrev Old (h0 h : Heap) : Prop := ∀ b o, h0.get? b = some o → h.get? b = some o
/-- one turn of the set's loop is what the iterator tells next -/
theorem turn {A : Around} {S I : Addr} {R : Result → Shared → Prop} {s : Shared}
    (h : ∀ E, (∀ e t, E e t = R (.error e) t) → wpAny (model P w) A.in1 (pyNext (.ref I)) (fun x t => match x with
      | none => R (.ok (.ret .none)) t
      | some v => wpAny (model P w) A.in1 (setAdd S v) (fun _ t' => codeAny (model P w) A (.builtin "set.update.loop" ⟨[.ref S, .ref I], []⟩) R t') E t) E s) :
    codeAny (model P w) A (.builtin "set.update.loop" ⟨[.ref S, .ref I], []⟩) R s := by
  refine codeAny_builtin F.entry_set_update_loop ?_
  rw [Around.under_plainId F.plain_set_update_loop _]
  refine wpAny_bind (m := pyNext (.ref I)) (wpAny_mono (h _ fun _ _ => rfl) (fun x t hx => ?_) fun _ _ z => z)
  cases x with
  | none => exact wpAny_pure hx
  | some v => exact wpAny_bind (wpAny_holding (wpAny_mono hx (fun _ t' z => wpAny_pure ⟨plainId_quiet F.plain_set_update_loop _, z⟩) fun _ _ z => z))
variable {A : Around} {S I l : Addr} {items : Array Value} {h0 : Heap} {J : Nat → Heap → Prop}
theorem off {h0 h : Heap} {b c : Addr} (o0 : Old h0 h) (hb : h0.get? b = none) (hc : ∃ o, h0.get? c = some o) : c ≠ b := fun e => by
  obtain ⟨o, ho⟩ := hc
  rw [e, hb] at ho
  cases ho
/-- a type is called: made, then told what it is made of -/
theorem made {A : Around} {E : Value → Shared → Prop} {T newId initId : String} {Bi : Builtin} {args : List Value} {Q Q₁ : Value → Shared → Prop} {s : Shared} (ft : TypeCalled T newId initId) (hct : checkTypeCall T ⟨args, []⟩ = pure ()) (entryI : entryFor table initId = some Bi)
    (hnew : codeAny (model P w) A.in1 (.call (.builtin newId) ⟨.type T :: args, []⟩) (wants Q₁ E) s)
    (hnext : ∀ obj s₁, Q₁ obj s₁ → s₁.TypeIs obj T ∧ (∀ M A' E' Q', Q' () s₁ → wpAny M A' (checkBuiltinCall initId ⟨obj :: args, []⟩) Q' E' s₁) ∧
      wpAny (model P w) A.in1.in1 (Bi ⟨obj :: args, []⟩) (fun fin s' => ∃ s₂, fin = .done (.ret .none) ∧ s' = s₂ ∧ Q obj s₂) (fun e s' => E e s') s₁) :
    wpAny (model P w) A (call (.type T) args) Q E s := by
  obtain ⟨top, others, hm⟩ := ft.mro
  have facts := And.intro ft.made (And.intro ft.sub (And.intro ft.notType ft.canCreate))
  obtain ⟨f1, f2, f3, f4⟩ := facts
  refine wpAny_call (codeAny_of_tree (wpAny_pure ⟨Code.quiet_builtin _ (by decide +kernel), codeAny_builtin F.entry_type_call ?_⟩))
  rw [Around.under_plain (weight_type_call_type T args []) rfl]
  repeat (any_goals (first | assumption | wp_step))
  refine codeAny_mono hnew fun
    | .error _, _, h => h
    | .ok (.ret obj), s₁, h => ?_
  obtain ⟨g1, g2, g3⟩ := hnext _ _ h
  have f5 := ft.init.lookup
  have f6 := ft.init.bind obj
  repeat (any_goals (first | assumption | wp_step))
  refine codeAny_mono (codeAny_call_builtin (R := wants (fun r s₂ => r = .none ∧ Q obj s₂) E) ft.init.plain entryI (g2 _ _ _ _ ?_)) fun
    | .error _, _, h => h
    | .ok (.ret _), _, ⟨h1, h2⟩ => ?_
  · refine wpAny_mono g3 (fun fin s' z => ?_) fun _ _ z => z
    obtain ⟨s₂, rfl, rfl, z⟩ := z
    exact ⟨rfl, z⟩
  · subst h1
    repeat (any_goals (first | assumption | wp_step))
abbrev fresh (w : World) : Obj := { cls := .type "set", dict := none, data := .set #[] 0 (.fresh 0 0 (!w.params.followText "set-order")) }
end
end Bs

set_option maxHeartbeats 4000000
namespace Nst
open PySem PySem.Spec PyProof.Rows L2
mutual
/-- no text in it -/
def bare : NestedKey → Bool
  | .none => true
  | .num _ => true
  | .text _ => false
  | .tup ks => bareAll ks
def bareAll : List NestedKey → Bool
  | [] => true
  | k :: ks => bare k && bareAll ks
end
section
variable {P : Program} {w : World}
def Says {α : Type} (P : Program) (w : World) (s : Shared) (m : Sem α) (x : α) : Prop := ∀ (A : Around) (E : Value → Shared → Prop) (Q : α → Shared → Prop), Q x s → wpAny (model P w) A m Q E s
theorem Says.then {α β : Type} {s : Shared} {m : Sem α} {x : α} {f : α → Sem β} {y : β} (h : Says P w s m x) (g : Says P w s (f x) y) : Says P w s (m >>= f) y := fun A E Q q => wpAny_bind (h A E _ (g A E Q q))
theorem says_pure {α : Type} {s : Shared} (x : α) : Says P w s (pure x) x := fun _ _ _ q => wpAny_pure q
theorem says_all {σ : Type} {s : Shared} {f : Value → σ → Sem (ForInStep σ)} {z : σ} : ∀ {l : List Value}, (∀ v ∈ l, Says P w s (f v z) (.yield z)) → Says P w s (forIn l z f) z
  | [], _ => says_pure z
  | v :: l, h => by
    rw [List.forIn_cons]
    exact (h v (List.mem_cons_self)).then (says_all fun u hu => h u (List.mem_cons_of_mem v hu))
theorem says_each {σ : Type} {s : Shared} {f : Value → σ → Sem (ForInStep σ)} {z : σ} {vs : Array Value} (h : ∀ v ∈ vs.toList, Says P w s (f v z) (.yield z)) : Says P w s (forIn vs z f) z := by
  rw [← Array.forIn_toList]; exact says_all h
theorem says_type {s : Shared} {v : Value} {T : String} (h : s.TypeIs v T) : Says P w s (typeOf v) (.type T) := fun _ _ _ q => wpAny_typeOf h q
theorem says_items {s : Shared} {a : Addr} {o : Obj} {vs : Array Value} {m : Nat} (ho : s.heap.get? a = some o) (hd : o.data = .seq vs m) : Says P w s (seqItems? (.ref a)) (some vs) := fun _ _ _ q => wpAny_seqItems ho hd q
theorem says_hash {s : Shared} {a : Addr} (h : s.TypeIs (.ref a) "tuple") : Says P w s (specialOf (.ref a) (Str.ofString "__hash__")) (some (.builtin "tuple.__hash__")) := fun _ _ _ q => wpAny_specialOf h F.slot_tuple_hash.lookup q
/-- a key is of no class statement, and, without a text, hashed by what it is -/
def Calm (P : Program) (w : World) (n : Nat) (s : Shared) (b : Bool) (v : Value) : Prop := Says P w s (ofAClassStatement n v) false ∧ (b = true → Says P w s (hashByValue n v) true)
theorem calm_tup {n : Nat} {s : Shared} {b : Bool} {a : Addr} {o : Obj} {vs : Array Value} {m : Nat} (ho : s.heap.get? a = some o) (hc : o.cls = .type "tuple") (hd : o.data = .seq vs m) (h : ∀ v ∈ vs.toList, Calm P w n s b v) : Calm P w (n + 1) s b (.ref a) := by
  have ty : s.TypeIs (.ref a) "tuple" := ⟨o, ho, hc⟩
  constructor
  · unfold ofAClassStatement
    refine (says_type ty).then ?_
    show Says P w s ((pure true : Sem Bool) >>= fun u => _) false
    refine (says_pure true).then ((says_items ho hd).then (Says.then (says_each fun v hv => ?_) (says_pure false)))
    exact (h v hv).1.then (says_pure _)
  · intro hb
    unfold hashByValue
    refine (says_hash ty).then ((says_items ho hd).then (Says.then (says_each fun v hv => ?_) (says_pure true)))
    exact ((h v hv).2 hb).then (says_pure _)
mutual
theorem calm_key : ∀ (k : NestedKey) {v : Value} {n : Nat} {s : Shared}, NestedIs s.heap k v → k.depth ≤ n → Calm P w n s (bare k) v
  | .none, _, n, _, x, _ => by cases x; cases n <;> exact ⟨says_pure _, fun _ => says_pure _⟩
  | .num _, _, n, _, x, _ => by cases x <;> cases n <;> exact ⟨says_pure _, fun _ => says_pure _⟩
  | .text _, _, n, _, x, _ => by cases x; cases n <;> exact ⟨says_pure _, fun z => by simp [bare] at z⟩
  | .tup ks, _, 0, _, _, hn => by simp [NestedKey.depth] at hn
  | .tup ks, _, n + 1, s, .tup hg hc hd hk, hn => by
    have hn' : NestedKey.depthAll ks ≤ n := by simpa [NestedKey.depth] using hn
    have r := calm_keys ks hk hn'
    refine calm_tup hg hc hd fun v hv => ?_
    rw [bare]; exact r v hv
theorem calm_keys : ∀ (ks : List NestedKey) {vs : List Value} {n : Nat} {s : Shared}, NestedAll s.heap ks vs → NestedKey.depthAll ks ≤ n → ∀ v ∈ vs, Calm P w n s (bareAll ks) v
  | [], _, _, _, x, _, v, hv => by cases x; simp at hv
  | k :: ks, _, n, s, .cons x1 x2, hn, v, hv => by
    have hd : k.depth ≤ n ∧ NestedKey.depthAll ks ≤ n := by simp only [NestedKey.depthAll] at hn; omega
    have sp : bareAll (k :: ks) = true → bare k = true ∧ bareAll ks = true := by simp [bareAll]
    cases hv with
    | head => exact ⟨(calm_key k x1 hd.1).1, fun z => (calm_key k x1 hd.1).2 (sp z).1⟩
    | tail _ hv => exact ⟨(calm_keys ks x2 hd.2 v hv).1, fun z => (calm_keys ks x2 hd.2 v hv).2 (sp z).2⟩
end
/-- the tuple at an address is the key -/
structure IsN (h : Heap) (k : NestedKey) (a : Addr) : Prop where
  is : NestedIs h k (.ref a)
  dep : k.depth ≤ 8
  br : bare k = true
theorem IsN.keep {h h' : Heap} {k : NestedKey} {a : Addr} (x : IsN h k a) (hk : ∀ c o, h.get? c = some o → h'.get? c = some o) : IsN h' k a := ⟨NestedIs.at (fun b o vs n q _ => hk b o q) k _ x.is, x.dep, x.br⟩
/-- a set that changes is none of the tuples -/
theorem IsN.past {h h' : Heap} {k : NestedKey} {a b : Addr} (x : IsN h k b) (ho : ∃ o es ep t, h.get? a = some o ∧ o.data = .set es ep t) (hs : Heap.SameBut a h h') : IsN h' k b := by
  obtain ⟨o, es, ep, t, ho, hd⟩ := ho
  refine ⟨NestedIs.at (fun c oc vs n q qd => (hs.2 c ?_).trans q) k _ x.is, x.dep, x.br⟩
  rintro rfl
  have same : oc = o := by rw [ho] at q; exact (Option.some.inj q).symm
  subst same
  rw [hd] at qd
  exact Data.noConfusion qd
theorem IsN.quiet {s : Shared} {k : NestedKey} {a : Addr} (x : IsN s.heap k a) : Says P w s (eqIsQuiet 8 (.ref a)) true := fun A E Q q => quiet_key k _ 8 s x.is x.dep A E Q q
theorem IsN.calm {s : Shared} {k : NestedKey} {a : Addr} (x : IsN s.heap k a) : Says P w s (ofAClassStatement 8 (.ref a)) false := (calm_key k x.is x.dep).1
theorem IsN.hashed {s : Shared} {k : NestedKey} {a : Addr} (x : IsN s.heap k a) : Says P w s (hashByValue 8 (.ref a)) true := (calm_key k x.is x.dep).2 x.br
theorem IsN.unseen {s : Shared} {k : NestedKey} {b : Addr} (hk : IsN s.heap k b) {ys : List Value} (hy : ∀ y ∈ ys, ∃ j c, y = Value.ref c ∧ IsN s.heap j c) : Says P w s (searchCouldBeSeen (.ref b) ys) false := by
  unfold searchCouldBeSeen
  refine Says.then (says_all fun y hm => ?_) (says_pure false)
  obtain ⟨j, c, rfl, hc⟩ := hy y hm
  dsimp only
  split
  · exact says_pure _
  · exact hk.quiet.then (hc.quiet.then (hk.calm.then (hc.calm.then (says_pure _))))
abbrev nh (w : World) (k : NestedKey) : Int := k.hash w
/-- a row of the table -/
abbrev row1 (w : World) (p : Addr × NestedKey) : Int × Value := (nh w p.2, Value.ref p.1)
def rowN (w : World) (L : List (Addr × NestedKey)) : List (Int × Value) := L.map (row1 w)
/-- what stands in a table, whatever heap it lies in -/
structure Cont (w : World) (L : List (Addr × NestedKey)) (es : Array (Int × Value)) (t : SetTable) : Prop where
  rows : es.toList = rowN w L
  tab : TabOk t (L.map fun p => nh w p.2)
  nd : (L.map (·.2)).Nodup
  plain : t.plain = true
  led : w.params.followText "set-order" = true ∨ t.led = true
  few : L.length < 64
variable {L : List (Addr × NestedKey)} {es : Array (Int × Value)} {t : SetTable}
theorem Cont.size (C : Cont w L es t) : es.size = L.length := by
  have := congrArg List.length C.rows
  simpa [rowN] using this
theorem Cont.places (C : Cont w L es t) : t.place.toList.length = L.length := by simpa using C.tab.sz
theorem Cont.fits (C : Cont w L es t) (h : L.length ≤ t.mask) : t.fits es.size = true := by
  have e1 : t.place.size = es.size := by rw [C.size]; simpa using C.tab.sz
  have e2 : es.size ≤ t.mask := C.size ▸ h
  simp [SetTable.fits, SetTable.fill, C.tab.dm, e1, e2]
theorem Cont.at (C : Cont w L es t) (i : Nat) : es[i]? = (L[i]?).map (row1 w) := by rw [← Array.getElem?_toList, C.rows, rowN, List.getElem?_map]
structure SetN (w : World) (h : Heap) (a : Addr) (L : List (Addr × NestedKey)) (es : Array (Int × Value)) (ep : Nat) (t : SetTable) : Prop extends Cont w L es t where
  ob : ∃ o, h.get? a = some o ∧ o.ExactSet ∧ o.data = .set es ep t
  tup : ∀ p ∈ L, IsN h p.2 p.1
  room : L.length * 5 < t.mask * 3
variable {A : Around} {E : Value → Shared → Prop} {s : Shared} {a : Addr} {ep : Nat}
theorem SetN.ok (R : SetN w s.heap a L es ep t) : t.fits es.size = true := R.toCont.fits (by have := R.room; omega)
theorem SetN.isSet {h : Heap} (R : SetN w h a L es ep t) : ∃ o es ep t, h.get? a = some o ∧ o.data = .set es ep t := by
  obtain ⟨o, h1, _, h2⟩ := R.ob
  exact ⟨o, es, ep, t, h1, h2⟩
theorem SetN.state (R : SetN w s.heap a L es ep t) : Says P w s (setState a) (es, ep, t) := fun A E Q q => by
  obtain ⟨o, h1, _, h2⟩ := R.ob
  exact wpAny_setState_of h1 h2 R.ok q
/-- hash of the row with a number, as the search asks it -/
abbrev hsh (es : Array (Int × Value)) (i : Nat) : Int := (es[i]?.map (·.1)).getD 0
theorem Cont.hsh (C : Cont w L es t) {i : Nat} {p : Addr × NestedKey} (h : L[i]? = some p) : hsh es i = nh w p.2 := by
  show (es[i]?.map (·.1)).getD 0 = _
  rw [C.at, h] <;> rfl
theorem round (R : SetN w s.heap a L es ep t) {x : Addr} {k : NestedKey} (hx : IsN s.heap k x) (hu : A.units + 8 < cLine) {f : Nat} {stand : Option SetTable.Probe} {Q : SetFound → Shared → Prop}
    (h : (∃ j i p next, t.probe (hsh es) (nh w k) (stand.getD (t.probeStart (nh w k))) = some (.candidate j i next) ∧ t.place.toList[i]? = some j ∧ L[i]? = some p ∧ (p.2 = k → Q (.there none) s) ∧ (p.2 ≠ k → wpAny (model P w) A (setSearchFrom a (.ref x) (nh w k) true f (some next)) Q E s)) ∨
      (∃ j, t.probe (hsh es) (nh w k) (stand.getD (t.probeStart (nh w k))) = some (.empty j none) ∧ Q (.free j false) s)) :
    wpAny (model P w) A (setSearchFrom a (.ref x) (nh w k) true (f + 1) stand) Q E s := by
  rw [setSearchFrom_succ]
  refine wpAny_bind (R.state A E _ ?_)
  have g : t.gaveWay = false := by simp [SetTable.gaveWay, mask_odd R.tab.mok]
  simp only [g, Bool.false_eq_true, if_false]
  rcases h with ⟨j, i, p, next, e, hj, hp, yes, no⟩ | ⟨j, e, q⟩
  · have row : es[i]? = some (row1 w p) := by rw [R.at, hp] <;> rfl
    have there := R.tup p (List.mem_of_getElem? hp)
    have rest : wpAny (model P w) A (searchRest a (.ref x) (nh w k) true f es t j i next) Q E s := by
      unfold searchRest
      simp only [row]
      refine wpAny_bind (wpAny_holding ((nestedKind P w).eqBool (x := p.2) (y := k) hu ⟨there.is, there.dep⟩ ⟨hx.is, hx.dep⟩ (wpAny_bind (R.state A E _ ?_))))
      rcases Classical.em (p.2 = k) with c | c
      · simp only [c, Bool.true_and, decide_true, if_true]
        exact wpAny_pure (yes c)
      · simp only [c, Bool.true_and, decide_false, Bool.false_eq_true, if_false, sameMem, slot_live R.tab.ris hj, if_true, row]
        exact wpAny_bind (wpAny_isSame_ref_self (wpAny_bind (wpAny_pure (no c))))
    simp only [e]
    cases hl : t.led with
    | true => simpa [hl] using rest
    | false =>
      simp only [Bool.not_false, if_true]
      refine wpAny_bind (hx.unseen (fun y hy => ?_) A E _ (by simpa using rest))
      obtain ⟨r, hr, rfl⟩ := List.mem_map.mp hy
      have hr1 : r ∈ es.toList := by simpa using (by simpa using hr : r ∈ es ∧ r.1 = nh w k).1
      rw [R.rows, rowN] at hr1
      obtain ⟨p2, hp2, rfl⟩ := List.mem_map.mp hr1
      exact ⟨p2.2, p2.1, rfl, R.tup p2 hp2⟩
  · simp only [e]
    exact wpAny_pure q
/-- the probe of a key behind c steps -/
abbrev step (w : World) (t : SetTable) (k : NestedKey) (c : Nat) : SetTable.Probe := nth t.mask (runAt t.mask (SetTable.bits (nh w k) % (t.mask + 1)) (SetTable.bits (nh w k))) c
theorem no_dummy (m : Nat) : ∀ (n : Nat) {p : SetTable.Probe}, p.dummy = none → (nth m p n).dummy = none
  | 0, _, h => h
  | n + 1, p, h => no_dummy m n (p := adv m p) (by simp only [adv]; split <;> exact h)
/-- the rows of a key stand on its way, not ahead of c -/
def Ahead (w : World) (L : List (Addr × NestedKey)) (t : SetTable) (k : NestedKey) (K c : Nat) : Prop := ∀ (i : Nat) (p : Addr × NestedKey), L[i]? = some p → p.2 = k → ∃ c', c ≤ c' ∧ c' < K ∧ t.place.toList[i]? = some (way t.mask (nh w k) c')
theorem found_from (R : SetN w s.heap a L es ep t) {x : Addr} {k : NestedKey} (hx : IsN s.heap k x) (hu : A.units + 8 < cLine) {K : Nat} (small : K < 10 * SetTable.turns t.mask) (free : way t.mask (nh w k) K ∉ t.place.toList)
    (full : ∀ c, c < K → way t.mask (nh w k) c ∈ t.place.toList) {Q : SetFound → Shared → Prop} (yes : k ∈ L.map (·.2) → Q (.there none) s) (no : k ∉ L.map (·.2) → Q (.free (way t.mask (nh w k) K) false) s) (n : Nat) :
    ∀ (c f : Nat) (stand : Option SetTable.Probe), c + n = K → n < f → stand.getD (t.probeStart (nh w k)) = step w t k c → Ahead w L t k K c → wpAny (model P w) A (setSearchFrom a (.ref x) (nh w k) true f stand) Q E s := by
  induction n using Nat.strongRecOn with
  | _ n ih =>
    intro c f stand hc hf hst own
    obtain ⟨f, rfl⟩ : ∃ g, f = g + 1 := ⟨f - 1, by omega⟩
    have sh : ∀ q, nth t.mask (step w t k c) q = step w t k (c + q) := fun q => (nth_add t.mask c _ q).symm
    have wy : ∀ q, (nth t.mask (step w t k c) q).j = way t.mask (nh w k) (c + q) := fun q => by rw [sh]
    refine round R hx hu ?_
    rw [hst]
    rcases go_spec t R.tab.ris R.tab.dm (hsh es) (nh w k) (10 * SetTable.turns t.mask) n (step w t k c) (no_dummy t.mask c rfl) (by omega) (fun q hq => by rw [wy]; exact full _ (by omega)) (by rw [wy, hc]; exact free) with ⟨q, i, hq, hi, _, first, e⟩ | ⟨first, e⟩
    · have lt : i < L.length := by rw [← R.places]; exact (List.getElem?_eq_some_iff.mp hi).1
      refine .inl ⟨_, i, L[i], _, e, hi, List.getElem?_eq_getElem lt, fun c1 => yes (List.mem_map.mpr ⟨_, List.getElem_mem lt, c1⟩), fun c1 => ?_⟩
      refine ih (n - (q + 1)) (by omega) (c + (q + 1)) f _ (by omega) (by omega) (sh (q + 1)) fun i0 p0 h0 hk => ?_
      obtain ⟨c0, l0, l1, at0⟩ := own i0 p0 h0 hk
      refine ⟨c0, ?_, l1, at0⟩
      rcases Nat.lt_trichotomy c0 (c + q) with z | z | z
      · refine absurd ?_ (first (c0 - c) i0 (by omega) (by rw [wy, Nat.add_sub_cancel' l0]; exact at0))
        rw [R.toCont.hsh h0, hk]
      · rw [wy, ← z] at hi
        have one := (slot_live R.tab.ris at0).symm.trans (slot_live R.tab.ris hi)
        cases one
        rw [List.getElem?_eq_getElem lt] at h0
        cases h0
        exact absurd hk c1
      · exact z
    · refine .inr ⟨_, e, ?_⟩
      rw [wy, hc]
      refine no fun hm => ?_
      obtain ⟨p0, m0, hk⟩ := List.mem_map.mp hm
      obtain ⟨i0, h0⟩ := List.mem_iff_getElem?.mp m0
      obtain ⟨c0, l0, l1, at0⟩ := own i0 p0 h0 hk
      refine absurd ?_ (first (c0 - c) i0 (by omega) (by rw [wy, Nat.add_sub_cancel' l0]; exact at0))
      rw [R.toCont.hsh h0, hk]
theorem found (R : SetN w s.heap a L es ep t) {x : Addr} {k : NestedKey} (hx : IsN s.heap k x) (hu : A.units + 8 < cLine) {Q : SetFound → Shared → Prop} (yes : k ∈ L.map (·.2) → Q (.there none) s)
    (no : ∀ K, k ∉ L.map (·.2) → way t.mask (nh w k) K ∉ t.place.toList → (∀ c, c < K → way t.mask (nh w k) c ∈ t.place.toList) → Q (.free (way t.mask (nh w k) K) false) s) : wpAny (model P w) A (setSearch a (.ref x) (nh w k) true) Q E s := by
  have below : (L.map fun p => nh w p.2).length ≤ t.mask := by have := R.room; rw [List.length_map]; omega
  obtain ⟨K, small, free, full⟩ := R.tab.first below (nh w k)
  have few : 10 * SetTable.turns t.mask < 100000 := by
    have m : t.mask ≤ 127 := by rcases R.tab.mok with e | e | e <;> omega
    simp only [SetTable.turns]
    omega
  refine found_from R hx hu small free full yes (fun z => no K z free full) K 0 100000 none (Nat.zero_add K) (by omega) rfl fun i p h e => ?_
  have lt : i < t.place.toList.length := by rw [R.places]; exact (List.getElem?_eq_some_iff.mp h).1
  have hi : (L.map fun p => nh w p.2)[i]? = some (nh w k) := by simp [h, e]
  obtain ⟨c, lc, ec⟩ := R.tab.before free hi (List.getElem?_eq_getElem lt)
  exact ⟨c, Nat.zero_le c, lc, by rw [ec]; exact List.getElem?_eq_getElem lt⟩
theorem Cont.put (C : Cont w L es t) {x : Addr} {k : NestedKey} {K : Nat} (hk : k ∉ L.map (·.2)) (free : way t.mask (nh w k) K ∉ t.place.toList) (full : ∀ c, c < K → way t.mask (nh w k) c ∈ t.place.toList) (hf : L.length + 1 < 64) :
    ∃ L1, Cont w L1 (SetTable.insertAt es (t.put (way t.mask (nh w k) K)).2 (nh w k, Value.ref x)) (t.put (way t.mask (nh w k) K)).1 ∧ L1.Perm ((x, k) :: L) ∧ (t.put (way t.mask (nh w k) K)).1.mask = t.mask ∧ (t.put (way t.mask (nh w k) K)).1.fill = L.length + 1 := by
  obtain ⟨e1, _, T, e2, e3, e4, _, _, e5⟩ := C.tab.put free full
  rw [e1]
  refine ⟨L.take (SetTable.below t.place (way t.mask (nh w k) K)) ++ (x, k) :: L.drop (SetTable.below t.place (way t.mask (nh w k) K)), ⟨?_, ?_, ?_, e4.trans C.plain, ?_, ?_⟩, put_perm _ _ _, e2, by simpa using e5⟩
  · simp only [SetTable.toList_insertAt, C.rows, rowN, List.map_append, List.map_cons, List.map_take, List.map_drop]
  · simpa only [List.map_append, List.map_cons, List.map_take, List.map_drop] using T
  · exact ((put_perm L _ (x, k)).map (·.2)).nodup_iff.mpr (List.nodup_cons.mpr ⟨hk, C.nd⟩)
  · rw [e3]; exact C.led
  · rw [(put_perm L _ (x, k)).length_eq]; exact hf
theorem range_map {α : Type} (l : List α) : (List.range l.length).filterMap (fun i => l[i]?) = l := by
  have go : ∀ n, n ≤ l.length → (List.range n).filterMap (fun i => l[i]?) = l.take n := by
    intro n
    induction n with
    | zero => intro _; simp
    | succ n ih =>
      intro hn
      rw [List.range_succ, List.filterMap_append, ih (Nat.le_of_succ_le hn), List.take_succ]
      show _ ++ List.filterMap (fun i => l[i]?) [n] = _
      rw [List.filterMap_cons]
      cases l[n]? <;> rfl
  exact (go l.length (Nat.le_refl _)).trans List.take_length
theorem all_some {α β : Type} {f : α → Option β} {g : α → β} : ∀ {l : List α}, (∀ i ∈ l, f i = some (g i)) → l.filterMap f = l.map g
  | [], _ => rfl
  | i :: l, h => by rw [List.filterMap_cons_some (h i List.mem_cons_self), List.map_cons, all_some fun j hj => h j (List.mem_cons_of_mem i hj)]
theorem Cont.relaid (C : Cont w L es t) {wanted M : Nat} (e1 : SetTable.sizeAbove wanted - 1 = M) (e2 : MaskOk M) (e3 : L.length ≤ M) :
    ∃ t' order L1, t.relaid (es.map (·.1)) wanted = some (t', order) ∧ Cont w L1 (order.filterMap (es[·]?)) t' ∧ L1.Perm L ∧ t'.mask = M := by
  obtain ⟨t', order, e, hp, T, f1, f2, f3, f4⟩ := relaid_ok t (hs := es.map (·.1)) (wanted := wanted) e1 e2 (by rw [Array.size_map, C.size]; exact e3)
  rw [Array.size_map, C.size] at hp
  have pm : (order.toList.filterMap (L[·]?)).Perm L := (hp.filterMap (L[·]?)).trans (by rw [range_map])
  have hin : ∀ i ∈ order.toList, i < L.length := fun i hi => List.mem_range.mp (hp.mem_iff.mp hi)
  have rows : order.toList.filterMap (es[·]?) = rowN w (order.toList.filterMap (L[·]?)) := by
    rw [rowN, List.map_filterMap]
    exact congrFun (congrArg List.filterMap (funext fun i => C.at i)) _
  have hs : (order.toList.filterMap (L[·]?)).map (fun p => nh w p.2) = order.toList.map fun i => (es.map (·.1)).getD i 0 := by
    rw [List.map_filterMap]
    refine all_some fun i hi => ?_
    have lt := hin i hi
    have at1 : es[i]? = some (row1 w L[i]) := by rw [C.at, List.getElem?_eq_getElem lt] <;> rfl
    have at2 : (es.map (·.1))[i]? = some (nh w L[i].2) := by rw [Array.getElem?_map, at1] <;> rfl
    simp [List.getElem?_eq_getElem lt, Array.getD_eq_getD_getElem?, at2]
  refine ⟨t', order, _, e, ⟨by rw [Array.toList_filterMap]; exact rows, by rw [hs]; exact T, (pm.map (·.2)).nodup_iff.mpr C.nd, f3.trans C.plain, by rw [f2]; exact C.led, by rw [pm.length_eq]; exact C.few⟩, pm, f1⟩
/-- rows are written into the set -/
theorem store (ob : ∃ o es0 ep0 t0, s.heap.get? a = some o ∧ o.ExactSet ∧ o.data = .set es0 ep0 t0) {L1 : List (Addr × NestedKey)} {es1 : Array (Int × Value)} {t1 : SetTable} (C : Cont w L1 es1 t1) (hm : L1.length ≤ t1.mask) {Q : Unit → Shared → Prop}
    (q : ∀ h', Heap.SameBut a s.heap h' → (∃ o ep', h'.get? a = some o ∧ o.ExactSet ∧ o.data = .set es1 ep' t1) → Q () { s with heap := h' }) : wpAny (model P w) A (storeSet a es1 t1) Q E s := by
  obtain ⟨o, es0, ep0, t0, h1, h2, h3⟩ := ob
  have big : es1.size ≤ sizeLine := by have := C.few; have := C.size; rw [sizeLine_eq]; omega
  exact wpAny_storeSet_of h1 h3 (q _ (Heap.SameBut.update ..) ⟨_, _, store_at h1 h3, ⟨h2.1, h2.2.1, h2.2.2⟩, rfl⟩) big
theorem relay {ob : ∃ o ep0, s.heap.get? a = some o ∧ o.ExactSet ∧ o.data = .set es ep0 t} (C : Cont w L es t) (hm : L.length ≤ t.mask) (tup : ∀ p ∈ L, IsN s.heap p.2 p.1) {wanted M : Nat} (e1 : SetTable.sizeAbove wanted - 1 = M) (e2 : MaskOk M) (e3 : SetTable.sizeAbove wanted ≤ 128) (e4 : L.length * 5 < M * 3)
    {Q : Unit → Shared → Prop} (q : ∀ h' L' es' ep' t', Heap.SameBut a s.heap h' → SetN w h' a L' es' ep' t' → L'.Perm L → Q () { s with heap := h' }) : wpAny (model P w) A (setRelay a wanted) Q E s := by
  obtain ⟨o, ep0, h1, h2, h3⟩ := ob
  obtain ⟨t', order, L1, e, C1, pm, em⟩ := C.relaid e1 e2 (by omega)
  have same : (order.filterMap (es[·]?)).size = es.size := by rw [C1.size, C.size, pm.length_eq]
  rw [setRelay_eq]
  refine wpAny_bind (wpAny_setState_of h1 h3 (C.fits hm) ?_)
  have notbig : ¬ SetTable.sizeAbove wanted > sizeLine := by rw [sizeLine_eq]; omega
  simp only [notbig, if_false, e, same, bne_self_eq_false, Bool.false_eq_true]
  refine wpAny_bind (wpAny_pure (store ⟨o, es, ep0, t, h1, h2, h3⟩ C1 (by rw [pm.length_eq, em]; omega) fun h' sb ⟨o', ep', ob'⟩ => ?_))
  exact q h' L1 _ ep' t' sb ⟨C1, ⟨o', ob'⟩, fun p hp => (tup p (pm.mem_iff.mp hp)).past ⟨o, es, ep0, t, h1, h3⟩ sb, by rw [pm.length_eq, em]; exact e4⟩ pm
/-- a further key -/
theorem add (R : SetN w s.heap a L es ep t) {x : Addr} {k : NestedKey} (hx : IsN s.heap k x) (hu : A.units + 8 < cLine) (hf : L.length + 1 < 64) {Q : Bool → Shared → Prop}
    (q : ∀ b h' L' es' ep' t', Heap.SameBut a s.heap h' → SetN w h' a L' es' ep' t' → (k ∈ L.map (·.2) ∧ L' = L ∨ k ∉ L.map (·.2) ∧ L'.Perm ((x, k) :: L)) → Q b { s with heap := h' }) :
    wpAny (model P w) A (setAddHashed a (.ref x) (nh w k)) Q E s := by
  have rm := R.room
  unfold setAddHashed
  refine wpAny_holding ?_
  rw [show (100000 : Nat) = 99999 + 1 from rfl, setAddHashedIn_succ]
  refine wpAny_bind (R.state A E _ ?_)
  have nos : byScan (.ref x) es = false := by simp [byScan, Value.scannable]
  simp only [nos, Bool.false_eq_true, if_false]
  refine wpAny_bind (found R hx hu (fun m => wpAny_pure (q _ _ L es ep t (Heap.SameBut.refl a s.heap) R (.inl ⟨m, rfl⟩))) fun K m free full => ?_)
  refine wpAny_bind (R.state A E _ ?_)
  obtain ⟨L1, C1, pm, em, ef⟩ := R.toCont.put (x := x) m free full hf
  generalize t.put (way t.mask (nh w k) K) = tp at C1 em ef ⊢
  obtain ⟨t1, at_⟩ := tp
  have len : L1.length = L.length + 1 := pm.length_eq
  have pl : t1.plain = true := C1.plain
  simp only [pl, if_true]
  refine wpAny_bind (hx.hashed A E _ ?_)
  simp only [if_true]
  have lm : L1.length ≤ t1.mask := by rw [len]; show L.length + 1 ≤ t1.mask; rw [em]; omega
  obtain ⟨o, z1, z2, z3⟩ := R.ob
  refine wpAny_bind (store ⟨o, es, ep, t, z1, z2, z3⟩ C1 lm fun h1 sb ob1 => ?_)
  have tup1 : ∀ p ∈ L1, IsN h1 p.2 p.1 := fun p hp => by
    have old : IsN s.heap p.2 p.1 := by
      cases pm.mem_iff.mp hp with
      | head => exact hx
      | tail _ hp => exact R.tup p hp
    exact old.past R.isSet sb
  have full5 : t1.tooFull = decide ((L.length + 1) * 5 ≥ t.mask * 3) := by
    simp only [SetTable.tooFull, ef]
    rw [show t1.mask = t.mask from em]
  cases hb : t1.tooFull with
  | false =>
    rw [full5, decide_eq_false_iff_not] at hb
    obtain ⟨o1, ep1, ob1⟩ := ob1
    simp only [Bool.not_false, Bool.and_false, Bool.false_eq_true, if_false]
    exact wpAny_bind (wpAny_pure (wpAny_pure (q _ h1 L1 _ ep1 t1 sb ⟨C1, ⟨o1, ob1⟩, tup1, by rw [len]; show _ < t1.mask * 3; rw [em]; omega⟩ (.inr ⟨m, pm⟩))))
  | true =>
    rw [full5, decide_eq_true_eq] at hb
    simp only [Bool.not_false, Bool.and_true, if_true]
    have done : ∀ (M : Nat), SetTable.sizeAbove (SetTable.grown (es.size + 1)) - 1 = M → MaskOk M → SetTable.sizeAbove (SetTable.grown (es.size + 1)) ≤ 128 → L1.length * 5 < M * 3 → wpAny (model P w) A (setRelay a (SetTable.grown (es.size + 1))) (fun _ s' => wpAny (model P w) A (pure true) Q E s') E { s with heap := h1 } := fun M y1 y2 y3 y4 =>
      relay (ob := ob1) C1 lm tup1 y1 y2 y3 y4 fun h2 L2 es2 ep2 t2 sb2 R2 pm2 => wpAny_pure (q _ h2 L2 es2 ep2 t2 (sb.trans sb2) R2 (.inr ⟨m, pm2.trans pm⟩))
    refine wpAny_bind ?_
    have sz := R.toCont.size
    rcases R.tab.mok with e | e | e
    · have l4 : L.length = 4 := by omega
      rw [sz, l4, size_20] at done
      rw [sz, l4]
      exact done 31 rfl (.inr (.inl rfl)) (by decide) (by omega)
    · have l18 : L.length = 18 := by omega
      rw [sz, l18, size_76] at done
      rw [sz, l18]
      exact done 127 rfl (.inr (.inr rfl)) (by decide) (by omega)
    · omega
theorem SetN.keep {h h' : Heap} (R : SetN w h a L es ep t) (ha : ∀ o, h.get? a = some o → h'.get? a = some o) (ht : ∀ p ∈ L, IsN h' p.2 p.1) : SetN w h' a L es ep t := ⟨R.toCont, R.ob.imp fun o z => ⟨ha o z.1, z.2⟩, ht, R.room⟩
end
end Nst

set_option maxHeartbeats 4000000
namespace Nst
open PySem PySem.Spec PyProof.Rows L2
section
variable {P : Program} {w : World} {A : Around} {E : Value → Shared → Prop} {s : Shared} {a : Addr} {L : List (Addr × NestedKey)} {es : Array (Int × Value)} {ep : Nat} {t : SetTable}
theorem IsN.one {h : Heap} {k j : NestedKey} {b : Addr} (x : IsN h k b) (y : IsN h j b) : k = j := NestedIs.inj _ _ _ x.is y.is
end
end Nst

set_option maxHeartbeats 4000000
namespace Dn
open PySem PySem.Spec PyProof.Rows L2 Nst
section
variable {X : Cx} {pins : List (Addr × Obj)} {σ : L2.St} {G H : Hp} {s : Shared}
end
end Dn

set_option maxHeartbeats 4000000
namespace Dn
open PySem PySem.Spec PyProof.Rows L2
theorem tmul_same (l : Addr) (items : Array Value) (n : Nat) (dd : Option Addr) (sl : Array (Option Value)) (x : Int) (u : Tok) (c0 : (decide (x < -(2 ^ 63)) || decide (x ≥ 2 ^ 63)) = false) (c1 : (items.isEmpty || x == 1) = true) :
    Meets (Builtin.«tuple.__mul__» ⟨[.ref l, .int x u], []⟩) (fun _ R s => s.heap.get? l = some { cls := .type "tuple", dict := dd, data := .seq items n, slots := sl } ∧ R (.ok (.ret (Value.ref l))) s) :=
  .of_wp fun prog w A R s h => by
    obtain ⟨hp, g, d, tk, os⟩ := s
    obtain ⟨hl, h⟩ := h
    have f1 := AutoSeq1.idx_int
    wp_walk using wpAny_loadPart' hl
    repeat (first
      | (refine wpAny_ite_false (decide_eq_false (by rw [c0]; exact Bool.false_ne_true)) ?_; wp_walk using wpAny_loadPart' hl)
      | (refine wpAny_ite_true (decide_eq_true (by rw [c1])) ?_; wp_walk using wpAny_loadPart' hl))
    exact ⟨_, rfl, h⟩
theorem tmul_none (l : Addr) (items : Array Value) (n : Nat) (dd : Option Addr) (sl : Array (Option Value)) (x : Int) (u : Tok) (c0 : (decide (x < -(2 ^ 63)) || decide (x ≥ 2 ^ 63)) = false) (c1 : (items.isEmpty || x == 1) = false) (c2 : (decide (x ≤ 0) || items.isEmpty) = true) :
    Meets (Builtin.«tuple.__mul__» ⟨[.ref l, .int x u], []⟩) (fun _ R s => s.heap.get? l = some { cls := .type "tuple", dict := dd, data := .seq items n, slots := sl } ∧ R (.ok (.ret (Value.ref s.heap.objs.size))) { s with heap := s.heap.push { cls := Value.type "tuple", data := Data.seq #[] }, toks := s.toks }) :=
  .of_wp fun prog w A R s h => by
    obtain ⟨hp, g, d, tk, os⟩ := s
    obtain ⟨hl, h⟩ := h
    have f1 := AutoSeq1.idx_int
    wp_walk using wpAny_loadPart' hl
    repeat (first
      | (refine wpAny_ite_false (decide_eq_false (by rw [c0]; exact Bool.false_ne_true)) ?_; wp_walk using wpAny_loadPart' hl)
      | (refine wpAny_ite_false (decide_eq_false (by rw [c1]; exact Bool.false_ne_true)) ?_; wp_walk using wpAny_loadPart' hl)
      | (refine wpAny_ite_true (decide_eq_true (by rw [c2])) ?_; wp_walk using wpAny_loadPart' hl))
    exact ⟨_, rfl, h⟩
def mulT : PyData → PyData → Option PyData
  | .tuple xs, .int k => if -1000 ≤ k ∧ k ≤ 1000 ∧ xs.length ≤ 1000 then some (.tuple (List.replicate k.toNat xs).flatten) else none
  | _, _ => none
theorem flat_nil {α : Type} : ∀ n : Nat, (List.replicate n ([] : List α)).flatten = []
  | 0 => rfl
  | n + 1 => by rw [List.replicate_succ, List.flatten_cons, flat_nil n]; rfl
variable {X : Cx}
theorem od_mulT : OpD X (binaryOp .Mult) mulT := fun pins s σ G H x y v u dx dy dz Q I rx ry sg hx hy hg k => by
  unfold mulT at hg
  split at hg
  · rename_i ds c
    split at hg
    · rename_i hl
      cases hg
      cases hx with
      | @tup l xs _ hs ha =>
        cases hy
        have hq := Same.sqT sg hs
        by_cases c1 : xs = [] ∨ c = 1
        · -- the very tuple
          have e : (List.replicate c.toNat ds).flatten = ds := by
            rcases c1 with rfl | rfl
            · cases ha
              exact flat_nil _
            · rw [show (1 : Int).toNat = 1 from rfl]
              simp
          rw [e] at k
          cases rx
          obtain ⟨t, rfl⟩ := ry
          obtain ⟨its, r, ⟨⟨cls, dd, data, sl⟩, ho, hc, n, hd⟩, hsz⟩ := I.tuple hq
          simp only at hc hd
          subst hc hd
          have c0 : (decide (c < -(2 ^ 63)) || decide (c ≥ 2 ^ 63)) = false := by
            rw [decide_eq_false (by omega), decide_eq_false (by omega)] <;> rfl
          have c1' : (its.toArray.isEmpty || c == 1) = true := by
            rcases c1 with rfl | rfl
            · have : its = [] := by
                have := r.length
                exact List.eq_nil_of_length_eq_zero this.symm
              subst this
              rfl
            · simp
          refine wpAny_binaryOp_repeat_ref (T := "tuple") (U := "int") (by decide) ⟨_, ho, rfl⟩ (fun s' => typeIs_int s' c t) noFill_tuple_mul F.fills_int_mul F.slot_int_rmul repeat_tuple F.slot_int_index.lookup
            (call_meets F.slot_int_rmul (typeIs_int s c t) F.entry_int_rmul (F.args_int_rmul_2 _ _) (int_rmul_tuple c t l its.toArray n dd sl)
              ⟨ho, rfl, ⟨_, ho, rfl⟩, call_meets F.slot_tuple_mul ⟨_, ho, rfl⟩ F.entry_tuple_mul (F.args_tuple_mul_2 _ _) (tmul_same l its.toArray n dd sl c t c0 c1') ⟨ho, ?_⟩⟩)
          exact ⟨.ref l, H, I, rfl, k _ G H (Ext.refl sg) (.tup hs ha)⟩
        · rw [not_or] at c1
          obtain ⟨hne, hc1⟩ := c1
          by_cases c2 : c ≤ 0
          · -- the empty one
            have e : (List.replicate c.toNat ds).flatten = [] := by
              rw [show c.toNat = 0 by omega]
              rfl
            rw [e] at k
            cases rx
            obtain ⟨t, rfl⟩ := ry
            obtain ⟨its, r, ⟨⟨cls, dd, data, sl⟩, ho, hc, n, hd⟩, hsz⟩ := I.tuple hq
            simp only at hc hd
            subst hc hd
            have hn : its ≠ [] := fun e => hne (by
              have := r.length
              rw [e] at this
              exact List.eq_nil_of_length_eq_zero this)
            have hi : its.toArray.isEmpty = false := by
              cases its with
              | nil => exact absurd rfl hn
              | cons a b => rfl
            have c0 : (decide (c < -(2 ^ 63)) || decide (c ≥ 2 ^ 63)) = false := by
              rw [decide_eq_false (by omega), decide_eq_false (by omega)] <;> rfl
            have c1' : (its.toArray.isEmpty || c == 1) = false := by
              rw [hi, Bool.false_or]
              exact beq_eq_false_iff_ne.mpr hc1
            have c2' : (decide (c ≤ 0) || its.toArray.isEmpty) = true := by rw [decide_eq_true c2]; rfl
            refine wpAny_binaryOp_repeat_ref (T := "tuple") (U := "int") (by decide) ⟨_, ho, rfl⟩ (fun s' => typeIs_int s' c t) noFill_tuple_mul F.fills_int_mul F.slot_int_rmul repeat_tuple F.slot_int_index.lookup
              (call_meets F.slot_int_rmul (typeIs_int s c t) F.entry_int_rmul (F.args_int_rmul_2 _ _) (int_rmul_tuple c t l its.toArray n dd sl)
                ⟨ho, rfl, ⟨_, ho, rfl⟩, call_meets F.slot_tuple_mul ⟨_, ho, rfl⟩ F.entry_tuple_mul (F.args_tuple_mul_2 _ _) (tmul_none l its.toArray n dd sl c t c0 c1' c2') ⟨ho, ?_⟩⟩)
            have hp : H s.heap.objs.size = none := I.hok.fresh (Nat.le_refl _)
            obtain ⟨ex, dq⟩ := ext_tup (K := X.K) sg hp (DqA.nil)
            refine ⟨.ref s.heap.objs.size, _, I.laid (t' := s.toks) (o := .tup []) (fun b ob q => Heap.get?_push_of_some _ q) (Nat.le_refl _) ?_, rfl, k _ _ _ ex dq⟩
            exact ⟨Nat.zero_le _, [], .nil, IsTup.new _ _⟩
          · -- a new one
            refine op_repT pins s σ H (.ref l) (.int c) v u Q I rx ry ⟨l, c, xs, rfl, rfl, hq, hne, by omega, hl.2.1, by rw [dpA_len ha]; exact hl.2.2, fun p hp => ?_⟩
            obtain ⟨ex, dq⟩ := ext_tup (K := X.K) sg hp (dqA_rep ha c.toNat)
            exact k _ _ _ ex dq
    · cases hg
  · cases hg
def mulE (x y : PyData) : Option PyData := match x with
  | .tuple _ => mulT x y
  | _ => mulD x y
theorem od_mulE : OpD X (binaryOp .Mult) mulE := fun pins s σ G H x y v u dx dy dz Q I rx ry sg hx hy hg k => by
  unfold mulE at hg
  split at hg
  · exact od_mulT pins s σ G H x y v u _ dy dz Q I rx ry sg hx hy hg k
  · exact od_mul pins s σ G H x y v u _ dy dz Q I rx ry sg hx hy hg k
end Dn

set_option maxHeartbeats 4000000
namespace Dn
open PySem PySem.Spec PyProof.Rows L2
variable {X : Cx}
end Dn

set_option maxHeartbeats 4000000
namespace Dn
open PySem PySem.Spec PyProof.Rows L2

def idxB (b : Bool) : List PyData → Option Nat
  | .bool c :: ds => if c = b then (if ds.all isBl then some 0 else none) else (idxB b ds).map (· + 1)
  | _ => none
where isBl : PyData → Bool
  | .bool _ => true
  | _ => false
def mIdxB (b : Bool) (m : Ex) : Ex := seqE m fun x => optE (match x with
  | .list ds => (idxB b ds).map (fun n : Nat => PyData.int (n : Int))
  | _ => none)
theorem flat_bls {K : PySem.W.Frag} {G : Hp} : ∀ {ds : List PyData} {vs : List V}, DqA K G vs ds → ds.all idxB.isBl = true → vs.all flatV = true
  | [], _, .nil, _ => rfl
  | d :: ds, _, .cons a b, h => by
    rw [List.all_cons, Bool.and_eq_true] at h ⊢
    refine ⟨?_, flat_bls b h.2⟩
    cases a with
    | bl c => rfl
    | non => cases h.1
    | int i => cases h.1
    | str x => cases h.1
    | lst _ _ => cases h.1
    | tup _ _ => cases h.1
theorem idxB_ok {K : PySem.W.Frag} {G : Hp} {b : Bool} : ∀ {ds : List PyData} {vs : List V} {n : Nat}, DqA K G vs ds → idxB b ds = some n → vs.all flatV = true ∧ ∃ z, vs[n]? = some z ∧ eqV z (.bl b) = true ∧ ∀ m z', m < n → vs[m]? = some z' → eqV z' (.bl b) = false
  | [], _, _, .nil, h => by cases h
  | d :: ds, _, n, .cons (v := v) (vs := vs) a q, h => by
    cases a with
    | bl c =>
      unfold idxB at h
      split at h
      · rename_i hc
        split at h
        · rename_i ha
          cases h
          refine ⟨?_, .bl c, rfl, ?_, fun m z' hm => absurd hm (by omega)⟩
          · rw [List.all_cons, flat_bls q ha]; rfl
          · subst hc
            show (c == c) = true
            exact beq_self_eq_true c
        · cases h
      · rename_i hc
        obtain ⟨k, h1, h2⟩ := Option.map_eq_some_iff.mp h
        subst h2
        obtain ⟨f, z, h3, h4, h5⟩ := idxB_ok q h1
        refine ⟨?_, z, by simpa using h3, h4, fun m z' hm e => ?_⟩
        · rw [List.all_cons, f]; rfl
        · cases m with
          | zero =>
            have : z' = .bl c := by simpa using e.symm
            subst this
            show (c == b) = false
            exact beq_eq_false_iff_ne.mpr hc
          | succ m => exact h5 m z' (by omega) (by simpa using e)
    | non => cases h
    | int i => cases h
    | str x => cases h
    | lst _ _ => cases h
    | tup _ _ => cases h
theorem de_idxB {X : Cx} {mo : Ex} {b : Bool} {x' : Expr} (h : PE X x' (tBM X.K "list" (rIndex X.K) (tD X.K mo) (tCons (tC (.bl b)) tNil))) : DE X x' (mIdxB b mo) := PE.weak h fun σ H Q ⟨C, G, env, w, r, env', w', R, hm, k⟩ => by
  obtain ⟨x, e1, w1, h1, hm⟩ := seqE_inv hm
  obtain ⟨z, h3, rfl, rfl, rfl⟩ := optE_inv hm
  split at h3
  · rename_i ds
    obtain ⟨n, h4, h5⟩ := Option.map_eq_some_iff.mp h3
    subst h5
    refine ⟨C, G, env, w, _, _, _, R, h1, fun v G1 H1 R1 s1 i1 a1 => ?_⟩
    have a1 : Dq X.K G1 v (.list ds) := a1
    cases a1 with
    | @lst a vs _ hs ha =>
      have hq : SqL X.K H1 a vs := SqL.of (R1.sub _ _ hs)
      obtain ⟨f, z, q1, q2, q3⟩ := idxB_ok ha h4
      exact ⟨.inl ⟨rfl, vs, hq⟩, a, vs, .bl b, n, z, rfl, rfl, hq, rfl, f, q1, q2, q3, k _ G1 H1 R1 s1 i1 (.int _)⟩
  · cases h3

section
variable {X : Cx}
end
end Dn

set_option maxHeartbeats 4000000
namespace Dn
open PySem PySem.Spec PyProof.Rows L2
/-- pairs of a tuple of texts and anything -/
inductive KPs (K : PySem.W.Frag) (H : Hp) : List Addr → List (List Key × Addr × V) → Prop
  | nil : KPs K H [] []
  | cons {p b : Addr} {k : List Key} {v : V} {ps : List Addr} {r : List (List Key × Addr × V)} : SqT K H p [.ref b, v] → SqT K H b (k.map kV) → KPs K H ps r → KPs K H (p :: ps) ((k, b, v) :: r)
theorem KPs.mono {K : PySem.W.Frag} {G H : Hp} (s : Same G H) : ∀ {ps : List Addr} {r : List (List Key × Addr × V)}, KPs K G ps r → KPs K H ps r
  | _, _, .nil => .nil
  | _, _, .cons a b c => .cons (Same.sqT s a) (Same.sqT s b) (c.mono s)
section
variable {X : Cx}
theorem KPs.len {K : PySem.W.Frag} {H : Hp} : ∀ {ps : List Addr} {r : List (List Key × Addr × V)}, KPs K H ps r → r.length = ps.length
  | _, _, .nil => rfl
  | _, _, .cons _ _ c => congrArg Nat.succ c.len
end
end Dn

set_option maxHeartbeats 4000000
namespace Dn
open PySem PySem.Spec PyProof.Rows L2
section
variable {X : Cx}
end
end Dn

set_option maxHeartbeats 4000000
namespace Txs
open PySem PySem.Calls PyProof.Rows PyProof.V PySem.Spec
open Sem (wp)
section
variable {P : Program} {w : World} {A : Around} {E : Value → Shared → Prop} {s : Shared}
end
end Txs
namespace Dn
open PySem PySem.Spec PyProof.Rows L2
section
variable {X : Cx}
end
end Dn

set_option maxHeartbeats 4000000
namespace Dn
open PySem PySem.Spec PyProof.Rows L2
/-- an exception of a class of the text, with what it keeps -/
def XcAt (K : PySem.W.Frag) (mg : Str → Option Value) (x : Xc) (G H : Hp) (cls : Value) (d : Option Addr) : Prop := (∃ C, mg x.cls = some (.ref C) ∧ cls = .ref C) ∧ match x.place with
  | none => d = none
  | some p => ∃ dd v, d = some dd ∧ H dd = some (.xd [("place", v)]) ∧ Dq K G v p
theorem XcAt.ext {K : PySem.W.Frag} {mg : Str → Option Value} {x : Xc} {G H G' H' : Hp} {cls : Value} {d : Option Addr} (h : XcAt K mg x G H cls d) (sg : Same G G') (sh : ∀ b fs, H b = some (.xd fs) → H' b = some (.xd fs)) : XcAt K mg x G' H' cls d := by
  obtain ⟨h1, h2⟩ := h
  refine ⟨h1, ?_⟩
  cases e : x.place with
  | none => rw [e] at h2; exact h2
  | some p =>
    rw [e] at h2
    obtain ⟨dd, v, r1, r2, r3⟩ := h2
    exact ⟨dd, v, r1, sh _ _ r2, dp_mono sg r3⟩
abbrev Rx := Ev → W → Option (Xc × Ev × W)
/-- an expression that raises -/
def tRx (K : PySem.W.Frag) (mg : Str → Option Value) (Wx : WX) (r : Rx) : TE := fun σ H _ => ∃ C G env w x env' w', Rel K C env w σ G H ∧ r env w = some (x, env', w') ∧
  ∀ cls d G' H', Rel K C env' w' σ G' H' → Same G G' → w'.isSome = w.isSome → XcAt K mg x G' H' cls d → Wx cls d σ H'
/-- a statement that raises -/
def tRs (K : PySem.W.Frag) (mg : Str → Option Value) (Wx : WX) (r : Rx) : TS := fun _ σ H => ∃ C G env w x env' w', Rel K C env w σ G H ∧ r env w = some (x, env', w') ∧
  ∀ cls d σ' G' H', Rel K C env' w' σ' G' H' → Same G G' → w'.isSome = w.isSome → XcAt K mg x G' H' cls d → Wx cls d σ' H'
abbrev RE (X : Cx) (Wx : WX) (e : Expr) (r : Rx) : Prop := PE X e (tRx X.K X.mg Wx r)
abbrev RS (X : Cx) (Wx : WX) (s : Stmt) (r : Rx) : Prop := PS X s (tRs X.K X.mg Wx r)
abbrev RSs (X : Cx) (Wx : WX) (ss : List Stmt) (r : Rx) : Prop := PSs X ss (tRs X.K X.mg Wx r)
/-- a def's promise: it raises -/
def spR (K : PySem.W.Frag) (mg : Str → Option Value) (x : List SD → W → Option (Xc × W)) : Sp := fun vs H _ E => ∃ (G : Hp) (ad : Ad) (w : W) (as : List SD) (c : Xc) (w' : W),
  Same G H ∧ (∀ s, w = some s → StAt K ad s G H) ∧ CtOk ad.tabs G H ∧ ArgsOk K ad w G as vs ∧ x as w = some (c, w') ∧
  ∀ cls d G' H', Same G G' → Same G' H' → (∀ b o, H b = some o → ¬ Mt ad w b → H' b = some o) → (∀ b o, H b = some o → G' b = G b) → w'.isSome = w.isSome → (∀ s, w' = some s → StAt K ad s G' H') → CtOk ad.tabs G' H' → XcAt K mg c G' H' cls d → E cls d H'
/-- a def of the text that may be called and raises -/
structure FnR (P : Program) (w : World) (K : PySem.W.Frag) (mg : Str → Option Value) (base : Heap) (k : Nat) (x : Str) (r : List SD → W → Option (Xc × W)) : Prop where
  ex : ∃ f fd ps, FnOk P w K mg base (L2.CX P w) k f fd ps (spR K mg r) ∧ mg x = some (.ref f) ∧ PySem.W.keepIn K (.ref f) = true ∧ Binds K fd ps []
/-- f(a, ..), f raises -/
def rCall (r : List SD → W → Option (Xc × W)) (ms : Ax) : Rx := fun env w => match ms env w with
  | some (as, e1, w1) => (match r as w1 with
    | some (c, w2) => some (c, e1, w2)
    | none => none)
  | none => none
section
variable {X : Cx} {Wx : WX} {j k : Nat} {x : Str} {r : List SD → W → Option (Xc × W)} {ms : Ax} {e : Expr} {es : List Expr} {p pos : Pos}
theorem re_call (F : FnR X.prog X.w X.K X.mg X.base k x r) (tk : Takes X Wx) (hr : Room j X.A) (hk : k ≤ j) (ha : DA X (e :: es) ms) (hg : Gl X x := by rfl) (hdb : (x == ("__debug__" : Str)) = false := by decide)
    (he : starEach (e :: es) X.env = (false, eval e X.env) :: starEach es X.env := by rfl) (hpl : (backTo pos (starEach es X.env)).any (·.1) = false := by rfl) : RE X Wx (.Call (.Name x p) (e :: es) [] pos) (rCall r ms) := by
  obtain ⟨f, fd, ps, F, hm, kp, hb⟩ := F.ex
  refine PE.weak (pe_callS F (hr.mono hk) hg hm kp hb (E := WE Wx) (fun σ => passAt tk σ) ha hdb he hpl) fun σ H Q ⟨C, G, env, w, c, env', w', R, hm, kk⟩ => ?_
  unfold rCall at hm
  split at hm
  · rename_i as e1 w1 h1
    split at hm
    · rename_i c2 w2 h2
      cases hm
      refine ⟨C, G, env, w, _, _, _, R, h1, fun vs G1 H1 R1 s1 i1 a1 => ?_⟩
      exact ⟨G1, C.ad, w1, as, _, _, R1.sub, R1.st, R1.tb, a1, h2, fun cls d G' H' sg gh fr old hw st tb xa => kk cls d G' H' (R1.called sg gh fr old hw st tb) (s1.trans sg) (hw.trans i1) xa⟩
    · cases hm
  · cases hm
end
theorem PE.or {X : Cx} {e : Expr} {t u : TE} (h1 : PE X e t) (h2 : PE X e u) : PE X e (fun σ H Q => t σ H Q ∨ u σ H Q) := ⟨fun pins s σ H Q I h => h.elim (h1.run pins s σ H Q I) (h2.run pins s σ H Q I)⟩
theorem PA.or {X : Cx} {es : List Expr} {t u : TA} (h1 : PA X es t) (h2 : PA X es u) : PA X es (fun σ H Q => t σ H Q ∨ u σ H Q) := ⟨fun pos pins s σ H Q I h => h.elim (h1.run pos pins s σ H Q I) (h2.run pos pins s σ H Q I)⟩
theorem PS.or {X : Cx} {s : Stmt} {t u : TS} (h1 : PS X s t) (h2 : PS X s u) : PS X s (fun D σ H => t D σ H ∨ u D σ H) := ⟨fun pins s σ H D I h => h.elim (h1.run pins s σ H D I) (h2.run pins s σ H D I)⟩
theorem PSs.or {X : Cx} {s : List Stmt} {t u : TS} (h1 : PSs X s t) (h2 : PSs X s u) : PSs X s (fun D σ H => t D σ H ∨ u D σ H) := ⟨fun pins s σ H D I h => h.elim (h1.run pins s σ H D I) (h2.run pins s σ H D I)⟩
/-- nothing raises -/
def rNo : Rx := fun _ _ => none
section
variable {X : Cx} {Wx : WX}
theorem re_no {e : Expr} {m : Ex} (h : DE X e m) : RE X Wx e rNo := PE.weak h fun σ H Q ⟨C, G, env, w, x, env', w', R, hm, k⟩ => by cases hm
/-- a list of arguments that raises -/
def tRa (K : PySem.W.Frag) (mg : Str → Option Value) (Wx : WX) (r : Rx) : TA := fun σ H _ => ∃ C G env w x env' w', Rel K C env w σ G H ∧ r env w = some (x, env', w') ∧
  ∀ cls d G' H', Rel K C env' w' σ G' H' → Same G G' → w'.isSome = w.isSome → XcAt K mg x G' H' cls d → Wx cls d σ H'
abbrev RA (X : Cx) (Wx : WX) (es : List Expr) (r : Rx) : Prop := PA X es (tRa X.K X.mg Wx r)
theorem ra_nil : RA X Wx [] rNo := PA.weak pa_nil fun σ H Q ⟨C, G, env, w, x, env', w', R, hm, k⟩ => by cases hm
def rThen {α : Type} (ra : Rx) (a : Ev → W → Option (α × Ev × W)) (rb : Rx) : Rx := fun env w => match ra env w with
  | some x => some x
  | none => match a env w with
    | some (_, e1, w1) => rb e1 w1
    | none => none
theorem ra_cons {e : Expr} {es : List Expr} {m : Ex} {ra rb : Rx} (h : DE X e m) (hr : RE X Wx e ra) (hs : RA X Wx es rb) (hst : starEach (e :: es) X.env = (false, eval e X.env) :: starEach es X.env := by rfl) : RA X Wx (e :: es) (rThen ra m rb) :=
  PA.weak (pa_cons (PE.or hr h) hs hst) fun σ H Q ⟨C, G, env, w, x, env', w', R, hm, k⟩ => by
    unfold rThen at hm
    split at hm
    · rename_i y h1
      cases hm
      exact .inl ⟨C, G, env, w, _, _, _, R, h1, k⟩
    · split at hm
      · rename_i y e1 w1 h1
        exact .inr ⟨C, G, env, w, _, _, _, R, h1, fun v G1 H1 R1 s1 i1 a1 => ⟨C, G1, e1, w1, _, _, _, R1, hm, fun cls d G' H' R2 s2 i2 xa => k cls d G' H' R2 (s1.trans s2) (i2.trans i1) xa⟩⟩
      · cases hm
end
section
variable {X : Cx} {Wx : WX} {j k : Nat} {x : Str} {m : List SD → W → Option (SD × W)} {ms : Ax} {ra : Rx} {e : Expr} {es : List Expr} {p pos : Pos}
theorem re_arg (F : Fn X.prog X.w X.K X.mg X.base k x m) (hr : Room j X.A) (hk : k ≤ j) (ha : RA X Wx (e :: es) ra) (hg : Gl X x := by rfl) (hdb : (x == ("__debug__" : Str)) = false := by decide)
    (he : starEach (e :: es) X.env = (false, eval e X.env) :: starEach es X.env := by rfl) (hpl : (backTo pos (starEach es X.env)).any (·.1) = false := by rfl) : RE X Wx (.Call (.Name x p) (e :: es) [] pos) ra := by
  obtain ⟨f, fd, ps, F, hm, kp, hb⟩ := F.ex
  exact PE.weak (pe_call F (hr.mono hk) hg hm kp hb .nil pass0 ha hdb he hpl) fun σ H Q h => h
end
section
variable {X : Cx} {Wx : WX}
theorem rs_ret {e : Expr} {r : Rx} {pos : Pos} (h : RE X Wx e r) : RS X Wx (.Return (some e) pos) r := PS.weak (ps_ret h) fun D σ H ⟨C, G, env, w, x, env', w', R, hm, k⟩ => ⟨C, G, env, w, _, _, _, R, hm, fun cls d G' H' => k cls d σ G' H'⟩
theorem rs_expr {e : Expr} {r : Rx} {pos : Pos} (h : RE X Wx e r) (hs : swapsWith e none pos.line X.env = pure false := by rfl) : RS X Wx (.Expr e pos) r := PS.weak (ps_expr h hs) fun D σ H ⟨C, G, env, w, x, env', w', R, hm, k⟩ => ⟨C, G, env, w, _, _, _, R, hm, fun cls d G' H' => k cls d σ G' H'⟩
/-- x = e, told by the kit's rule -/
theorem rs_asg {s : Stmt} {r : Rx} {g : TG} (h : PS X s (tAsg (tRx X.K X.mg Wx r) g)) : RS X Wx s r := PS.weak h fun D σ H ⟨C, G, env, w, x, env', w', R, hm, k⟩ => ⟨C, G, env, w, _, _, _, R, hm, fun cls d G' H' => k cls d σ G' H'⟩
def rSeq (a : Sx) (ra rb : Rx) : Rx := fun env w => match ra env w with
  | some x => some x
  | none => match a env w with
    | some (.nx, e1, w1) => rb e1 w1
    | _ => none
theorem rss_cons {s : Stmt} {rest : List Stmt} {a : Sx} {ra rb : Rx} (h : DSt X s a) (hr : RS X Wx s ra) (hs : RSs X Wx rest rb) : RSs X Wx (s :: rest) (rSeq a ra rb) := PSs.weak (pss_cons (PS.or hr h) hs) fun D σ H ⟨C, G, env, w, x, env', w', R, hm, k⟩ => by
  unfold rSeq at hm
  split at hm
  · rename_i y h1
    cases hm
    exact .inl ⟨C, G, env, w, _, _, _, R, h1, k⟩
  · split at hm
    · rename_i e1 w1 h1
      exact .inr ⟨C, G, env, w, _, _, _, R, h1, fun σ1 G1 H1 R1 s1 i1 => ⟨C, G1, e1, w1, _, _, _, R1, hm, fun cls d σ' G' H' R2 s2 i2 xa => k cls d σ' G' H' R2 (s1.trans s2) (i2.trans i1) xa⟩⟩
    · cases hm
theorem rss_one {s : Stmt} {r : Rx} (h : RS X Wx s r) : RSs X Wx [s] r := pss_one h
def rIf (t : Tx) (ra rb : Rx) : Rx := fun env w => match t env w with
  | some (true, e1, w1) => ra e1 w1
  | some (false, e1, w1) => rb e1 w1
  | none => none
theorem rs_if {c : Expr} {a b : List Stmt} {tc : Tx} {ra rb : Rx} {pos : Pos} (hc : DT X c tc) (ha : RSs X Wx a ra) (hb : RSs X Wx b rb) : RS X Wx (.If c a b pos) (rIf tc ra rb) := PS.weak (ps_if hc ha hb) fun D σ H ⟨C, G, env, w, x, env', w', R, hm, k⟩ => by
  unfold rIf at hm
  split at hm
  · rename_i e1 w1 h1
    exact ⟨C, G, env, w, _, _, _, R, h1, fun G1 H1 R1 s1 i1 => ⟨C, G1, e1, w1, _, _, _, R1, hm, fun cls d σ' G' H' R2 s2 i2 xa => k cls d σ' G' H' R2 (s1.trans s2) (i2.trans i1) xa⟩⟩
  · rename_i e1 w1 h1
    exact ⟨C, G, env, w, _, _, _, R, h1, fun G1 H1 R1 s1 i1 => ⟨C, G1, e1, w1, _, _, _, R1, hm, fun cls d σ' G' H' R2 s2 i2 xa => k cls d σ' G' H' R2 (s1.trans s2) (i2.trans i1) xa⟩⟩
  · cases hm
end
end Dn

set_option maxHeartbeats 4000000
namespace Dn
open PySem PySem.Spec PyProof.Rows L2
def rFn (n N : Nat) (r : Rx) : List SD → W → Option (Xc × W) := fun as w => if as.length = n then (match r (as.map some ++ List.replicate (N - as.length) none) w with
  | some (x, _, w') => some (x, w')
  | none => none) else none
theorem spR_start {K : PySem.W.Frag} {mg : Str → Option Value} {scope : Scope} {N ps : List Str} {r : Rx} (S : FnScope N ps scope) {vs : List V} {H : Hp} {Q : VK} {E : XK} {D : Ends} (h : spR K mg (rFn ps.length N.length r) vs H Q E) : tRs K mg (fun cls d _ H => E cls d H) r D (L2.start N vs) H := by
  obtain ⟨G, ad, w, as, c, w', s, st, tb, a, hm, k⟩ := h
  have hpl : ps.length ≤ N.length := by have := congrArg List.length S.pre; rw [List.length_take] at this; omega
  unfold rFn at hm
  split at hm
  · rename_i hl
    have R0 := rel_start (K := K) (N := N) s st tb a (by omega)
    split at hm
    · rename_i r1 e1 w1 h1
      cases hm
      exact ⟨_, G, _, w, _, _, _, R0, h1, fun cls d σ' G' H' R' s' i' xa => k cls d G' H' s' R'.sub (fun b o e nm => R'.fr b o e fun z => nm (z.w i'.symm)) (fun b o e => R'.gr b o e) i' R'.st R'.tb xa⟩
    · cases hm
  · cases hm
section
variable {P : Program} {w : World} {K : PySem.W.Frag} {mg : Str → Option Value} {base : Heap} {x qual : Str} {params : Arguments} {body : List Stmt} {scope : Scope} {f : Addr} {fd : FuncData} {N ps : List Str} {k n NN : Nat} {r : Rx}
/-- the context of such a def's body -/
abbrev cxR (P : Program) (w : World) (K : PySem.W.Frag) (mg : Str → Option Value) (base : Heap) (N : List Str) (qual : Str) (scope : Scope) (f : Addr) (cdv : Value) (A : Around) (outer : List PySem.Env) (s : Shared) (H : Hp) (E : XK) : Cx := cxOf (L2.CX P w) P w K mg base N qual scope f cdv A outer s H E
theorem takes_cx {cdv : Value} {A : Around} {outer : List PySem.Env} {s : Shared} {H : Hp} {E : XK} : Takes (cxR P w K mg base N qual scope f cdv A outer s H E) (fun cls d _ H => E cls d H) := takes_of rfl rfl rfl rfl
theorem passes_cx {cdv : Value} {A : Around} {outer : List PySem.Env} {s : Shared} {H : Hp} {E : XK} : PassesOwn (model P w) (cxR P w K mg base N qual scope f cdv A outer s H E).A (cxR P w K mg base N qual scope f cdv A outer s H E).env (cxR P w K mg base N qual scope f cdv A outer s H E).xe := passes_of (X := cxR P w K mg base N qual scope f cdv A outer s H E) rfl
theorem fnR_ok (hn : ps.length = n) (hNN : N.length = NN) (F : FunD K x qual params body scope [] [] f fd) (S : FnScope N ps scope)
    (hbody : ∀ (cdv : Value) (A : Around) (outer : List PySem.Env) (s : Shared) (H : Hp) (E : XK), Room k (A.deeper (envOfC qual scope s.heap.objs.size f cdv)) → RSs (cxR P w K mg base N qual scope f cdv A outer s H E) (fun cls d _ H => E cls d H) body r) :
    FnOk P w K mg base (L2.CX P w) (k + 1) f fd ps (spR K mg (rFn n NN r)) := by
  subst hn hNN
  refine F.ok S (fun vs H Q E h => ?_) (fun cdv A outer s H vs Q E hr h => ⟨_, hbody cdv A outer s H E hr, spR_start S h⟩)
  obtain ⟨G, ad, w, as, c, w', _, _, _, a, hm, _⟩ := h
  unfold rFn at hm
  split at hm
  · rename_i hl
    rw [← a.length]; exact hl
  · cases hm
end
end Dn

set_option maxHeartbeats 4000000
namespace Dn
open PySem PySem.Spec PyProof.Rows L2
section
variable {X : Cx} {Wx : WX} {C : Addr}
/-- raise X('..'), X without own __init__ -/
def rRaise0 (x : Str) : Rx := fun env w => some (⟨x, none⟩, env, w)
theorem rs_raise0 {bmB : List Value} {B newId initId : String} {x m : Str} {j : Nat} {p p2 pos pos2 : Pos} (hc : X.calm = true) (tk : Takes X Wx) (F : ExcBaseFacts B newId initId bmB) (q : PySem.W.excIn X.K C bmB newId = true) (gC : X.mg x = some (.ref C)) (kC : PySem.W.keepIn X.K (.ref C) = true) (r : Raises X (.ref C)) (hg : Gl X x := by rfl)
    (hdb : (x == ("__debug__" : Str)) = false := by decide) : RS X Wx (.Raise (some (.Call (.Name x p) [.Constant (.str m) j p2] [] pos)) none pos2) (rRaise0 x) :=
  PS.weak (ps_raise hc tk (pmk_own F q gC kC r hg hdb)) fun D σ H ⟨Ct, G, env, w, xc, env', w', R, hm, k⟩ => by
    cases hm
    exact k (.ref C) none σ G H R (Same.refl G) rfl ⟨⟨C, gC, rfl⟩, rfl⟩
/-- what an __init__ that keeps a place promises -/
def spInit (C : Addr) : Sp := fun vs H Q _ => ∃ (a : Addr) (y : V), vs = [.ref a, y] ∧ H a = some (exo a C none) ∧ ∀ dx, H dx = none → dx ≠ a → Q .non (upd (upd H dx (exd dx [("place", y)])) a (exo a C (some dx)))
/-- raise X(place) -/
def rRaise1 (x : Str) (m : Ex) : Rx := seqE m fun p env w => some (⟨x, some p⟩, env, w)
theorem rs_raise1 {CX : CXT} {x : Str} {fI : Addr} {k : Nat} {fd : FuncData} {ps : List Str} {e : Expr} {m : Ex} {p pos pos2 : Pos} (hc : X.calm = true) (tk : Takes X Wx) (T : OexC X.K C) (iC : PySem.W.findIn X.K (.ref C) "__init__" = some (some (.ref fI))) (tI : PySem.W.typeIn X.K (.ref fI) = some (.type "function"))
    (F1 : FnOk X.prog X.w X.K X.mg X.base CX k fI fd ps (spInit C)) (hr : Room (k + 1) X.A) (hb : Binds X.K fd ps []) (hx : Passes CX X (fun _ _ _ => False)) (hm0 : X.mg x = some (.ref C)) (ha : DE X e m) (hg : Gl X x := by rfl)
    (hdb : (x == ("__debug__" : Str)) = false := by decide) (he : starEach [e] X.env = (false, eval e X.env) :: starEach [] X.env := by rfl) (hpl : (backTo pos (starEach [] X.env)).any (·.1) = false := by rfl) :
    RS X Wx (.Raise (some (.Call (.Name x p) [e] [] pos)) none pos2) (rRaise1 x m) :=
  PS.weak (ps_raise hc tk (pmk_oex (ds := []) (dvs := []) T iC tI F1 hr hb .nil hx hg hm0 (pa_cons ha pa_nil he) hdb he hpl)) fun D σ H ⟨Ct, G, env, w, xc, env', w', R, hm, kk⟩ => by
    obtain ⟨y, e1, w1, h1, hm⟩ := seqE_inv hm
    cases hm
    refine ⟨Ct, G, env, w, _, _, _, R, h1, fun v G1 H1 R1 s1 i1 a1 => ⟨by simp, fun a hn => ⟨a, v, rfl, upd_same, fun dx hdx hne => ⟨rfl, dx, [("place", v)], upd_same, ?_, ?_, ?_⟩⟩⟩⟩
    · rw [upd_ne hne, upd_same]
    · rw [upd_ne hne] at hdx
      exact hdx
    · rw [upd_ne hne] at hdx
      have eH : upd (L2.del (upd (upd (upd H1 a (exo a C none)) dx (exd dx [("place", v)])) a (exo a C (some dx))) a) dx (.xd [("place", v)]) = upd H1 dx (.xd [("place", v)]) := by
        funext b
        by_cases hb : b = dx
        · rw [hb, upd_same, upd_same]
        · rw [upd_ne hb, upd_ne hb]
          by_cases hb2 : b = a
          · rw [hb2, L2.del_same, hn]
          · rw [L2.del_ne hb2, upd_ne hb2, upd_ne hb, upd_ne hb2]
      rw [eH]
      exact kk (.ref C) (some dx) σ G1 _ (R1.ext (Ext.drop R1.sub (same_upd hdx))) s1 i1 ⟨⟨C, hm0, rfl⟩, dx, v, rfl, upd_same, a1⟩
end
end Dn

set_option maxHeartbeats 4000000
namespace Dn
open PySem PySem.Spec PyProof.Rows L2
section
variable {X : Cx} {e : Expr} {es : List Expr} {ta : TA} {x : Str} {B : Addr} {mc : Value} {p1 p2 pos : Pos}
/-- ValueError.__init__ is called with an exception that keeps nothing yet -/
theorem init_done {pins : List (Addr × Obj)} {σ : L2.St} {H : Hp} {s : Shared} {vs : List V} {us : List Value} {Q : VK} (I : Inv X pins σ H s) (r : Vals vs us) (z : ∃ (a C : Addr) (ws : List V), vs = .ref a :: ws ∧ ws.length ≤ 1000 ∧ OexC X.K C ∧ H a = some (exo a C none) ∧ Q .non H) :
    wpAny (model X.prog X.w) X.A (PySem.call (.builtin "ValueError.__init__") us) (EP X pins σ Q) X.xe s := by
  obtain ⟨a, C, ws, rfl, few, T, at_, q⟩ := z
  cases r with
  | cons same more =>
    have size := Paired.length more
    cases same
    exact oinit_ok T I at_ (by rw [sizeLine_eq]; omega) fun _ J => ⟨.non, H, J, rfl, q⟩
/-- X.__init__(self, ..), X an own class that has ValueError's -/
theorem pe_cinit {pl : Sem Bool} (hg : Gl X x) (hm : X.mg x = some (.ref B)) (rd : PySem.W.readsIn X.K B mc = true) (ga : PySem.W.specialIn X.K (.ref B) "__getattribute__" = some (some (.builtin "type.__getattribute__")))
    (fc : PySem.W.findCls X.K (.ref B) mc "__init__" = some (.val (.builtin "ValueError.__init__"))) (ha : PA X (e :: es) ta) (hdb : (x == ("__debug__" : Str)) = false := by decide)
    (hc : eval (.Call (.Attribute (.Name x p1) "__init__" p2) (e :: es) [] pos) X.env = (do
      let ov ← eval (.Name x p1) X.env
      standAt p2.atName
      let (f, first) ← holding [ov] (getMethod ov "__init__" pl)
      callWith pos f first (backTo pos (starEach (e :: es) X.env)) (backToKw pos (keywordEach [] X.env))) := by rfl)
    (he : starEach (e :: es) X.env = (false, eval e X.env) :: starEach es X.env := by rfl) (hpl : (backTo pos (starEach es X.env)).any (·.1) = false := by rfl) :
    PE X (.Call (.Attribute (.Name x p1) "__init__" p2) (e :: es) [] pos) (tVeI X.K ta) := by
  refine ⟨fun pins s σ H Q I h => PySem.W.methodCall_KW (ld_glob I hg hm (PySem.W.method_cls I.kIn ga (PySem.W.cls_value I.kIn rd fc (by decide +kernel) ?_)) hdb) hc⟩
  exact (show wpAny _ _ (callWith pos (.builtin "ValueError.__init__") [] (backTo pos (starEach (e :: es) X.env)) []) _ _ _ from PyProof.Rows.callWith_method1 (thn (ha.run pos pins _ σ H _ (I.tok _) h) fun us s1 ⟨_, _, J, r, z⟩ => init_done J r z) he hpl)
end
end Dn

set_option maxHeartbeats 4000000
namespace Dn
open PySem PySem.Spec PyProof.Rows L2
section
variable {X : Cx} {pins pn' : List (Addr × Obj)} {σ : L2.St} {H : Hp} {s : Shared} {a : Addr} {q : Addr × Obj}
theorem Inv.keepq (I : Inv (X.suite a (q :: (X.pn ++ pins))) pn' σ H s) (ok : X.Ok) : Inv (X.tr (q :: (X.pn ++ pins)) X.xe) [] σ H s where
  ok := ok.toTry _ _
  os := I.os
  bare := I.bare
  base := I.base
  loc := I.loc
  cell := I.cell
  free := I.free
  freeC := I.freeC
  pin := fun p m => I.pin p (List.mem_append_left _ (by rw [List.append_nil] at m; exact m))
  hok := I.hok
  len := I.len
theorem Inv.ofKeep (I : Inv (X.tr (q :: (X.pn ++ pins)) X.xe) [] σ H s) (ok : X.Ok) : Inv X pins σ H s where
  ok := ok
  os := I.os
  bare := I.bare
  base := I.base
  loc := I.loc
  cell := I.cell
  free := I.free
  freeC := I.freeC
  pin := fun p m => I.pin p (List.mem_append_left _ (List.mem_cons_of_mem _ m))
  hok := I.hok
  len := I.len
end
structure Down (X : Cx) (pins : List (Addr × Obj)) (a : Addr) (B : Heap) (cls : Value) (d : Option Addr) (σ : L2.St) (H : Hp) (sI s : Shared) : Prop where
  inv : Inv X pins σ H sI
  ground : ∀ b o, sI.heap.get? b = some o → b ∉ frs X.stack → B.get? b = some o
  up : sI.heap.UpToSlots s.heap
  fly : HandSPX.FlyingZ B (X.env :: X.outer) a (Zc cls d) s.heap
  new : H a = none
  os : s.os = sI.os
  gens : AllBare s.gens
section
variable {X : Cx} {pins : List (Addr × Obj)} {a : Addr} {B : Heap} {cls : Value} {d : Option Addr} {σ : L2.St} {H : Hp} {sI s : Shared}
theorem Down.here (D : Down X pins a B cls d σ H sI s) : Inv X pins σ H s := D.inv.landed D.ground D.fly.1 D.up D.os D.gens
theorem Down.on (D : Down X pins a B cls d σ H sI s) {h : Heap} (fly : HandSPX.FlyingZ B (X.env :: X.outer) a (Zc cls d) h) (up : s.heap.UpToSlots h) : Down X pins a B cls d σ H sI { s with heap := h } := { D with up := D.up.trans up, fly := fly }
/-- its object is no frame: it may be pinned -/
theorem Down.pinned (D : Down X pins a B cls d σ H sI s) (hf : X.env.frame = some X.env.locals) : ∃ oe, s.heap.get? a = some oe ∧ Zc cls d oe ∧ (∃ vs, oe.data = .fields vs) ∧ Inv (X.suite a ((a, oe) :: (X.pn ++ pins))) [] σ H s := by
  obtain ⟨oe, vs, at_, z, fields⟩ := D.fly.there
  have out : a ∉ frs (X.env :: X.outer) := fun m => by
    obtain ⟨_, o, e, no⟩ := D.fly.2.2.1.mem m
    exact no vs (by rw [← Option.some.inj (at_.symm.trans e)]; exact fields)
  have up : ∀ E : Env, E ∈ X.env :: X.outer → E.frame ≠ some a := fun E m z => out (List.mem_filterMap.mpr ⟨E, m, z⟩)
  refine ⟨oe, at_, z, ⟨vs, fields⟩, D.here.suite at_ fields D.new (fun z => up _ List.mem_cons_self (by rw [hf, z])) fun m => ?_⟩
  obtain ⟨E, m, z⟩ := List.mem_filterMap.mp m
  exact up E (List.mem_cons_of_mem _ m) z
end
/-- what the clause 'except x as n' wishes of an exception of the body, where the rest is done with the exception kept -/
def wAsK (K : PySem.W.Frag) (c : Value) (i : Nat) (ts tr : Addr → Value → Option Addr → TS) (Wout : WX) (D : Ends) : WX := fun cls d σ H =>
  ∃ b, PySem.W.exmOne K cls c = some b ∧ (b = true → ∀ a, H a = none → ts a cls d { nx := fun σ' H' => tr a cls d D (σ'.set i none) H', rt := fun _ _ => False } (σ.set i (some (.ref a))) H) ∧ (b = false → Wout cls d σ H)
def KeptP (X : Cx) (pins : List (Addr × Obj)) (t0 : TS) (tr : Addr → Value → Option Addr → TS) (D : Ends) (f : Flow) (s' : Shared) : Prop := match f with
  | .next => (∃ σ' H', Inv X pins σ' H' s' ∧ t0 D σ' H') ∨ ∃ (a : Addr) (oe : Obj) (cls : Value) (d : Option Addr) (σ' : L2.St) (H' : Hp), Zc cls d oe ∧ (∃ vs, oe.data = .fields vs) ∧ Inv (X.tr ((a, oe) :: (X.pn ++ pins)) X.xe) [] σ' H' s' ∧ tr a cls d D σ' H'
  | f => SP X pins D f s'
/-- a block's ends, told of another context -/
theorem sp_to {X Y : Cx} {pins pins' : List (Addr × Obj)} {D : Ends} (h : ∀ {σ : L2.St} {H : Hp} {s : Shared}, Inv Y pins' σ H s → Inv X pins σ H s) : ∀ {f : Flow} {s : Shared}, SP Y pins' D f s → SP X pins D f s
  | .next, _, ⟨_, _, J, q⟩ => ⟨_, _, h J, q⟩
  | .brk, _, ⟨_, _, J, q⟩ => ⟨_, _, h J, q⟩
  | .cont, _, ⟨_, _, J, q⟩ => ⟨_, _, h J, q⟩
  | .ret _, _, ⟨_, _, _, J, r, q⟩ => ⟨_, _, _, h J, r, q⟩
section
variable {X : Cx} {pins : List (Addr × Obj)} {a : Addr} {B : Heap} {cls c : Value} {d : Option Addr} {σ : L2.St} {H : Hp} {sI s : Shared} {x n : Str} {i : Nat} {suite : List Stmt} {b₀ : Stmt} {np pos' : Pos} {ts tr : Addr → Value → Option Addr → TS} {t0 : TS} {Wout : WX} {D : Ends}
/-- the clause's class is read while the exception is in hand -/
theorem class_read (hc : Names X x c) {pn : List (Addr × Obj)} (S : Inv (X.suite a pn) [] σ H s) {Q E : Value → Shared → Prop} (k : Q c s) : wpAny (model X.prog X.w) (X.A.mark (some (.ref a))) (eval (.Name x np) X.env) Q E s := match hc with
  | ⟨glob, nd, .inl own⟩ => ld_glob (X := X.suite a pn) S glob own k nd
  | ⟨glob, nd, .inr ⟨bare, kit, nn⟩⟩ => ld_blt (X := X.suite a pn) S glob bare kit k nn nd
/-- no clause takes it: on to the outside -/
theorem Down.missed (L : Down X pins a B cls d σ H sI s) (hs : X.stack = X.env :: X.outer) (hf : X.env.frame = some X.env.locals) (tk : Takes X Wout) (w : Wout cls d σ H) {what : String} {Q : Flow → Shared → Prop} : wpAny (model X.prog X.w) X.A (passOn what (.ref a) X.env : Sem Flow) Q X.xe s := by
  have away : wpAny (model X.prog X.w) X.A (setFlight (.ref a) X.env.frame) (fun _ s' => wpAny (model X.prog X.w) X.A (throw (.ref a) : Sem Flow) Q X.xe s') X.xe s := hf ▸ HandSPX.setFlight_upZ L.fly fun h held up =>
    wpAny_throw (tk _ _ ⟨a, B, sI, pins, σ, H, cls, d, rfl, L.inv, L.ground, L.up.trans up, .inr (.inr (hs ▸ held)), L.new, L.os, L.gens, w⟩)
  obtain ⟨_, _, _, oe, vs, T, _, _, at_, _, fields, one, _⟩ := id L.fly
  unfold PySem.passOn
  refine wpAny_bind (wpAny_field at_ fields one ?_)
  have some_ : ((Value.ref T == Value.none) = true) = False := by simp
  simp only [some_, if_false]
  first
    | exact wpAny_bind away
    | exact wpAny_bind (wpAny_pure (wpAny_bind away))
/-- the clause 'except x as n' -/
theorem Down.handled (L : Down X pins a B cls d σ H sI s) (hs : X.stack = X.env :: X.outer) (hf : X.env.frame = some X.env.locals) (hN : X.N.Nodup) (hi : X.N[i]? = some n) (hln : X.env.kindOf n = some .local) (hc : Names X x c) (tk : Takes X Wout)
    (hsu : ∀ (a : Addr) (oe : Obj) (cls : Value) (d : Option Addr) (pn : List (Addr × Obj)), Zc cls d oe → (∃ vs, oe.data = .fields vs) → PSs (X.suite a ((a, oe) :: pn)) (b₀ :: suite) (ts a cls d)) (w : wAsK X.K c i ts tr Wout D cls d σ H) :
    wpAny (model X.prog X.w) X.A (handleBy (.ref a) X.env [.ExceptHandler (some (.Name x np)) (some n) (b₀ :: suite) pos']) (KeptP X pins t0 tr D) X.xe s := by
  obtain ⟨oe, at_, z, fields, S⟩ := L.pinned hf
  obtain ⟨b, hb, yes, no⟩ := w
  have type : PySem.W.Looks (model X.prog X.w) s.heap (typeOf (.ref a)) cls := fun _ _ _ _ more k => wpAny_typeOf_ref (more _ _ at_) (z.1.symm ▸ k)
  refine wpAny_handleBy_cons (codeAny_handlers_test (class_read hc S ((PySem.W.exm_one (M := model X.prog X.w) L.here.kIn type hb).here ?_))) fun q => by cases q
  cases b
  case false => exact (show wpAny (model X.prog X.w) X.A (handleBy (.ref a) X.env []) (KeptP X pins t0 tr D) X.xe s from wpAny_handleBy_nil (L.missed hs hf tk (no rfl)))
  case true =>
    refine codeAny_handlers_suite_as (HandSPX.lands_againZ L.fly fun h fly up => ?_)
    obtain ⟨oe', _, z', fields', S'⟩ := (L.on fly up).pinned hf
    refine store_ok (X := X.suite a ((a, oe') :: (X.pn ++ pins))) (v := .ref a) S' hN hi (.inl hln) rfl (fun s1 S1 => wpAny_mono ((hsu a oe' cls d (X.pn ++ pins) z' fields').run [] s1 _ H _ S1 (yes rfl a L.new)) (fun f s2 e => ?_) fun _ _ e => absurd e id) (.inr hln)
    match f, e with
    | .next, ⟨_, _, S2, q⟩ => exact gone_ok (X := X.tr ((a, oe') :: (X.pn ++ pins)) X.xe) (Dn.Inv.keepq S2 L.inv.ok) hN hi hln fun _ J => .inr ⟨a, oe', cls, d, _, _, z', fields', J, q⟩
    | .brk, ⟨_, _, _, q⟩ => exact q.elim
    | .cont, ⟨_, _, _, q⟩ => exact q.elim
    | .ret _, ⟨_, _, _, _, _, q⟩ => exact q.elim
end
section
variable {X : Cx} {x n : Str} {c : Value} {i : Nat} {body suite rest : List Stmt} {b₀ : Stmt} {np pos pos' : Pos} {tb : WX → TS} {ts tr : Addr → Value → Option Addr → TS} {t0 : TS} {Wout : WX}
end
end Dn

set_option maxHeartbeats 4000000
namespace Dn
open PySem PySem.Spec PyProof.Rows L2 LamX
abbrev lamFd (q : Str) (params : Arguments) (body : Expr) (scope : Scope) (cl : List (Str × Addr)) (dV doc pm : Value) (c' : Addr) (ctv : Value) : FuncData := PySem.W.kdv_fn "<lambda>" q params (.expr body) scope cl dV doc pm (.ref c') ctv
abbrev lamOb (q : Str) (params : Arguments) (body : Expr) (scope : Scope) (cl : List (Str × Addr)) (dV doc pm : Value) (c' : Addr) (ctv : Value) : Obj := { cls := .type "function", data := .func (lamFd q params body scope cl dV doc pm c' ctv) }
abbrev lamQ (X : Cx) : Str := X.env.qual ++ "<lambda>"
/-- all but these tables stay -/
def ExtT (T : List (Addr × Str)) (H H' : Hp) : Prop := ∀ b o, H b = some o → b ∉ T.map (·.1) → H' b = some o
theorem ExtT.refl {T : List (Addr × Str)} (H : Hp) : ExtT T H H := fun _ _ h _ => h
theorem code_out {T : List (Addr × Str)} {H : Hp} (hT : Tabs T H) {c c' : Addr} {q : Str} (e : H c = some (CodeO c' q)) : c ∉ T.map (·.1) := fun m => by
  obtain ⟨p, hp, rfl⟩ := List.mem_map.mp m
  obtain ⟨ps, z, _⟩ := hT p hp
  rw [z] at e
  unfold CodeO at e
  cases e
/-- the lambda's parameters are bound by what its defaults are -/
def LamBd (X : Cx) (s : Shared) (H : Hp) (fd : FuncData) (scope : Scope) : Prop := ∃ binds : List (Str × Value), (∀ s2 : Shared, (∀ b o, s.heap.get? b = some o → H b = none → b ∉ frs X.stack → s2.heap.get? b = some o) → BindsTo s2 fd ⟨[], []⟩ binds) ∧ ∀ y ∈ binds, scope.names.lookup y.1 = some .local
/-- the lambda is made -/
def LamMk (X : Cx) (T : List (Addr × Str)) (params : Arguments) (body : Expr) (scope : Scope) (pos : Pos) : Prop :=
  ∀ (pins : List (Addr × Obj)) (σ : L2.St) (H : Hp) (s : Shared) (E Q : Value → Shared → Prop), Inv X pins σ H s → Tabs T H →
    (∀ (f c' : Addr) (dV doc pm ctv : Value) (H1 : Hp) (s' : Shared), Inv X pins σ H1 s' → ExtT T H H1 → Tabs T H1 →
      s'.heap.get? f = some (lamOb (lamQ X) params body scope (cloFrom X.env.cells scope.names []) dV doc pm c' ctv) → H1 f = none → f ∉ frs X.stack → H1 c' = some (CodeO c' (lamQ X)) →
      LamBd X s' H1 (lamFd (lamQ X) params body scope (cloFrom X.env.cells scope.names []) dV doc pm c' ctv) scope → Q (.ref f) s') →
    wpAny (model X.prog X.w) X.A (eval (.Lambda params body scope pos) X.env) Q E s
section
variable {T : List (Addr × Str)} {H : Hp} {P c' : Addr} {ps : Array Value} {pos : Pos} {q : Str}
/-- the table at P got the code object c' for pos -/
def grown (H : Hp) (P : Addr) (ps : Array Value) (pos : Pos) (c' : Addr) (q : Str) : Hp := upd (upd H P (.tbl (ps ++ #[rawInt pos.line, rawInt pos.col, .ref c']))) c' (CodeO c' q)
theorem grown_new : grown H P ps pos c' q c' = some (CodeO c' q) := upd_same
theorem grown_else {b : Addr} (h1 : b ≠ P) (h2 : b ≠ c') : grown H P ps pos c' q b = H b := (upd_ne h2).trans (upd_ne h1)
theorem grown_at (h : P ≠ c') : grown H P ps pos c' q P = some (.tbl (ps ++ #[rawInt pos.line, rawInt pos.col, .ref c'])) := (upd_ne h).trans upd_same
theorem grown_ext (hn : H c' = none) (hm : (P, q) ∈ T) : ExtT T H (grown H P ps pos c' q) := fun b u hb out =>
  (grown_else (fun z => out (List.mem_map.mpr ⟨_, hm, z.symm⟩)) (ne_of_none hb hn)).trans hb
theorem grown_tabs (hT : Tabs T H) (hn : H c' = none) (hm : (P, q) ∈ T) (hu : ∀ p ∈ T, p.1 = P → p.2 = q) (hP : H P = some (.tbl ps)) : Tabs T (grown H P ps pos c' q) := fun p hp => by
  have codes : ∀ (c : Addr) (r : Str), H c = some (CodeO c r) → grown H P ps pos c' q c = some (CodeO c r) := fun c r hc => grown_ext hn hm c _ hc (code_out hT hc)
  obtain ⟨xs, at_, good, names⟩ := hT p hp
  by_cases same : p.1 = P
  · obtain rfl : xs = ps := by
      rw [same, hP] at at_
      cases at_
      rfl
    have split : (xs ++ #[rawInt pos.line, rawInt pos.col, .ref c']).toList = xs.toList ++ [rawInt pos.line, rawInt pos.col, .ref c'] := Array.toList_append
    rw [hu p hp same]
    rw [hu p hp same] at names
    refine ⟨_, by rw [same]; exact grown_at (ne_of_none hP hn), split ▸ PySem.TriplesOk_snoc _ _ _ _ good, fun at2 v hv => ?_⟩
    rw [split] at hv
    cases among_app _ good hv with
    | inr z => exact ⟨c', z, grown_new⟩
    | inl z => exact let ⟨c, y1, y2⟩ := names at2 v z; ⟨c, y1, codes c _ y2⟩
  · exact ⟨xs, (grown_else same (ne_of_none at_ hn)).trans at_, good, fun at2 v hv => let ⟨c, y1, y2⟩ := names at2 v hv; ⟨c, y1, codes c _ y2⟩⟩
end
section
variable {X : Cx} {pins : List (Addr × Obj)} {σ : L2.St} {H : Hp} {s : Shared}
/-- what is not there yet is no frame's -/
theorem new_frs (I : Inv X pins σ H s) {b : Addr} (hb : s.heap.objs.size ≤ b) : b ∉ frs X.stack := fun m => match List.mem_cons.mp (I.stkSub _ m) with
  | .inl z => absurd (Nat.lt_of_lt_of_le I.lt hb) (by rw [z]; exact Nat.lt_irrefl _)
  | .inr z => I.nofs hb z
/-- a lambda's function object, made in the state in which its defaults lie -/
theorem lam_tail {T : List (Addr × Str)} {c P : Addr} {params : Arguments} {body : Expr} {scope : Scope} {pos : Pos} {dV : Value} {E : Value → Shared → Prop} {Q : Value → Shared → Prop} (I : Inv X pins σ H s) (TB : TabB X.base X.mg c P) (hcode : X.env.code = .ref c)
    (hm : (P, lamQ X) ∈ T) (hu : ∀ p ∈ T, p.1 = P → p.2 = lamQ X) (hT : Tabs T H) (hfree : ∀ y ∈ scope.names, y.2 = .free → ∃ c, X.env.cells.lookup y.1 = some c)
    (h : ∀ (f c' : Addr) (doc pm ctv : Value) (H1 : Hp) (s' : Shared), Inv X pins σ H1 s' → ExtT T H H1 → Tabs T H1 →
      s'.heap.get? f = some (lamOb (lamQ X) params body scope (cloFrom X.env.cells scope.names []) dV doc pm c' ctv) → H1 f = none → f ∉ frs X.stack → H1 c' = some (CodeO c' (lamQ X)) →
      (∀ b o, s.heap.get? b = some o → b ≠ P → s'.heap.get? b = some o) → (∀ b, H b = none → s.heap.objs.size > b → H1 b = none) → Q (.ref f) s') :
    wpAny (model X.prog X.w) X.A (makeTail "<lambda>" (lamQ X) params (.expr body) scope X.env dV .none none pos pos.line) Q E s := by
  obtain ⟨ps, atP, good, names⟩ := hT (P, lamQ X) hm
  have heapP := I.hok P _ atP
  have glob := I.mod.glob.keeps I.bk
  have code := TB.code.keeps I.bk
  have blt := TB.bm.keeps I.bk
  have clos := closure_ok (env := X.env) hfree
  rcases found : codeAmong pos ps.toList with _ | v
  case some =>
    obtain ⟨c', rfl, known⟩ := names pos v found
    refine PySem.W.kdv_makeTailHit (mg := X.mg) clos I.ok.glob glob hcode code heapP good found blt fun ctv doc h' tk more size => ?_
    have kept := fun b o (e : s.heap.get? b = some o) (g : Obj) => Heap.get?_push_of_some g (more b o e)
    exact h _ c' doc _ ctv H _ (I.kept fun b o e => kept b o e _) (ExtT.refl H) hT (Heap.get?_push_size _ rfl) (I.hok.fresh size) (new_frs I size) known (fun b o e _ => kept b o e _) fun _ e _ => e
  case none =>
    refine PySem.W.kdv_makeTail (mg := X.mg) clos I.ok.glob glob hcode code heapP good found TB.gP blt fun c' ctv doc h' tk more low high record table => ?_
    obtain ⟨_, oc, vs, t, same, at_, data, name⟩ := record
    cases same
    have noC : H c' = none := I.hok.fresh low
    have size : s.heap.objs.size ≤ h'.objs.size := Nat.le_trans low (Nat.le_of_lt high)
    have kept : ∀ (g : Obj) (b : Addr) (o : Obj), b ≠ P → s.heap.get? b = some o → (h'.push g).get? b = some o := fun g b o n e => Heap.get?_push_of_some g (more b o n e)
    have J := inv_table (t' := tk) I atP (kept (lamOb (lamQ X) params body scope (cloFrom X.env.cells scope.names []) dV doc ((X.mg "__name__").getD .none) c' ctv)) (Heap.get?_push_of_some _ table) low ⟨oc, vs, t, Heap.get?_push_of_some _ at_, data, name⟩
    have inP : P < h'.objs.size := Nat.lt_of_lt_of_le (Heap.lt_size heapP) size
    refine h _ c' doc _ ctv (grown H P ps pos c' (lamQ X)) _ J (grown_ext noC hm) (grown_tabs hT noC hm hu atP) (Heap.get?_push_size _ rfl) ?_ (new_frs I size) grown_new (fun b o e n => kept _ b o n e) fun b e lt => ?_
    · exact (grown_else (Nat.ne_of_gt inP) (Nat.ne_of_gt high)).trans (I.hok.fresh size)
    · exact (grown_else (fun z => by rw [z, atP] at e; cases e) (Nat.ne_of_lt (Nat.lt_of_lt_of_le lt low))).trans e
end
section
variable {X : Cx}
/-- a lambda without parameters -/
theorem lamMk0 {T : List (Addr × Str)} {c P : Addr} {params : Arguments} {body : Expr} {scope : Scope} {pos : Pos} (TB : TabB X.base X.mg c P) (hcode : X.env.code = .ref c) (hm : (P, lamQ X) ∈ T) (hu : ∀ p ∈ T, p.1 = P → p.2 = lamQ X)
    (hdef : defaultsOf params X.env = ([], [])) (hfree : ∀ (s : Shared) (pins : List (Addr × Obj)) (σ : L2.St) (H : Hp), Inv X pins σ H s → ∀ y ∈ scope.names, y.2 = .free → ∃ c, X.env.cells.lookup y.1 = some c)
    (hbind : ∀ (q : Str) (cl : List (Str × Addr)) (doc pm ctv : Value) (c' : Addr), bindArgs (lamFd q params body scope cl .none doc pm c' ctv) ⟨[], []⟩ = pure []) : LamMk X T params body scope pos := by
  intro pins σ H s E Q I hT h
  refine PySem.W.kla_eval hdef ?_
  rw [makeFunction_eq]
  simp only [List.zip_nil_right, List.filterMap_nil, List.isEmpty_nil, if_true, pure_bind]
  refine lam_tail I TB hcode hm hu hT (hfree _ _ _ _ I) fun f c' doc pm ctv H1 s' I1 eN T1 hf hfn hfr hco _ _ => ?_
  exact h f c' .none doc pm ctv H1 s' I1 eN T1 hf hfn hfr hco ⟨[], fun s2 _ => BindsTo.of_eq (hbind _ _ _ _ _ _), fun y hy => by simp at hy⟩
/-- a lambda with one default, a number -/
theorem lamMk1 {T : List (Addr × Str)} {c P : Addr} {params : Arguments} {body : Expr} {scope : Scope} {pos : Pos} {i : Int} {j : Nat} {dp : Pos} {n : Str} (TB : TabB X.base X.mg c P) (hcode : X.env.code = .ref c) (hm : (P, lamQ X) ∈ T) (hu : ∀ p ∈ T, p.1 = P → p.2 = lamQ X)
    (hd : params.defaults = [.Constant (.int i) j dp]) (hk0 : params.kw_defaults = []) (hfree : ∀ (s : Shared) (pins : List (Addr × Obj)) (σ : L2.St) (H : Hp), Inv X pins σ H s → ∀ y ∈ scope.names, y.2 = .free → ∃ c, X.env.cells.lookup y.1 = some c)
    (hbind : ∀ (q : Str) (cl : List (Str × Addr)) (t : Addr) (doc pm ctv : Value) (c' : Addr), ∃ k : Option (Array Value) → Sem (List (Str × Value)), bindArgs (lamFd q params body scope cl (.ref t) doc pm c' ctv) ⟨[], []⟩ = (seqItems? (.ref t) >>= k) ∧ ∀ u : Value, k (some #[u]) = pure [(n, u)])
    (hn : scope.names.lookup n = some .local) : LamMk X T params body scope pos := by
  intro pins σ H s E Q I hT h
  refine PySem.W.kdv_lam (by rw [hd]; rfl) hk0 ?_
  rw [hd]
  refine PySem.W.kdv_all1 (thn ((pe_int (X := X) (i := i) (j := j) (pos := dp)).run pins s σ H (fun v H1 => v = .int i ∧ H1 = H) I ⟨rfl, rfl⟩) fun u s1 hh => PySem.W.kdv_all0 ?_)
  obtain ⟨v, H1, I1, ru, ev, eH⟩ := hh
  subst ev
  rw [eH] at I1
  rw [makeFunction_eq]
  simp only [List.zip_nil_right, List.filterMap_nil, List.isEmpty_nil, List.isEmpty_cons, Bool.false_eq_true, if_false, if_true, pure_bind]
  refine wpAny_bind (wpAny_newTextTuple ?_)
  have hsz : s1.heap.objs.size < (s1.heap.push { cls := .type "tuple", data := .seq [u].toArray }).objs.size := by rw [Heap.size_push]; omega
  have I2 : Inv X pins σ H { s1 with heap := s1.heap.push { cls := .type "tuple", data := .seq [u].toArray } } := I1.kept (t' := s1.toks) fun b o e => Heap.get?_push_of_some _ e
  obtain ⟨ps, hP, _⟩ := hT _ hm
  have hPs := I1.hok P _ hP
  refine lam_tail I2 TB hcode hm hu hT (hfree _ _ _ _ I2) fun f c' doc pm ctv H3 s' I3 eN T1 hf hfn hfr hco kp kn => ?_
  refine h f c' _ doc pm ctv H3 s' I3 eN T1 hf hfn hfr hco ⟨[(n, u)], fun s2 k2 => ?_, fun y hy => by rw [List.mem_singleton.mp hy]; exact hn⟩
  obtain ⟨k, e1, e2⟩ := hbind (lamQ X) (cloFrom X.env.cells scope.names []) s1.heap.objs.size doc pm ctv c'
  have hPlt := Heap.lt_size hPs
  have g1 : s'.heap.get? s1.heap.objs.size = some { cls := .type "tuple", data := .seq [u].toArray } := kp _ _ (Heap.get?_push_size _ rfl) (Nat.ne_of_gt hPlt)
  have g2 := k2 _ _ g1 (kn _ (I1.hok.fresh (Nat.le_refl _)) hsz) (new_frs I1 (Nat.le_refl _))
  exact BindsTo.of_defaults (T := s1.heap.objs.size) rfl g2 rfl e1 (e2 u)
end
end Dn

set_option maxHeartbeats 4000000
namespace Dn
open PySem PySem.Spec PyProof.Rows L2 LamX
/-- a lambda's name: none that it lends out, its own ones unknown to the def, what it borrows known to the def as borrowed or lent -/
def nameOk (N : List Str) (sc : Scope) (y : Str × NameKind) : Bool := match y.2 with
  | .cell => false
  | .local => decide (y.1 ∉ N)
  | .free => decide (sc.names.lookup y.1 = some .cell ∨ sc.names.lookup y.1 = some .free)
  | _ => true
structure LamS (N : List Str) (sc scope : Scope) : Prop where
  kind : scope.kind = .function
  still : (scope.isCoroutine || scope.isGenerator) = false
  names : ∀ y ∈ scope.names, nameOk N sc y = true
def lamSB (N : List Str) (sc scope : Scope) : Bool := decide (scope.kind = .function) && (!(scope.isCoroutine || scope.isGenerator) && scope.names.all (nameOk N sc))
theorem lamS_by {N : List Str} {sc scope : Scope} (h : lamSB N sc scope = true) : LamS N sc scope := by
  obtain ⟨h1, h2⟩ := Bool.and_eq_true_iff.mp h
  obtain ⟨h2, h3⟩ := Bool.and_eq_true_iff.mp h2
  exact ⟨of_decide_eq_true h1, by simpa using h2, List.all_eq_true.mp h3⟩
section
variable {N : List Str} {sc scope : Scope} {y : Str}
theorem LamS.co (L : LamS N sc scope) : scope.isCoroutine = false := (Bool.or_eq_false_iff.mp L.still).1
theorem LamS.gen (L : LamS N sc scope) : scope.isGenerator = false := (Bool.or_eq_false_iff.mp L.still).2
theorem LamS.noCell (L : LamS N sc scope) (m : (y, NameKind.cell) ∈ scope.names) : False := Bool.false_ne_true (L.names _ m)
theorem LamS.mine (L : LamS N sc scope) (m : (y, NameKind.local) ∈ scope.names) : y ∉ N := of_decide_eq_true (L.names _ m)
theorem LamS.lent (L : LamS N sc scope) (m : (y, NameKind.free) ∈ scope.names) : sc.names.lookup y = some .cell ∨ sc.names.lookup y = some .free := of_decide_eq_true (L.names _ m)
theorem LamS.has {X : Cx} (L : LamS N X.env.scope scope) (ok : X.Ok) : ∀ y ∈ scope.names, y.2 = .free → ∃ c, X.env.cells.lookup y.1 = some c
  | (_, .free), m, _ => ok.has _ (L.lent m)
end
section
variable {cells : List (Str × Addr)} {scope : Scope} (have_ : ∀ y ∈ scope.names, y.2 = .free → ∃ c, cells.lookup y.1 = some c)
include have_ in
theorem clo_up {y : Str} {c : Addr} (e : (cloFrom cells scope.names []).lookup y = some c) : cells.lookup y = some c := by
  obtain z | ⟨m, rfl⟩ := cloFrom_mem (PySem.mem_of_lookup e)
  · exact absurd z List.not_mem_nil
  · obtain ⟨d, hd⟩ := have_ _ m rfl
    have hd : cells.lookup y = some d := hd
    rw [hd]
    rfl
end
theorem clo_down {cells : List (Str × Addr)} {scope : Scope} {y : Str} (m : (y, NameKind.free) ∈ scope.names) : ∃ c, (cloFrom cells scope.names []).lookup y = some c := mem_lookup (cloFrom_has (acc := []) m)
section
variable {X : Cx} {pins : List (Addr × Obj)} {σ : L2.St} {H HZ : Hp} {s s1 : Shared}
/-- a call that is over -/
theorem wp_called {CX : CXT} {f : Value} {us : List Value} {Q : VK} {E : XK} {Er : Value → Shared → Prop} (I : Inv X pins σ H s) (run : codeAny (model X.prog X.w) X.A (.call f ⟨us, []⟩) (CR CX X.stack X.prog X.w H s Q E) s) (fail : ∀ e s', CX X.stack H s E e s' → Er e s') :
    wpAny (model X.prog X.w) X.A (PySem.call f us []) (EP X pins σ Q) Er s := wpAny_call (codeAny_mono run fun r s' z => match r, z with
  | .error e, z => fail e s' z
  | .ok (.ret _), z => I.after z
  | .ok .next, z => absurd z id
  | .ok .brk, z => absurd z id
  | .ok .cont, z => absurd z id)
/-- the body of a lambda is entered: the def's slots are read through the cells -/
theorem lam_in {A : Around} {outer : List Env} {E : XK} {scope : Scope} {f c' : Addr} {h₁ : Heap} {tk : Nat} {bm : Str → Option Value} (I : Inv X pins σ H s) (L : LamS X.N X.env.scope scope) (e0 : Env0 X.prog X.w X.K X.mg X.base A outer s1 HZ) (quiet : A.handled = none)
    (un : Un (frs X.stack) [] H HZ s.heap s1.heap) (frame : h₁.Ns s1.heap.objs.size bm) (more : ∀ b o, s1.heap.get? b = some o → h₁.get? b = some o) : Inv (lamCx X A outer s1 HZ E scope f c') [] σ HZ { s1 with heap := h₁, toks := tk } := by
  have up : ∀ y c, (cloFrom X.env.cells scope.names []).lookup y = some c → X.env.cells.lookup y = some c := fun _ _ => clo_up (L.has I.ok)
  have cell : ∀ c v, H c = none → s.heap.IsCell c v → h₁.IsCell c v := fun c v n z => by
    obtain ⟨o, at_, d⟩ := z
    obtain ⟨sl, q⟩ := un.any at_ n List.not_mem_nil
    exact ⟨_, more _ _ q, d⟩
  have nobody : ∀ (b : Addr) {p : Prop}, b ∈ (lamCx X A outer s1 HZ E scope f c').ex → p := fun _ _ m => absurd m List.not_mem_nil
  have seen : ∀ y, Vis scope y → y ∈ X.N → (y, NameKind.free) ∈ scope.names := fun y hv inN => match hv with
    | .inl z => absurd inN (L.mine (PySem.mem_of_lookup z))
    | .inr (.inl z) => (L.noCell (PySem.mem_of_lookup z)).elim
    | .inr (.inr z) => PySem.mem_of_lookup z
  refine {
    ok := {
      mod := e0.mod, kind := L.kind, glob := rfl, blt := rfl, above := Nat.le_refl _, inj := fun y z c h1 h2 => I.ok.inj y z c (up y c h1) (up z c h2), has := fun y hy => ?has, cab := fun y c z => absurd z Bool.false_ne_true, hd := fun _ => quiet
      frames := Around.frames_deeper e0.frames, stk := .inr ⟨rfl, rfl⟩, exf := fun b => nobody b, bs := e0.bs, bsz := e0.bsz, noex := fun b _ _ => nobody b, exfs := fun b => nobody b, funs := e0.funs, frf := e0.frf }
    os := rfl, bare := e0.bare, base := Un.kept more, loc := ⟨bm, frame, fun i y v nm at_ hv => ?loc⟩, cell := fun y c e => ?cell, free := e0.hok.fresh (Nat.le_refl _), freeC := fun y c e => ?freeC, pin := fun p m => absurd m List.not_mem_nil, hok := e0.hok.kept more, len := I.len }
  case has =>
    rcases hy with hy | hy
    · exact (L.noCell (PySem.mem_of_lookup (show scope.names.lookup y = some .cell from hy))).elim
    · exact clo_down (PySem.mem_of_lookup (show scope.names.lookup y = some .free from hy))
  case loc =>
    have m := seen y hv (List.mem_of_getElem? nm)
    obtain ⟨_, _, slots⟩ := I.loc
    obtain ⟨u, same, q⟩ := slots i y v nm at_ ((L.lent m).elim (fun z => .inr (.inl z)) fun z => .inr (.inr z))
    obtain ⟨c, hc⟩ := clo_down (cells := X.env.cells) m
    refine ⟨u, same, .inr ⟨hv.elim (fun z => absurd (List.mem_of_getElem? nm) (L.mine (PySem.mem_of_lookup z))) id, c, hc, ?_⟩⟩
    rcases q with ⟨z, _⟩ | ⟨_, d, hd, z⟩
    · have z : X.env.scope.names.lookup y = some .local := z
      rcases L.lent m with k | k <;> exact absurd (k.symm.trans z) (by simp)
    · obtain rfl : c = d := Option.some.inj ((up y c hc).symm.trans hd)
      exact cell c _ (I.freeC y c hd) z
  case cell => exact (I.cell y c (up y c e)).imp fun v => cell c v (I.freeC y c (up y c e))
  case freeC =>
    obtain ⟨v, o, at_, _⟩ := I.cell y c (up y c e)
    exact un.free c o at_ (I.freeC y c (up y c e)) List.not_mem_nil
/-- the call of a lambda's function object, its parameters bound by binds -/
theorem lam_code {A : Around} {outer : List Env} {E : XK} {Q : VK} {params : Arguments} {body : Expr} {scope : Scope} {f c' : Addr} {dV doc pm ctv : Value} {binds : List (Str × Value)} {k : Nat} {tb : TE} (I : Inv X pins σ H s) (L : LamS X.N X.env.scope scope) (e0 : Env0 X.prog X.w X.K X.mg X.base A outer s1 HZ)
    (un : Un (frs X.stack) [] H HZ s.heap s1.heap) (lim : s1.heap.NoLimit) (at_ : s1.heap.get? f = some (lamOb (lamQ X) params body scope (cloFrom X.env.cells scope.names []) dV doc pm c' ctv)) (code : ∃ (oc : Obj) (vs : Array Value) (t : Tok), s1.heap.get? c' = some oc ∧ oc.data = .fields vs ∧ vs[1]? = some (.str (lamQ X) t))
    (bound : BindsTo s1 (lamFd (lamQ X) params body scope (cloFrom X.env.cells scope.names []) dV doc pm c' ctv) ⟨[], []⟩ binds) (mine : ∀ y ∈ binds, scope.names.lookup y.1 = some .local) (hr : Room (k + 1) A)
    (hbody : Room k (A.deeper (lamEnv X scope s1.heap.objs.size f c')) → PE (lamCx X A outer s1 HZ E scope f c') body tb) (ht : tb σ HZ Q) : codeAny (model X.prog X.w) A (.call (.ref f) ⟨[], []⟩) (CR (L2.CX X.prog X.w) outer X.prog X.w HZ s1 Q E) s1 := by
  obtain ⟨oc, vs, t, z1, z2, z3⟩ := code
  refine PySem.W.kla_callFunE hr.depth at_ rfl L.co L.gen rfl ⟨c', oc, vs, t, rfl, z1, z2, z3⟩ (bound _ _ _ _ (wpAny_newFunctionEnv (fun y m z => L.noCell (y := y.1) (by rw [← z]; exact m)) mine (fun h₁ frame but => ⟨lim.fresh _ but, ?_⟩) L.kind))
  have J := lam_in (f := f) (c' := c') (E := E) (tk := s1.toks + binds.length) I L e0 hr.hd un frame fun b o e => but.extBut b o (Nat.ne_of_lt (Heap.lt_size e)) (Heap.get?_push_of_some _ e)
  exact PySem.W.kla_codeExpr (wpAny_mono ((hbody (hr.deeper _)).run [] _ _ HZ Q J ht) (fun v s' ⟨u, H', J', same, q⟩ => ⟨u, H', J'.os, J'.bare, J'.base, J'.hok, same, q⟩) fun _ _ z => z)
/-- a(), a the def's name for the lambda at f; the def was entered at s from X -/
theorem pe_act3 {CXg : CXT} {Eg : XK} {Ng : List Str} {qg : Str} {sg : Scope} {g f c' : Addr} {cdg dV doc pm ctv : Value} {params : Arguments} {body : Expr} {scope : Scope} {k i : Nat} {a : Str} {pn : List (Addr × Obj)} {xe : Value → Shared → Prop} {W : WX} {E : XK} {tb : TE} {p1 p2 : Pos}
    (I : Inv X pins σ H s) (L : LamS X.N X.env.scope scope) (at_ : s.heap.get? f = some (lamOb (lamQ X) params body scope (cloFrom X.env.cells scope.names []) dV doc pm c' ctv)) (fresh : H f = none) (away : f ∉ frs X.stack)
    (bd : LamBd X s H (lamFd (lamQ X) params body scope (cloFrom X.env.cells scope.names []) dV doc pm c' ctv) scope) (tk : Takes ((cxOf CXg X.prog X.w X.K X.mg X.base Ng qg sg g cdg X.A X.stack s H Eg).tr pn xe) W)
    (hr : Room (k + 1) (X.A.deeper (envOfC qg sg s.heap.objs.size g cdg))) (run : ∀ (A : Around) (outer : List Env) (s : Shared) (H : Hp), Room k (A.deeper (lamEnv X scope s.heap.objs.size f c')) → PE (lamCx X A outer s H E scope f c') body tb)
    (nm : Ng[i]? = some a) (vis : Vis sg a) (hd : (a == ("__debug__" : Str)) = false := by decide) (hcd : (a == ("__classdict__" : Str)) = false := by decide) :
    PE ((cxOf CXg X.prog X.w X.K X.mg X.base Ng qg sg g cdg X.A X.stack s H Eg).tr pn xe) (.Call (.Name a p1) [] [] p2) (fun σZ HZ Q => (∀ cls d H', E cls d H' → W cls d σZ H') ∧ σZ[i]? = some (some (.ref f)) ∧ HZ c' = some (CodeO c' (lamQ X)) ∧ tb σ HZ Q) :=
  ⟨fun pinsZ sZ σZ HZ Q IZ ⟨le, slot, code, ht⟩ => by
    have name := (pe_var (pos := p1) (i := i) nm vis hd hcd).run pinsZ sZ σZ HZ (fun v H1 => v = .ref f ∧ H1 = HZ) IZ ⟨.ref f, slot, rfl, rfl⟩
    refine wpAny_Call_Name_kw (thn name fun u s1 z => ?_)
    obtain ⟨_, _, J, same, rfl, here⟩ := z
    rw [here] at J
    cases same
    have old : ∀ b o, s.heap.get? b = some o → H b = none → b ∉ frs X.stack → s1.heap.get? b = some o := fun b o h1 h2 h3 => J.base.keep b o h1 h2 h3 List.not_mem_nil
    obtain ⟨binds, bound, mine⟩ := bd
    have there := old f _ at_ fresh away
    have go : codeAny (model X.prog X.w) (X.A.deeper (envOfC qg sg s.heap.objs.size g cdg)) (.call (.ref f) ⟨[], []⟩) (CR (L2.CX X.prog X.w) (envOfC qg sg s.heap.objs.size g cdg :: X.stack) X.prog X.w HZ s1 Q E) s1 :=
      lam_code (X := X) I L J.env0 J.base J.nolimit there (J.hok c' _ code).1 (bound s1 old) mine hr (run _ _ s1 _) ht
    exact PySem.W.callWith_F0 ⟨_, _, _, _, there⟩ (wp_called J go fun e s' z => tk e s' (XE.of_call J le z))⟩
end
/-- a def asked a lambda: its body gives what TT tells of the reading; what the lambda raises is raised with the def's own names as they are -/
def GivesL (X : Cx) (Ng : List Str) (x : Str) (sg : Scope) (g : Addr) (cdg : Value) (bg : List Stmt) (a : Str) (q : Str) (TT : (XK → Hp → VK → Prop) → Hp → VK → Prop) : Prop :=
  ∀ (f c' : Addr) (s : Shared) (H : Hp) (Q : VK) (ask : XK → Hp → VK → Prop), (∀ (W : WX) (pn : List (Addr × Obj)) (xe : Value → Shared → Prop) (E : XK) (p1 p2 : Pos), Takes ((cxOf C8.CX0 X.prog X.w X.K X.mg X.base Ng x sg g cdg X.A X.stack s H C8.E0).tr pn xe) W →
    PE ((cxOf C8.CX0 X.prog X.w X.K X.mg X.base Ng x sg g cdg X.A X.stack s H C8.E0).tr pn xe) (.Call (.Name a p1) [] [] p2) (fun σ1 H1 Q1 => (∀ cls d H', E cls d H' → W cls d σ1 H') ∧ σ1[0]? = some (some (.ref f)) ∧ H1 c' = some (CodeO c' q) ∧ ask E H1 Q1)) →
  H c' = some (CodeO c' q) → TT ask H Q → ∃ t, PSs (cxOf C8.CX0 X.prog X.w X.K X.mg X.base Ng x sg g cdg X.A X.stack s H C8.E0).nox bg t ∧ t { nx := fun _ H' => Q .non H', rt := Q } (L2.start Ng [.ref f]) H
/-- the lambda made, then what the def makes of its reading -/
def tLamT (T : List (Addr × Str)) (TT : (XK → Hp → VK → Prop) → Hp → VK → Prop) (t : XK → TE) : TE := fun σ H Q => Tabs T H ∧ ∀ H1, ExtT T H H1 → Tabs T H1 → TT (fun E H' Q' => t E σ H' Q') H1 Q
section
variable {X : Cx}
/-- x(lambda: body) -/
theorem pe_lamcall3 {T : List (Addr × Str)} {TT : (XK → Hp → VK → Prop) → Hp → VK → Prop} {x a : Str} {g : Addr} {k : Nat} {pg : Arguments} {bg : List Stmt} {sg : Scope} {dV kV doc pm cdv ct oc : Value} {an od : Option Addr} {osl : Array (Option Value)} {Ng : List Str}
    {params : Arguments} {body : Expr} {scope : Scope} {t : XK → TE} {p lpos pos : Pos} (hg : Gl X x) (hm : X.mg x = some (.ref g)) (hk : PySem.W.keepIn X.K (.ref g) = true)
    (lk : X.K.lookup g = some ⟨oc, od, .func (PySem.W.fnOf x x pg bg sg dV kV doc pm an cdv ct), osl⟩) (hcg : PySem.W.codeIn X.K cdv x = true) (hb : L2.Binds X.K (PySem.W.fnOf x x pg bg sg dV kV doc pm an cdv ct) [a] []) (Sg : FnScope Ng [a] sg) (hNg : Ng[0]? = some a) (hva : Vis sg a)
    (hG : GivesL X Ng x sg g cdv bg a (lamQ X) TT) (hmk : LamMk X T params body scope lpos)
    (hr : Room (k + 2) X.A) (L : LamS X.N X.env.scope scope)
    (hbody : ∀ (A : Around) (outer : List Env) (s : Shared) (H : Hp) (E : XK) (f c' : Addr), Room k (A.deeper (lamEnv X scope s.heap.objs.size f c')) → PE (lamCx X A outer s H E scope f c') body (t E))
    (hdb : (x == ("__debug__" : Str)) = false := by decide) (hd : (a == ("__debug__" : Str)) = false := by decide) (hcd : (a == ("__classdict__" : Str)) = false := by decide) :
    PE X (.Call (.Name x p) [.Lambda params body scope lpos] [] pos) (tLamT T TT t) := by
  refine ⟨fun pins s σ H Q I z => ?_⟩
  obtain ⟨tabs, told⟩ := z
  refine wpAny_Call_Name_kw (ld_glob I hg hm (PySem.W.callWith_K (h₀ := X.base) I.ok.mod.kin hk ?_ (by rfl) (by rfl)) hdb)
  refine (show wpAny _ _ (spliced ((false, eval (.Lambda params body scope lpos) X.env) :: [])) _ _ s from Calls.spliced_cons (hmk pins σ H s _ _ I tabs fun f c' _ _ _ _ H1 s' J grew still at_ fresh away code bound => Calls.spliced_nil ?_))
  refine ⟨J.kIn, wp_called (E := C8.E0) J (CX := C8.CX0) (run_ofS (N := Ng) (ps := [a]) (us := [.ref f]) (vs := [.ref f]) lk hcg Sg hr J.env0 (hb s' [.ref f] J.kIn rfl) (.cons rfl .nil) rfl fun room => ?_) fun e s' z => absurd z id⟩
  obtain ⟨u, hu, hq⟩ := hG f c' s' H1 Q (fun E H' Q' => t E σ H' Q') (fun W pn xe E p1 p2 tk => pe_act3 (i := 0) J L at_ fresh away bound tk room (fun A outer s H room => hbody A outer s H E f c' room) hNg hva hd hcd) code (told H1 grew still)
  exact ⟨u, hu.nox, hq⟩
end
end Dn

set_option maxHeartbeats 4000000
namespace Dn
open PySem PySem.Spec PyProof.Rows L2 LamX
/-- what a lambda comes to: data, or an exception -/
abbrev LR := PyData ⊕ Xc
/-- what is known of the lambda's reading -/
def AskedL (K : PySem.W.Frag) (mg : Str → Option Value) (ad : Ad) (G H : Hp) (L : LR) (tl : XK → Hp → VK → Prop) : Prop := ∀ (E : XK) (Q : VK),
  (∀ G2 H2, Same G G2 → Same G2 H2 → (∀ b o, H b = some o → ¬ Mt ad none b → H2 b = some o) → (∀ b o, H b = some o → G2 b = G b) → CtOk ad.tabs G2 H2 → match L with
    | .inl d => ∀ v, Dq K G2 v d → Q v H2
    | .inr x => ∀ cls d, XcAt K mg x G2 H2 cls d → E cls d H2) → tl E H Q
/-- what a def makes of it -/
def TTd (K : PySem.W.Frag) (mg : Str → Option Value) (f : LR → Option PyData) : (XK → Hp → VK → Prop) → Hp → VK → Prop := fun tl H Q => ∃ (G : Hp) (ad : Ad) (L : LR) (y : PyData), Same G H ∧ CtOk ad.tabs G H ∧ f L = some y ∧ (∀ Hx, Same H Hx → CtOk ad.tabs G Hx → AskedL K mg ad G Hx L tl) ∧
  ∀ v G' H', Same G G' → Same G' H' → (∀ b o, H b = some o → ¬ Mt ad none b → H' b = some o) → (∀ b o, H b = some o → G' b = G b) → CtOk ad.tabs G' H' → Dq K G' v y → Q v H'
theorem rel_new {K : PySem.W.Frag} {ad : Ad} {G H : Hp} {env : Ev} {σ : L2.St} (s : Same G H) (tb : CtOk ad.tabs G H) (hl : env.length = σ.length) (slot : ∀ (i : Nat) (sd : SD), env[i]? = some (some sd) → ∃ v, σ[i]? = some (some v) ∧ SlotOk K ⟨ad, H, G⟩ none G H sd v)
    (no : ∀ (i : Nat) (xs : List PyData), env[i]? ≠ some (some (.own xs))) : Rel K ⟨ad, H, G⟩ env none σ G H where
  sub := s
  len := hl
  slot := slot
  sep := fun i j xs ys a h => absurd h (no i xs)
  st := fun s h => by cases h
  st0 := fun h => by cases h
  fr := fun b o h _ => h
  gr := fun b o h => rfl
  tb := tb
  tb0 := fun p hp => by
    obtain ⟨ps, e⟩ := tb.at (List.mem_map.mpr ⟨p, hp, rfl⟩)
    show H p.1 ≠ none
    rw [e]
    exact Option.some_ne_none _
/-- one slot known -/
def env1 (n i : Nat) (r : SD) : Ev := (List.replicate n none).set i (some r)
theorem env1_get {n i j : Nat} {r sd : SD} (h : (env1 n i r)[j]? = some (some sd)) : j = i ∧ sd = r := by
  unfold env1 at h
  by_cases e : i = j
  · subst e
    have hlt : i < (List.replicate n (none : Option SD)).length := by
      have := (List.getElem?_eq_some_iff.mp h).1
      rwa [List.length_set] at this
    rw [List.getElem?_set_self hlt] at h
    cases h
    exact ⟨rfl, rfl⟩
  · rw [List.getElem?_set_ne e, List.getElem?_replicate] at h
    split at h <;> cases h
section
variable {X : Cx}
end
end Dn

set_option maxHeartbeats 4000000
namespace Dn
open PySem PySem.Spec PyProof.Rows L2 LamX
def onlyD : Option SD → Option SD
  | some (.d x) => some (.d x)
  | some (.l x) => some (.l x)
  | _ => none
def dataOnly (env : Ev) : Ev := env.map onlyD
def lamRes (m : Ex) (r : Rx) (env : Ev) : Option LR := match r (dataOnly env) none with
  | some (x, _, none) => some (.inr x)
  | some _ => none
  | none => match m (dataOnly env) none with
    | some (.d y, _, none) => some (.inl y)
    | _ => none
def mLam (m : Ex) (r : Rx) (f : LR → Option PyData) : Ex := fun env w => if w.isSome = true then (match (lamRes m r env).bind f with
  | some y => some (.d y, env, w)
  | none => none) else none
theorem dataOnly_get {env : Ev} {i : Nat} {sd : SD} (h : (dataOnly env)[i]? = some (some sd)) : env[i]? = some (some sd) ∧ ((∃ x, sd = .d x) ∨ ∃ x, sd = .l x) := by
  unfold dataOnly at h
  rw [List.getElem?_map] at h
  cases e : env[i]? with
  | none => rw [e] at h; cases h
  | some o =>
    rw [e] at h
    have h : onlyD o = some sd := Option.some.inj h
    cases o with
    | none => cases h
    | some r =>
      cases r with
      | d x => cases h; exact ⟨rfl, .inl ⟨_, rfl⟩⟩
      | l x => cases h; exact ⟨rfl, .inr ⟨_, rfl⟩⟩
      | own _ => cases h
      | st => cases h
      | scr _ => cases h
      | dic _ => cases h
      | ex _ _ _ => cases h
      | od _ => cases h
section
variable {K : PySem.W.Frag} {C : Ct} {env : Ev} {w : W} {σ : L2.St} {G H H1 : Hp}
/-- the tables changed -/
theorem Rel.tabbed (R : Rel K C env w σ G H) (e : ExtT C.ad.tabs H H1) (T1 : Tabs C.ad.tabs H1) : Rel K C env w σ G H1 := by
  have old : ∀ b o, H b = some o → ¬ Mt C.ad w b → H1 b = some o := fun b o h m => e b o h fun z => m (.inr z)
  have gnt : ∀ b, b ∈ C.ad.tabs.map (·.1) → G b = none := fun b hb => by
    obtain ⟨p, hp, rfl⟩ := List.mem_map.mp hb
    exact R.tb.gn p hp
  refine R.called (w' := w) (Same.refl G) (fun b u h => ?_) old (fun b o h => rfl) rfl (fun s h => ?_) ⟨T1, R.tb.gn⟩
  · refine e b u (R.sub b u h) fun z => ?_
    rw [gnt b z] at h; cases h
  · have q := R.st s h
    have no : ∀ b u, H b = some u → (∀ ps, u ≠ .tbl ps) → b ∉ C.ad.tabs.map (·.1) := fun b u h1 h2 m => by
      obtain ⟨ps, z⟩ := R.tb.at m
      rw [h1] at z
      exact h2 ps (Option.some.inj z)
    exact ⟨e _ _ q.sa (no _ _ q.sa (fun ps z => by cases z)), e _ _ q.la (no _ _ q.la (fun ps z => by cases z)), e _ _ q.ca (no _ _ q.ca (fun ps z => by cases z)), q.gs, q.gl, q.gc, q.ne, q.tk⟩
end
section
variable {X : Cx}
theorem de_lam {x a : Str} {g : Addr} {k : Nat} {pg : Arguments} {bg : List Stmt} {sg : Scope} {dV kV doc pm cdv ct oc : Value} {an od : Option Addr} {osl : Array (Option Value)} {Ng : List Str} {f : LR → Option PyData}
    {params : Arguments} {body : Expr} {scope : Scope} {m : Ex} {r : Rx} {p lpos pos : Pos} (hg : Gl X x) (hm : X.mg x = some (.ref g)) (hk : PySem.W.keepIn X.K (.ref g) = true)
    (lk : X.K.lookup g = some ⟨oc, od, .func (PySem.W.fnOf x x pg bg sg dV kV doc pm an cdv ct), osl⟩) (hcg : PySem.W.codeIn X.K cdv x = true) (hb : L2.Binds X.K (PySem.W.fnOf x x pg bg sg dV kV doc pm an cdv ct) [a] []) (Sg : FnScope Ng [a] sg) (hNg : Ng[0]? = some a) (hva : Vis sg a)
    (hG : GivesL X Ng x sg g cdv bg a (lamQ X) (TTd X.K X.mg f)) (hmk : LamMk X (tabsOf X.K) params body scope lpos)
    (hr : Room (k + 2) X.A) (L : LamS X.N X.env.scope scope)
    (hbody : ∀ (A : Around) (outer : List Env) (s : Shared) (H : Hp) (E : XK) (f c' : Addr), Room k (A.deeper (lamEnv X scope s.heap.objs.size f c')) → DE (lamCx X A outer s H E scope f c') body m)
    (hbodyR : ∀ (A : Around) (outer : List Env) (s : Shared) (H : Hp) (E : XK) (f c' : Addr), Room k (A.deeper (lamEnv X scope s.heap.objs.size f c')) → RE (lamCx X A outer s H E scope f c') (fun cls d _ H' => E cls d H') body r)
    (hdb : (x == ("__debug__" : Str)) = false := by decide) (hd : (a == ("__debug__" : Str)) = false := by decide) (hcd : (a == ("__classdict__" : Str)) = false := by decide) :
    DE X (.Call (.Name x p) [.Lambda params body scope lpos] [] pos) (mLam m r f) := by
  refine PE.weak (pe_lamcall3 (T := tabsOf X.K) (TT := TTd X.K X.mg f) (t := fun E σ H Q => tRx X.K X.mg (fun cls d _ H' => E cls d H') r σ H Q ∨ tD X.K m σ H Q) hg hm hk lk hcg hb Sg hNg hva hG hmk hr L (fun A outer s H E f c' hr => PE.or (hbodyR A outer s H E f c' hr) (hbody A outer s H E f c' hr)) hdb hd hcd) fun σ H Q ⟨C, G, env, w, res, env', w', R, hm, kk⟩ => ?_
  unfold mLam at hm
  split at hm
  case isFalse => cases hm
  rename_i hw
  split at hm
  case h_2 => cases hm
  rename_i y hy
  cases hm
  obtain ⟨Lr, hL, hf⟩ := Option.bind_eq_some_iff.mp hy
  have tk : C.ad.tabs = tabsOf X.K := by
    cases e : w with
    | none => rw [e] at hw; cases hw
    | some s => exact (R.st s e).tk
  refine ⟨by rw [← tk]; exact R.tb.tabs, fun H1 e1 T1 => ?_⟩
  rw [← tk] at e1 T1
  have R1 := R.tabbed e1 T1
  refine ⟨G, C.ad, Lr, y, R1.sub, R1.tb, hf, fun Hx sx tx E Q2 hq => ?_, fun v G' H' s1 s2 fr old tb av => ?_⟩
  · -- the reading
    have RD : Rel X.K ⟨C.ad, Hx, G⟩ (dataOnly env) none σ G Hx := by
      refine rel_new (R1.sub.trans sx) tx (by unfold dataOnly; rw [List.length_map]; exact R1.len) (fun i sd h => ?_) (fun i xs h => by obtain ⟨_, ⟨x, z⟩ | ⟨x, z⟩⟩ := dataOnly_get h <;> cases z)
      obtain ⟨h1, h2⟩ := dataOnly_get h
      obtain ⟨v, h3, h4⟩ := R1.slot i sd h1
      refine ⟨v, h3, ?_⟩
      rcases h2 with ⟨x, rfl⟩ | ⟨x, rfl⟩
      · exact h4
      · exact h4
    have fin : ∀ {env2 : Ev} {G2 H2 : Hp}, Rel X.K ⟨C.ad, Hx, G⟩ env2 none σ G2 H2 → Same G G2 → (∀ b o, Hx b = some o → ¬ Mt C.ad none b → H2 b = some o) ∧ (∀ b o, Hx b = some o → G2 b = G b) := fun R2 s2 => ⟨fun b o e m => R2.fr b o e m, fun b o e => R2.gr b o e⟩
    unfold lamRes at hL
    split at hL
    · rename_i xc e2 h2
      cases hL
      refine .inl ⟨_, G, _, none, xc, e2, none, RD, h2, fun cls d G2 H2 R2 s2 _ xa => ?_⟩
      obtain ⟨f1, f2⟩ := fin R2 s2
      exact hq G2 H2 s2 R2.sub f1 f2 R2.tb cls d xa
    · cases hL
    · split at hL
      · rename_i d e2 h2
        cases hL
        refine .inr ⟨_, G, _, none, .d d, e2, none, RD, h2, fun v G2 H2 R2 s2 _ av => ?_⟩
        obtain ⟨f1, f2⟩ := fin R2 s2
        exact hq G2 H2 s2 R2.sub f1 f2 R2.tb v av
      · cases hL
  · have mt : ∀ b, Mt C.ad none b → Mt C.ad w b := fun b m => m.elim (fun z => by cases z.1) .inr
    refine kk v G' H' (R1.called s1 s2 (fun b o e m => fr b o e fun z => m (mt b z)) old rfl (fun s e => ?_) tb) s1 rfl av
    have q := R1.st s e
    have no : ∀ b u, H1 b = some u → (∀ ps, u ≠ .tbl ps) → ¬ Mt C.ad none b := fun b u h1 h2 m => by
      obtain ⟨ps, z⟩ := R1.tb.at (m.resolve_left fun z => by cases z.1)
      rw [h1] at z
      exact h2 ps (Option.some.inj z)
    exact ⟨fr _ _ q.sa (no _ _ q.sa (fun ps z => by cases z)), fr _ _ q.la (no _ _ q.la (fun ps z => by cases z)), fr _ _ q.ca (no _ _ q.ca (fun ps z => by cases z)), (old _ _ q.sa).trans q.gs, (old _ _ q.la).trans q.gl, (old _ _ q.ca).trans q.gc, q.ne, q.tk⟩
end
end Dn

set_option maxHeartbeats 4000000
namespace Dn
open PySem PySem.Spec PyProof.Rows L2
/-- x is None, x data or a caught exception -/
def mIsNn (i : Nat) : Ex := fun env w => match env[i]? with
  | some (some (.d x)) => optE (isD x .none) env w
  | some (some (.ex _ _ _)) => some (.d (.bool false), env, w)
  | _ => none
section
variable {X : Cx}
theorem isNn_t {i : Nat} {σ : L2.St} {H : Hp} {Q : VK} (h : tD X.K (mIsNn i) σ H Q) : ∃ v, σ[i]? = some (some v) ∧ Q (.bl (decide (v = .non))) H := by
  obtain ⟨C, G, env, w, r, env', w', R, hm, k⟩ := h
  unfold mIsNn at hm
  split at hm
  · rename_i x hx
    obtain ⟨z, h3, rfl, rfl, rfl⟩ := optE_inv hm
    obtain ⟨v, h1, h2⟩ := R.slot i _ hx
    refine ⟨v, h1, ?_⟩
    have q := k (.bl (decide (v = .non))) G H R (Same.refl G) rfl
    have h2 : Dq X.K G v x := h2
    unfold isD isS at h3
    cases h2 with
    | non => cases h3; exact q (Dq.bl true)
    | bl b => cases h3; exact q (Dq.bl false)
    | int b => cases h3; exact q (Dq.bl false)
    | str b => cases h3; exact q (Dq.bl false)
    | lst _ _ => cases h3; exact q (Dq.bl false)
    | tup _ _ => cases h3; exact q (Dq.bl false)
  · rename_i a d p hx
    cases hm
    obtain ⟨v, h1, h2⟩ := R.slot i _ hx
    obtain ⟨rfl, _⟩ := h2
    exact ⟨_, h1, k (.bl false) G H R (Same.refl G) rfl (Dq.bl false)⟩
  · cases hm
theorem isNn_tru {i : Nat} {σ : L2.St} {H : Hp} {Q : Bool → Hp → Prop} (h : tT X.K (mTru (mIsNn i)) σ H Q) : ∃ v, σ[i]? = some (some v) ∧ Q (decide (v = .non)) H := by
  obtain ⟨C, G, env, w, r, env', w', R, h0, k⟩ := h
  obtain ⟨x, h1, h2⟩ := mTru_inv h0
  obtain ⟨v, e1, u, e2, e3⟩ := isNn_t (Q := fun v H1 => ∃ u, v = .bl u ∧ Q u H1) (X := X) ⟨C, G, env, w, _, env', w', R, h1, fun v G' H' R' s' i' a' => by
    have a' : Dq X.K G' v x := a'
    unfold mIsNn at h1
    split at h1
    · obtain ⟨z, h3, h4, rfl, rfl⟩ := optE_inv h1
      cases h4
      obtain ⟨b, _, rfl⟩ := Option.map_eq_some_iff.mp h3
      cases a'
      cases h2
      exact ⟨_, rfl, k G' H' R' s' i'⟩
    · cases h1
      cases a'
      cases h2
      exact ⟨_, rfl, k G' H' R' s' i'⟩
    · cases h1⟩
  refine ⟨v, e1, ?_⟩
  cases e2
  exact e3
variable {i : Nat} {a b : Expr} {pos : Pos}
theorem dt_isNn (ha : PE X a (tVar i)) (hb : PE X b (tC .non)) (hm : behindInMarks .Is b = false) : DT X (.Compare a [.Is] [b] pos) (mTru (mIsNn i)) := by
  refine ⟨fun pins s σ H Q I h => ?_⟩
  obtain ⟨v, h1, h2⟩ := isNn_tru h
  refine wpAny_isTrue_Compare1 ?_ hm
  refine binT ha hb I (R := fun x y H2 => y = .non ∧ Q (decide (x = .non)) H2) ⟨v, h1, rfl, h2⟩ fun v u s2 x y H2 I2 rx ry q => ?_
  obtain ⟨rfl, q⟩ := q
  refine thn (op_isN pins s2 σ H2 x .non v u (fun z H3 => z = .bl (decide (x = .non)) ∧ Q (decide (x = .non)) H3) I2 rx ry ⟨rfl, rfl, q⟩) fun c s3 ⟨z, H3, I3, r3, q1, q2⟩ => ?_
  subst q1
  exact tru_ok pins s3 σ H3 _ c Q I3 r3 ⟨_, rfl, q2⟩
end
open Classical in
noncomputable def mIsX (a : Addr) (d : Option Addr) (p : Option PyData) (i : Nat) (b : Bool) : Ex := fun env w => if env[i]? = some (some (.ex a d p)) then some (.d (.bool b), env, w) else none
open Classical in
noncomputable def mPlX (a : Addr) (d : Option Addr) (p : Option PyData) (i : Nat) : Ex := fun env w => if env[i]? = some (some (.ex a d p)) then (match p with
  | some y => some (.d y, env, w)
  | none => none) else none
/-- isinstance(e, c), e a pinned exception -/
def rIsP (K : PySem.W.Frag) (D a : Addr) (d : Option Addr) : List V → Hp → VK → Prop := fun xs H Q => ∃ (c : V) (cv : Value) (b : Bool), xs = [.ref a, c] ∧ (∀ u, RelV c u → u = cv) ∧ PySem.W.kitOne K (.ref D) cv = some b ∧ (∀ dd, d = some dd → ∃ fs, H dd = some (.xd fs)) ∧ Q (.bl b) H
section
variable {X : Cx} {a D : Addr} {oe : Obj} {pn : List (Addr × Obj)} {xe : Value → Shared → Prop} {d : Option Addr}
theorem pin_inst {pins : List (Addr × Obj)} {σ : L2.St} {H : Hp} {s : Shared} (I : Inv (X.tr ((a, oe) :: pn) xe) pins σ H s) (hz : Zc (.ref D) d oe) (hf : ∃ vs, oe.data = .fields vs) (hd : ∀ dd, d = some dd → ∃ fs, H dd = some (.xd fs)) : ∃ od, PySem.W.InstAt s.heap a oe D od := by
  obtain ⟨hget, _⟩ := I.pin (a, oe) (List.mem_append.mpr (.inl List.mem_cons_self))
  obtain ⟨vs, hv⟩ := hf
  have hn : PySem.W.notCls oe = true := by unfold PySem.W.notCls; rw [hv] <;> rfl
  cases d with
  | none => exact ⟨none, hget, hz.1, hn, by rw [hz.2]; trivial⟩
  | some dd =>
    obtain ⟨fs, e⟩ := hd dd rfl
    have hx : ObjOk X.prog X.w H s.heap dd (.xd fs) := I.hok dd _ e
    obtain ⟨mA, hns, hr⟩ := hx
    obtain ⟨od, ho, _⟩ := lookIn_ns hns
    exact ⟨some od, hget, hz.1, hn, by rw [hz.2]; exact ho⟩
theorem call_isP (C : ExcC X.K D) (hz : Zc (.ref D) d oe) (hf : ∃ vs, oe.data = .fields vs) : CallR (X.tr ((a, oe) :: pn) xe) (.builtin "isinstance") (rIsP X.K D a d) := by
  intro pins s σ H xs us Q I r h
  obtain ⟨c, cv, b, rfl, hcv, e, hd, q⟩ := h
  cases r with
  | cons rx rr =>
    cases rr with
    | cons rt rr =>
      cases rr
      cases rx
      have ec := hcv _ rt
      subst ec
      obtain ⟨od, J⟩ := pin_inst I hz hf hd
      have hcl : (PySem.W.clsIn X.K D).isSome = true := by
        obtain ⟨cd, hc, _⟩ := PySem.W.any_some C.hd
        rw [hc]; rfl
      exact PySem.W.kia_one (PySem.W.kitx_exc hcl C.hg C.hk C.hs C.ha C.hn C.ht C.hm) I.kIn J e (fun z => nomatch z) fun tk => ⟨.bl b, H, I.kept (t' := tk) fun _ _ z => z, rfl, q⟩
variable {e1 e2 : Expr} {i : Nat} {b : Bool} {p pos : Pos} {pl : Option PyData}
theorem isX_t {K : PySem.W.Frag} {a : Addr} {d : Option Addr} {pl : Option PyData} {σ : L2.St} {H : Hp} {Q : VK} (hpd : pl = none → d = none) (h : tD K (mIsX a d pl i b) σ H Q) : σ[i]? = some (some (.ref a)) ∧ (∀ dd, d = some dd → ∃ fs, H dd = some (.xd fs)) ∧ Q (.bl b) H := by
  obtain ⟨C, G, env, w, r, env', w', R, hm, k⟩ := h
  unfold mIsX at hm
  split at hm
  · rename_i hx
    cases hm
    obtain ⟨v, h1, rfl, h2⟩ := R.slot i _ hx
    refine ⟨h1, fun dd hd => ?_, k (.bl b) G H R (Same.refl G) rfl (Dq.bl b)⟩
    cases pl with
    | none => rw [hpd rfl] at hd; cases hd
    | some y =>
      obtain ⟨d2, u, z1, z2, z3, _⟩ := h2 y rfl
      rw [hd] at z1
      cases z1
      exact ⟨_, R.fr _ _ z2 z3⟩
  · cases hm
/-- isinstance(e, C), C an own class -/
theorem de_isX {x : Str} {F : Addr} {p2 : Pos} (C : ExcC X.K D) (hz : Zc (.ref D) d oe) (hf : ∃ vs, oe.data = .fields vs) (hpd : pl = none → d = none) (he : PE (X.tr ((a, oe) :: pn) xe) e1 (tVar i)) (hx : X.mg x = some (.ref F)) (hb : PySem.W.kitOne X.K (.ref D) (.ref F) = some b)
    (hm : X.mg "isinstance" = none) (hg : Gl (X.tr ((a, oe) :: pn) xe) "isinstance" := by rfl) (hgx : Gl (X.tr ((a, oe) :: pn) xe) x := by rfl) (hdb : (x == ("__debug__" : Str)) = false := by decide)
    (hs : starEach [e1, .Name x p2] X.env = (false, eval e1 X.env) :: starEach [.Name x p2] X.env := by rfl) : DE (X.tr ((a, oe) :: pn) xe) (.Call (.Name "isinstance" p) [e1, .Name x p2] [] pos) (mIsX a d pl i b) :=
  PE.weak (pe_callB (call_isP C hz hf) hg hm (by decide +kernel) (pa_cons he (pa_cons (pe_glob (v := .ref F) hgx hx rfl hdb) pa_nil) hs) (he := hs)) fun σ H Q h => by
    obtain ⟨h1, h2, h3⟩ := isX_t hpd h
    exact ⟨_, h1, .ref F, .ref F, b, rfl, fun u r => r, hb, h2, h3⟩
/-- e.place -/
theorem de_place (T : XfC X.K D) (hno : PySem.W.findIn X.K (.ref D) "place" = some none) (hz : Zc (.ref D) d oe) (hf : ∃ vs, oe.data = .fields vs) (he : PE (X.tr ((a, oe) :: pn) xe) e1 (tVar i)) (hb : attributeBase e1 "place" X.env (eval e1 X.env) = eval e1 X.env := by rfl) :
    DE (X.tr ((a, oe) :: pn) xe) (.Attribute e1 "place" pos) (mPlX a d pl i) := by
  refine ⟨fun pins s σ H Q I h => ?_⟩
  obtain ⟨C, G, env, w, r, env', w', R, hm, k⟩ := h
  unfold mPlX at hm
  split at hm
  case isFalse => cases hm
  rename_i hx
  cases pl with
  | none => cases hm
  | some y =>
    cases hm
    obtain ⟨v, h1, rfl, h2⟩ := R.slot i _ hx
    obtain ⟨dd, u, z1, z2, z3, z4⟩ := h2 y rfl
    have ea : H dd = some (.xd [("place", u)]) := R.fr _ _ z2 z3
    refine attr_of hb (thn (he.run pins s σ H (fun x H1 => x = .ref a ∧ H1 = H) I ⟨_, h1, rfl, rfl⟩) fun uv s1 hh => ?_)
    obtain ⟨x, H1, I1, rx, ex, eH⟩ := hh
    subst ex eH
    obtain rfl : uv = Value.ref a := rx
    obtain ⟨ha, _⟩ := I1.pin (a, oe) (List.mem_append.mpr (.inl List.mem_cons_self))
    obtain ⟨vs, hd⟩ := hf
    have hx : ObjOk X.prog X.w H1 s1.heap dd (.xd [("place", u)]) := I1.hok dd _ ea
    obtain ⟨mA, hns, hr⟩ := hx
    obtain ⟨od, ho, hl⟩ := lookIn_ns hns
    obtain ⟨uu, hu, ru⟩ := RelO.some_of (v := u) (o := mA "place") (hr "place")
    have J : PySem.W.InstAt s1.heap a oe D (some od) := ⟨ha, hz.1, by unfold PySem.W.notCls; rw [hd] <;> rfl, by rw [hz.2, z1]; exact ho⟩
    exact HandSPX.exc_get I1.kIn J T.ga T.gg T.exC (PySem.W.findObj_own T.hdC hno rfl (by rw [hl, hu])) (handed_of ru) ⟨u, H1, I1.tok _, ru, k u G H1 R (Same.refl G) rfl z4⟩
end
def cntB (b : Bool) : List PyData → Option Nat
  | [] => some 0
  | .bool c :: ds => (cntB b ds).map fun n => n + if c = b then 1 else 0
  | _ => none
def mCntB (b : Bool) (m : Ex) : Ex := seqE m fun x => optE (match x with
  | .list ds => (cntB b ds).map (fun n : Nat => PyData.int (n : Int))
  | _ => none)
def rCntF (K : PySem.W.Frag) : V → List V → Hp → VK → Prop := fun x xs H Q => ∃ (p : Addr) (ys : List V) (y : V), x = .ref p ∧ xs = [y] ∧ SqL K H p ys ∧ flatV y = true ∧ ys.all flatV = true ∧ Q (.int (ys.countP (fun z => eqV z y) : Nat)) H
theorem cnt_flat {x : V} {v : Value} (rx : RelV x v) : ∀ {ys : List V} {us : List Value}, Vals ys us → ys.all flatV = true → us.countP (eqU x) = ys.countP (fun z => eqV z x)
  | _, _, .nil, _ => rfl
  | y :: ys, u :: us, .cons r t, f => by
    rw [List.all_cons, Bool.and_eq_true] at f
    rw [List.countP_cons, List.countP_cons, cnt_flat rx t f.2, eqU_of r f.1]
section
variable {X : Cx}
theorem mt_cntF : MtR X "list.count" (rCntF X.K) := by
  intro pins s σ H x xs v us Q I rx rxs h
  obtain ⟨p, ys, y, rfl, rfl, hs, fy, fys, q⟩ := h
  cases rx
  cases rxs with
  | cons ry rt =>
    rename_i uy ut
    cases rt
    obtain ⟨its, rv, ⟨⟨cls, dd, data, sl⟩, n, ho, hc, hdn, hd⟩, hlen⟩ := I.list hs
    simp only at hc hd
    subst hc hd
    refine call_meets PySem.F.slot_list_count ⟨_, ho, rfl⟩ PySem.F.entry_list_count (PySem.F.args_list_count_2 _ _)
      (SeqAt.list_countAt p its.toArray n dd sl uy (eqU y)) ⟨ho, fun u' hu' => mem_eqAt ry fy rv fys u' (by simpa using hu'), ?_⟩
    refine ⟨.int (ys.countP (fun z => eqV z y) : Nat), H, I.tok _, ⟨s.toks, ?_⟩, q⟩
    show Value.int ((its.toArray.toList.countP (eqU y) : Nat) : Int) s.toks = _
    rw [show its.toArray.toList = its from rfl, cnt_flat ry rv fys]
theorem cntB_ok {K : PySem.W.Frag} {G : Hp} {b : Bool} : ∀ {ds : List PyData} {vs : List V} {n : Nat}, DqA K G vs ds → cntB b ds = some n → vs.all flatV = true ∧ vs.countP (fun z => eqV z (.bl b)) = n
  | [], _, _, .nil, h => by cases h; exact ⟨rfl, rfl⟩
  | d :: ds, _, n, .cons (v := v) (vs := vs) a q, h => by
    cases a with
    | bl c =>
      obtain ⟨k, h1, h2⟩ := Option.map_eq_some_iff.mp h
      obtain ⟨f, e⟩ := cntB_ok q h1
      refine ⟨by rw [List.all_cons, f]; rfl, ?_⟩
      rw [List.countP_cons, e, ← h2]
      congr 1
      show (if (c == b) = true then 1 else 0) = _
      by_cases z : c = b
      · rw [if_pos z, if_pos (beq_iff_eq.mpr z)]
      · rw [if_neg z, if_neg (fun q => z (beq_iff_eq.mp q))]
    | non => cases h
    | int i => cases h
    | str x => cases h
    | lst _ _ => cases h
    | tup _ _ => cases h
theorem de_cntB {mo : Ex} {b : Bool} {x' : Expr} (h : PE X x' (tBM X.K "list" (rCntF X.K) (tD X.K mo) (tCons (tC (.bl b)) tNil))) : DE X x' (mCntB b mo) := PE.weak h fun σ H Q ⟨C, G, env, w, r, env', w', R, hm, k⟩ => by
  obtain ⟨x, e1, w1, h1, hm⟩ := seqE_inv hm
  obtain ⟨z, h3, rfl, rfl, rfl⟩ := optE_inv hm
  split at h3
  · rename_i ds
    obtain ⟨n, h4, h5⟩ := Option.map_eq_some_iff.mp h3
    subst h5
    refine ⟨C, G, env, w, _, _, _, R, h1, fun v G1 H1 R1 s1 i1 a1 => ?_⟩
    have a1 : Dq X.K G1 v (.list ds) := a1
    cases a1 with
    | @lst a vs _ hs ha =>
      have hq : SqL X.K H1 a vs := SqL.of (R1.sub _ _ hs)
      obtain ⟨f, q1⟩ := cntB_ok ha h4
      exact ⟨.inl ⟨rfl, vs, hq⟩, a, vs, .bl b, rfl, rfl, hq, rfl, f, by rw [q1]; exact k _ G1 H1 R1 s1 i1 (.int _)⟩
  · cases h3
end
end Dn

set_option maxHeartbeats 4000000
namespace Dn
open PySem PySem.Spec PyProof.Rows L2
mutual
def nodD : PyData → Bool
  | .list xs => nodA xs
  | .tuple xs => nodA xs
  | .dict _ => false
  | _ => true
def nodA : List PyData → Bool
  | [] => true
  | x :: xs => nodD x && nodA xs
end
/-- data again where no dict is in it -/
def mkZ (x : PyData) : SD := if nodD x then .d x else .l x
section
variable {K : PySem.W.Frag} {G G' H : Hp}
mutual
theorem Dl.dq : ∀ {v : V} {d : PyData}, Dl K G v d → nodD d = true → Dq K G v d
  | _, _, .of h, _ => h
  | _, _, .lst h a, e => .lst h (a.dq (by unfold nodD at e; exact e))
  | _, _, .tup h a, e => .tup h (a.dq (by unfold nodD at e; exact e))
  | _, _, .dct h, e => by unfold nodD at e; cases e
theorem DlA.dq : ∀ {vs : List V} {ds : List PyData}, DlA K G vs ds → nodA ds = true → DqA K G vs ds
  | _, _, .nil, _ => .nil
  | _, _, .cons a b, e => by
    unfold nodA at e
    rw [Bool.and_eq_true] at e
    exact .cons (a.dq e.1) (b.dq e.2)
end
theorem dlA_of : ∀ {vs : List V} {ds : List PyData}, DqA K G vs ds → DlA K G vs ds
  | _, _, .nil => .nil
  | _, _, .cons a b => .cons (.of a) (dlA_of b)
theorem dlA_len : ∀ {vs : List V} {ds : List PyData}, DlA K G vs ds → vs.length = ds.length
  | _, _, .nil => rfl
  | _, _, .cons _ b => congrArg Nat.succ (dlA_len b)
theorem dlA_get : ∀ {vs : List V} {ds : List PyData} {i : Nat} {d : PyData}, DlA K G vs ds → ds[i]? = some d → ∃ v, vs[i]? = some v ∧ Dl K G v d
  | _, _, _, _, .nil, e => by simp at e
  | _, _, 0, _, .cons a _, e => by simp at e; subst e; exact ⟨_, rfl, a⟩
  | _, _, i + 1, _, .cons _ b, e => by
    obtain ⟨v, h1, h2⟩ := dlA_get (i := i) b (by simpa using e)
    exact ⟨v, by simpa using h1, h2⟩
theorem dlA_get' : ∀ {vs : List V} {ds : List PyData} {i : Nat} {v : V}, DlA K G vs ds → vs[i]? = some v → ∃ d, ds[i]? = some d ∧ Dl K G v d
  | _, _, _, _, .nil, e => by simp at e
  | _, _, 0, _, .cons a _, e => by simp at e; subst e; exact ⟨_, rfl, a⟩
  | _, _, i + 1, _, .cons _ b, e => by
    obtain ⟨v, h1, h2⟩ := dlA_get' (i := i) b (by simpa using e)
    exact ⟨v, by simpa using h1, h2⟩
theorem dlA_app : ∀ {vs ws : List V} {ds es : List PyData}, DlA K G vs ds → DlA K G ws es → DlA K G (vs ++ ws) (ds ++ es)
  | _, _, _, _, .nil, h => h
  | _, _, _, _, .cons a b, h => .cons a (dlA_app b h)
theorem mkZ_ok {ad : Ad} {w : W} {v : V} {x : PyData} (h : Dl K G v x) : ArgOk K ad w G (mkZ x) v := by
  unfold mkZ
  split
  · rename_i e; exact h.dq e
  · exact h
/-- the sequence behind loose data -/
theorem Dl.list {v : V} {ds : List PyData} (h : Dl K G v (.list ds)) : ∃ a vs, v = .ref a ∧ G a = some (.lst vs) ∧ DlA K G vs ds := by
  cases h with
  | of h => cases h with
    | lst h a => exact ⟨_, _, rfl, h, dlA_of a⟩
  | lst h a => exact ⟨_, _, rfl, h, a⟩
theorem Dl.tuple {v : V} {ds : List PyData} (h : Dl K G v (.tuple ds)) : ∃ a vs, v = .ref a ∧ SqT K G a vs ∧ DlA K G vs ds := by
  cases h with
  | of h => cases h with
    | tup h a => exact ⟨_, _, rfl, h, dlA_of a⟩
  | tup h a => exact ⟨_, _, rfl, h, a⟩
theorem ty_ofL {v : V} {d : PyData} (s : Same G H) (h : Dl K G v d) : TyX K H v (.type (tyN d)) := by
  cases h with
  | of h => exact ty_of s h
  | lst h a => exact .base (.lst (s _ _ h))
  | tup h a =>
    rcases h with (h | ⟨o, h⟩) | ⟨o, its, n, h1, h2, _⟩
    · exact .base (.tup (s _ _ h))
    · exact .fTuple (s _ _ h)
    · exact .kTuple h1 h2
  | dct h => exact .base (.dK (s _ _ h))
end
def sdOf : SD → Option PyData
  | .d x => some x
  | .l x => some x
  | _ => none
theorem sdOf_ok {K : PySem.W.Frag} {ad : Ad} {w : W} {G : Hp} {r : SD} {v : V} {x : PyData} (a : ArgOk K ad w G r v) (h : sdOf r = some x) : Dl K G v x := by
  cases r with
  | d y => cases h; exact .of a
  | l y => cases h; exact a
  | own _ => cases h
  | st => cases h
  | scr _ => cases h
  | dic _ => cases h
  | ex _ _ _ => cases h
  | od _ => cases h
def sdsOf : List SD → Option (List PyData)
  | [] => some []
  | r :: rs => match sdOf r, sdsOf rs with
    | some x, some xs => some (x :: xs)
    | _, _ => none
theorem sdsOf_ok {K : PySem.W.Frag} {ad : Ad} {w : W} {G : Hp} : ∀ {rs : List SD} {vs : List V} {ds : List PyData}, ArgsOk K ad w G rs vs → sdsOf rs = some ds → DlA K G vs ds
  | _, _, _, .nil, h => by cases h; exact .nil
  | r :: rs, _, ds, .cons a b, h => by
    unfold sdsOf at h
    split at h
    · rename_i x xs h1 h2
      cases h
      exact .cons (sdOf_ok a h1) (sdsOf_ok b h2)
    · cases h
def seqL {α : Type} (m : Ex) (k : PyData → Ev → W → Option α) : Ev → W → Option α := fun env w => match m env w with
  | some (r, e1, w1) => (match sdOf r with
    | some x => k x e1 w1
    | none => none)
  | none => none
theorem seqL_inv {α : Type} {m : Ex} {k : PyData → Ev → W → Option α} {env : Ev} {w : W} {r : α} (h : seqL m k env w = some r) : ∃ sd x e1 w1, m env w = some (sd, e1, w1) ∧ sdOf sd = some x ∧ k x e1 w1 = some r := by
  unfold seqL at h
  split at h
  · rename_i sd e1 w1 e
    split at h
    · rename_i x hx
      exact ⟨sd, x, e1, w1, e, hx, h⟩
    · cases h
  · cases h
def argsL {α : Type} (ms : Ax) (k : List PyData → Ev → W → Option α) : Ev → W → Option α := fun env w => match ms env w with
  | some (rs, e1, w1) => (match sdsOf rs with
    | some ds => k ds e1 w1
    | none => none)
  | none => none
theorem argsL_inv {α : Type} {ms : Ax} {k : List PyData → Ev → W → Option α} {env : Ev} {w : W} {r : α} (h : argsL ms k env w = some r) : ∃ rs ds e1 w1, ms env w = some (rs, e1, w1) ∧ sdsOf rs = some ds ∧ k ds e1 w1 = some r := by
  unfold argsL at h
  split at h
  · rename_i rs e1 w1 h1
    split at h
    · rename_i ds h2
      exact ⟨rs, ds, e1, w1, h1, h2, h⟩
    · cases h
  · cases h
section
variable {X : Cx}
/-- {} -/
def mDct : Ex := fun env w => some (.l (.dict []), env, w)
theorem de_dct {pos : Pos} : DE X (.Dict [] [] pos) mDct := PE.weak pe_dnewK fun σ H Q ⟨C, G, env, w, r, env', w', R, hm, k⟩ p hp => by
  cases hm
  have ex : Ext G H (upd G p (.dK [])) (upd H p (.dK [])) := Ext.new R.sub hp
  exact k _ _ _ (R.ext ex) ex.gg rfl (Dl.dct upd_same)
def mTupL (ms : Ax) : Ex := argsL ms fun ds env w => if ds.length ≤ 1000 then some (mkZ (.tuple ds), env, w) else none
theorem de_tupL {e : Expr} {ms : Ax} (h : PE X e (tTup (tA X.K ms))) : DE X e (mTupL ms) := PE.weak h fun σ H Q ⟨C, G, env, w, r, env', w', R, hm, k⟩ => by
  obtain ⟨rs, ds, e1, w1, h1, h2, hm⟩ := argsL_inv hm
  split at hm
  · rename_i hl
    cases hm
    refine ⟨C, G, env, w, _, _, _, R, h1, fun vs G1 H1 R1 s1 i1 a1 => ?_⟩
    have dA := sdsOf_ok a1 h2
    refine ⟨len1000 (by rw [dlA_len dA]; exact hl), fun p hp => ?_⟩
    have ex : Ext G1 H1 (upd G1 p (.tup vs)) (upd H1 p (.tup vs)) := Ext.new R1.sub hp
    exact k _ _ _ (R1.ext ex) (s1.trans ex.gg) i1 (mkZ_ok (.tup (SqT.of upd_same) (dA.mono ex.gg)))
  · cases hm
def mLstL (ms : Ax) : Ex := argsL ms fun ds env w => if ds.length ≤ 1000 then some (mkZ (.list ds), env, w) else none
theorem de_lstL {e : Expr} {ms : Ax} (h : PE X e (tLst (tA X.K ms))) : DE X e (mLstL ms) := PE.weak h fun σ H Q ⟨C, G, env, w, r, env', w', R, hm, k⟩ => by
  obtain ⟨rs, ds, e1, w1, h1, h2, hm⟩ := argsL_inv hm
  split at hm
  · rename_i hl
    cases hm
    refine ⟨C, G, env, w, _, _, _, R, h1, fun vs G1 H1 R1 s1 i1 a1 => ?_⟩
    have dA := sdsOf_ok a1 h2
    refine ⟨len1000 (by rw [dlA_len dA]; exact hl), fun p hp => ?_⟩
    have ex : Ext G1 H1 (upd G1 p (.lst vs)) (upd H1 p (.lst vs)) := Ext.new R1.sub hp
    exact k _ _ _ (R1.ext ex) (s1.trans ex.gg) i1 (mkZ_ok (.lst upd_same (dA.mono ex.gg)))
  · cases hm
/-- x[i] of a list or a tuple -/
def mIxL (ma mb : Ex) : Ex := seqL ma fun x => seqE mb fun y env w => match x, y with
  | .list xs, .int i => (atI xs i).map fun z => (mkZ z, env, w)
  | .tuple xs, .int i => (atI xs i).map fun z => (mkZ z, env, w)
  | _, _ => none
theorem atI_dl {K : PySem.W.Frag} {G : Hp} {vs : List V} {ds : List PyData} {i : Int} {d : PyData} (h : DlA K G vs ds) (e : atI ds i = some d) : ∃ v, atI vs i = some v ∧ Dl K G v d := by
  unfold atI at e ⊢
  rw [dlA_len h]
  cases q : ixN ds.length i with
  | none => rw [q] at e; cases e
  | some j =>
    rw [q] at e
    exact dlA_get h e
theorem de_ixL {a b : Expr} {pos : Pos} {ma mb : Ex} (ha : DE X a ma) (hb : DE X b mb) (hs : PlainIx b := by exact fun _ _ => rfl) : DE X (.Subscript a b pos) (mIxL ma mb) := PE.weak (pe_ix ix_seq ha hb hs) fun σ H Q ⟨C, G, env, w, r, env', w', R, hm, k⟩ => by
  obtain ⟨sx, x, e1, w1, h1, hx, hm⟩ := seqL_inv hm
  obtain ⟨y, e2, w2, h2, hm⟩ := seqE_inv hm
  refine ⟨C, G, env, w, _, e1, w1, R, h1, fun v G1 H1 R1 s1 i1 a1 => ?_⟩
  refine ⟨C, G1, e1, w1, _, _, _, R1, h2, fun u G2 H2 R2 s2 i2 a2 => ?_⟩
  have d1 := (sdOf_ok a1 hx).mono s2
  have a2 : Dq X.K G2 u y := a2
  split at hm
  · rename_i xs i
    obtain ⟨z, h3, h4⟩ := Option.map_eq_some_iff.mp hm
    cases h4
    obtain ⟨a, vs, rfl, hq, hv⟩ := d1.list
    cases a2
    obtain ⟨v, q1, q2⟩ := atI_dl hv h3
    exact .inl ⟨_, _, _, v, rfl, rfl, SqL.of (R2.sub _ _ hq), q1, k v G2 H2 R2 (s1.trans s2) (i2.trans i1) (mkZ_ok q2)⟩
  · rename_i xs i
    obtain ⟨z, h3, h4⟩ := Option.map_eq_some_iff.mp hm
    cases h4
    obtain ⟨a, vs, rfl, hq, hv⟩ := d1.tuple
    cases a2
    obtain ⟨v, q1, q2⟩ := atI_dl hv h3
    exact .inr (.inl ⟨_, _, _, v, rfl, rfl, Same.sqT R2.sub hq, q1, k v G2 H2 R2 (s1.trans s2) (i2.trans i1) (mkZ_ok q2)⟩)
  · cases hm
/-- len(x) of a list or a tuple -/
def mLenL (m : Ex) : Ex := seqL m fun x env w => match x with
  | .list xs => some (.d (.int xs.length), env, w)
  | .tuple xs => some (.d (.int xs.length), env, w)
  | _ => none
theorem de_lenL {a : Expr} {p pos : Pos} {m : Ex} (ha : DE X a m) (hm : X.mg "len" = none) (hg : Gl X "len" := by rfl) (hs : starEach [a] X.env = (false, eval a X.env) :: starEach [] X.env := by rfl) : DE X (.Call (.Name "len" p) [a] [] pos) (mLenL m) := PE.weak (pe_callB call_len_seq hg hm PySem.boot_len (pa_cons ha pa_nil hs) (he := hs)) fun σ H Q ⟨C, G, env, w, r, env', w', R, hm, k⟩ => by
  obtain ⟨sx, x, e1, w1, h1, hx, hm⟩ := seqL_inv hm
  refine ⟨C, G, env, w, _, e1, w1, R, h1, fun v G1 H1 R1 s1 i1 a1 => ?_⟩
  have d1 := sdOf_ok a1 hx
  split at hm
  · cases hm
    obtain ⟨a, vs, rfl, hq, hv⟩ := d1.list
    exact ⟨a, vs, rfl, .inl (SqL.of (R1.sub _ _ hq)), by rw [dlA_len hv]; exact k _ G1 H1 R1 s1 i1 (Dq.int _)⟩
  · cases hm
    obtain ⟨a, vs, rfl, hq, hv⟩ := d1.tuple
    exact ⟨a, vs, rfl, .inr (Same.sqT R1.sub hq), by rw [dlA_len hv]; exact k _ G1 H1 R1 s1 i1 (Dq.int _)⟩
  · cases hm
/-- isinstance(x, T) -/
def mIsL (f : PyData → Bool) (m : Ex) : Ex := seqL m fun x env w => some (.d (.bool (f x)), env, w)
theorem de_isL {a : Expr} {m : Ex} {p p2 pos : Pos} {f : PyData → Bool} {T : String} {x : Str} (ha : DE X a m) (hf : ∀ d, kitB (tyN d) T = some (f d)) (hm : X.mg "isinstance" = none) (hx : X.mg x = none) (hv : bootBuiltins x = some (.type T)) (hg : Gl X "isinstance" := by rfl) (hgx : Gl X x := by rfl)
    (hn : x ≠ "__name__" := by decide) (hdb : (x == ("__debug__" : Str)) = false := by decide) (hs : starEach [a, .Name x p2] X.env = (false, eval a X.env) :: starEach [.Name x p2] X.env := by rfl) :
    DE X (.Call (.Name "isinstance" p) [a, .Name x p2] [] pos) (mIsL f m) := PE.weak (pe_callB call_isi hg hm (by decide +kernel) (pa_cons ha (pa_cons (pe_bltn (v := .ty T) hgx hx hv rfl hn hdb) pa_nil) hs) (he := hs)) fun σ H Q ⟨C, G, env, w, r, env', w', R, hm, k⟩ => by
  obtain ⟨sx, y, e1, w1, h1, hx, hm⟩ := seqL_inv hm
  cases hm
  refine ⟨C, G, env, w, _, _, _, R, h1, fun v G1 H1 R1 s1 i1 a1 => ?_⟩
  exact ⟨v, .ty T, _, _, f y, rfl, .ty T, ty_ofL R1.sub (sdOf_ok a1 hx), kit_ty (hf _), k _ G1 H1 R1 s1 i1 (show Dq X.K _ _ _ from .bl _)⟩
theorem kitL_tup : ∀ d : PyData, kitB (tyN d) "tuple" = some (isTup d) := fun d => by
  cases d with
  | none => exact (by decide +kernel : kitB "NoneType" "tuple" = some false)
  | bool b => exact (by decide +kernel : kitB "bool" "tuple" = some false)
  | int i => exact (by decide +kernel : kitB "int" "tuple" = some false)
  | str x => exact (by decide +kernel : kitB "str" "tuple" = some false)
  | list a => exact (by decide +kernel : kitB "list" "tuple" = some false)
  | tuple a => exact (by decide +kernel : kitB "tuple" "tuple" = some true)
  | dict a => exact (by decide +kernel : kitB "dict" "tuple" = some false)
end
structure ItoL (K : PySem.W.Frag) (G : Hp) (J : It) (ds : List PyData) : Prop where
  small : ds.length ≤ sizeLine
  go : ∀ i G1 H1, i < ds.length → Same G G1 → Same G1 H1 → J.go i H1
  stop : ∀ i G1 H1, i = ds.length → Same G G1 → Same G1 H1 → J.stop i H1
  yld : ∀ i G1 H1 x H', i < ds.length → Same G G1 → Same G1 H1 → J.yld i H1 x H' → ∃ d G2, ds[i]? = some d ∧ Ext G1 H1 G2 H' ∧ Dl K G2 x d
def iL (K : PySem.W.Frag) (m : Lx) : TI := fun σ H R => ∃ C G env w ds env' w', Rel K C env w σ G H ∧ m env w = some (ds, env', w') ∧
  ∀ J G' H', Rel K C env' w' σ G' H' → Same G G' → w'.isSome = w.isSome → ItoL K G' J ds → R J H'
abbrev DIL (X : Cx) (tg iter : Expr) (m : Lx) : Prop := PI X tg iter (iL X.K m)
def mItemsL (m : Ex) : Lx := seqL m fun x env w => (itemsD x).map fun xs => (xs, env, w)
theorem di_seqL {X : Cx} {tg l : Expr} {m : Ex} (hl : DE X l m) : DIL X tg l (mItemsL m) := by
  refine ⟨fun pins s σ H R I h => ?_⟩
  obtain ⟨C, G, env, w, ds, env', w', Rl, hm, k⟩ := h
  obtain ⟨sx, x, e1, w1, h1, hx, h2⟩ := seqL_inv hm
  obtain ⟨ys, e, h3⟩ := Option.map_eq_some_iff.mp h2
  cases h3
  refine thn (hl.run pins s σ H (fun v H1 => ∃ G1, Rel X.K C env' w' σ G1 H1 ∧ Dl X.K G1 v x ∧ ∀ J, ItoL X.K G1 J ds → R J H1) I ⟨C, G, env, w, _, _, _, Rl, h1, fun v G1 H1 R1 s1 i1 a1 => ⟨G1, R1, sdOf_ok a1 hx, fun J it => k J G1 H1 R1 s1 i1 it⟩⟩) fun v s1 ⟨y, H1, I1, r1, G1, R1, dp, kk⟩ => ?_
  unfold itemsD at e
  split at e
  · cases e
    obtain ⟨a, vs, rfl, hs, ha⟩ := dp.list
    cases r1
    have hq : SqL X.K H1 a vs := SqL.of (R1.sub _ _ hs)
    obtain ⟨its, rv, p, hz⟩ := I1.list hq
    refine wpAny_pyIter_list p.isList ?_
    refine ⟨s1.heap.objs.size, [s1.heap.objs.size], _, _, H1, rfl, I1.kept (t' := s1.toks) fun b o e => Heap.get?_push_of_some _ e, turn_list a _, ⟨_, Heap.get?_push_size _ rfl, rfl, rfl⟩, fun b hb => ?_, kk _ ⟨by rw [← dlA_len ha]; exact hz, ?_, ?_, ?_⟩⟩
    · have e : b = s1.heap.objs.size := by simpa using hb
      subst e
      exact I1.fpOk (Nat.le_refl _) (I1.hok.fresh (Nat.le_refl _))
    · exact fun i G2 H2 hi s2 s3 => by
        rw [← dlA_len ha] at hi
        exact ⟨vs, vs[i], SqL.of (s3 _ _ (s2 _ _ hs)), by simp [hi]⟩
    · exact fun i G2 H2 hi s2 s3 => ⟨vs, SqL.of (s3 _ _ (s2 _ _ hs)), by rw [dlA_len ha]; omega⟩
    · intro i G2 H2 x H' hi s2 s3 y
      obtain ⟨rfl, y⟩ := y
      obtain ⟨d, h1, h2⟩ := dlA_get' ha (y vs (SqL.of (s3 _ _ (s2 _ _ hs))))
      exact ⟨d, G2, h1, Ext.refl s3, h2.mono s2⟩
  · cases e
    obtain ⟨a, vs, rfl, hs, ha⟩ := dp.tuple
    cases r1
    have hq := Same.sqT R1.sub hs
    obtain ⟨its, rv, p, hz⟩ := I1.tuple hq
    refine wpAny_pyIter_tuple (show s1.heap.IsTuple a its.toArray from p) ?_
    refine ⟨s1.heap.objs.size, [s1.heap.objs.size], _, _, H1, rfl, I1.kept (t' := s1.toks) fun b o e => Heap.get?_push_of_some _ e, turn_tuple a _, ⟨_, Heap.get?_push_size _ rfl, rfl, rfl⟩, fun b hb => ?_, kk _ ⟨by rw [← dlA_len ha]; exact hz, ?_, ?_, ?_⟩⟩
    · have e : b = s1.heap.objs.size := by simpa using hb
      subst e
      exact I1.fpOk (Nat.le_refl _) (I1.hok.fresh (Nat.le_refl _))
    · exact fun i G2 H2 hi s2 s3 => by
        rw [← dlA_len ha] at hi
        exact ⟨vs, vs[i], Same.sqT s3 (Same.sqT s2 hs), by simp [hi]⟩
    · exact fun i G2 H2 hi s2 s3 => ⟨vs, Same.sqT s3 (Same.sqT s2 hs), by rw [dlA_len ha]; omega⟩
    · intro i G2 H2 x H' hi s2 s3 y
      obtain ⟨rfl, y⟩ := y
      obtain ⟨d, h1, h2⟩ := dlA_get' ha (y vs (Same.sqT s3 (Same.sqT s2 hs)))
      exact ⟨d, G2, h1, Ext.refl s3, h2.mono s2⟩
  · cases e
def gL (K : PySem.W.Frag) (vs : List Nat) (m : Gx) : TG := fun v σ H Q => ∃ C G env w d env', Rel K C env w σ G H ∧ Dl K G v d ∧ m d env = some env' ∧ ∀ σ', Rel K C env' w σ' G H → wipe σ' vs = wipe σ vs → Q σ' H
def gsL (K : PySem.W.Frag) (vs : List Nat) (m : Gsx) : TGs := fun us σ H Q => ∃ C G env w ds env', Rel K C env w σ G H ∧ DlA K G us ds ∧ m ds env = some env' ∧ ∀ σ', Rel K C env' w σ' G H → wipe σ' vs = wipe σ vs → Q σ' H
abbrev DGL (X : Cx) (vs : List Nat) (e : Expr) (m : Gx) : Prop := PG X e (gL X.K vs m)
abbrev DGsL (X : Cx) (vs : List Nat) (es : List Expr) (m : Gsx) : Prop := PGs X es (gsL X.K vs m)
def mgNameL (i : Nat) : Gx := fun d env => some (env.set i (some (mkZ d)))
section
variable {X : Cx} {vs : List Nat}
theorem dg_nameL {e : Expr} {i : Nat} (h : PG X e (gName i)) (hi : i ∈ vs := by decide) : DGL X vs e (mgNameL i) := PG.weak h fun v σ H Q ⟨C, G, env, w, d, env', R, hd, hm, k⟩ => by
  cases hm
  exact k _ (R.set (mkZ_ok hd) i) (wipe_set_same hi)
theorem dgs_nilL : DGsL X vs [] mgNil := PGs.weak pgs_nil fun v σ H Q ⟨C, G, env, w, d, env', R, hd, hm, k⟩ => by
  cases hd with
  | nil => cases hm; exact ⟨rfl, k σ R rfl⟩
  | cons _ _ => cases hm
theorem dgs_consL {e : Expr} {es : List Expr} {a : Gx} {b : Gsx} (h1 : DGL X vs e a) (h2 : DGsL X vs es b) (hs : (assignEach (e :: es) X.env).map (·.2) = assign e X.env :: (assignEach es X.env).map (·.2) := by rfl) : DGsL X vs (e :: es) (mgCons a b) :=
  PGs.weak (pgs_cons h1 h2 hs) fun v σ H Q ⟨C, G, env, w, d, env', R, hd, hm, k⟩ => by
  cases hd with
  | nil => cases hm
  | cons x xs =>
    unfold mgCons at hm
    dsimp only at hm
    split at hm
    · rename_i e1 h3
      refine ⟨_, _, rfl, C, G, env, w, _, e1, R, x, h3, fun σ1 R1 z1 => ⟨C, G, e1, w, _, env', R1, xs, hm, fun σ2 R2 z2 => k σ2 R2 (z2.trans z1)⟩⟩
    · cases hm
theorem dg_tupL {e : Expr} {n : Nat} {b : Gsx} (h : PG X e (gTup X.K n (gsL X.K vs b))) : DGL X vs e (mgTup n b) := PG.weak h fun v σ H Q ⟨C, G, env, w, d, env', R, hd, hm, k⟩ => by
  unfold mgTup at hm
  split at hm
  · split at hm
    · rename_i ds hl
      obtain ⟨a, us, rfl, hs, ha⟩ := hd.tuple
      exact ⟨_, _, rfl, Same.sqT R.sub hs, by rw [dlA_len ha]; exact hl, C, G, env, w, _, env', R, ha, hm, k⟩
    · cases hm
  · cases hm
theorem ds_forL {s : Stmt} {m : Lx} {g : Gx} {b : Sx} (h : PS X s (tFor (iL X.K m) (gL X.K vs g) (tS X.K b))) : DSt X s (mFor m g b) := PS.weak h fun D σ H ⟨C, G, env, w, fl, env', w', R, hm, k⟩ => by
  unfold mFor at hm
  split at hm
  · rename_i ds e1 w1 h1
    refine ⟨C, G, env, w, _, _, _, R, h1, fun J G1 H1 R1 s1 i1 it => ?_⟩
    refine ⟨fun i m σ2 H2 => m = ds.length - i ∧ i ≤ ds.length ∧ ∃ G2 env2 w2, Rel X.K C env2 w2 σ2 G2 H2 ∧ Same G1 G2 ∧ w2.isSome = w1.isSome ∧ mLoop g b (ds.drop i) env2 w2 = some (fl, env', w'), ⟨ds.length, by simp, Nat.zero_le _, G1, e1, w1, R1, Same.refl G1, rfl, by simpa using hm⟩, ?_⟩
    rintro i m σ2 H2 ⟨rfl, hi, G2, env2, w2, R2, s2, i2, h2⟩
    by_cases hlt : i < ds.length
    · refine .inr ⟨it.go i G2 H2 hlt s2 R2.sub, fun σ3 H3 => ∃ G2 env2 w2, Rel X.K C env2 w2 σ3 G2 H3 ∧ Same G1 G2 ∧ w2.isSome = w1.isSome ∧ mLoop g b (ds.drop (i + 1)) env2 w2 = some (fl, env', w'),
        fun σ' H' q => ⟨ds.length - (i + 1), by omega, rfl, hlt, q⟩, fun x H' y => ?_⟩
      obtain ⟨d, G3, hd, ex, dp⟩ := it.yld i G2 H2 x H' hlt s2 R2.sub y
      have hdrop : ds.drop i = d :: ds.drop (i + 1) := by
        rw [List.drop_eq_getElem_cons hlt]
        rw [List.getElem?_eq_getElem hlt] at hd
        cases hd
        rfl
      rw [hdrop] at h2
      simp only [mLoop] at h2
      split at h2
      · rename_i e3 h3
        refine ⟨C, G3, env2, w2, d, e3, R2.ext ex, dp, h3, fun σ4 R4 _ => ?_⟩
        split at h2
        · rename_i e5 w5 h5
          exact ⟨C, G3, e3, w2, _, _, _, R4, h5, fun σ6 G6 H6 R6 s6 i6 => ⟨G6, e5, w5, R6, s2.trans (ex.gg.trans s6), i6.trans i2, h2⟩⟩
        · rename_i e5 w5 h5
          exact ⟨C, G3, e3, w2, _, _, _, R4, h5, fun σ6 G6 H6 R6 s6 i6 => ⟨G6, e5, w5, R6, s2.trans (ex.gg.trans s6), i6.trans i2, h2⟩⟩
        · rename_i e5 w5 h5
          cases h2
          exact ⟨C, G3, e3, w2, _, _, _, R4, h5, fun σ6 G6 H6 R6 s6 i6 => k σ6 G6 H6 R6 (s1.trans (s2.trans (ex.gg.trans s6))) (i6.trans (i2.trans i1))⟩
        · rename_i r5 e5 w5 h5
          cases h2
          exact ⟨C, G3, e3, w2, _, _, _, R4, h5, fun σ6 G6 H6 R6 s6 i6 v a => k σ6 G6 H6 R6 (s1.trans (s2.trans (ex.gg.trans s6))) (i6.trans (i2.trans i1)) v a⟩
        · cases h2
      · cases h2
    · have e : i = ds.length := by omega
      refine .inl ⟨it.stop i G2 H2 e s2 R2.sub, ?_⟩
      rw [e, List.drop_length] at h2
      cases h2
      exact k σ2 G2 H2 R2 (s1.trans s2) (i2.trans i1)
  · cases hm
end
end Dn

set_option maxHeartbeats 4000000
namespace Dn
open PySem PySem.Spec PyProof.Rows L2
section
variable {X : Cx} {Wx : WX} {a b : Expr} {ma mb : Ex} {ra rb : Rx} {pos : Pos}
theorem op_none {f : Value → Value → Sem Value} : OpR X f (fun _ _ _ _ => False) := fun pins s σ H x y v u Q I rx ry h => h.elim
theorem two_R {σ : L2.St} {H : Hp} {Q : VK} {r : R2} (h : tRx X.K X.mg Wx (rThen ra ma rb) σ H Q) : tOp r (fun σ H Q => tRx X.K X.mg Wx ra σ H Q ∨ tD X.K ma σ H Q) (tRx X.K X.mg Wx rb) σ H Q := by
  obtain ⟨C, G, env, w, x, env', w', R, hm, k⟩ := h
  unfold rThen at hm
  split at hm
  · rename_i y h1
    cases hm
    exact .inl ⟨C, G, env, w, _, _, _, R, h1, k⟩
  · split at hm
    · rename_i y e1 w1 h1
      exact .inr ⟨C, G, env, w, _, _, _, R, h1, fun v G1 H1 R1 s1 i1 a1 => ⟨C, G1, e1, w1, _, _, _, R1, hm, fun cls d G' H' R2 s2 i2 xa => k cls d G' H' R2 (s1.trans s2) (i2.trans i1) xa⟩⟩
    · cases hm
theorem re_cmp {op : CmpOp} (ha : DE X a ma) (hra : RE X Wx a ra) (hrb : RE X Wx b rb) (hm : behindInMarks op b = false) : RE X Wx (.Compare a [op] [b] pos) (rThen ra ma rb) := PE.weak (pe_cmpR (op_none (X := X)) (PE.or hra ha) hrb hm) fun _ _ _ h => two_R h
def rLoop (g : Gx) (b : Sx) (rb : Rx) : List PyData → Rx
  | [] => rNo
  | d :: ds => fun env w => match g d env with
    | some e1 => (match rb e1 w with
      | some x => some x
      | none => match b e1 w with
        | some (.nx, e2, w2) => rLoop g b rb ds e2 w2
        | some (.ct, e2, w2) => rLoop g b rb ds e2 w2
        | _ => none)
    | none => none
def rFor (m : Lx) (g : Gx) (b : Sx) (rb : Rx) : Rx := fun env w => match m env w with
  | some (ds, e1, w1) => rLoop g b rb ds e1 w1
  | none => none
theorem rs_for {vs : List Nat} {s : Stmt} {m : Lx} {g : Gx} {b : Sx} {rb : Rx} (h : PS X s (tFor (iD X.K m) (gD X.K vs g) (fun D σ H => tRs X.K X.mg Wx rb D σ H ∨ tS X.K b D σ H))) : RS X Wx s (rFor m g b rb) := PS.weak h fun D σ H ⟨C, G, env, w, x, env', w', R, hm, k⟩ => by
  unfold rFor at hm
  split at hm
  · rename_i ds e1 w1 h1
    refine ⟨C, G, env, w, _, _, _, R, h1, fun J G1 H1 R1 s1 i1 it => ?_⟩
    refine ⟨fun i m σ2 H2 => m = ds.length - i ∧ i ≤ ds.length ∧ ∃ G2 env2 w2, Rel X.K C env2 w2 σ2 G2 H2 ∧ Same G1 G2 ∧ w2.isSome = w1.isSome ∧ rLoop g b rb (ds.drop i) env2 w2 = some (x, env', w'), ⟨ds.length, by simp, Nat.zero_le _, G1, e1, w1, R1, Same.refl G1, rfl, by simpa using hm⟩, ?_⟩
    rintro i m σ2 H2 ⟨rfl, hi, G2, env2, w2, R2, s2, i2, h2⟩
    by_cases hlt : i < ds.length
    · refine .inr ⟨it.go i G2 H2 hlt s2 R2.sub, fun σ3 H3 => ∃ G2 env2 w2, Rel X.K C env2 w2 σ3 G2 H3 ∧ Same G1 G2 ∧ w2.isSome = w1.isSome ∧ rLoop g b rb (ds.drop (i + 1)) env2 w2 = some (x, env', w'),
        fun σ' H' q => ⟨ds.length - (i + 1), by omega, rfl, hlt, q⟩, fun y H' yl => ?_⟩
      obtain ⟨d, G3, hd, ex, dp⟩ := it.yld i G2 H2 y H' hlt s2 R2.sub yl
      have hdrop : ds.drop i = d :: ds.drop (i + 1) := by
        rw [List.drop_eq_getElem_cons hlt]
        rw [List.getElem?_eq_getElem hlt] at hd
        cases hd
        rfl
      rw [hdrop] at h2
      simp only [rLoop] at h2
      split at h2
      · rename_i e3 h3
        refine ⟨C, G3, env2, w2, d, e3, R2.ext ex, dp, h3, fun σ4 R4 _ => ?_⟩
        split at h2
        · rename_i z h5
          cases h2
          exact .inl ⟨C, G3, e3, w2, _, _, _, R4, h5, fun cls dd σ6 G6 H6 R6 s6 i6 xa => k cls dd σ6 G6 H6 R6 (s1.trans (s2.trans (ex.gg.trans s6))) (i6.trans (i2.trans i1)) xa⟩
        · split at h2
          · rename_i e5 w5 h5
            exact .inr ⟨C, G3, e3, w2, _, _, _, R4, h5, fun σ6 G6 H6 R6 s6 i6 => ⟨G6, e5, w5, R6, s2.trans (ex.gg.trans s6), i6.trans i2, h2⟩⟩
          · rename_i e5 w5 h5
            exact .inr ⟨C, G3, e3, w2, _, _, _, R4, h5, fun σ6 G6 H6 R6 s6 i6 => ⟨G6, e5, w5, R6, s2.trans (ex.gg.trans s6), i6.trans i2, h2⟩⟩
          · cases h2
      · cases h2
    · have e : i = ds.length := by omega
      rw [e, List.drop_length] at h2
      cases h2
  · cases hm
end
end Dn

set_option maxHeartbeats 4000000
namespace Dn
open PySem PySem.Spec PyProof.Rows L2
/-- a method of a class of the text -/
def clsMeth (st : Stmt) (j : Nat) : Stmt := match st with
  | .ClassDef _ _ _ b _ _ _ _ _ _ _ => b.getD j (.Pass ⟨0, 0, 0, 0⟩)
  | _ => .Pass ⟨0, 0, 0, 0⟩
def subX (n m : Str) : Bool := decide (n = m) || decide (m = "PickError")
/-- the classes as they are caught and looked at -/
structure XFs (K : PySem.W.Frag) (mg : Str → Option Value) (CS : List Str) : Prop where
  glo : ∀ n ∈ CS, mg n = some (.ref (He.ga K n))
  exC : ∀ n ∈ CS, ExcC K (He.ga K n)
  xf : ∀ n ∈ CS, XfC K (He.ga K n)
  np : ∀ n ∈ CS, PySem.W.findIn K (.ref (He.ga K n)) "place" = some none
  kp : ∀ n ∈ CS, PySem.W.keepIn K (.ref (He.ga K n)) = true
  ks : ∀ n ∈ CS, ∀ m ∈ CS, PySem.W.kitOne K (.ref (He.ga K n)) (.ref (He.ga K m)) = some (subX n m)
  kv : ∀ n ∈ CS, PySem.W.kitOne K (.ref (He.ga K n)) (.type "ValueError") = some true
  em : ∀ n ∈ CS, PySem.W.exmOne K (.ref (He.ga K n)) (.ref (He.ga K "PickError")) = some true
def xfsB1 (K : PySem.W.Frag) (n : Str) : Bool :=
  He.Fa.ok K (.glo n) && (decide (PySem.W.findIn K (.ref (He.ga K n)) "__getattribute__" = some (some (.builtin "BaseException.__getattribute__"))) && (decide (PySem.W.findIn K (.ref (He.ga K n)) "__getattr__" = some none) &&
  (decide (PySem.W.subIn K (.ref (He.ga K n)) (.type "BaseException") = some true) && (PySem.W.hasDictIn K (He.ga K n) && (decide (PySem.W.findIn K (.ref (He.ga K n)) "__class__" = some (some (.builtin "object.__class__"))) &&
  (decide (PySem.W.specialIn K (.builtin "object.__class__") "__get__" = some (some (.builtin "getset_descriptor.__get__"))) && (decide (PySem.W.takesIn K (.builtin "object.__class__") = some true) && (decide (PySem.W.mroIn K (He.ga K n) (.type "object") = some true) &&
  (decide (PySem.W.findIn K (.ref (He.ga K n)) "place" = some none) && (PySem.W.keepIn K (.ref (He.ga K n)) && (decide (PySem.W.kitOne K (.ref (He.ga K n)) (.type "ValueError") = some true) && decide (PySem.W.exmOne K (.ref (He.ga K n)) (.ref (He.ga K "PickError")) = some true))))))))))))
def xfsB (K : PySem.W.Frag) (CS : List Str) : Bool := CS.all (xfsB1 K) && CS.all fun n => CS.all fun m => decide (PySem.W.kitOne K (.ref (He.ga K n)) (.ref (He.ga K m)) = some (subX n m))
theorem xfsB_ok {K : PySem.W.Frag} {h : Heap} {mg : Str → Option Value} {CS : List Str} (X : K.In h) (G : h.Ns mainGlobals mg) (c : xfsB K CS = true) : XFs K mg CS := by
  obtain ⟨c1, c2⟩ := Bool.and_eq_true_iff.mp c
  have one : ∀ n ∈ CS, xfsB1 K n = true := List.all_eq_true.mp c1
  have all : ∀ n ∈ CS, _ := fun n hn => by
    have h := one n hn
    unfold xfsB1 at h
    simp only [Bool.and_eq_true, decide_eq_true_eq] at h
    exact h
  refine ⟨fun n hn => ?_, fun n hn => ?_, fun n hn => ?_, fun n hn => ?_, fun n hn => ?_, fun n hn m hm => ?_, fun n hn => ?_, fun n hn => ?_⟩
  · exact He.glo_ok X G (all n hn).1
  · obtain ⟨h0, h1, h2, h3, h4, h5, h6, h7, h8, h9, h10, h11, h12⟩ := all n hn
    exact ⟨h1, h2, h3, h4, h5, h6, h7, h8⟩
  · obtain ⟨h0, h1, h2, h3, h4, h5, h6, h7, h8, h9, h10, h11, h12⟩ := all n hn
    exact ⟨h1, h2, h3, h4⟩
  · obtain ⟨h0, h1, h2, h3, h4, h5, h6, h7, h8, h9, h10, h11, h12⟩ := all n hn
    exact h9
  · obtain ⟨h0, h1, h2, h3, h4, h5, h6, h7, h8, h9, h10, h11, h12⟩ := all n hn
    exact h10
  · exact of_decide_eq_true (List.all_eq_true.mp (List.all_eq_true.mp c2 n hn) m hm)
  · obtain ⟨h0, h1, h2, h3, h4, h5, h6, h7, h8, h9, h10, h11, h12⟩ := all n hn
    exact h11
  · obtain ⟨h0, h1, h2, h3, h4, h5, h6, h7, h8, h9, h10, h11, h12⟩ := all n hn
    exact h12
structure X0 (K : PySem.W.Frag) (mg : Str → Option Value) (n : Str) : Prop where
  glo : mg n = some (.ref (He.ga K n))
  ex : PySem.W.excIn K (He.ga K n) He.veBase "ValueError.__new__" = true
  kp : PySem.W.keepIn K (.ref (He.ga K n)) = true
  sub : PySem.W.subIn K (.ref (He.ga K n)) (.type "BaseException") = some true
  ty : PySem.W.typeIn K (.ref (He.ga K n)) = some (.type "type")
def x0B (K : PySem.W.Frag) (n : Str) : Bool := He.Fa.ok K (.glo n) && He.Fa.ok K (.exc n)
theorem x0B_ok {K : PySem.W.Frag} {h : Heap} {mg : Str → Option Value} {n : Str} (X : K.In h) (G : h.Ns mainGlobals mg) (c : x0B K n = true) : X0 K mg n := by
  obtain ⟨c1, c2⟩ := Bool.and_eq_true_iff.mp c
  obtain ⟨h1, h2, h3, h4⟩ := He.exc_ok c2
  exact ⟨He.glo_ok X G c1, h1, h2, h3, h4⟩
theorem rs_x0 {X : Cx} {Wx : WX} {x m : Str} {j : Nat} {p p2 pos pos2 : Pos} (T : X0 X.K X.mg x) (tk : Takes X Wx) (hc : X.calm = true := by rfl) (hg : Gl X x := by rfl) (hdb : (x == ("__debug__" : Str)) = false := by decide) :
    RS X Wx (.Raise (some (.Call (.Name x p) [.Constant (.str m) j p2] [] pos)) none pos2) (rRaise0 x) :=
  rs_raise0 hc tk PySem.F.excBase_ValueError T.ex T.glo T.kp (raises_own T.sub T.ty) hg hdb
def oexB (K : PySem.W.Frag) (C : Addr) : Bool := match K.lookup C with
  | some ⟨.type t, dd, .cls cd, sl⟩ => (match cd.mro, sl.toList with
    | .ref C' :: bm, [k0, k1, k2, k3, some (.builtin n), k5] => decide (t = "type") && (decide (C' = C) && (decide (n = "ValueError.__new__") && (!cd.hasDel && (cd.hasDict && PySem.HandSPX.refsVE bm))))
    | _, _ => false)
  | _ => false
theorem oexB_ok {K : PySem.W.Frag} {C : Addr} (h : oexB K C = true) : ∃ nm q N bs bm sn sub ab col dd k0 k1 k2 k3 k5, K.lookup C = some (excClassObj nm q C N bs bm true sn sub ab col dd k0 k1 k2 k3 k5 "ValueError.__new__") ∧ PySem.HandSPX.refsVE bm = true := by
  unfold oexB at h
  split at h
  · rename_i t dd cd sl lk
    split at h
    · rename_i C' bm k0 k1 k2 k3 n k5 e1 e2
      simp only [Bool.and_eq_true, decide_eq_true_eq, Bool.not_eq_true'] at h
      obtain ⟨h1, h2, h3, h4, h5, h6⟩ := h
      obtain ⟨nm, bs, mro, ns, qn, hd, sn, sub, ab, col, hdel⟩ := cd
      simp only at e1 h4 h5
      subst h1 h2 h3 h4 h5 e1
      refine ⟨nm, qn, ns, bs, bm, sn, sub, ab, col, dd, k0, k1, k2, k3, k5, ?_, h6⟩
      rw [lk]
      have : sl = #[k0, k1, k2, k3, some (.builtin "ValueError.__new__"), k5] := by
        rw [← Array.toArray_toList (xs := sl), e2]
      rw [this]
    · cases h
  · cases h
structure X1 (K : PySem.W.Frag) (mg : Str → Option Value) (n : Str) : Prop where
  glo : mg n = some (.ref (He.ga K n))
  oex : OexC K (He.ga K n)
  np : PySem.W.findIn K (.ref (He.ga K n)) "place" = some none
  ini : PySem.W.findIn K (.ref (He.ga K n)) "__init__" = some (some (.ref (He.ma K (He.ga K n) "__init__")))
  tyI : PySem.W.typeIn K (.ref (He.ma K (He.ga K n) "__init__")) = some (.type "function")
  pe : mg "PickError" = some (.ref (He.ga K "PickError"))
  rd : PySem.W.readsIn K (He.ga K "PickError") (.type "type") = true
  gat : PySem.W.specialIn K (.ref (He.ga K "PickError")) "__getattribute__" = some (some (.builtin "type.__getattribute__"))
  fc : PySem.W.findCls K (.ref (He.ga K "PickError")) (.type "type") "__init__" = some (.val (.builtin "ValueError.__init__"))
def fcB (K : PySem.W.Frag) (C : Addr) : Bool := match PySem.W.findCls K (.ref C) (.type "type") "__init__" with
  | some (.val (.builtin x)) => decide (x = "ValueError.__init__")
  | _ => false
def x1B (K : PySem.W.Frag) (n : Str) : Bool :=
  He.Fa.ok K (.glo n) && (He.Fa.ok K (.glo "PickError") && (oexB K (He.ga K n) && (decide (PySem.W.findIn K (.ref (He.ga K n)) "__setattr__" = some (some (.builtin "object.__setattr__"))) && (decide (PySem.W.subIn K (.ref (He.ga K n)) (.type "BaseException") = some true) &&
  (decide (PySem.W.typeIn K (.ref (He.ga K n)) = some (.type "type")) && (PySem.W.keepIn K (.ref (He.ga K n)) && (decide (PySem.W.findIn K (.ref (He.ga K n)) "place" = some none) &&
  (decide (PySem.W.findIn K (.ref (He.ga K n)) "__init__" = some (some (.ref (He.ma K (He.ga K n) "__init__")))) && (decide (PySem.W.typeIn K (.ref (He.ma K (He.ga K n) "__init__")) = some (.type "function")) && (PySem.W.readsIn K (He.ga K "PickError") (.type "type") &&
  (decide (PySem.W.specialIn K (.ref (He.ga K "PickError")) "__getattribute__" = some (some (.builtin "type.__getattribute__"))) && fcB K (He.ga K "PickError"))))))))))))
theorem x1B_ok {K : PySem.W.Frag} {h : Heap} {mg : Str → Option Value} {n : Str} (X : K.In h) (G : h.Ns mainGlobals mg) (c : x1B K n = true) : X1 K mg n := by
  unfold x1B at c
  simp only [Bool.and_eq_true, decide_eq_true_eq] at c
  obtain ⟨h0, h1, h2, h3, h4, h5, h6, h7, h8, h9, h10, h11, h12⟩ := c
  refine ⟨He.glo_ok X G h0, ⟨oexB_ok h2, h3, h4, h5, h6⟩, h7, h8, h9, He.glo_ok X G h1, h10, h11, ?_⟩
  unfold fcB at h12
  split at h12
  · rename_i x e
    rw [e, of_decide_eq_true h12]
  · cases h12
/-- the error's __init__ -/
def initBody (msg : Str) (j : Nat) (p1 p2 p3 p4 p5 p6 p7 p8 p9 p10 : Pos) : List Stmt := [.Expr (.Call (.Attribute (.Name "PickError" p1) "__init__" p2) [.Name "self" p3, .Constant (.str msg) j p4] [] p5) p6, .Assign [.Attribute (.Name "self" p7) "place" p8] (.Name "place" p9) p10]
end Dn

set_option maxHeartbeats 4000000
namespace Dn
open PySem PySem.Spec PyProof.Rows L2
section
variable {P : Program} {w : World} {K : PySem.W.Frag} {mg : Str → Option Value} {base : Heap} {n qual : Str} {params : Arguments} {scope : Scope} {f : Addr} {fd : FuncData} {k j : Nat} {msg : Str} {p1 p2 p3 p4 p5 p6 p7 p8 p9 p10 : Pos}
def initCall (msg : Str) (j : Nat) (p1 p2 p3 p4 p5 : Pos) : Expr := .Call (.Attribute (.Name "PickError" p1) "__init__" p2) [.Name "self" p3, .Constant (.str msg) j p4] [] p5
theorem init_ok (T : X1 K mg n) (F : FunD K "__init__" qual params (initBody msg j p1 p2 p3 p4 p5 p6 p7 p8 p9 p10) scope [] [] f fd) (S : FnScope ["self", "place"] ["self", "place"] scope) (hg : scope.names.lookup ("PickError" : Str) = some .globalImplicit)
    (h0 : scope.names.lookup ("self" : Str) = some .local) (h1 : scope.names.lookup ("place" : Str) = some .local)
    (hc : ∀ env : Env, eval (initCall msg j p1 p2 p3 p4 p5) env = (do
      let ov ← eval (.Name "PickError" p1) env
      standAt p2.atName
      let (f, first) ← holding [ov] (getMethod ov "__init__" (plainOf (.Name "PickError" p1) env))
      callWith p5 f first (backTo p5 (starEach [.Name "self" p3, .Constant (.str msg) j p4] env)) (backToKw p5 (keywordEach [] env)))) : FnOk P w K mg base CX0 (k + 1) f fd ["self", "place"] (spInit (He.ga K n)) := by
  refine F.ok S (fun vs H Q E h => ?_) (fun cdv A outer s H vs Q E hr h => ?_)
  · obtain ⟨a, y, rfl, _⟩ := h
    rfl
  · obtain ⟨a, y, rfl, ha, hq⟩ := h
    refine ⟨_, pss_cons (ps_expr (pe_cinit (X := cxOf CX0 P w K mg base ["self", "place"] qual scope f cdv A outer s H E) (pl := plainOf (.Name "PickError" p1) _) hg T.pe T.rd T.gat T.fc (pa_cons (pe_var (i := 0) rfl (.inl h0)) (pa_cons pe_str pa_nil)) (hc := hc _))) (pss_one (ps_ost (pe_var (i := 0) rfl (.inl h0)) (pe_var (i := 1) rfl (.inl h1)))), ?_⟩
    refine ⟨.ref a, rfl, ?_⟩
    refine ⟨a, _, [.str msg], rfl, by simp, T.oex, ha, ?_⟩
    exact ⟨y, rfl, .ref a, rfl, a, _, rfl, T.oex, T.np, .inl ⟨ha, fun dx h1 h2 => hq dx h1 h2⟩⟩
end
/-- raise X(place) -/
structure XI (P : Program) (w : World) (K : PySem.W.Frag) (mg : Str → Option Value) (base : Heap) (n : Str) (k : Nat) : Prop where
  one : X1 K mg n
  fn : ∃ fd ps, FnOk P w K mg base CX0 k (He.ma K (He.ga K n) "__init__") fd ps (spInit (He.ga K n)) ∧ Binds K fd ps []
theorem rs_x1 {X : Cx} {Wx : WX} {x : Str} {k : Nat} {e : Expr} {m : Ex} {p pos pos2 : Pos} (T : XI X.prog X.w X.K X.mg X.base x k) (tk : Takes X Wx) (hr : Room (k + 1) X.A) (ha : DE X e m) (hc : X.calm = true := by rfl) (hg : Gl X x := by rfl)
    (hdb : (x == ("__debug__" : Str)) = false := by decide) (he : starEach [e] X.env = (false, eval e X.env) :: starEach [] X.env := by rfl) (hpl : (backTo pos (starEach [] X.env)).any (·.1) = false := by rfl) :
    RS X Wx (.Raise (some (.Call (.Name x p) [e] [] pos)) none pos2) (rRaise1 x m) := by
  obtain ⟨fd, ps, F, hb⟩ := T.fn
  exact rs_raise1 hc tk T.one.oex T.one.ini T.one.tyI F hr hb pass0 T.one.glo ha hg hdb he hpl
/-- a def whose code is known -/
theorem OkG.ofC {P : Program} {w : World} {K : PySem.W.Frag} {mg : Str → Option Value} {base : Heap} {x qual : Str} {params : Arguments} {body : List Stmt} {scope : Scope} {f : Addr} {fd : FuncData} {N ps : List Str} {k : Nat} {sp : Sp}
    (F : FunD K x qual params body scope [] [] f fd) (S : FnScope N ps scope) (hlen : ∀ vs H Q E, sp vs H Q E → vs.length = ps.length)
    (hbody : ∀ (A : Around) (outer : List PySem.Env) (s : Shared) (H : Hp) (vs : List V) (Q : VK) (E : XK), A.guards = some [] → Room k (A.deeper (envOfC qual scope s.heap.objs.size f fd.code)) → sp vs H Q E →
      ∃ t, PSs (cxOf CX0 P w K mg base N qual scope f fd.code A outer s H E) body t ∧ t { nx := fun _ H' => Q .non H', rt := Q } (L2.start N vs) H) : OkG P w K mg base (k + 1) f fd ps sp := by
  obtain ⟨oc, od, dV, kV, doc, pm, an, cdv, ct, osl, rfl, lk, hcd, _, _⟩ := F.ex
  refine ⟨hlen, ?_⟩
  intro A outer s H args us vs Q E hG hr e0 hb r hsp
  have up : ∀ b o, base.get? b = some o → s.heap.get? b = some o := fun b o e => (e0.bs b o e).1
  have inK := e0.mod.kin.keeps up
  have par : ∀ y ∈ ps.zip us, scope.names.lookup y.1 = some .local ∨ (scope.names.lookup y.1 = some .cell ∧ ((cellsFrom (s.heap.objs.size + 1) scope.names []).lookup y.1).isSome = true) := by
    rintro ⟨n, v⟩ hy
    exact (S.par n (List.of_mem_zip hy).1).imp id fun q => ⟨q, PySem.W.cellsFrom_some _ _ _ (.inl q)⟩
  refine codeAny_call_function hr.depth (inK _ _ lk) rfl S.co S.gen rfl (PySem.W.codeRec_of inK hcd) (hb _ _ _ _ (wpAny_newFunctionEnv_cells S.kind par ?_))
  rintro env rfl s1 x1
  refine ⟨(e0.mod.nolimit.keeps up).keeps x1.toInCall.keep, codeAny_func ?_⟩
  obtain ⟨t, ht, hq⟩ := hbody A outer s H vs Q E hG (hr.deeper _) hsp
  have I := inv_start (CX := CX0) (qual := qual) (f := f) (cd := cdv) (E := E) S hr.hd e0 (hlen _ _ _ _ hsp) r x1
  refine wpAny_mono (ht.run [] s1 _ H _ I hq) ?_ fun _ _ q => q
  intro fl s' q
  match fl, q with
  | .ret _, ⟨v, _, H', J, rv, q⟩ => exact ⟨v, H', J.os, J.bare, J.base, J.hok, rv, q⟩
  | .next, ⟨_, H', J, q⟩ => exact ⟨.non, H', J.os, J.bare, J.base, J.hok, rfl, q⟩
  | .brk, ⟨_, _, _, q⟩ => exact q.elim
  | .cont, ⟨_, _, _, q⟩ => exact q.elim
theorem fn_okL {P : Program} {w : World} {K : PySem.W.Frag} {mg : Str → Option Value} {base : Heap} {x qual : Str} {params : Arguments} {body : List Stmt} {scope : Scope} {f : Addr} {fd : FuncData} {N ps : List Str} {k n NN : Nat} {m : Sx}
    (hn : ps.length = n) (hNN : N.length = NN) (F : FunD K x qual params body scope [] [] f fd) (S : FnScope N ps scope)
    (hbody : ∀ (A : Around) (outer : List PySem.Env) (s : Shared) (H : Hp) (E : XK), A.guards = some [] → Room k (A.deeper (envOfC qual scope s.heap.objs.size f fd.code)) → DSs (cxOf CX0 P w K mg base N qual scope f fd.code A outer s H E).nox body m) :
    OkG P w K mg base (k + 1) f fd ps (spM K (mFn n NN m)) := by
  subst hn hNN
  refine OkG.ofC F S (fun vs H Q E h => ?_) (fun A outer s H vs Q E hG hr h => ⟨_, PSs.nox (hbody A outer s H E hG hr), spM_start S h⟩)
  obtain ⟨G, ad, w, as, r, w', _, _, _, a, hm, _⟩ := h
  unfold mFn at hm
  split at hm
  · rename_i hl
    rw [← a.length]; exact hl
  · cases hm
section
variable {P : Program} {w : World} {K : PySem.W.Frag} {mg mb : Str → Option Value} {k : Nat} {fa a : Addr} {cs : List (Addr × Addr)} {fd : FuncData} {x : Str} {sp : Sp} {s₁ : Shared} {vs : List Value} {ns : List Int}
abbrev noTab : Obj := { cls := .none, data := .fields #[] }
abbrev scrO (vs : List Value) : Obj := { cls := .type "list", data := .seq vs.toArray }
/-- what may be tracked when the law is called -/
structure Begun (K : PySem.W.Frag) (cs : List (Addr × Addr)) (a : Addr) (vs : List Value) (ns : List Int) (H : Hp) : Prop where
  tab : ∀ p ∈ cs, H p.2 = some (.tbl #[])
  all : ∀ b u, H b = some u → (b ∈ cs.map (·.2) ∧ u = .tbl #[]) ∨ (b = a ∧ K.lookup a = none ∧ u = .frz (scrO vs) (.lst (ns.map V.int)))
theorem Begun.hides {H : Hp} {h : Heap} (B : Begun K cs a vs ns H) (ha : h.get? a = some (scrO vs)) (hT : ∀ p ∈ cs, h.get? p.2 = some noTab) {b : Addr} {o : Obj} (e : h.get? b = some o) (n1 : o ≠ noTab) (n2 : o ≠ scrO vs) : (hidT h H).get? b = some o := by
  refine hidT_get e ?_
  cases q : H b with
  | none => rfl
  | some u =>
    exfalso
    rcases B.all b u q with ⟨m, _⟩ | ⟨m, _⟩
    · obtain ⟨p, hp, rfl⟩ := List.mem_map.mp m
      rw [hT p hp] at e
      exact n1 (Option.some.inj e).symm
    · rw [m, ha] at e
      exact n2 (Option.some.inj e).symm
theorem callGT (KX : K.In s₁.heap) (hns : s₁.heap.Ns mainGlobals mg) (hb : s₁.heap.Ns builtinsNs mb) (hbb : ∀ x : Str, x ≠ "__name__" → mb x = bootBuiltins x) (hlim : s₁.heap.NoLimit) (hg : s₁.gens = #[])
    (hT : ∀ p ∈ cs, s₁.heap.get? p.2 = some noTab) (nT : ∀ p ∈ cs, K.lookup p.2 = none) (C : ∀ p ∈ cs, PySem.W.CodeHd s₁.heap p.1 p.2)
    (hbm : ∃ (bm : Addr) (ob : Obj), mg "__builtins__" = some (.ref bm) ∧ bm ≠ builtinsNs ∧ s₁.heap.get? bm = some ob ∧ ob.cls = .type "module" ∧ ob.dict = some builtinsNs ∧ ob.data = .plain)
    (ha : s₁.heap.get? a = some (scrO vs)) (hi : IntsAre vs ns) (hl : ns.length ≤ sizeLine) (hr : Room k callerA)
    (F : ∀ base : Heap, K.In base → base.Ns mainGlobals mg → (∀ p ∈ cs, LamX.TabB base mg p.1 p.2) → OkG P w K mg base k fa fd [x] sp) (hbind : ∀ (s : Shared) (u : Value), BindsTo s fd ⟨[u], []⟩ [(x, u)])
    (hsp : ∀ H : Hp, (∀ p ∈ cs, H p.2 = some (.tbl #[])) → (∀ b, H b = none ∨ b ∈ cs.map (·.2) ∨ ∃ o xs, H b = some (.frz o (.lst xs))) → SqL K H a (ns.map V.int) → sp [.ref a] H (fun v _ => v = .bl true) fun _ _ _ => False) :
    codeAny (model P w) callerA (.call (.ref fa) ⟨[.ref a], []⟩) (fun r s' => r = .ok (.ret (.bool true)) ∧ OldK s₁.heap s'.heap ∧ s'.os = s₁.os ∧ AllBare s'.gens) s₁ := by
  have rv := vals_ints hi
  have nd : ∀ {o : Obj} {es : Array DictEntry} {ep : Nat}, o.data = .dict es ep → o ≠ noTab ∧ o ≠ scrO vs := fun {o es ep} d => ⟨fun z => (by rw [z] at d; cases d), fun z => (by rw [z] at d; cases d)⟩
  have go : ∀ H : Hp, Begun K cs a vs ns H → SqL K H a (ns.map V.int) → HOk P w H s₁.heap →
      codeAny (model P w) callerA (.call (.ref fa) ⟨[.ref a], []⟩) (fun r s' => r = .ok (.ret (.bool true)) ∧ OldK s₁.heap s'.heap ∧ s'.os = s₁.os ∧ AllBare s'.gens) s₁ := by
    intro H B hS hok
    have names : ∀ {b : Addr} {m : Str → Option Value}, s₁.heap.Ns b m → (hidT s₁.heap H).Ns b m := by
      rintro b m ⟨o, es, ep, e, d, r⟩
      exact ⟨o, es, ep, B.hides ha hT e (nd d).1 (nd d).2, d, r⟩
    have inH : K.In (hidT s₁.heap H) := fun b o e => hidT_get (KX b o e) (by
      cases q : H b with
      | none => rfl
      | some u =>
        rcases B.all b u q with ⟨m, _⟩ | ⟨rfl, z, _⟩
        · obtain ⟨p, hp, rfl⟩ := List.mem_map.mp m
          rw [nT p hp] at e; cases e
        · rw [z] at e; cases e)
    obtain ⟨mc, l1, l2⟩ := hlim
    have TB : ∀ p ∈ cs, LamX.TabB (hidT s₁.heap H) mg p.1 p.2 := fun p hp => by
      have at_ := hT p hp
      refine ⟨?code, ?mod, fun z => ?_⟩
      case code =>
        obtain ⟨o, us, file, tf, flags, tg, inF, text, tt, e1, r1, r2, rest⟩ := C p hp
        refine ⟨o, us, file, tf, flags, tg, inF, text, tt, B.hides ha hT e1 (fun z => ?_) fun z => ?_, r1, r2, rest⟩
        · rw [z] at r1; cases r1
        · rw [z] at r2; cases r2
      case mod =>
        obtain ⟨bm, ob, b1, b2, b3, b4, b5, b6⟩ := hbm
        refine ⟨bm, ob, b1, b2, fun q => ?_, fun q => ?_, B.hides ha hT b3 (fun z => ?_) fun z => ?_, b4, b5, b6⟩
        · obtain ⟨o, es, ep, e, hd, _⟩ := hns
          rw [q, e] at b3
          cases b3
          rw [hd] at b6; cases b6
        · rw [q, at_] at b3; cases b3; cases b6
        · rw [z] at b6; cases b6
        · rw [z] at b6; cases b6
      · obtain ⟨o, es, ep, e, hd, _⟩ := hns
        rw [z, at_] at e
        cases e; cases hd
    have env0 : Env0 P w K mg (hidT s₁.heap H) callerA [] s₁ H := ⟨rfl, ⟨inH, names hns, ⟨mb, names hb, hbb⟩, ⟨mc, names l1, l2⟩⟩, fun _ _ => of_hidT, Nat.le_of_eq (hidT_size _ _), trivial, fun b z => (List.not_mem_nil z).elim, hok, .of_eq hg⟩
    have only : ∀ b, H b = none ∨ b ∈ cs.map (·.2) ∨ ∃ o xs, H b = some (.frz o (.lst xs)) := fun b => by
      cases q : H b with
      | none => exact .inl rfl
      | some u =>
        rcases B.all b u q with ⟨m, _⟩ | ⟨_, _, rfl⟩
        · exact .inr (.inl m)
        · exact .inr (.inr ⟨_, _, rfl⟩)
    have run := (F _ inH (names hns) TB).go (us := [.ref a]) (vs := [.ref a]) (show callerA.guards = some [] from rfl) hr env0 (hbind s₁ (.ref a)) (.cons rfl .nil) (hsp H B.tab only hS)
    refine codeAny_mono run ?_
    intro r s' q
    match r, q with
    | .error v, q => exact absurd q id
    | .ok (.ret u), ⟨v, H', os, bare, un, hok', rv', q⟩ =>
      obtain rfl : v = .bl true := q
      obtain rfl : u = Value.bool true := rv'
      have kept : ∀ b o, b ∉ cs.map (·.2) → s₁.heap.get? b = some o → s'.heap.get? b = some o := fun b o nb e => by
        cases q : H b with
        | none => exact un.keep b o e q (fun z => (List.not_mem_nil z).elim) (by simp)
        | some u =>
          rcases B.all b u q with ⟨m, _⟩ | ⟨rfl, _, rfl⟩
          · exact absurd m nb
          · rw [ha] at e
            cases e
            exact (hok' _ _ (un.frzs _ _ _ q)).1
      have tabs : ∀ p ∈ cs, ∃ more : Array Value, s'.heap.get? p.2 = some { cls := .none, data := .fields more } := fun p hp => by
        obtain ⟨more, z⟩ := un.tbls p.2 #[] (B.tab p hp)
        exact ⟨_, hok' p.2 _ z⟩
      refine ⟨rfl, ⟨fun b o e => ?_, fun b o e => ?_⟩, os, bare⟩
      · by_cases m : b ∈ cs.map (·.2)
        · obtain ⟨p, hp, rfl⟩ := List.mem_map.mp m
          obtain ⟨more, z⟩ := tabs p hp
          have e' := hT p hp
          rw [e'] at e
          cases e
          exact .inr (.inl ⟨((C p hp).tab e').isCodeTable, rfl, #[], more, rfl, by rw [Array.empty_append]; exact z⟩)
        · exact .inl (kept b o m e)
      · by_cases m : b ∈ cs.map (·.2)
        · obtain ⟨p, hp, rfl⟩ := List.mem_map.mp m
          exact let ⟨more, z⟩ := tabs p hp; ⟨_, z⟩
        · exact ⟨o, kept b o m e⟩
  have apart : a ∉ cs.map (·.2) := fun m => by
    obtain ⟨p, hp, e⟩ := List.mem_map.mp m
    have z := hT p hp
    rw [e, ha] at z
    cases z
  let T0 : Hp := fun b => if b ∈ cs.map (·.2) then some (.tbl #[]) else none
  have t0 : ∀ p ∈ cs, T0 p.2 = some (.tbl #[]) := fun p hp => if_pos (List.mem_map.mpr ⟨p, hp, rfl⟩)
  have t1 : ∀ b u, T0 b = some u → b ∈ cs.map (·.2) ∧ u = .tbl #[] := fun b u e => by
    by_cases m : b ∈ cs.map (·.2)
    · have z : some (HO.tbl #[]) = some u := (if_pos m).symm.trans e
      exact ⟨m, (Option.some.inj z).symm⟩
    · have z : (none : Option HO) = some u := (if_neg m).symm.trans e
      cases z
  have okT : ∀ b u, T0 b = some u → s₁.heap.get? b = some noTab ∧ u = .tbl #[] := fun b u e => by
    obtain ⟨m, h2⟩ := t1 b u e
    obtain ⟨p, hp, rfl⟩ := List.mem_map.mp m
    exact ⟨hT p hp, h2⟩
  cases hk : K.lookup a with
  | some o =>
    have e := KX a o hk
    rw [ha] at e
    cases e
    refine go T0 ⟨t0, fun b u e => .inl (t1 b u e)⟩ (.inr ⟨_, vs.toArray, _, hk, rfl, rfl, rfl, ?_, by simpa using rv⟩) fun b u e => ?_
    · rw [List.size_toArray, hi.length]
      exact hl
    · obtain ⟨h1, rfl⟩ := okT b u e
      exact h1
  | none =>
    refine go (upd T0 a (.frz (scrO vs) (.lst (ns.map V.int)))) ⟨fun p hp => ?_, fun b u e => ?_⟩ (.inl (.inr ⟨_, upd_same⟩)) fun b u e => ?_
    · rw [upd_ne (fun z => apart (by rw [← z]; exact List.mem_map.mpr ⟨p, hp, rfl⟩))]
      exact t0 p hp
    · by_cases c : b = a
      · subst c
        rw [upd_same] at e
        cases e
        exact .inr ⟨rfl, hk, rfl⟩
      · rw [upd_ne c] at e
        exact .inl (t1 b u e)
    · by_cases c : b = a
      · subst c
        rw [upd_same] at e
        cases e
        exact ⟨ha, by rw [List.length_map]; exact hl, vs, _, rv, ha⟩
      · rw [upd_ne c] at e
        obtain ⟨h1, rfl⟩ := okT b u e
        exact h1
end
/-- the law by its head, with tables -/
theorem walkGT {l : PySem.W.OpenLaw} {n k : Nat} {q : Program} {loose : List Str} {XP : (Str → Option Value) → Heap → Prop} {YP : World → Heap → Prop} {d : DefRec} {x : Str}
    (hn : l.most = some n) (hn2 : n ≤ sizeLine) (hdf : d.params.defaults = []) (hr : Room k callerA)
    (F : ∀ (w : World) (mg : Str → Option Value) (fa : Addr) (h : Heap), YP w h → h.Ns mainGlobals mg → mg d.name = some (.ref fa) →
      ∃ (K : PySem.W.Frag) (fd : FuncData) (cs : List (Addr × Addr)) (sp : Sp), K.In h ∧ (∀ p ∈ cs, h.get? p.2 = some noTab) ∧ (∀ p ∈ cs, K.lookup p.2 = none) ∧ (∀ p ∈ cs, PySem.W.CodeHd h p.1 p.2) ∧ (∀ (s : Shared) (u : Value), BindsTo s fd ⟨[u], []⟩ [(x, u)]) ∧
        (∀ (H : Hp) (a : Addr) (ns : List Int), ns.length ≤ n → (∀ p ∈ cs, H p.2 = some (.tbl #[])) → (∀ b, H b = none ∨ b ∈ cs.map (·.2) ∨ ∃ o xs, H b = some (.frz o (.lst xs))) → SqL K H a (ns.map V.int) → sp [.ref a] H (fun v _ => v = .bl true) fun _ _ _ => False) ∧
        ∀ base : Heap, K.In base → base.Ns mainGlobals mg → (∀ p ∈ cs, LamX.TabB base mg p.1 p.2) → OkG l.prog w K mg base k fa fd [x] sp) :
    PySem.W.WalkO q loose XP YP l.row.toRowW d [] (fun f vs => PySem.call f vs) := by
  apply Att.attach_call hn hdf
  intro w s₀ s₁ mg mb fa o pm cd doc a vs ns G Y ho hd hcd hmg hobj hints hlen hg
  obtain ⟨K, fd, cs, sp, KX, c1, c2, c3, hb, hsp, hF⟩ := F w mg fa _ Y G.T.g hmg
  exact callGT KX G.T.g G.T.b G.T.builtins G.T.nolimit hg c1 c2 c3 G.T.bmain hobj hints (Nat.le_trans hlen hn2) hr hF hb fun H h1 h2 => hsp H a ns hlen h1 h2
end Dn

set_option maxHeartbeats 4000000
namespace Dn
open PySem PySem.Spec PyProof.Rows L2 LamX
/-- never reached -/
def mStop : Ex := fun _ _ => none
def mStopS : Sx := fun _ _ => none
theorem dss_stop {X : Cx} {ss : List Stmt} : DSs X ss mStopS := ⟨fun _ _ _ _ _ _ ⟨_, _, _, _, _, _, _, _, hm, _⟩ => by cases hm⟩
open Classical in
noncomputable def someOf {α : Type} (P : α → Prop) : Option α := if h : ∃ y, P y then some h.choose else none
theorem someOf_ok {α : Type} {P : α → Prop} {y : α} (h : someOf P = some y) : P y := by
  unfold someOf at h
  split at h
  · rename_i q
    rw [← Option.some.inj h]
    exact q.choose_spec
  · cases h
theorem someOf_of {α : Type} {P : α → Prop} {y : α} (h : P y) (u : ∀ z, P z → z = y) : someOf P = some y := by
  have q : ∃ y, P y := ⟨y, h⟩
  unfold someOf
  rw [dif_pos q, u _ q.choose_spec]
section
variable {m0 : Sx} {mX : Addr → Option Addr → Xc → Sx} {ok : Str → Bool} {n iC : Nat}
end
/-- one of some classes -/
def okIn (CS : List Str) (c : Str) : Bool := CS.any fun n => decide (n = c)
theorem okIn_mem {CS : List Str} {c : Str} (h : okIn CS c = true) : c ∈ CS := by
  obtain ⟨n, h1, h2⟩ := List.any_eq_true.mp h
  rw [← of_decide_eq_true h2]
  exact h1
section
variable {X : Cx}
/-- its call -/
theorem de_lamF {x a : Str} {g : Addr} {k : Nat} {pg : Arguments} {bg : List Stmt} {sg : Scope} {fd : FuncData} {Ng : List Str} {f : LR → Option PyData} {params : Arguments} {body : Expr} {scope : Scope} {m : Ex} {r : Rx} {p lpos pos : Pos}
    (F : FunD X.K x x pg bg sg [] [] g fd) (hm : X.mg x = some (.ref g)) (hb : L2.Binds X.K fd [a] []) (Sg : FnScope Ng [a] sg) (hNg : Ng[0]? = some a) (hva : Vis sg a) (hG : ∀ cdv q, GivesL X Ng x sg g cdv bg a q (TTd X.K X.mg f)) (hmk : LamMk X (tabsOf X.K) params body scope lpos)
    (hr : Room (k + 2) X.A) (L : LamS X.N X.env.scope scope)
    (hbody : ∀ (A : Around) (outer : List Env) (s : Shared) (H : Hp) (E : XK) (f c' : Addr), Room k (A.deeper (lamEnv X scope s.heap.objs.size f c')) → Takes (lamCx X A outer s H E scope f c') (fun cls d _ H' => E cls d H') → DE (lamCx X A outer s H E scope f c') body m ∧ RE (lamCx X A outer s H E scope f c') (fun cls d _ H' => E cls d H') body r)
    (hg : Gl X x := by rfl) (hdb : (x == ("__debug__" : Str)) = false := by decide) (hd : (a == ("__debug__" : Str)) = false := by decide) (hcd : (a == ("__classdict__" : Str)) = false := by decide) :
    DE X (.Call (.Name x p) [.Lambda params body scope lpos] [] pos) (mLam m r f) := by
  have kp := F.kp
  obtain ⟨oc, od, dV, kV, doc, pm, an, cdv, ct, osl, rfl, lk, hcd', _, _⟩ := F.ex
  have tk : ∀ (A : Around) (outer : List Env) (s : Shared) (H : Hp) (E : XK) (f c' : Addr), Takes (lamCx X A outer s H E scope f c') (fun cls d _ H' => E cls d H') := fun A outer s H E f c' => takes_of rfl rfl rfl rfl
  exact de_lam hg hm kp lk hcd' hb Sg hNg hva (hG cdv _) hmk hr L (fun A outer s H E f c' hr => (hbody A outer s H E f c' hr (tk A outer s H E f c')).1) (fun A outer s H E f c' hr => (hbody A outer s H E f c' hr (tk A outer s H E f c')).2) hdb hd hcd
/-- what a def that makes lambdas must know of its code -/
structure LamFs (K : PySem.W.Frag) (mg : Str → Option Value) (base : Heap) (x q : Str) : Prop where
  ex : ∃ c P, (∀ (f : Addr) (fd : FuncData) (o : Obj), mg x = some (.ref f) → K.lookup f = some o → o.data = .func fd → fd.code = .ref c) ∧ (P, q) ∈ tabsOf K ∧ (∀ p ∈ tabsOf K, p.1 = P → p.2 = q) ∧ TabB base mg c P
theorem LamFs.code {K : PySem.W.Frag} {mg : Str → Option Value} {base : Heap} {x q qual : Str} {params : Arguments} {body : List Stmt} {scope : Scope} {f : Addr} {fd : FuncData} (T : LamFs K mg base x q) (F : FunD K x qual params body scope [] [] f fd) (hm : mg x = some (.ref f)) :
    ∃ c P, fd.code = .ref c ∧ (P, q) ∈ tabsOf K ∧ (∀ p ∈ tabsOf K, p.1 = P → p.2 = q) ∧ TabB base mg c P := by
  obtain ⟨c, P, h1, h2, h3, h4⟩ := T.ex
  obtain ⟨oc, od, dV, kV, doc, pm, an, cdv, ct, osl, rfl, lk, _, _, _⟩ := F.ex
  exact ⟨c, P, h1 f _ _ hm lk rfl, h2, h3, h4⟩
end
end Dn
namespace Dn
open PySem PySem.Spec PyProof.Rows L2 LamX
/-- a def that tells what a lambda comes to: f -/
structure SaidD (P : Program) (w : World) (K : PySem.W.Frag) (mg : Str → Option Value) (base : Heap) (x : Str) (k : Nat) (f : LR → Option PyData) : Prop where
  ex : ∃ (g : Addr) (fd : FuncData) (pg : Arguments) (bg : List Stmt) (sg : Scope) (Ng : List Str) (a : Str), FunD K x x pg bg sg [] [] g fd ∧ mg x = some (.ref g) ∧ L2.Binds K fd [a] [] ∧ FnScope Ng [a] sg ∧ Ng[0]? = some a ∧ Vis sg a ∧ (a == ("__debug__" : Str)) = false ∧ (a == ("__classdict__" : Str)) = false ∧
    ∀ X : Cx, X.prog = P → X.w = w → X.K = K → X.mg = mg → X.base = base → Room k X.A → ∀ cdv q, GivesL X Ng x sg g cdv bg a q (TTd X.K X.mg f)
section
variable {X : Cx} {x : Str} {f : LR → Option PyData} {c T : Addr} {i k : Nat} {params : Arguments} {body : Expr} {scope : Scope} {m : Ex} {r : Rx} {p lpos pos : Pos}
/-- x(lambda: e) -/
theorem de_lam0 (Z : SaidD X.prog X.w X.K X.mg X.base x i f) (TB : TabB X.base X.mg c T) (hcode : X.env.code = .ref c) (hm : (T, lamQ X) ∈ tabsOf X.K) (hun : ∀ p ∈ tabsOf X.K, p.1 = T → p.2 = lamQ X) (hr : Room (k + 2) X.A) (hi : i ≤ k + 2) (L : LamS X.N X.env.scope scope)
    (hbody : ∀ (A : Around) (outer : List Env) (s : Shared) (H : Hp) (E : XK) (f c' : Addr), Room k (A.deeper (lamEnv X scope s.heap.objs.size f c')) → Takes (lamCx X A outer s H E scope f c') (fun cls d _ H' => E cls d H') → DE (lamCx X A outer s H E scope f c') body m ∧ RE (lamCx X A outer s H E scope f c') (fun cls d _ H' => E cls d H') body r)
    (hdef : defaultsOf params X.env = ([], []) := by rfl) (hbind : ∀ (q : Str) (cl : List (Str × Addr)) (doc pm ctv : Value) (c' : Addr), bindArgs (lamFd q params body scope cl .none doc pm c' ctv) ⟨[], []⟩ = pure [] := by exact fun _ _ _ _ _ _ => rfl)
    (hg : Gl X x := by rfl) (hdb : (x == ("__debug__" : Str)) = false := by decide) : DE X (.Call (.Name x p) [.Lambda params body scope lpos] [] pos) (mLam m r f) := by
  obtain ⟨g, fd, pg, bg, sg, Ng, a, F, hmg, hb, S, h0, hva, hd, hcd, hG⟩ := Z.ex
  exact de_lamF F hmg hb S h0 hva (hG X rfl rfl rfl rfl rfl (hr.mono hi)) (lamMk0 TB hcode hm hun hdef (fun _ _ _ _ I => L.has I.ok) hbind) hr L hbody hg hdb hd hcd
/-- x(lambda n=i: e) -/
theorem de_lam1 {n : Str} {di : Int} {dj : Nat} {dp : Pos} (Z : SaidD X.prog X.w X.K X.mg X.base x i f) (TB : TabB X.base X.mg c T) (hcode : X.env.code = .ref c) (hm : (T, lamQ X) ∈ tabsOf X.K) (hun : ∀ p ∈ tabsOf X.K, p.1 = T → p.2 = lamQ X) (hr : Room (k + 2) X.A) (hi : i ≤ k + 2) (L : LamS X.N X.env.scope scope)
    (hbody : ∀ (A : Around) (outer : List Env) (s : Shared) (H : Hp) (E : XK) (f c' : Addr), Room k (A.deeper (lamEnv X scope s.heap.objs.size f c')) → Takes (lamCx X A outer s H E scope f c') (fun cls d _ H' => E cls d H') → DE (lamCx X A outer s H E scope f c') body m ∧ RE (lamCx X A outer s H E scope f c') (fun cls d _ H' => E cls d H') body r)
    (hn : scope.names.lookup n = some .local) (hdl : params.defaults = [.Constant (.int di) dj dp] := by rfl) (hk0 : params.kw_defaults = [] := by rfl)
    (hbind : ∀ (q : Str) (cl : List (Str × Addr)) (t : Addr) (doc pm ctv : Value) (c' : Addr), ∃ k : Option (Array Value) → Sem (List (Str × Value)), bindArgs (lamFd q params body scope cl (.ref t) doc pm c' ctv) ⟨[], []⟩ = (seqItems? (.ref t) >>= k) ∧ ∀ u : Value, k (some #[u]) = pure [(n, u)] := by exact fun _ _ _ _ _ _ _ => ⟨_, rfl, fun _ => rfl⟩)
    (hg : Gl X x := by rfl) (hdb : (x == ("__debug__" : Str)) = false := by decide) : DE X (.Call (.Name x p) [.Lambda params body scope lpos] [] pos) (mLam m r f) := by
  obtain ⟨g, fd, pg, bg, sg, Ng, a, F, hmg, hb, S, h0, hva, hd, hcd, hG⟩ := Z.ex
  exact de_lamF F hmg hb S h0 hva (hG X rfl rfl rfl rfl rfl (hr.mono hi)) (lamMk1 TB hcode hm hun hdl hk0 (fun _ _ _ _ I => L.has I.ok) hbind hn) hr L hbody hg hdb hd hcd
end
end Dn

set_option maxHeartbeats 4000000
namespace Dn
open PySem PySem.Spec PyProof.Rows L2 LamX
def lamQof (x : Str) : Str := (x ++ (".<locals>." : Str)) ++ ("<lambda>" : Str)
/-- the tables of the defs of these names -/
def tabL (K : PySem.W.Frag) (xs : List Str) : List (Addr × Str) := xs.map fun x => ((He.cT K (x, none)).2, lamQof x)
def tabB (K : PySem.W.Frag) (xs : List Str) : Bool :=
  (tabsOf K).all (fun p => decide (p ∈ tabL K xs)) && ((tabL K xs).all (fun p => decide (p ∈ tabsOf K)) && ((tabL K xs).all (fun p => (tabL K xs).all fun r => !decide (p.1 = r.1) || decide (p.2 = r.2)) &&
  xs.all fun x => match K.lookup (He.ga K x) with
    | some ⟨_, _, .func fd, _⟩ => decide (fd.code = .ref (He.cT K (x, none)).1)
    | _ => false))
structure TabF (K : PySem.W.Frag) (xs : List Str) : Prop where
  sub : ∀ p ∈ tabsOf K, p ∈ tabL K xs
  sup : ∀ p ∈ tabL K xs, p ∈ tabsOf K
  un : ∀ p ∈ tabL K xs, ∀ r ∈ tabL K xs, p.1 = r.1 → p.2 = r.2
  code : ∀ x ∈ xs, ∀ (o : Obj) (fd : FuncData), K.lookup (He.ga K x) = some o → o.data = .func fd → fd.code = .ref (He.cT K (x, none)).1
theorem tabB_ok {K : PySem.W.Frag} {xs : List Str} (h : tabB K xs = true) : TabF K xs := by
  unfold tabB at h
  simp only [Bool.and_eq_true, List.all_eq_true, decide_eq_true_eq, Bool.or_eq_true, Bool.not_eq_true', decide_eq_false_iff_not] at h
  obtain ⟨h1, h2, h3, h4⟩ := h
  refine ⟨h1, h2, fun p hp r hr e => (h3 p hp r hr).resolve_left fun z => z e, fun x hx o fd lk hd => ?_⟩
  have q := h4 x hx
  rw [lk] at q
  obtain ⟨c, d, dt, sl⟩ := o
  simp only at hd
  subst hd
  exact of_decide_eq_true q
/-- what is tracked at the start -/
theorem onlyT_of {K : PySem.W.Frag} {xs : List Str} {H : Hp} (T : TabF K xs) (h1 : ∀ p ∈ xs.map (fun x => He.cT K (x, none)), H p.2 = some (.tbl #[])) (h2 : ∀ b, H b = none ∨ b ∈ (xs.map (fun x => He.cT K (x, none))).map (·.2) ∨ ∃ o ys, H b = some (.frz o (.lst ys))) : OnlyT K H where
  only := fun b => (h2 b).imp id (Or.imp (fun m => by
    obtain ⟨p, hp, rfl⟩ := List.mem_map.mp m
    obtain ⟨x, hx, rfl⟩ := List.mem_map.mp hp
    exact List.mem_map.mpr ⟨_, T.sup _ (List.mem_map.mpr ⟨x, hx, rfl⟩), rfl⟩) id)
  tab := fun p hp => by
    obtain ⟨x, hx, rfl⟩ := List.mem_map.mp (T.sub p hp)
    exact h1 _ (List.mem_map.mpr ⟨x, hx, rfl⟩)
theorem lamFs_of {K : PySem.W.Frag} {xs : List Str} {mg : Str → Option Value} {base : Heap} (T : TabF K xs) (tb : ∀ p ∈ xs.map (fun x => He.cT K (x, none)), TabB base mg p.1 p.2) {x : Str} (hx : x ∈ xs) (hm : mg x = some (.ref (He.ga K x))) : LamFs K mg base x (lamQof x) := by
  refine ⟨(He.cT K (x, none)).1, (He.cT K (x, none)).2, fun f fd o h1 h2 h3 => ?_, T.sup _ (List.mem_map.mpr ⟨x, hx, rfl⟩), fun p hp e => ?_, tb _ (List.mem_map.mpr ⟨x, hx, rfl⟩)⟩
  · rw [hm] at h1
    cases h1
    exact T.code x hx o fd h2 h3
  · exact T.un p (T.sub p hp) _ (List.mem_map.mpr ⟨x, hx, rfl⟩) e
/-- one method of a class of the text -/
def mkM (x m : Str) (q : Str) (st : Stmt) : He.DefD := ⟨(x, some m), m, q, defArgs st, defBody st, defScope st, [], []⟩
end Dn

set_option maxHeartbeats 4000000
namespace Dn
open PySem PySem.Spec PyProof.Rows L2
/-- what some names of the text hold, and what lies up to four steps behind -/
def deepL (g : Addr → Option Obj) (ns : List Str) : List Addr :=
  let as := ns.map (He.ga (He.frG g [mainGlobals]))
  He.growD g (He.growD g (He.growD g (He.growD g as)))
/-- the part of the heap that the Hook looks at -/
def partL (n : Nat × List Str) (g : Addr → Option Obj) : PySem.W.Frag := He.frT g (He.asD g n.1 ++ (deepL g n.2 ++ [cStatics]))
/-- the law's facts, and its tables: known codes, nothing in them, left out of the part -/
structure SaysL (fa : List He.Fa) (fn : List He.DefD) (ts : List He.Tab) (tf : List He.Defn) (ex : PySem.W.Frag → Bool) (w : World) (h : Heap) (K : PySem.W.Frag) : Prop where
  t : He.SaysT fa fn ts w K
  more : ex K = true
  tabs : ∀ p ∈ tf, PySem.W.codeHdIn K (He.cT K p).1 (He.cT K p).2 = true ∧ K.lookup (He.cT K p).2 = none ∧ h.get? (He.cT K p).2 = some noTab
section
variable {n : Nat × List Str} {fa : List He.Fa} {fn : List He.DefD} {ts : List He.Tab} {tf : List He.Defn} {ex : PySem.W.Frag → Bool} {w : World} {h : Heap} {K : PySem.W.Frag}
theorem SaysL.hd (c : SaysL fa fn ts tf ex w h K) (p : He.Defn) (hp : p ∈ tf) : PySem.W.codeHdIn K (He.cT K p).1 (He.cT K p).2 = true := (c.tabs p hp).1
theorem SaysL.out (c : SaysL fa fn ts tf ex w h K) (p : He.Defn) (hp : p ∈ tf) : K.lookup (He.cT K p).2 = none := (c.tabs p hp).2.1
theorem SaysL.empty (c : SaysL fa fn ts tf ex w h K) (p : He.Defn) (hp : p ∈ tf) : h.get? (He.cT K p).2 = some noTab := (c.tabs p hp).2.2
end
def obsL (n : Nat × List Str) (fa : List He.Fa) (fn : List He.DefD) (ts : List He.Tab) (tf : List He.Defn) (ex : PySem.W.Frag → Bool) (g : Addr → Option Obj) : He.AlX := (He.obsT fa fn ts (partL n g), ex (partL n g) && He.tabsB g tf (partL n g))
theorem saysL_of {n : Nat × List Str} {fa : List He.Fa} {fn : List He.DefD} {ts : List He.Tab} {tf : List He.Defn} {ex : PySem.W.Frag → Bool} {w : World} {h : Heap} (e : obsL n fa fn ts tf ex h.get? = (He.valT fn ts w, true)) : SaysL fa fn ts tf ex w h (partL n h.get?) := by
  injection e with e1 e2
  rw [Bool.and_eq_true] at e2
  refine ⟨e1, e2.1, fun p hp => ?_⟩
  have q := List.all_eq_true.mp e2.2 p hp
  rw [Bool.and_eq_true] at q
  obtain ⟨q1, q2⟩ := q
  cases hg : h.get? (He.cT (partL n h.get?) p).2 with
  | none => rw [hg] at q2; cases q2
  | some o =>
    rw [hg] at q2
    exact ⟨q1, He.frT_none hg q2, congrArg some (He.emptyTab_eq q2)⟩
def hookL (n : Nat × List Str) (fa : List He.Fa) (fn : List He.DefD) (ts : List He.Tab) (tf : List He.Defn) (ex : PySem.W.Frag → Bool) : PySem.W.Hook where
  α := He.AlX
  obs := fun s => obsL n fa fn ts tf ex s.heap.get?
  val := fun w => (He.valT fn ts w, true)
  says := fun w h => ∃ K : PySem.W.Frag, K.In h ∧ SaysL fa fn ts tf ex w h K
  of := fun _ _ e => ⟨_, He.frT_in, saysL_of e⟩
  keeps := fun _ _ _ ⟨K, hK, c⟩ k => ⟨K, PySem.W.Frag.In.keeps hK k, c.t, c.more, fun p hp => ⟨c.hd p hp, c.out p hp, k _ _ (c.empty p hp)⟩⟩
theorem obsL_eq {n : Nat × List Str} {fa : List He.Fa} {fn : List He.DefD} {ts : List He.Tab} {tf : List He.Defn} {ex : PySem.W.Frag → Bool} {g : Addr → Option Obj} {s : Shared} (h : ∀ a, g a = s.heap.get? a) : obsL n fa fn ts tf ex g = (hookL n fa fn ts tf ex).obs s := by
  obtain rfl : g = s.heap.get? := funext h
  rfl
end Dn

set_option maxHeartbeats 4000000
namespace Dn
open PySem PySem.Spec PyProof.Rows L2
end Dn

set_option maxHeartbeats 4000000
namespace Dn
open PySem PySem.Spec PyProof.Rows L2 LamX
theorem set_at {α : Type} {l : List α} {i : Nat} {x y : α} (h : (l.set i x)[i]? = some y) : y = x ∧ i < l.length := by
  have hi : i < l.length := by
    have := (List.getElem?_eq_some_iff.mp h).1
    rwa [List.length_set] at this
  rw [List.getElem?_set_self hi] at h
  cases h
  exact ⟨rfl, hi⟩
/-- two slots known -/
def env2 (n i j : Nat) (r s : SD) : Ev := ((List.replicate n none).set i (some r)).set j (some s)
section
variable {X : Cx}
end
end Dn

set_option maxHeartbeats 4000000
namespace Dn
open PySem PySem.Spec PyProof.Rows L2 LamX
section
variable {m0 : Sx} {mX : Addr → Option Addr → Xc → Sx} {ok : Str → Bool} {n iF iC : Nat}
end
section
variable {X : Cx}
end
end Dn

set_option maxHeartbeats 4000000
namespace Dn
open PySem PySem.Spec PyProof.Rows L2
section
variable {X : Cx} {a D : Addr} {oe : Obj} {pn : List (Addr × Obj)} {xe : Value → Shared → Prop} {d : Option Addr}
variable {e1 : Expr} {i : Nat} {b : Bool} {p pos : Pos} {pl : Option PyData}
end
end Dn

set_option maxHeartbeats 4000000
namespace Dn
open PySem PySem.Spec PyProof.Rows L2
end Dn

set_option maxHeartbeats 4000000
namespace Dn
open PySem PySem.Spec PySem.Calls PyProof.Rows L2
section
variable {M : Model} {h : Heap}
/-- what is told at a heap and at all that keep it, whatever is around -/
abbrev Xgives {α : Type} (M : Model) (s : Shared) (m : Sem α) (x : α) : Prop := ∀ (A : Around) (E : Value → Shared → Prop) (Q : α → Shared → Prop), Q x s → wpAny M A m Q E s
theorem xgives_of {α : Type} {m : Sem α} {x : α} {s : Shared} (l : PySem.W.Looks M h m x) (k : ∀ b o, h.get? b = some o → s.heap.get? b = some o) : Xgives M s m x := fun _ _ _ q => (l.keeps k).here q
theorem Xgives.then {α β : Type} {s : Shared} {m : Sem α} {x : α} {f : α → Sem β} {y : β} (a : Xgives M s m x) (b : Xgives M s (f x) y) : Xgives M s (m >>= f) y := fun A E Q q => wpAny_bind (a A E _ (b A E Q q))
theorem xgives_pure {α : Type} {s : Shared} (x : α) : Xgives M s (pure x) x := fun _ _ _ q => wpAny_pure q
theorem each_ok {σ : Type} {s : Shared} {f : Value → σ → Sem (ForInStep σ)} {z : σ} : ∀ {l : List Value}, (∀ v ∈ l, Xgives M s (f v z) (.yield z)) → Xgives M s (forIn l z f) z
  | [], _ => xgives_pure z
  | v :: l, a => by
    rw [List.forIn_cons]
    exact (a v List.mem_cons_self).then (each_ok fun u hu => a u (List.mem_cons_of_mem v hu))
theorem till_hit {σ : Type} {s : Shared} {f : Value → σ → Sem (ForInStep σ)} {z y : σ} {b : Value → Bool} : ∀ {l : List Value}, (∀ v ∈ l, Xgives M s (f v z) (if b v then .done y else .yield z)) → Xgives M s (forIn l z f) (if l.any b then y else z)
  | [], _ => xgives_pure z
  | v :: l, a => by
    rw [List.forIn_cons, List.any_cons]
    have a1 := a v List.mem_cons_self
    cases e : b v with
    | true =>
      rw [e] at a1
      exact a1.then (xgives_pure y)
    | false =>
      rw [e] at a1
      exact a1.then (till_hit fun u hu => a u (List.mem_cons_of_mem v hu))
theorem exm_each {K : PySem.W.Frag} {cls : Value} : ∀ {cs : List Value} {b : Bool}, PySem.W.exmAny K cls cs = some b → ∃ f : Value → Bool, (∀ c ∈ cs, PySem.W.exmOne K cls c = some (f c)) ∧ b = cs.any f
  | cs, b, h => by
    refine ⟨fun c => (PySem.W.exmOne K cls c).getD false, ?_⟩
    induction cs generalizing b with
    | nil => cases h; exact ⟨nofun, rfl⟩
    | cons c r ih =>
      obtain ⟨b1, d1, h1, h2, rfl⟩ := PySem.W.exmAny_cons h
      obtain ⟨i1, i2⟩ := ih _ h2
      refine ⟨fun x hx => ?_, by rw [List.any_cons, ← i2, h1]; rfl⟩
      rcases List.mem_cons.mp hx with rfl | hx
      · show PySem.W.exmOne K cls x = some ((PySem.W.exmOne K cls x).getD false)
        rw [h1]; rfl
      · exact i1 x hx
theorem exm_many {K : PySem.W.Frag} {cs : List Value} {cls : Value} {tp e : Addr} {b : Bool} {s : Shared} (X : K.In s.heap) (LT : PySem.W.Looks M s.heap (typeOf (.ref e)) cls) (hp : s.heap.get? tp = some { cls := .type "tuple", data := .seq cs.toArray }) (hx : PySem.W.exmAny K cls cs = some b) : Xgives M s (excMatches (.ref e) (.ref tp)) b := by
  obtain ⟨f, h1, rfl⟩ := exm_each hx
  have keep : ∀ b o, s.heap.get? b = some o → s.heap.get? b = some o := fun _ _ z => z
  have isT : Xgives M s (isInstance (.ref tp) (.type "tuple")) true := xgives_of (((PySem.W.Looks.ld hp).andThen .now).andThen (PySem.W.Looks.of_pure isSubtype_tuple_tuple)) keep
  have its : Xgives M s (seqItems? (.ref tp)) (some cs.toArray) := fun A E Q q => wpAny_seqItems hp rfl q
  unfold excMatches
  refine isT.then ?_
  simp only [if_true]
  refine its.then ((xgives_pure _).then ?_)
  show Xgives M s (forIn cs PUnit.unit _ >>= _) _
  have cls_ok : ∀ c ∈ cs, Xgives M s (isExcClass c) true ∧ Xgives M s (isSubtype cls c) (f c) := fun c hc => ⟨xgives_of (PySem.W.exm_cls (M := M) X (h1 c hc)).1 keep, xgives_of (PySem.W.exm_cls (M := M) X (h1 c hc)).2 keep⟩
  refine (each_ok fun c hc => (cls_ok c hc).1.then (by simp only [Bool.not_true, Bool.false_eq_true, if_false]; exact xgives_pure _)).then ((xgives_of LT keep).then ((till_hit (y := (some true, ())) (b := f) fun c hc => (cls_ok c hc).2.then ?_).then ?_))
  · cases f c <;> exact xgives_pure _
  · cases cs.any f <;> exact xgives_pure _
end
end Dn
namespace Dn
open PySem PySem.Spec PySem.Calls PyProof.Rows L2
/-- a further object beside an exception that flies -/
theorem Down.pushed {X : Cx} {pins : List (Addr × Obj)} {a : Addr} {B : Heap} {cls : Value} {d : Option Addr} {σ : L2.St} {H : Hp} {sI s : Shared} (L : Down X pins a B cls d σ H sI s) (o : Obj) : Down X pins a B cls d σ H sI { s with heap := s.heap.push o } := by
  have k : ∀ b u, s.heap.get? b = some u → (s.heap.push o).get? b = some u := fun b u e => Heap.get?_push_of_some _ e
  refine L.on ?_ fun b u e _ => ⟨u.slots, k b u e⟩
  obtain ⟨f1, f2, f3, oe, vs, T, oT, ts, g1, g2, g3, g4, g5, g6, g7, g8, g9⟩ := L.fly
  exact ⟨fun b u e => k b u (f1 b u e), f2, f3.of_keeps fun b u e _ => ⟨u, k b u e, rfl⟩, oe, vs, T, oT, ts, k _ _ g1, g2, g3, g4, g5, g6, k _ _ g7, g8, g9⟩
/-- names of classes, as they stand in the clause -/
abbrev clsEs (ns : List (Str × Pos)) : List Expr := ns.map fun n => .Name n.1 n.2
theorem star_names (E : Env) (p : Pos) : ∀ ns : List (Str × Pos), backTo p (starEach (clsEs ns) E) = ns.map fun n => (false, eval (.Name n.1 n.2) E)
  | [] => rfl
  | n :: ns => by
    have ih := star_names E p ns
    show (false, eval (.Name n.1 n.2) E) :: backTo p (starEach (clsEs ns) E) = _
    rw [ih]
    rfl
section
variable {X : Cx} {pins : List (Addr × Obj)} {a : Addr} {B : Heap} {cls : Value} {d : Option Addr} {σ : L2.St} {H : Hp} {sI s : Shared} {n : Str} {i : Nat} {suite : List Stmt} {b₀ : Stmt} {np pos' : Pos} {ts tr : Addr → Value → Option Addr → TS} {t0 : TS} {Wout : WX} {D : Ends} {ns : List (Str × Pos)} {us : List Value}
theorem names_read {pn : List (Addr × Obj)} (S : Inv (X.suite a pn) [] σ H s) : ∀ {ns : List (Str × Pos)} {us : List Value} {Q : List Value → Shared → Prop} {E : Value → Shared → Prop}, Paired (fun (x : Str × Pos) c => Names X x.1 c) ns us → Q us s →
    wpAny (model X.prog X.w) (X.A.mark (some (.ref a))) (spliced (ns.map fun n => (false, eval (.Name n.1 n.2) X.env))) Q E s
  | [], _, _, _, .nil, q => Calls.spliced_nil q
  | _ :: _, _, _, _, .cons h t, q => Calls.spliced_cons (class_read h S (names_read S t q))
/-- the classes' tuple is made, and is in hand -/
theorem tuple_read {tx} {tp : Pos} {pn : List (Addr × Obj)} (S : Inv (X.suite a pn) [] σ H s) (hc : Paired (fun (x : Str × Pos) c => Names X x.1 c) ns us) (hl : us.length ≤ sizeLine) {Q E : Value → Shared → Prop}
    (q : Q (.ref s.heap.objs.size) { s with heap := s.heap.push { cls := .type "tuple", data := .seq us.toArray } }) : wpAny (model X.prog X.w) (X.A.mark (some (.ref a))) (eval (.Tuple (clsEs ns) tx tp) X.env) Q E s := by
  refine wpAny_Tuple_spliced ?_
  rw [star_names]
  exact names_read S hc ⟨hl, q⟩
/-- what such a clause wishes of an exception of the body -/
def wAsT (K : PySem.W.Frag) (us : List Value) (i : Nat) (ts tr : Addr → Value → Option Addr → TS) (Wout : WX) (D : Ends) : WX := fun cls d σ H =>
  ∃ b, PySem.W.exmAny K cls us = some b ∧ (b = true → ∀ a, H a = none → ts a cls d { nx := fun σ' H' => tr a cls d D (σ'.set i none) H', rt := fun _ _ => False } (σ.set i (some (.ref a))) H) ∧ (b = false → Wout cls d σ H)
theorem Down.handledT {tx} {tp : Pos} (L : Down X pins a B cls d σ H sI s) (hs : X.stack = X.env :: X.outer) (hf : X.env.frame = some X.env.locals) (hN : X.N.Nodup) (hi : X.N[i]? = some n) (hln : X.env.kindOf n = some .local) (hc : Paired (fun (x : Str × Pos) c => Names X x.1 c) ns us) (hl : us.length ≤ sizeLine) (tk : Takes X Wout)
    (hsu : ∀ (a : Addr) (oe : Obj) (cls : Value) (d : Option Addr) (pn : List (Addr × Obj)), Zc cls d oe → (∃ vs, oe.data = .fields vs) → PSs (X.suite a ((a, oe) :: pn)) (b₀ :: suite) (ts a cls d)) (w : wAsT X.K us i ts tr Wout D cls d σ H) :
    wpAny (model X.prog X.w) X.A (handleBy (.ref a) X.env [.ExceptHandler (some (.Tuple (clsEs ns) tx tp)) (some n) (b₀ :: suite) pos']) (KeptP X pins t0 tr D) X.xe s := by
  obtain ⟨oe, at_, z, fields, S⟩ := L.pinned hf
  obtain ⟨b, hb, yes, no⟩ := w
  have L1 := L.pushed { cls := .type "tuple", data := .seq us.toArray }
  have at1 : (s.heap.push { cls := .type "tuple", data := .seq us.toArray }).get? a = some oe := Heap.get?_push_of_some _ at_
  have type : PySem.W.Looks (model X.prog X.w) (s.heap.push { cls := .type "tuple", data := .seq us.toArray }) (typeOf (.ref a)) cls := fun _ _ _ _ more k => wpAny_typeOf_ref (more _ _ at1) (z.1.symm ▸ k)
  refine wpAny_handleBy_cons (codeAny_handlers_test (tuple_read S hc hl (exm_many (M := model X.prog X.w) L1.here.kIn type (Heap.get?_push_size _ rfl) hb _ _ _ ?_))) fun q => by cases q
  cases b
  case false => exact (show wpAny (model X.prog X.w) X.A (handleBy (.ref a) X.env []) (KeptP X pins t0 tr D) X.xe _ from wpAny_handleBy_nil (L1.missed hs hf tk (no rfl)))
  case true =>
    refine codeAny_handlers_suite_as (HandSPX.lands_againZ L1.fly fun h fly up => ?_)
    have L2 := L1.on fly up
    obtain ⟨oe', _, z', fields', S'⟩ := L2.pinned hf
    refine store_ok (X := X.suite a ((a, oe') :: (X.pn ++ pins))) (v := .ref a) S' hN hi (.inl hln) rfl (fun s1 S1 => wpAny_mono ((hsu a oe' cls d (X.pn ++ pins) z' fields').run [] s1 _ H _ S1 (yes rfl a L.new)) (fun f s2 e => ?_) fun _ _ e => absurd e id) (.inr hln)
    match f, e with
    | .next, ⟨_, _, S2, q⟩ => exact gone_ok (X := X.tr ((a, oe') :: (X.pn ++ pins)) X.xe) (Dn.Inv.keepq S2 L.inv.ok) hN hi hln fun _ J => .inr ⟨a, oe', cls, d, _, _, z', fields', J, q⟩
    | .brk, ⟨_, _, _, q⟩ => exact q.elim
    | .cont, ⟨_, _, _, q⟩ => exact q.elim
    | .ret _, ⟨_, _, _, _, _, q⟩ => exact q.elim
end
section
variable {X : Cx} {n : Str} {i : Nat} {body suite rest : List Stmt} {b₀ : Stmt} {pos pos' : Pos} {tb : WX → TS} {ts tr : Addr → Value → Option Addr → TS} {t0 : TS} {Wout : WX} {ns : List (Str × Pos)} {us : List Value}
theorem pss_try_keepT {tx} {tp : Pos} (hs : X.stack = X.env :: X.outer) (hf : X.env.frame = some X.env.locals) (hN : X.N.Nodup) (hi : X.N[i]? = some n) (hln : X.env.kindOf n = some .local) (hc : Paired (fun (x : Str × Pos) c => Names X x.1 c) ns us) (hl : us.length ≤ sizeLine) (tk : Takes X Wout)
    (hb : ∀ (W : WX) (pn : List (Addr × Obj)) (xe : Value → Shared → Prop), Takes (X.tr pn xe) W → PassesOwn (model X.prog X.w) X.A X.env xe → PSs (X.tr pn xe) body (tb W))
    (hsu : ∀ (a : Addr) (oe : Obj) (cls : Value) (d : Option Addr) (pn : List (Addr × Obj)), Zc cls d oe → (∃ vs, oe.data = .fields vs) → PSs (X.suite a ((a, oe) :: pn)) (b₀ :: suite) (ts a cls d))
    (hr0 : PSs X rest t0) (hr1 : ∀ (a : Addr) (oe : Obj) (cls : Value) (d : Option Addr) (pn : List (Addr × Obj)), Zc cls d oe → (∃ vs, oe.data = .fields vs) → PSs (X.tr ((a, oe) :: pn) X.xe) rest (tr a cls d)) :
    PSs X (.Try body [.ExceptHandler (some (.Tuple (clsEs ns) tx tp)) (some n) (b₀ :: suite) pos'] [] [] pos :: rest) (fun D σ H => tb (wAsT X.K us i ts tr Wout D) { D with nx := t0 D } σ H) := by
  refine ⟨fun pins s σ H D I h => wpAny_execs_cons (wpAny_mono (Q := KeptP X pins t0 tr D) (E := X.xe) (wpAny_Try_except ?first) (fun f s1 e => ?second) fun _ _ e => e)⟩
  case second =>
    match f, e with
    | .next, .inl ⟨_, _, J, q⟩ => exact hr0.run pins s1 _ _ D J q
    | .next, .inr ⟨a, oe, cls, d, _, _, z, fields, J, q⟩ => exact thn ((hr1 a oe cls d (X.pn ++ pins) z fields).run [] s1 _ _ D J q) fun _ _ e => sp_to (fun J => Dn.Inv.ofKeep J I.ok) e
    | .brk, e => exact e
    | .cont, e => exact e
    | .ret _, e => exact e
  case first =>
    refine wpAny_mono ((hb (wAsT X.K us i ts tr Wout D) (X.pn ++ pins) _ (fun u s' air => ?_) PassesOwn.looking).run [] s σ H { D with nx := t0 D } (I.toTry _) h) (fun f s1 e => ?_) fun _ _ e => e
    · obtain ⟨a, B, sI, pins', σ', H', cls, d, rfl, J, ground, up, sky, new, os, gens, w⟩ := air
      have J : Inv X pins σ' H' sI := J.ofTry I.ok
      have sky : Sky B (X.env :: X.outer) a (Zc cls d) X.env.locals s'.heap := hs ▸ sky
      exact Sky.land (Zc.steady) (I.ok.frames.trans (congrArg some hs)) hf sky fun h fly up2 => Down.handledT ⟨J, ground, up.trans up2, fly, new, os, gens⟩ hs hf hN hi hln hc hl tk hsu w
    · match f, sp_to (fun J => J.ofTry I.ok) e with
      | .next, ⟨_, _, J, q⟩ => exact wpAny_execs_nil (.inl ⟨_, _, J, q⟩)
      | .brk, e => exact e
      | .cont, e => exact e
      | .ret _, e => exact e
end
end Dn

set_option maxHeartbeats 4000000
namespace Dn
open PySem PySem.Spec PyProof.Rows L2
section
variable {K : PySem.W.Frag} {C : Ct} {env : Ev} {w : W} {σ : L2.St} {G H : Hp}
/-- the exception has its name, the clause's own name is gone -/
theorem Rel.caught (R : Rel K C env w σ G H) {iE iC : Nat} {a : Addr} (ne : iE ≠ iC) (hC : iC < env.length) : Rel K C ((env.set iE none).set iC (some (.ex a none none))) w (((σ.set iE (some (.ref a))).set iC (some (.ref a))).set iE none) G H := by
  have other : ∀ {i : Nat} {o : Option SD}, i ≠ iC → ((env.set iE none).set iC (some (.ex a none none)))[i]? = some o → o ≠ none → env[i]? = some o ∧ (((σ.set iE (some (V.ref a))).set iC (some (V.ref a))).set iE none)[i]? = σ[i]? := fun {i o} hi h ho => by
    rw [List.getElem?_set_ne (Ne.symm hi)] at h
    have hE : i ≠ iE := fun e => by
      subst e
      obtain ⟨z, _⟩ := set_at h
      exact ho z
    rw [List.getElem?_set_ne (Ne.symm hE)] at h
    exact ⟨h, by rw [List.getElem?_set_ne (Ne.symm hE), List.getElem?_set_ne (Ne.symm hi), List.getElem?_set_ne (Ne.symm hE)]⟩
  have isEx : ∀ {sd : SD}, ((env.set iE none).set iC (some (.ex a none none)))[iC]? = some (some sd) → sd = .ex a none none := fun h => by
    obtain ⟨z, _⟩ := set_at h
    exact Option.some.inj z
  refine { sub := R.sub, len := by simp [R.len], slot := fun i sd h => ?_, sep := fun i j xs ys b h1 h2 h3 h4 => ?_, st := R.st, st0 := R.st0, fr := R.fr, gr := R.gr, tb := R.tb, tb0 := R.tb0 }
  · by_cases hi : i = iC
    · subst hi
      obtain rfl := isEx h
      refine ⟨.ref a, ?_, rfl, nofun⟩
      rw [List.getElem?_set_ne ne]
      exact List.getElem?_set_self (by rw [List.length_set, ← R.len]; exact hC)
    · obtain ⟨e1, e2⟩ := other hi h (by simp)
      obtain ⟨v, h1, h2⟩ := R.slot i sd e1
      exact ⟨v, e2.trans h1, h2⟩
  · have hi : i ≠ iC := fun e => by subst e; cases isEx h1
    have hj : j ≠ iC := fun e => by subst e; cases isEx h2
    obtain ⟨a1, a2⟩ := other hi h1 (by simp)
    obtain ⟨b1, b2⟩ := other hj h2 (by simp)
    exact R.sep i j xs ys b a1 b1 (a2.symm.trans h3) (b2.symm.trans h4)
end
/-- a clause of more classes takes what is of some -/
def xtB (K : PySem.W.Frag) (CS : List Str) (us : List Value) : Bool := CS.all fun c => decide (PySem.W.exmAny K (.ref (He.ga K c)) us = some true)
theorem xtB_ok {K : PySem.W.Frag} {CS : List Str} {us : List Value} (h : xtB K CS us = true) : ∀ c ∈ CS, PySem.W.exmAny K (.ref (He.ga K c)) us = some true := fun c hc => of_decide_eq_true (List.all_eq_true.mp h c hc)
section
variable {X : Cx}
end
end Dn

set_option maxHeartbeats 4000000
namespace Dn
open PySem PySem.Spec PyProof.Rows L2
section
variable {K : PySem.W.Frag} {C : Ct} {env : Ev} {w : W} {σ : L2.St} {G H : Hp} {i : Nat} {kvs ys : List (Str × PyData)} {a : Addr} {vs us : List (Key × V)}
end
end Dn

set_option maxHeartbeats 4000000
namespace Dn
open PySem PySem.Spec PyProof.Rows L2
section
variable {prog : Program} {w : World} {A : Around} {R : Result → Shared → Prop} {l I S : Addr} {h0 : Heap}
end
end Dn

set_option maxHeartbeats 4000000
namespace Dn
open PySem PyProof PySem.Spec PyProof.Rows L2
def upTo (j : Int) : List PyData := (List.range (j - 0).toNat).map fun i => PyData.int (0 + (i : Nat))
def mLRng (m : Ex) : Lx := seqE m fun x env w => match x with
  | .int j => if 0 ≤ j ∧ j ≤ 1000000 then some (upTo j, env, w) else none
  | _ => none
theorem ints_dq {K : PySem.W.Frag} {G : Hp} : ∀ l : List Nat, DqA K G (l.map fun i => V.int (0 + (i : Nat))) (l.map fun i => PyData.int (0 + (i : Nat)))
  | [] => .nil
  | i :: l => .cons (.int _) (ints_dq l)
theorem do_lrange {X : Cx} {a : Expr} {m : Ex} {p p2 pos pos2 : Pos} (hc : X.calm = true) (hml : X.mg "list" = none) (hmr : X.mg "range" = none) (ha : DE X a m) (hgl : Gl X "list" := by rfl) (hgr : Gl X "range" := by rfl)
    (n1 : starEach [a] X.env = (false, eval a X.env) :: starEach [] X.env := by rfl) (n2 : starEach [.Call (.Name "range" p2) [a] [] pos2] X.env = (false, eval (.Call (.Name "range" p2) [a] [] pos2) X.env) :: starEach [] X.env := by rfl) :
    DO X (.Call (.Name "list" p) [.Call (.Name "range" p2) [a] [] pos2] [] pos) (mLRng m) :=
  PE.weak (pe_listRg hc hgl hml (prg_1 hgr hmr ha n1) n2) fun σ H Q ⟨C, G, env, w, r, env', w', R, hmm, k⟩ => by
  obtain ⟨x, e1, w1, h1, hmm⟩ := seqE_inv hmm
  cases x with
  | int j =>
    dsimp only at hmm
    split at hmm
    · rename_i hj
      cases hmm
      refine ⟨C, G, env, w, _, _, _, R, h1, fun v G1 H1 R1 s1 i1 a1 => ?_⟩
      have a1 : Dq X.K G1 v (.int j) := a1
      cases a1
      refine ⟨_, rfl, RgOk.of_le (by omega) (by omega) (by omega) hj.1, fun q hq => ?_⟩
      obtain ⟨R2, q1, q2, q3, q4⟩ := new_O (vs := rgV 0 j) R1 hq
      exact k q (rgV 0 j) G1 _ R2 s1 i1 q1 (ints_dq _) q2 q3 q4
    · cases hmm
  | _ => cases hmm
end Dn

set_option maxHeartbeats 4000000
namespace Dn
open PySem PySem.Spec PyProof.Rows L2 LamX
/-- caught, told = None, [] -/
def sThree (i j : Nat) : TS := fun D σ H => ∀ p, H p = none → D.nx ((σ.set i (some .non)).set j (some (.ref p))) (upd H p (.lst []))
theorem three_of {X : Cx} {s : Stmt} {i j : Nat} {tn : TE} (h : PS X s (tPar i j (tCons tn (tCons (tLst tNil) tNil)))) (hn : ∀ σ H Q, Q .non H → tn σ H Q) : PS X s (sThree i j) := PS.weak h fun D σ H k => hn _ _ _ ⟨by simp, fun p hp => ⟨_, _, rfl, k p hp⟩⟩
section
variable {X : Cx}
theorem said3_gives {Ng : List Str} {x a tn cn en q : Str} {sg : Scope} {g : Addr} {cdg : Value} {S0 : Stmt} {rest : List Stmt} {f : LR → Option PyData} {m0 : Sx} {mX : Addr → Option Addr → Xc → Sx} {ok : Str → Bool} {k iT iC iE n : Nat} {ns : List (Str × Pos)} {us : List Value} {tx} {p1 p4 p5 p8 p9 p10 p11 p12 pa pl tp : Pos}
    (hrm : Room (k + 1) X.A) (S : FnScope Ng [a] sg) (hn : Ng.length = n) (h0 : Ng[0]? = some a) (hT : Ng[iT]? = some tn) (hC : Ng[iC]? = some cn) (hE : Ng[iE]? = some en) (hlT : sg.names.lookup tn = some .local) (hlC : sg.names.lookup cn = some .local) (hlE : sg.names.lookup en = some .local)
    (hT0 : iT ≠ 0) (hC0 : iC ≠ 0) (hTC : iT ≠ iC) (hEC : iE ≠ iC) (hdE : (en == ("__debug__" : Str)) = false) (hcE : (en == ("__classdict__" : Str)) = false)
    (hcl : ∀ (s : Shared) (H : Hp), Paired (fun (x' : Str × Pos) c => Names (cxOf C8.CX0 X.prog X.w X.K X.mg X.base Ng x sg g cdg X.A X.stack s H C8.E0).nox x'.1 c) ns us) (hul : us.length ≤ sizeLine) (hok : ∀ (c : Str) (D : Addr), X.mg c = some (.ref D) → ok c = true → PySem.W.exmAny X.K (.ref D) us = some true)
    (hS0 : ∀ (s : Shared) (H : Hp), PS (cxOf C8.CX0 X.prog X.w X.K X.mg X.base Ng x sg g cdg X.A X.stack s H C8.E0).nox S0 (sThree iC iT))
    (hr0 : ∀ (s : Shared) (H : Hp), Room k (X.A.deeper (envOfC x sg s.heap.objs.size g cdg)) → DSs (cxOf C8.CX0 X.prog X.w X.K X.mg X.base Ng x sg g cdg X.A X.stack s H C8.E0).nox rest m0)
    (hr1 : ∀ (s : Shared) (H : Hp) (a : Addr) (oe : Obj) (cls : Value) (d : Option Addr) (pn : List (Addr × Obj)) (xc : Xc), Room k (X.A.deeper (envOfC x sg s.heap.objs.size g cdg)) → Zc cls d oe → (∃ vs, oe.data = .fields vs) → (∃ D, X.mg xc.cls = some (.ref D) ∧ cls = .ref D) → ok xc.cls = true → (xc.place = none → d = none) →
      DSs ((cxOf C8.CX0 X.prog X.w X.K X.mg X.base Ng x sg g cdg X.A X.stack s H C8.E0).nox.tr ((a, oe) :: pn) (cxOf C8.CX0 X.prog X.w X.K X.mg X.base Ng x sg g cdg X.A X.stack s H C8.E0).nox.xe) rest (mX a d xc))
    (hf0 : ∀ d y, f (.inl d) = some y → ∃ env', m0 (env2 n iC iT (.d .none) (.d (.list [d]))) none = some (.rt (.d y), env', none))
    (hfX : ∀ xc y, f (.inr xc) = some y → ok xc.cls = true ∧ ∀ a d, (xc.place = none → d = none) → ∃ env', mX a d xc (env1 n iC (.ex a d xc.place)) none = some (.rt (.d y), env', none)) :
    GivesL X Ng x sg g cdg (S0 :: .Try [.Assign [.Name tn p1] (.List [.Call (.Name a p4) [] [] p5] pl) pa] [.ExceptHandler (some (.Tuple (clsEs ns) tx tp)) (some en) [.Assign [.Name cn p8] (.Name en p9) p10] p11] [] [] p12 :: rest) a q (TTd X.K X.mg f) := by
  intro fa c' s H Q ask act hc h
  subst hn
  obtain ⟨G, ad, L, y, sG, tb, hfL, hA, hQ⟩ := h
  have hrm' : Room k (X.A.deeper (envOfC x sg s.heap.objs.size g cdg)) := hrm.deeper _
  refine ⟨_, pss_cons (hS0 s H) (pss_try_keepT (X := (cxOf C8.CX0 X.prog X.w X.K X.mg X.base Ng x sg g cdg X.A X.stack s H C8.E0).nox) (i := iE) (Wout := fun _ _ _ _ => False) (t0 := tS X.K m0)
      (tb := fun W D σ H => ∃ Ech : XK, (∀ cls d H', Ech cls d H' → W cls d σ H') ∧ σ[0]? = some (some (.ref fa)) ∧ H c' = some (CodeO c' q) ∧ ask Ech H fun v H1 => tNil σ H1 fun xs H2 => (v :: xs).length ≤ sizeLine ∧ ∀ p, H2 p = none → D.nx (σ.set iT (some (.ref p))) (upd H2 p (.lst (v :: xs))))
      (ts := fun _ _ _ => tAsg (tVar iE) (gName iC)) (tr := fun a cls d D σ H => ∃ xc, (∃ D, X.mg xc.cls = some (.ref D) ∧ cls = .ref D) ∧ ok xc.cls = true ∧ (xc.place = none → d = none) ∧ tS X.K (mX a d xc) D σ H)
      rfl rfl S.nd hE hlE (hcl s H) hul LamX.takes0 (fun W pn xe tk _ => ?_) (fun a oe cls d pn hz hv => ?_) (hr0 s H hrm') fun a oe cls d pn hz hv => ?_), ?_⟩
  · refine ⟨fun pins s' σ H' D I h' => ?_⟩
    obtain ⟨Ech, hW, h1, h2, h3⟩ := h'
    have hp := act W pn xe Ech p4 p5 tk
    refine (pss_one (ps_set (i := iT) (pos := pa) S.nd hT (.inl hlT) (pe_lst (pos := pl) (pa_cons hp pa_nil)))).run pins s' σ H' D I ?_
    refine ⟨hW, h1, h2, ?_⟩
    exact h3
  · exact pss_one (ps_set (i := iC) S.nd hC (.inl hlC) (pe_var (i := iE) hE (.inl hlE) hdE hcE))
  · refine ⟨fun pins s' σ H' D I h' => ?_⟩
    obtain ⟨xc, h1, h2, hp, h3⟩ := h'
    exact (hr1 s H a oe cls d pn xc hrm' hz hv h1 h2 hp).run pins s' σ H' D I h3
  · intro p0 hp0
    have hst : (L2.start Ng [V.ref fa]).length = Ng.length := by
      have := congrArg List.length S.pre
      unfold L2.start
      simp only [List.length_append, List.length_map, List.length_cons, List.length_nil, List.length_replicate, List.length_take] at this ⊢
      omega
    have hiT : iT < Ng.length := (List.getElem?_eq_some_iff.mp hT).1
    have hi : iC < Ng.length := (List.getElem?_eq_some_iff.mp hC).1
    have hiE : iE < Ng.length := (List.getElem?_eq_some_iff.mp hE).1
    have sH : Same H (upd H p0 (.lst [])) := same_upd hp0
    have nt : p0 ∉ ad.tabs.map (·.1) := fun m => by
      obtain ⟨ps, z⟩ := tb.at m
      rw [hp0] at z; cases z
    have tb1 : CtOk ad.tabs G (upd H p0 (.lst [])) := tb.hoth nt (fun φ z => by rw [hp0] at z; cases z)
    have up : ∀ {b o}, H b = some o → upd H p0 (.lst []) b = some o := fun {b o} e => (upd_ne fun z => by rw [z, hp0] at e; cases e).trans e
    obtain ⟨σ0, hσ0⟩ : ∃ σ0, ((L2.start Ng [V.ref fa]).set iC (some V.non)).set iT (some (V.ref p0)) = σ0 := ⟨_, rfl⟩
    have hl : σ0.length = Ng.length := by rw [← hσ0, List.length_set, List.length_set]; exact hst
    have hCs : σ0[iC]? = some (some V.non) := by
      rw [← hσ0, List.getElem?_set_ne hTC]
      exact List.getElem?_set_self (by rw [hst]; exact hi)
    rw [hσ0]
    -- what both ends need
    have fin : ∀ {G2 H2 G3 H3 : Hp} {env' : Ev} {σ' : L2.St} {v : V}, Same G G2 → (∀ b o, upd H p0 (.lst []) b = some o → ¬ Mt ad none b → H2 b = some o) → (∀ b o, upd H p0 (.lst []) b = some o → G2 b = G b) → Same G2 G3 → Rel X.K ⟨ad, H2, G2⟩ env' none σ' G3 H3 → Dq X.K G3 v y → Q v H3 := fun {G2 H2 G3 H3 env' σ' v} s1 fr old s3 R3 av => by
      refine hQ v G3 H3 (s1.trans s3) R3.sub (fun b o e m => R3.fr b o (fr b o (up e) m) m) (fun b o e => ?_) R3.tb av
      by_cases m : Mt ad none b
      · have m := m.resolve_left fun z => by cases z.1
        obtain ⟨r, hr, rfl⟩ := List.mem_map.mp m
        rw [R3.tb.gn r hr, tb.gn r hr]
      · rw [R3.gr b o (fr b o (up e) m)]
        exact old b o (up e)
    refine ⟨fun cls d H2 => ∃ xc G2, L = .inr xc ∧ XcAt X.K X.mg xc G2 H2 cls d ∧ Same G G2 ∧ Same G2 H2 ∧ (∀ b o, upd H p0 (.lst []) b = some o → ¬ Mt ad none b → H2 b = some o) ∧ (∀ b o, upd H p0 (.lst []) b = some o → G2 b = G b) ∧ CtOk ad.tabs G2 H2, fun cls d H2 hx => ?_, ?_, up hc, hA _ sH tb1 _ _ fun G2 H2 s1 s2 fr old tb2 => ?_⟩
    · obtain ⟨xc, G2, rfl, xa, s1, s2, fr, old, tb2⟩ := hx
      obtain ⟨hk, hm⟩ := hfX xc y hfL
      obtain ⟨D, e1, e2⟩ := xa.1
      refine ⟨true, by rw [e2]; exact hok _ _ e1 hk, fun _ a na => ?_, fun z => by cases z⟩
      have hge : (σ0.set iE (some (V.ref a)))[iE]? = some (some (V.ref a)) := List.getElem?_set_self (by rw [hl]; exact hiE)
      have hpd : xc.place = none → d = none := fun hp => by
        have := xa.2
        rw [hp] at this
        exact this
      refine ⟨_, hge, xc, xa.1, hk, hpd, ?_⟩
      obtain ⟨env', hm⟩ := hm a d hpd
      refine ⟨⟨ad, H2, G2⟩, G2, env1 Ng.length iC (.ex a d xc.place), none, _, env', none, rel_new s2 tb2 (by unfold env1; simp [hl]) (fun i sd h => ?_) (fun i xs h => by obtain ⟨_, z⟩ := env1_get h; cases z), hm, fun σ3 G3 H3 R3 s3 i3 v av => fin s1 fr old s3 R3 av⟩
      obtain ⟨rfl, rfl⟩ := env1_get h
      refine ⟨.ref a, ?_, rfl, fun p hp => ?_⟩
      · rw [List.getElem?_set_ne hEC]
        exact List.getElem?_set_self (by rw [List.length_set, hl]; exact hi)
      · have := xa.2
        rw [hp] at this
        obtain ⟨dd, u, z1, z2, z3⟩ := this
        refine ⟨dd, u, z1, z2, fun m => ?_, z3⟩
        rcases m with m | m
        · cases m.1
        · obtain ⟨ps, z⟩ := tb2.at m
          rw [z] at z2; cases z2
    · show σ0[0]? = _
      rw [← hσ0, List.getElem?_set_ne hT0, List.getElem?_set_ne hC0]
      rfl
    · cases L with
      | inr xc => exact fun cls d xa => ⟨xc, G2, rfl, xa, s1, s2, fr, old, tb2⟩
      | inl d0 =>
        intro v hv
        refine ⟨by rw [sizeLine_eq]; simp, fun p hp => ?_⟩
        obtain ⟨env', hm⟩ := hf0 d0 y hfL
        have R1 : Rel X.K ⟨ad, H2, G2⟩ (env1 Ng.length iC (.d .none)) none σ0 G2 H2 := rel_new s2 tb2 (by unfold env1; simp [hl]) (fun i sd h => by
          obtain ⟨rfl, rfl⟩ := env1_get h
          exact ⟨.non, hCs, Dq.non⟩) fun i xs h => by obtain ⟨_, z⟩ := env1_get h; cases z
        have ex : Ext G2 H2 (upd G2 p (.lst [v])) (upd H2 p (.lst [v])) := Ext.new s2 hp
        have R2 := (R1.ext ex).set (r := .d (.list [d0])) (v := .ref p) (Dq.lst upd_same (.cons (dp_mono ex.gg hv) .nil)) iT
        have R2 : Rel X.K ⟨ad, H2, G2⟩ (env2 Ng.length iC iT (.d .none) (.d (.list [d0]))) none (σ0.set iT (some (.ref p))) (upd G2 p (.lst [v])) (upd H2 p (.lst [v])) := R2
        exact ⟨⟨ad, H2, G2⟩, _, _, none, _, env', none, R2, hm, fun σ3 G3 H3 R3 s3 i3 v av => fin s1 fr old (ex.gg.trans s3) R3 av⟩
end
/-- a class of the text that is none of some -/
def xmB (K : PySem.W.Frag) (CS : List Str) (m : Str) : Bool := He.Fa.ok K (.glo m) && CS.all fun c => decide (PySem.W.kitOne K (.ref (He.ga K c)) (.ref (He.ga K m)) = some false)
theorem xmB_ok {K : PySem.W.Frag} {h : Heap} {mg : Str → Option Value} {CS : List Str} {m : Str} (X : K.In h) (G : h.Ns mainGlobals mg) (c : xmB K CS m = true) : mg m = some (.ref (He.ga K m)) ∧ ∀ n ∈ CS, PySem.W.kitOne K (.ref (He.ga K n)) (.ref (He.ga K m)) = some false := by
  obtain ⟨c1, c2⟩ := Bool.and_eq_true_iff.mp c
  exact ⟨He.glo_ok X G c1, fun n hn => of_decide_eq_true (List.all_eq_true.mp c2 n hn)⟩
theorem de_stop0 {X : Cx} {e : Expr} : DE X e mStop := ⟨fun _ _ _ _ _ _ ⟨_, _, _, _, _, _, _, _, hm, _⟩ => by cases hm⟩
/-- what such a def gives -/
noncomputable def resOf3 (m0 : Sx) (mX : Addr → Option Addr → Xc → Sx) (ok : Str → Bool) (n iT iC : Nat) : LR → Option PyData
  | .inl d => someOf fun y => ∃ env', m0 (env2 n iC iT (.d .none) (.d (.list [d]))) none = some (.rt (.d y), env', none)
  | .inr x => someOf fun y => ok x.cls = true ∧ ∀ a d, (x.place = none → d = none) → ∃ env', mX a d x (env1 n iC (.ex a d x.place)) none = some (.rt (.d y), env', none)
section
variable {m0 : Sx} {mX : Addr → Option Addr → Xc → Sx} {ok : Str → Bool} {n iT iC : Nat}
theorem resOf3_l {d y : PyData} (h : resOf3 m0 mX ok n iT iC (.inl d) = some y) : ∃ env', m0 (env2 n iC iT (.d .none) (.d (.list [d]))) none = some (.rt (.d y), env', none) := someOf_ok (P := fun y => ∃ env', m0 (env2 n iC iT (.d .none) (.d (.list [d]))) none = some (.rt (.d y), env', none)) h
theorem resOf3_r {x : Xc} {y : PyData} (h : resOf3 m0 mX ok n iT iC (.inr x) = some y) : ok x.cls = true ∧ ∀ a d, (x.place = none → d = none) → ∃ env', mX a d x (env1 n iC (.ex a d x.place)) none = some (.rt (.d y), env', none) := someOf_ok (P := fun y => ok x.cls = true ∧ ∀ a d, (x.place = none → d = none) → ∃ env', mX a d x (env1 n iC (.ex a d x.place)) none = some (.rt (.d y), env', none)) h
theorem resOf3_of_l {d y : PyData} {env' : Ev} (h : m0 (env2 n iC iT (.d .none) (.d (.list [d]))) none = some (.rt (.d y), env', none)) : resOf3 m0 mX ok n iT iC (.inl d) = some y := someOf_of ⟨env', h⟩ fun z ⟨e, q⟩ => by
  rw [h] at q
  cases q
  rfl
theorem resOf3_of_r {x : Xc} {y : PyData} (hk : ok x.cls = true) (h : ∀ a d, (x.place = none → d = none) → ∃ env', mX a d x (env1 n iC (.ex a d x.place)) none = some (.rt (.d y), env', none)) : resOf3 m0 mX ok n iT iC (.inr x) = some y := someOf_of ⟨hk, h⟩ fun z ⟨_, q⟩ => by
  obtain ⟨e1, z1⟩ := h 0 none fun _ => rfl
  obtain ⟨e2, z2⟩ := q 0 none fun _ => rfl
  rw [z1] at z2
  cases z2
  rfl
end
section
variable {X : Cx}
theorem said3_of {CS : List Str} {Ng : List Str} {x a tn cn en q : Str} {S0 : Stmt} {sg : Scope} {g : Addr} {cdg : Value} {rest : List Stmt} {m0 : Sx} {mX : Addr → Option Addr → Xc → Sx} {k iT iC iE n : Nat} {ns : List (Str × Pos)} {us : List Value} {tx} {p1 p4 p5 p8 p9 p10 p11 p12 pa pl tp : Pos}
    (T : XFs X.K X.mg CS) (hrm : Room (k + 1) X.A) (S : FnScope Ng [a] sg) (hn : Ng.length = n) (h0 : Ng[0]? = some a) (hT : Ng[iT]? = some tn) (hC : Ng[iC]? = some cn) (hE : Ng[iE]? = some en) (hlT : sg.names.lookup tn = some .local) (hlC : sg.names.lookup cn = some .local) (hlE : sg.names.lookup en = some .local) (hT0 : iT ≠ 0) (hC0 : iC ≠ 0) (hTC : iT ≠ iC) (hEC : iE ≠ iC)
    (hdE : (en == ("__debug__" : Str)) = false) (hcE : (en == ("__classdict__" : Str)) = false)
    (hcl : ∀ (s : Shared) (H : Hp), Paired (fun (x' : Str × Pos) c => Names (cxOf C8.CX0 X.prog X.w X.K X.mg X.base Ng x sg g cdg X.A X.stack s H C8.E0).nox x'.1 c) ns us) (hul : us.length ≤ sizeLine) (hok : ∀ c ∈ CS, PySem.W.exmAny X.K (.ref (He.ga X.K c)) us = some true)
    (hS0 : ∀ (s : Shared) (H : Hp), PS (cxOf C8.CX0 X.prog X.w X.K X.mg X.base Ng x sg g cdg X.A X.stack s H C8.E0).nox S0 (sThree iC iT))
    (hr0 : ∀ (s : Shared) (H : Hp), Room k (X.A.deeper (envOfC x sg s.heap.objs.size g cdg)) → DSs (cxOf C8.CX0 X.prog X.w X.K X.mg X.base Ng x sg g cdg X.A X.stack s H C8.E0).nox rest m0)
    (hr1 : ∀ (s : Shared) (H : Hp) (a : Addr) (oe : Obj) (d : Option Addr) (pn : List (Addr × Obj)) (xc : Xc), Room k (X.A.deeper (envOfC x sg s.heap.objs.size g cdg)) → xc.cls ∈ CS → Zc (.ref (He.ga X.K xc.cls)) d oe → (∃ vs, oe.data = .fields vs) → (xc.place = none → d = none) →
      DSs ((cxOf C8.CX0 X.prog X.w X.K X.mg X.base Ng x sg g cdg X.A X.stack s H C8.E0).nox.tr ((a, oe) :: pn) (cxOf C8.CX0 X.prog X.w X.K X.mg X.base Ng x sg g cdg X.A X.stack s H C8.E0).nox.xe) rest (mX a d xc)) :
    GivesL X Ng x sg g cdg (S0 :: .Try [.Assign [.Name tn p1] (.List [.Call (.Name a p4) [] [] p5] pl) pa] [.ExceptHandler (some (.Tuple (clsEs ns) tx tp)) (some en) [.Assign [.Name cn p8] (.Name en p9) p10] p11] [] [] p12 :: rest) a q (TTd X.K X.mg (resOf3 m0 mX (okIn CS) n iT iC)) := by
  refine said3_gives (ok := okIn CS) hrm S hn h0 hT hC hE hlT hlC hlE hT0 hC0 hTC hEC hdE hcE hcl hul (fun c D hD hc => ?_) hS0 hr0 (fun s H a oe cls d pn xc hr hz hv hcls hok hpd => ?_) (fun d y h => resOf3_l h) fun xc y h => resOf3_r h
  · have hm := okIn_mem hc
    have e := T.glo c hm
    rw [hD] at e
    cases e
    exact hok c hm
  · have hm := okIn_mem hok
    obtain ⟨D, e1, e2⟩ := hcls
    rw [T.glo _ hm] at e1
    cases e1
    subst e2
    exact hr1 s H a oe d pn xc hr hm hz hv hpd
end
end Dn

set_option maxHeartbeats 4000000
namespace Dn
open PySem PyProof PySem.Spec PyProof.Rows L2
def mTRng (m : Ex) : Ex := seqE m fun x env w => match x with
  | .int j => if 0 ≤ j ∧ j ≤ 1000000 then some (.d (.tuple (upTo j)), env, w) else none
  | _ => none
theorem de_trange {X : Cx} {a : Expr} {m : Ex} {p p2 pos pos2 : Pos} (hc : X.calm = true) (hml : X.mg "tuple" = none) (hmr : X.mg "range" = none) (ha : DE X a m) (hgl : Gl X "tuple" := by rfl) (hgr : Gl X "range" := by rfl)
    (n1 : starEach [a] X.env = (false, eval a X.env) :: starEach [] X.env := by rfl) (n2 : starEach [.Call (.Name "range" p2) [a] [] pos2] X.env = (false, eval (.Call (.Name "range" p2) [a] [] pos2) X.env) :: starEach [] X.env := by rfl) :
    DE X (.Call (.Name "tuple" p) [.Call (.Name "range" p2) [a] [] pos2] [] pos) (mTRng m) :=
  PE.weak (pe_tupRg hc hgl hml (prg_1 hgr hmr ha n1) n2) fun σ H Q ⟨C, G, env, w, r, env', w', R, hmm, k⟩ => by
  obtain ⟨x, e1, w1, h1, hmm⟩ := seqE_inv hmm
  cases x with
  | int j =>
    dsimp only at hmm
    split at hmm
    · rename_i hj
      cases hmm
      refine ⟨C, G, env, w, _, _, _, R, h1, fun v G1 H1 R1 s1 i1 a1 => ?_⟩
      have a1 : Dq X.K G1 v (.int j) := a1
      cases a1
      refine ⟨_, rfl, RgOk.of_le (by omega) (by omega) (by omega) hj.1, fun q hq => ?_⟩
      have ex : Ext G1 H1 (upd G1 q (.tup (rgV 0 j))) (upd H1 q (.tup (rgV 0 j))) := Ext.new R1.sub hq
      exact k (.ref q) _ _ (R1.ext ex) (s1.trans ex.gg) i1 (show Dq X.K _ _ _ from .tup (SqT.of upd_same) (dpA_mono ex.gg (ints_dq _)))
    · cases hmm
  | _ => cases hmm
end Dn

set_option maxHeartbeats 8000000
namespace Dn
open PySem PySem.Calls PySem.NumText PyProof PySem.Spec PyProof.Rows L2
section
variable {M : Model} {A : Around} {E : Value → Shared → Prop} {s : Shared}
theorem limit_any {Q : Nat → Shared → Prop} (hn : s.heap.NoDigits) (h : Q 4300 s) : wpAny M A Builtin.intMaxStrDigits Q E s := by
  obtain ⟨mc, hns, hnone⟩ := hn
  unfold Builtin.intMaxStrDigits
  refine wpAny_bind (wpAny_nsGet hns ?_)
  rw [hnone]
  exact wpAny_pure h
theorem wp_textN {Q : Value → Shared → Prop} {v : Value} {text : List Nat} {n : Int} (hn : s.heap.NoDigits)
    (hr : (int_private% "readNumeral") (if (text.takeWhile (· != 0)).length ≤ 640 then 0 else 4300) 10 (text.takeWhile (· != 0)) = (int_private% "Numeral.value") n)
    (ha : ((text.takeWhile (· != 0)).length == text.length) = true) (h : Q (.int n s.toks) { s with toks := s.toks + 1 }) :
    wpAny M A ((int_private% "intFromText") v text 10) Q E s := by
  by_cases hs : (text.takeWhile (· != 0)).length ≤ 640
  · rw [if_pos hs] at hr
    exact PySem.W.KIN.wp_text hs hr ha h
  · rw [if_neg hs] at hr
    have lim : ∀ Q' : Nat → Shared → Prop, Q' 4300 s → wpAny M A Builtin.intMaxStrDigits Q' E s := fun Q' q => limit_any hn q
    clear hn
    obtain ⟨hp, g, d, tk, os⟩ := s
    repeat (any_goals (first
      | assumption
      | (with_reducible refine wpAny_ite_false (decide_eq_false hs) ?_)
      | (with_reducible refine wpAny_ite_true (decide_eq_true ha) ?_)
      | (with_reducible refine lim _ ?_)
      | wp_step))
    all_goals (try rw [hr])
    all_goals (try dsimp only)
    repeat (any_goals (first
      | assumption
      | (with_reducible refine wpAny_ite_true (decide_eq_true ha) ?_)
      | wp_step))
end
theorem meets_textN {x : PySem.Str} {u : Tok} {n : Int} (hl : x.length ≤ sizeLine) (hn : PySem.intText? x = some n) : Meets (Builtin.«int.__new__» ⟨[.type "int", .str x u], []⟩) (fun A R s => s.heap.NoDigits ∧ (Made.int n).post (fun v s' => R (.ok (.ret v)) s') s) :=
  fun prog w A R s ⟨hd, hq⟩ => by
    have f1 := F.conv_sub_int
    have f2 := F.madeHere_int
    have f3 := PySem.W.KIN.str_int
    have f4 := PySem.W.KIN.str_idx
    have f5 := PySem.W.KIN.str_trunc
    have f6 : typeOf (.str x u) = pure (.type "str") := rfl
    have hr : (int_private% "readNumeral") (if (numSeenOf x).length ≤ 640 then 0 else 4300) 10 (numSeenOf x) = (int_private% "Numeral.value") n ∧ ((numSeenOf x).length == (numTextOf x).length) = true := by
      rcases readAny x hl with ⟨m, h1, h2, h3⟩ | ⟨h1, _⟩
      · rw [hn] at h1
        injection h1 with h1
        subst h1
        exact ⟨h3, h2⟩
      · rw [hn] at h1
        cases h1
    have hk := PySem.W.KIN.Hid.mk (And.intro hd hr)
    clear hr hl hn hd
    have goal : ∀ Q : Value → Shared → Prop, (Made.int n).post Q s → wpAny (model prog w) A.in1 (Builtin.«int.__new__» ⟨[.type "int", .str x u], []⟩) (fun fin s' => ∃ v, fin = .done (.ret v) ∧ Q v s') (fun e s' => R (.error e) s') s := by
      intro Q h
      clear hq
      obtain ⟨hp, g, d, tk, os⟩ := s
      repeat (any_goals (first
        | assumption
        | ((with_reducible show wpAny _ _ ((int_private% "intFromText") _ _ _) _ _ _); refine wp_textN hk.out.1 hk.out.2.1 hk.out.2.2 ?_)
        | wp_step))
      all_goals first | exact ⟨_, rfl, h⟩ | skip
    exact wpAny_mono (goal _ hq) (fun fin s' h' => by obtain ⟨v, rfl, hv⟩ := h'; exact hv) fun _ _ x => x
/-- the statics tell no limit of their own -/
def digB (K : PySem.W.Frag) : Bool := match K.lookup cStatics with
  | some o => (match o.data with
    | .dict es _ => (nsFind es "sys.int_max_str_digits").isNone
    | _ => false)
  | none => false
section
variable {X : Cx} {pins : List (Addr × Obj)} {σ : L2.St} {H : Hp} {s : Shared}
theorem nodig (I : Inv X pins σ H s) (d : digB X.K = true) : s.heap.NoDigits := by
  obtain ⟨mc, ⟨o, es, ep, h1, h2, h3, h4⟩, _⟩ := I.nolimit
  refine ⟨mc, ⟨o, es, ep, h1, h2, h3, h4⟩, ?_⟩
  unfold digB at d
  cases e : X.K.lookup cStatics with
  | none => rw [e] at d; cases d
  | some o2 =>
    have : s.heap.get? cStatics = some o2 := I.kIn _ _ e
    rw [h1] at this
    cases this
    rw [e] at d
    dsimp only at d
    rw [h2] at d
    rw [← h4]
    exact Option.isNone_iff_eq_none.mp d
theorem call_int_any (d : digB X.K = true) : CallR X (.type "int") (fun xs H Q => ∃ a n, xs = [.str a] ∧ PySem.intText? a = some n ∧ a.length ≤ sizeLine ∧ Q (.int n) H) := by
  intro pins s σ H xs us Q I rs h
  obtain ⟨a, n, rfl, hn, hl, h⟩ := h
  cases rs with
  | cons r1 rs =>
    cases rs
    obtain ⟨t, rfl⟩ := r1
    exact call_int_1 (meets_textN hl hn) ⟨nodig I d, show (Made.int n).post _ s from ⟨rfl, .int n, H, I.tok _, ⟨_, rfl⟩, h⟩⟩
end
def intN : List PyData → Option PyData
  | [.str z] => (match PySem.intText? z with
    | some n => if z.length ≤ sizeLine then some (.int n) else none
    | none => none)
  | _ => none
theorem cd_intN {X : Cx} (d : digB X.K = true) : CallD X (.type "int") intN := callD_of (call_int_any d) fun G H xs ds dz Q sg hx hg k => by
  unfold intN at hg
  split at hg
  · split at hg
    · rename_i n hn
      split at hg
      · rename_i hl
        cases hg
        obtain ⟨v, rfl, h⟩ := dqA1 hx
        cases h
        exact ⟨_, _, rfl, hn, hl, k _ G H (Ext.refl sg) (.int _)⟩
      · cases hg
    · cases hg
  · cases hg
def mulB : PyData → PyData → Option PyData
  | .str x, .int k => if 0 ≤ k ∧ k ≤ 5000 ∧ x.length ≤ 100 then some (.str (Txt.mul x k)) else none
  | _, _ => none
theorem mulOk_many {x : Str} {n : Int} (h1 : 0 ≤ n) (h2 : n ≤ 5000) (h3 : x.length ≤ 100) : MulOk x n := by
  refine ⟨?_, fun h _ => ?_, fun h _ => ?_⟩
  · rw [decide_eq_false (by omega), decide_eq_false (by omega)]; rfl
  · have e1 : (x.length : Int) * n ≤ 100 * 5000 := Int.mul_le_mul (by omega) h2 (by omega) (by omega)
    have e : (x.length : Int) ≤ (2 ^ 63 - 1) / n := Int.le_ediv_of_mul_le (by omega) (by omega)
    omega
  · have e : x.length * n.toNat ≤ 100 * 5000 := Nat.mul_le_mul h3 (by omega)
    unfold Builtin.Str.tooLong
    exact decide_eq_false (by rw [sizeLine_eq]; omega)
theorem od_mulB {X : Cx} : OpD X (binaryOp .Mult) mulB := fun pins s σ G H x y v u dx dy dz Q I rx ry sg hx hy hg k => by
  unfold mulB at hg
  split at hg
  · split at hg
    · rename_i hl
      cases hg
      cases hx
      cases hy
      obtain ⟨t, rfl⟩ := rx
      obtain ⟨t', rfl⟩ := ry
      exact SB.mul (mulOk_many hl.1 hl.2.1 hl.2.2) fun t' tk => ⟨.str _, H, I.tok _, ⟨_, rfl⟩, k _ G H (Ext.refl sg) (.str _)⟩
    · cases hg
  · cases hg
end Dn

set_option maxHeartbeats 4000000
namespace Dn
open PySem PySem.Spec PyProof.Rows L2
def top (i : Nat) : Stmt := PySem.Challenge.pw_pickedrelease_k46_rows_refused.main.body.getD i (.Pass ⟨0, 0, 0, 0⟩)
end Dn
set_option maxHeartbeats 0
namespace Dn
open PySem PySem.Spec PyProof.Rows L2
def hfn : List He.DefD := [mkD "number_at" (top 15), mkD "numbers_at" (top 16), mkD "word_at" (top 17), mkD "tail_at" (top 18), mkD "parts_of" (top 19), mkD "based" (top 20), mkD "tail_of" (top 21), mkD "split_tail" (top 22), mkD "key_from" (top 23), mkD "key_of" (top 24), mkD "numbers_of" (top 25), mkD "following_key" (top 26), mkD "is_plain" (top 27), mkD "need_key" (top 28), mkD "need_version" (top 29), mkD "is_small" (top 36), mkD "is_clause" (top 37), mkD "need_requirement" (top 38), mkD "numbers_cuts" (top 43), mkD "block_cuts" (top 44), mkD "outside" (top 45), mkD "bounded_spans" (top 46), mkD "clause_spans" (top 47), mkD "lesser_end" (top 48), mkD "meet" (top 49), mkD "spans_of" (top 50), mkD "has_key" (top 51), mkD "need_rows" (top 54), mkD "joined" (top 55), mkD "core_of" (top 56), mkD "is_open" (top 57), mkD "core" (top 58), mkD "bars" (top 59), mkD "_law_mixed" (top 61), mkD "_law_begin" (top 62), mkD "_law_draw" (top 63), mkD "_law_of" (top 64), mkD "_law_heard" (top 65), mkD "_law_all" (top 66), mkD "_law_full_right" (top 67), mkD "_law_strange_right" (top 68), mkD "law" (top 69), mkM "BadRequirement" "__init__" "BadRequirement.__init__" (clsMeth (top 3) 0)]
def hfa : List He.Fa := [.glo ("number_at" : Str), .glo ("numbers_at" : Str), .glo ("word_at" : Str), .glo ("tail_at" : Str), .glo ("parts_of" : Str), .glo ("based" : Str), .glo ("tail_of" : Str), .glo ("split_tail" : Str), .glo ("key_from" : Str), .glo ("key_of" : Str), .glo ("numbers_of" : Str), .glo ("following_key" : Str), .glo ("is_plain" : Str), .glo ("need_key" : Str), .glo ("need_version" : Str), .glo ("is_small" : Str), .glo ("is_clause" : Str), .glo ("need_requirement" : Str), .glo ("numbers_cuts" : Str), .glo ("block_cuts" : Str), .glo ("outside" : Str), .glo ("bounded_spans" : Str), .glo ("clause_spans" : Str), .glo ("lesser_end" : Str), .glo ("meet" : Str), .glo ("spans_of" : Str), .glo ("has_key" : Str), .glo ("need_rows" : Str), .glo ("joined" : Str), .glo ("core_of" : Str), .glo ("is_open" : Str), .glo ("core" : Str), .glo ("bars" : Str), .glo ("_law_mixed" : Str), .glo ("_law_begin" : Str), .glo ("_law_draw" : Str), .glo ("_law_of" : Str), .glo ("_law_heard" : Str), .glo ("_law_all" : Str), .glo ("_law_full_right" : Str), .glo ("_law_strange_right" : Str), .glo ("law" : Str), .free ("any" : Str), .free ("enumerate" : Str), .free ("int" : Str), .free ("isinstance" : Str), .free ("len" : Str), .free ("list" : Str), .free ("max" : Str), .free ("min" : Str), .free ("range" : Str), .free ("repr" : Str), .free ("str" : Str), .free ("tuple" : Str)]
def hex (K : PySem.W.Frag) : Bool := conB K "AFTER_ALL" (.tuple [(.int 4)]) && (conB K "DEV" (.str ".dev") && (conB K "FIGURES" (.str "0123456789") && (conB K "FIRST" (.tuple [(.int 0), (.int 0)]) && (conB K "LEAST" (.tuple [(.int 0), (.tuple []), (.tuple [(.int 0), (.int 0)])]) && (conB K "MOST_CLAUSES" (.int 12) && (conB K "MOST_FIGURES" (.int 24) && (conB K "MOST_NUMBER" (.int 1000000000) && (conB K "MOST_NUMBERS_requirements" (.int 8) && (conB K "MOST_NUMBERS_versions" (.int 60) && (conB K "MOST_ROWS" (.int 12) && (conB K "POST" (.str ".post") && (gtB K "SIGNS" ["==", "!=", "<=", ">=", "<", ">", "~="] && (conB K "STAR" (.str ".*") && (gtB K "WORDS" ["a", "b", "rc"] && (xfsB K [("PickError" : Str), ("BadVersion" : Str), ("BadRequirement" : Str), ("BadReleases" : Str), ("BadText" : Str), ("BadQuestion" : Str)] && (xtB K [("PickError" : Str), ("BadVersion" : Str), ("BadRequirement" : Str), ("BadReleases" : Str), ("BadText" : Str), ("BadQuestion" : Str)] ([.ref (He.ga K "PickError"), .ref (He.ga K "Missing")]) && (digB K && (xmB K [("PickError" : Str), ("BadVersion" : Str), ("BadRequirement" : Str), ("BadReleases" : Str), ("BadText" : Str), ("BadQuestion" : Str)] "Missing" && (x0B K "BadQuestion" && (x0B K "BadVersion" && (x1B K "BadRequirement" && (tabB K [("has_key" : Str), ("core_of" : Str), ("bars" : Str), ("_law_all" : Str)] && (true)))))))))))))))))))))))
abbrev hR : PySem.W.OpenRow := PySem.W.OpenLaw.row PySem.Challenge.rw_pickedrelease_k46_rows_refused
def htf : List He.Defn := ([("has_key" : Str), ("core_of" : Str), ("bars" : Str), ("_law_all" : Str)] : List Str).map fun x => (x, none)
abbrev hk : PySem.W.Hook := hookL (2, [("PickError" : Str), ("BadVersion" : Str), ("BadRequirement" : Str), ("BadReleases" : Str), ("BadText" : Str), ("BadQuestion" : Str), ("Missing" : Str), ("LEAST" : Str)]) hfa hfn [] htf hex
def hob (s : PySem.W.SharedT) : He.AlX := obsL (2, [("PickError" : Str), ("BadVersion" : Str), ("BadRequirement" : Str), ("BadReleases" : Str), ("BadText" : Str), ("BadQuestion" : Str), ("Missing" : Str), ("LEAST" : Str)]) hfa hfn [] htf hex (HandSHeadRun.getT s)
theorem hob_eq (s : PySem.W.SharedT) : hob s = hk.obs s.abs := obsL_eq (HandSHeadRun.getT_eq s)
def hloose : List Str := [("PickError" : Str), ("BadVersion" : Str), ("BadRequirement" : Str), ("BadReleases" : Str), ("BadText" : Str), ("BadQuestion" : Str), ("Missing" : Str), ("FIGURES" : Str), ("MOST_FIGURES" : Str), ("MOST_NUMBERS_versions" : Str), ("WORDS" : Str), ("POST" : Str), ("DEV" : Str), ("number_at" : Str), ("numbers_at" : Str), ("word_at" : Str), ("tail_at" : Str), ("parts_of" : Str), ("based" : Str), ("tail_of" : Str), ("split_tail" : Str), ("key_from" : Str), ("key_of" : Str), ("numbers_of" : Str), ("following_key" : Str), ("is_plain" : Str), ("need_key" : Str), ("need_version" : Str), ("MOST_CLAUSES" : Str), ("SIGNS" : Str), ("STAR" : Str), ("MOST_NUMBERS_requirements" : Str), ("MOST_NUMBER" : Str), ("is_small" : Str), ("is_clause" : Str), ("need_requirement" : Str), ("FIRST" : Str), ("AFTER_ALL" : Str), ("LEAST" : Str), ("numbers_cuts" : Str), ("block_cuts" : Str), ("outside" : Str), ("bounded_spans" : Str), ("clause_spans" : Str), ("lesser_end" : Str), ("meet" : Str), ("spans_of" : Str), ("has_key" : Str), ("MOST_ROWS" : Str), ("need_rows" : Str), ("joined" : Str), ("core_of" : Str), ("is_open" : Str), ("core" : Str), ("bars" : Str), ("_law_mixed" : Str), ("_law_begin" : Str), ("_law_draw" : Str), ("_law_of" : Str), ("_law_heard" : Str), ("_law_all" : Str), ("_law_full_right" : Str), ("_law_strange_right" : Str)]
end Dn
namespace Dn
open PySem PySem.W PySem.Calls PyProof.Rows HandSHeadRun
theorem hrA (w : World) (os : OsState) : (endF (stepQ (denQ tabQ) hR.prog w) 40000 hR.prog w os).map (fun s => looksF hR.prog (boot_heap w.params) s.abs) = some true := by
  kernel_rfl
theorem hrB (w : World) (os : OsState) : (endF (stepQ (denQ tabQ) hR.prog w) 40000 hR.prog w os).map (fun s => seenQ (PySem.W.view hR.prog [69, 66]) hloose (importedModules hR.prog.main.body) (fun s => xlAt (PySem.W.view hR.prog [69, 66]) [] s && recOk hR.toRowW.records s) s.abs) = some (openGood (PySem.W.view hR.prog [69, 66]) hloose) := by
  kernel_rfl
theorem hrC (w : World) (os : OsState) : (endF (stepQ (denQ tabQ) hR.prog w) 40000 hR.prog w os).map (fun s => hob s) = some (hk.val w) := by
  kernel_rfl
theorem map3 {α β γ δ : Type} {o : Option α} {f : α → β} {g : α → γ} {h : α → δ} {a : β} {b : γ} {c : δ} (h1 : o.map f = some a) (h2 : o.map g = some b) (h3 : o.map h = some c) : o.map (fun s => (f s, g s, h s)) = some (a, b, c) := by
  cases o with
  | none => cases h1
  | some s =>
    rw [Option.map_some, Option.some.injEq] at h1 h2 h3
    rw [Option.map_some, h1, h2, h3]
theorem hrun (w : World) : HandSHeadRun.RunEq hR (PySem.W.view hR.prog [69, 66]) hk hob 40000 hloose w := fun os => map3 (hrA w os) (hrB w os) (hrC w os)
end Dn

set_option maxHeartbeats 4000000
namespace Dn
open PySem PySem.Spec PyProof.Rows L2
section
variable {X : Cx} {Wx : WX}
def mAddT (ma mb : Ex) : Ex := seqL ma fun x => seqL mb fun y env w => match x, y with
  | .tuple xs, .tuple ys => if xs.length + ys.length ≤ sizeLine then some (mkZ (.tuple (xs ++ ys)), env, w) else none
  | _, _ => none
theorem de_addT {a b : Expr} {pos : Pos} {ma mb : Ex} (ha : DE X a ma) (hb : DE X b mb) : DE X (.BinOp a .Add b pos) (mAddT ma mb) := PE.weak (pe_op op_catA ha hb) fun σ H Q ⟨C, G, env, w, r, env', w', R, hm, k⟩ => by
  obtain ⟨sx, x, e1, w1, h1, hx, hm⟩ := seqL_inv hm
  obtain ⟨sy, y, e2, w2, h2, hy, hm⟩ := seqL_inv hm
  refine ⟨C, G, env, w, _, e1, w1, R, h1, fun v G1 H1 R1 s1 i1 a1 => ?_⟩
  refine ⟨C, G1, e1, w1, _, _, _, R1, h2, fun u G2 H2 R2 s2 i2 a2 => ?_⟩
  have d1 := (sdOf_ok a1 hx).mono s2
  have d2 := sdOf_ok a2 hy
  split at hm
  · rename_i xs ys
    split at hm
    · rename_i hl
      cases hm
      obtain ⟨a, vs, rfl, hs, hv⟩ := d1.tuple
      obtain ⟨b, us, rfl, ht, hu⟩ := d2.tuple
      refine ⟨a, b, vs, us, rfl, rfl, Same.sqT R2.sub hs, Same.sqT R2.sub ht, by rw [dlA_len hv, dlA_len hu]; exact hl, fun e => ?_, fun _ e => ?_, fun _ _ p hp => ?_⟩
      · subst e
        cases hv
        exact k _ G2 H2 R2 (s1.trans s2) (i2.trans i1) (mkZ_ok (.tup ht hu))
      · subst e
        cases hu
        rw [List.append_nil] at k
        exact k _ G2 H2 R2 (s1.trans s2) (i2.trans i1) (mkZ_ok (.tup hs hv))
      · have ex : Ext G2 H2 (upd G2 p (.tup (vs ++ us))) (upd H2 p (.tup (vs ++ us))) := Ext.new R2.sub hp
        exact k _ _ _ (R2.ext ex) (s1.trans (s2.trans ex.gg)) (i2.trans i1) (mkZ_ok (.tup (SqT.of upd_same) ((dlA_app hv hu).mono ex.gg)))
    · cases hm
  · cases hm
/-- what never raises -/
theorem rs_no0 {s : Stmt} : RS X Wx s rNo := ⟨fun _ _ _ _ _ _ ⟨_, _, _, _, _, _, _, _, hm, _⟩ => by cases hm⟩
theorem rss_no0 {ss : List Stmt} : RSs X Wx ss rNo := ⟨fun _ _ _ _ _ _ ⟨_, _, _, _, _, _, _, _, hm, _⟩ => by cases hm⟩
theorem rs_forL {vs : List Nat} {s : Stmt} {m : Lx} {g : Gx} {b : Sx} {rb : Rx} (h : PS X s (tFor (iL X.K m) (gL X.K vs g) (fun D σ H => tRs X.K X.mg Wx rb D σ H ∨ tS X.K b D σ H))) : RS X Wx s (rFor m g b rb) := PS.weak h fun D σ H ⟨C, G, env, w, x, env', w', R, hm, k⟩ => by
  unfold rFor at hm
  split at hm
  · rename_i ds e1 w1 h1
    refine ⟨C, G, env, w, _, _, _, R, h1, fun J G1 H1 R1 s1 i1 it => ?_⟩
    refine ⟨fun i m σ2 H2 => m = ds.length - i ∧ i ≤ ds.length ∧ ∃ G2 env2 w2, Rel X.K C env2 w2 σ2 G2 H2 ∧ Same G1 G2 ∧ w2.isSome = w1.isSome ∧ rLoop g b rb (ds.drop i) env2 w2 = some (x, env', w'), ⟨ds.length, by simp, Nat.zero_le _, G1, e1, w1, R1, Same.refl G1, rfl, by simpa using hm⟩, ?_⟩
    rintro i m σ2 H2 ⟨rfl, hi, G2, env2, w2, R2, s2, i2, h2⟩
    by_cases hlt : i < ds.length
    · refine .inr ⟨it.go i G2 H2 hlt s2 R2.sub, fun σ3 H3 => ∃ G2 env2 w2, Rel X.K C env2 w2 σ3 G2 H3 ∧ Same G1 G2 ∧ w2.isSome = w1.isSome ∧ rLoop g b rb (ds.drop (i + 1)) env2 w2 = some (x, env', w'),
        fun σ' H' q => ⟨ds.length - (i + 1), by omega, rfl, hlt, q⟩, fun y H' yl => ?_⟩
      obtain ⟨d, G3, hd, ex, dp⟩ := it.yld i G2 H2 y H' hlt s2 R2.sub yl
      have hdrop : ds.drop i = d :: ds.drop (i + 1) := by
        rw [List.drop_eq_getElem_cons hlt]
        rw [List.getElem?_eq_getElem hlt] at hd
        cases hd
        rfl
      rw [hdrop] at h2
      simp only [rLoop] at h2
      split at h2
      · rename_i e3 h3
        refine ⟨C, G3, env2, w2, d, e3, R2.ext ex, dp, h3, fun σ4 R4 _ => ?_⟩
        split at h2
        · rename_i z h5
          cases h2
          exact .inl ⟨C, G3, e3, w2, _, _, _, R4, h5, fun cls dd σ6 G6 H6 R6 s6 i6 xa => k cls dd σ6 G6 H6 R6 (s1.trans (s2.trans (ex.gg.trans s6))) (i6.trans (i2.trans i1)) xa⟩
        · split at h2
          · rename_i e5 w5 h5
            exact .inr ⟨C, G3, e3, w2, _, _, _, R4, h5, fun σ6 G6 H6 R6 s6 i6 => ⟨G6, e5, w5, R6, s2.trans (ex.gg.trans s6), i6.trans i2, h2⟩⟩
          · rename_i e5 w5 h5
            exact .inr ⟨C, G3, e3, w2, _, _, _, R4, h5, fun σ6 G6 H6 R6 s6 i6 => ⟨G6, e5, w5, R6, s2.trans (ex.gg.trans s6), i6.trans i2, h2⟩⟩
          · cases h2
      · cases h2
    · have e : i = ds.length := by omega
      rw [e, List.drop_length] at h2
      cases h2
  · cases hm
end
end Dn

set_option maxHeartbeats 4000000
namespace PySem
open PySem.Spec PyProof.Rows
/-- a list grows by what any tuple has in it -/
theorem grow_by_tuple (l b : Addr) (xs ys : Array Value) (n k : Nat) (d : Option Addr) (sl : Array (Option Value)) (h0 : ¬(!xs.isEmpty && Builtin.List.listTooLong (xs.size + ys.size)) = true) (h1 : xs.size + ys.size ≤ sizeLine) :
    Meets (Builtin.«list.extend» ⟨[.ref l, .ref b], []⟩) (fun _ R s => s.heap.get? l = some { cls := .type "list", dict := none, data := .seq xs n, slots := #[] } ∧ s.heap.get? b = some { cls := .type "tuple", dict := d, data := .seq ys k, slots := sl } ∧ R (.ok (.ret Value.none)) { s with heap := s.heap.update l (Obj.mapSeq fun x => x ++ ys), toks := s.toks }) := by
  refine .of_wp fun prog w A R s hyp => ?_
  obtain ⟨hl, hb, goal⟩ := hyp
  obtain ⟨hp, g, dd, tk, os⟩ := s
  have t1 := sub_tuple_tuple
  have t2 := sub_list_list
  have t3 := sub_tuple_list
  have t4 := sub_list_tuple
  have small : (xs ++ ys).size ≤ sizeLine + 1 := by rw [Array.size_append]; omega
  have small0 : xs.size ≤ sizeLine := by omega
  wp_walk using (wpAny_updateSeq hl rfl (hz := small0) (_hz' := small)), wpAny_loadPart' hl, wpAny_loadPart' hb
  exact ⟨_, rfl, goal⟩
end PySem
namespace Dn
open PySem PySem.Spec PyProof.Rows L2
def rExtT (K : PySem.W.Frag) : V → List V → Hp → VK → Prop := fun x vs H Q => ∃ l b xs zs, x = .ref l ∧ vs = [.ref b] ∧ H l = some (.lst xs) ∧ SqT K H b zs ∧ xs.length + zs.length ≤ sizeLine ∧ Q .non (upd H l (.lst (xs ++ zs)))
theorem mt_extT {X : Cx} : MtM X "list.extend" (rExtT X.K) := by
  intro pins s σ H x vs v us Q I rx rv h
  obtain ⟨l, b, xs, zs, rfl, rfl, hH, hB, hz, q⟩ := h
  cases rx
  obtain ⟨u, rfl, ru⟩ := rv.one
  cases ru
  obtain ⟨z, its, n, r, hl, e⟩ := I.lstM hH
  obtain ⟨its2, r2, ⟨o, e2, oc, n2, od⟩, _⟩ := I.tuple hB
  obtain ⟨c, d, dat, sl⟩ := o
  simp only at oc od
  subst oc od
  have hl2 := r2.length
  have hsz : its.toArray.size + its2.toArray.size ≤ sizeLine := by rw [List.size_toArray, List.size_toArray]; omega
  refine call_meets F.slot_list_extend ⟨_, e, rfl⟩ F.entry_list_extend (F.args_list_extend_2 _ _) (grow_by_tuple l b its.toArray its2.toArray n n2 d sl (by rw [notLongL hsz, Bool.and_false]; exact Bool.false_ne_true) hsz) ⟨e, e2, ?_⟩
  refine ⟨.non, _, I.lset (its' := its ++ its2) hH e (by simp) (r.append r2) ?_, rfl, q⟩
  rw [List.length_append]
  omega
def mExtendT (i : Nat) (m : Ex) : Sx := fun env w => match env[i]? with
  | some (some (.own _)) => seqE m (fun y e1 w1 => match y, e1[i]? with
    | .tuple ys, some (some (.own xs)) => if xs.length + ys.length ≤ sizeLine then some (.nx, e1.set i (some (.own (xs ++ ys))), w1) else none
    | _, _ => none) env w
  | _ => none
theorem ds_extendT {X : Cx} {s : Stmt} {i : Nat} {m : Ex} (h : PS X s (tDrop (tBM X.K "list" (rExtT X.K) (tVar i) (tCons (tD X.K m) tNil)))) : DSt X s (mExtendT i m) := PS.weak h fun D σ H ⟨C, G, env, w, fl, env', w', R, hm, k⟩ => by
  unfold mExtendT at hm
  split at hm
  · rename_i xs0 h0
    obtain ⟨y, e1, w1, h1, hm⟩ := seqE_inv hm
    split at hm
    · rename_i ys xs h2
      split at hm
      · rename_i hl
        cases hm
        obtain ⟨v, q1, a, vs, rfl, ha, hd, hg, hz⟩ := R.slot i _ h0
        refine ⟨_, q1, .inl ⟨rfl, vs, SqL.of ha⟩, C, G, env, w, _, _, _, R, h1, fun u G1 H1 R1 s1 i1 a1 => ?_⟩
        obtain ⟨v, p1, a', vs', rfl, ha', hd', hg', hz'⟩ := R1.slot i _ h2
        rw [q1] at p1
        cases p1
        cases a1 with
        | @tup b us es hb hd2 =>
          refine ⟨a, b, vs', us, rfl, rfl, ha', Same.sqT R1.sub hb, by rw [dpA_len hd', dpA_len hd2]; exact hl, ?_⟩
          exact k σ G1 _ (R1.chg h2 q1 (dpA_app hd' hd2)) s1 i1
      · cases hm
    · cases hm
  · cases hm
end Dn

set_option maxHeartbeats 4000000
namespace Dn
open PySem PySem.Spec PyProof.Rows L2
instance : ∀ i j, Decidable (CMulW i j) := fun i j => by unfold CMulW; infer_instance
def mulW : PyData → PyData → Option PyData := int2 fun i j => if CMulW i j then some (.int (i * j)) else none
theorem od_mulW {X : Cx} : OpD X (binaryOp .Mult) mulW := opD_int op_mulW fun _ _ _ => .int _
end Dn

set_option maxHeartbeats 4000000
namespace Dn
open PySem PySem.Spec PyProof.Rows L2
noncomputable section
def b__law_of : Sx :=
 (mRet (mOp ixD (mVar 1) (mCall m__law_draw (mCons (mVar 0) (mCons (mB lenD (mCons (mVar 1) mNil)) mNil)))))
def m__law_of : List SD → W → Option (SD × W) := mFn 2 2 b__law_of
end
end Dn

set_option maxHeartbeats 4000000
namespace Dn
open PySem PySem.Spec PyProof.Rows L2
noncomputable section
end
end Dn

set_option maxHeartbeats 4000000
namespace Dn
open PySem PySem.Spec PyProof.Rows L2
noncomputable section
end
end Dn

set_option maxHeartbeats 4000000
namespace Dn
open PySem PySem.Spec PyProof.Rows L2
noncomputable section
def m0__law_heard : Sx :=
 (mSeq (mIf (mTru (mIsNn 1)) (mRet (mVar 2)) mNx) mStopS)
def mX__law_heard (a : Addr) (d : Option Addr) (xc : Xc) : Sx :=
 (mSeq (mIf (mTru (mIsNn 1)) (mRet (mVar 2)) mNx)
 (mSeq (mSet 4 (mFz (mLst (mCons (mIsX a d xc.place 1 (subX xc.cls "BadVersion")) (mCons (mIsX a d xc.place 1 (subX xc.cls "BadQuestion")) (mCons (mIsX a d xc.place 1 (subX xc.cls "BadText")) mNil))))))
 (mSeq (mSet 4 (mOp addD (mVar 4) (mFz (mLst (mCons (mIsX a d xc.place 1 (subX xc.cls "BadRequirement")) (mCons (mIsX a d xc.place 1 (subX xc.cls "BadReleases")) (mCons (mIsX a d xc.place 1 false) mNil)))))))
 (mSeq (mSet 5 (mFz (mLst (mCons (mC (.str "version")) (mCons (mC (.str "question")) (mCons (mC (.str "text")) (mCons (mC (.str "requirement")) (mCons (mC (.str "releases")) (mCons (mC (.str "missing")) mNil)))))))))
 (mSeq (mIf (mTru (mOp neD (mCntB true (mVar 4)) (mC (.int 1)))) (mRet (mC (.str "other"))) mNx)
 (mSeq (mSet 6 (mIdxB true (mVar 4)))
 (mSeq (mIf (mTru (mOp ltD (mVar 6) (mC (.int 2)))) (mRet (mOp ixD (mVar 5) (mVar 6))) mNx)
 (mRet (mTup (mCons (mOp ixD (mVar 5) (mVar 6)) (mCons (mIf (mTru (mOp eqD (mVar 6) (mC (.int 5)))) mStop (mPlX a d xc.place 1)) mNil)))))))))))
noncomputable def f__law_heard : LR → Option PyData := resOf3 m0__law_heard mX__law_heard (okIn [("PickError" : Str), ("BadVersion" : Str), ("BadRequirement" : Str), ("BadReleases" : Str), ("BadText" : Str), ("BadQuestion" : Str)]) 7 2 1
end
end Dn

set_option maxHeartbeats 4000000
namespace Dn
open PySem PySem.Spec PyProof.Rows L2
noncomputable section
def cW1_number_at : Tx :=
 (mAnd (mTru (mOp neD (mSl (mVar 0) (mPart (mVar 2)) (mPart (mOp addD (mVar 2) (mC (.int 1))))) (mC (.str "")))) (mTru (mOp inD (mOp ixD (mVar 0) (mVar 2)) (mC (.str "0123456789")))))
def bW2_number_at : Sx :=
 (mAug addI 2 (mC (.int 1)))
def b_number_at : Sx :=
 (mSeq (mSet 2 (mVar 1))
 (mSeq (mWhile cW1_number_at bW2_number_at fuel)
 (mSeq (mSet 3 (mSl (mVar 0) (mPart (mVar 1)) (mPart (mVar 2))))
 (mSeq (mIf (mOr (mTru (mOp eqD (mVar 3) (mC (.str "")))) (mOr (mTru (mOp gtI (mB lenD (mCons (mVar 3) mNil)) (mC (.int 24)))) (mAnd (mTru (mOp eqD (mOp ixD (mVar 3) (mC (.int 0))) (mC (.str "0")))) (mTru (mOp neD (mVar 3) (mC (.str "0"))))))) (mRet (mC .none)) mNx)
 (mRet (mTup (mCons (mB intD (mCons (mVar 3) mNil)) (mCons (mVar 2) mNil))))))))
def m_number_at : List SD → W → Option (SD × W) := mFn 2 4 b_number_at
def cW1_numbers_at : Tx :=
 (mTru (mC (.bool true)))
def bW2_numbers_at : Sx :=
 (mSeq (mSet 4 (mCall m_number_at (mCons (mVar 0) (mCons (mVar 3) mNil))))
 (mSeq (mIf (mTru (mOp isD (mVar 4) (mC .none))) (mRet (mC .none)) mNx)
 (mSeq (mAppend 2 (mOp ixD (mVar 4) (mC (.int 0))))
 (mSeq (mSet 3 (mOp ixD (mVar 4) (mC (.int 1))))
 (mSeq (mIf (mOr (mTru (mOp neD (mSl (mVar 0) (mPart (mVar 3)) (mPart (mOp addD (mVar 3) (mC (.int 1))))) (mC (.str ".")))) (mTru (mOp notInD (mSl (mVar 0) (mPart (mOp addD (mVar 3) (mC (.int 1)))) (mPart (mOp addD (mVar 3) (mC (.int 2))))) (mB tupStrD (mCons (mC (.str "0123456789")) mNil))))) (mRet (mIf (mTru (mOp leI (mPkLen 2) (mC (.int 60)))) (mTup (mCons (mB tupleD (mCons (mVar 2) mNil)) (mCons (mVar 3) mNil))) (mC .none))) mNx)
 (mAug addI 3 (mC (.int 1))))))))
def b_numbers_at : Sx :=
 (mSeq (mParO 2 3 (mLst mNil) (mVar 1))
 (mWhile cW1_numbers_at bW2_numbers_at fuel))
def m_numbers_at : List SD → W → Option (SD × W) := mFn 2 5 b_numbers_at
def bF1_word_at : Sx :=
 (mIf (mTru (mMtS starts2D (mVar 0) (mCons (mVar 3) (mCons (mVar 1) mNil)))) (mSeq (mSet 4 (mCall m_number_at (mCons (mVar 0) (mCons (mOp addD (mVar 1) (mB lenD (mCons (mVar 3) mNil))) mNil))))
 (mRet (mIf (mTru (mOp isD (mVar 4) (mC .none))) (mC .none) (mTup (mCons (mTup (mCons (mVar 3) (mCons (mOp ixD (mVar 4) (mC (.int 0))) mNil))) (mCons (mOp ixD (mVar 4) (mC (.int 1))) mNil)))))) mNx)
def b_word_at : Sx :=
 (mSeq (mFor (mItems (mVar 2)) (mgName 3) bF1_word_at)
 (mRet (mTup (mCons (mC .none) (mCons (mVar 1) mNil)))))
def m_word_at : List SD → W → Option (SD × W) := mFn 3 5 b_word_at
def bF1_tail_at : Sx :=
 (mSeq (mSet 5 (mCall m_word_at (mCons (mVar 0) (mCons (mVar 3) (mCons (mVar 4) mNil)))))
 (mSeq (mIf (mTru (mOp isD (mVar 5) (mC .none))) (mRet (mC .none)) mNx)
 (mSeq (mAppend 2 (mOp ixD (mVar 5) (mC (.int 0))))
 (mSet 3 (mOp ixD (mVar 5) (mC (.int 1)))))))
def b_tail_at : Sx :=
 (mSeq (mParO 2 3 (mLst mNil) (mVar 1))
 (mSeq (mFor (mItems (mTup (mCons (mC (.tuple ((["a", "b", "rc"] : List Str).map .str))) (mCons (mTup (mCons (mC (.str ".post")) mNil)) (mCons (mTup (mCons (mC (.str ".dev")) mNil)) mNil))))) (mgName 4) bF1_tail_at)
 (mSeq (mIf (mTru (mOp neD (mVar 3) (mB lenD (mCons (mVar 0) mNil)))) (mRet (mC .none)) mNx)
 (mSeq (mAsg (mVar 2) (mgUnl 3 (mgCons (mgName 6) (mgCons (mgName 7) (mgCons (mgName 8) mgNil)))))
 (mRet (mTup (mCons (mVar 6) (mCons (mIf (mTru (mOp isD (mVar 7) (mC .none))) (mC .none) (mOp ixD (mVar 7) (mC (.int 1)))) (mCons (mIf (mTru (mOp isD (mVar 8) (mC .none))) (mC .none) (mOp ixD (mVar 8) (mC (.int 1)))) mNil)))))))))
def m_tail_at : List SD → W → Option (SD × W) := mFn 2 9 b_tail_at
def b_parts_of : Sx :=
 (mSeq (mIf (mNot (mTru (mIs isStr (mVar 0)))) (mRet (mC .none)) mNx)
 (mSeq (mAsg (mTup (mCons (mC (.int 0)) (mCons (mC (.int 0)) mNil))) (mgTup 2 (mgCons (mgName 1) (mgCons (mgName 2) mgNil))))
 (mSeq (mIf (mTru (mOp inD (mC (.str "!")) (mVar 0))) (mSeq (mSet 3 (mCall m_number_at (mCons (mVar 0) (mCons (mC (.int 0)) mNil))))
 (mSeq (mIf (mOr (mTru (mOp isD (mVar 3) (mC .none))) (mTru (mOp neD (mOp ixD (mVar 0) (mOp ixD (mVar 3) (mC (.int 1)))) (mC (.str "!"))))) (mRet (mC .none)) mNx)
 (mPar 1 2 (mOp ixD (mVar 3) (mC (.int 0))) (mOp addD (mOp ixD (mVar 3) (mC (.int 1))) (mC (.int 1)))))) mNx)
 (mSeq (mSet 4 (mCall m_numbers_at (mCons (mVar 0) (mCons (mVar 2) mNil))))
 (mSeq (mIf (mTru (mOp isD (mVar 4) (mC .none))) (mRet (mC .none)) mNx)
 (mSeq (mSet 5 (mCall m_tail_at (mCons (mVar 0) (mCons (mOp ixD (mVar 4) (mC (.int 1))) mNil))))
 (mRet (mIf (mTru (mOp isD (mVar 5) (mC .none))) (mC .none) (mTup (mCons (mVar 1) (mCons (mOp ixD (mVar 4) (mC (.int 0))) (mStar (mVar 5) mNil))))))))))))
def m_parts_of : List SD → W → Option (SD × W) := mFn 1 6 b_parts_of
def cW1_based : Tx :=
 (mAnd (mTru (mOp gtI (mVar 1) (mC (.int 0)))) (mTru (mOp eqD (mOp ixD (mVar 0) (mOp subI (mVar 1) (mC (.int 1)))) (mC (.int 0)))))
def bW2_based : Sx :=
 (mAug subI 1 (mC (.int 1)))
def b_based : Sx :=
 (mSeq (mSet 1 (mB lenD (mCons (mVar 0) mNil)))
 (mSeq (mWhile cW1_based bW2_based fuel)
 (mRet (mSl (mVar 0) mNo (mPart (mVar 1))))))
def m_based : List SD → W → Option (SD × W) := mFn 1 2 b_based
def b_tail_of : Sx :=
 (mSeq (mSet 3 (mIf (mTru (mOp isD (mVar 2) (mC .none))) (mTup (mCons (mC (.int 1)) mNil)) (mTup (mCons (mC (.int 0)) (mCons (mVar 2) mNil)))))
 (mSeq (mIf (mTru (mOp isNotD (mVar 0) (mC .none))) (mSeq (mSet 4 (mTup (mCons (mC (.int 1)) (mCons (mB (idxD ["a", "b", "rc"]) (mCons (mOp ixD (mVar 0) (mC (.int 0))) mNil)) (mCons (mOp ixD (mVar 0) (mC (.int 1))) mNil)))))
 (mRet (mIf (mTru (mOp isD (mVar 1) (mC .none))) (mOp addD (mVar 4) (mVar 3)) (mOp addD (mOp addD (mVar 4) (mTup (mCons (mC (.int 2)) (mCons (mVar 1) mNil)))) (mVar 3))))) mNx)
 (mSeq (mIf (mTru (mOp isNotD (mVar 1) (mC .none))) (mRet (mOp addD (mTup (mCons (mC (.int 3)) (mCons (mVar 1) mNil))) (mVar 3))) mNx)
 (mRet (mIf (mTru (mOp isD (mVar 2) (mC .none))) (mTup (mCons (mC (.int 2)) mNil)) (mVar 3))))))
def m_tail_of : List SD → W → Option (SD × W) := mFn 3 5 b_tail_of
def b_split_tail : Sx :=
 (mSeq (mPar3 1 2 3 (mC .none) (mC .none) (mVar 0))
 (mSeq (mIf (mTru (mOp eqD (mVar 0) (mTup (mCons (mC (.int 2)) mNil)))) (mRet (mTup (mCons (mC .none) (mCons (mC .none) (mCons (mC .none) mNil))))) mNx)
 (mSeq (mIf (mTru (mOp eqD (mOp ixD (mVar 0) (mC (.int 0))) (mC (.int 1)))) (mPar 1 3 (mTup (mCons (mOp ixD (mC (.tuple ((["a", "b", "rc"] : List Str).map .str))) (mOp ixD (mVar 0) (mC (.int 1)))) (mCons (mOp ixD (mVar 0) (mC (.int 2))) mNil))) (mSl (mVar 0) (mPart (mC (.int 3))) mNo)) mNx)
 (mSeq (mIf (mTru (mOp inD (mOp ixD (mVar 3) (mC (.int 0))) (mTup (mCons (mC (.int 2)) (mCons (mC (.int 3)) mNil))))) (mPar 2 3 (mOp ixD (mVar 3) (mC (.int 1))) (mSl (mVar 3) (mPart (mC (.int 2))) mNo)) mNx)
 (mRet (mTup (mCons (mVar 1) (mCons (mVar 2) (mCons (mIf (mTru (mOp eqD (mOp ixD (mVar 3) (mC (.int 0))) (mC (.int 1)))) (mC .none) (mOp ixD (mVar 3) (mC (.int 1)))) mNil)))))))))
def m_split_tail : List SD → W → Option (SD × W) := mFn 1 4 b_split_tail
def b_key_from : Sx :=
 (mSeq (mAsg (mVar 0) (mgTup 5 (mgCons (mgName 1) (mgCons (mgName 2) (mgCons (mgName 3) (mgCons (mgName 4) (mgCons (mgName 5) mgNil)))))))
 (mRet (mTup (mCons (mVar 1) (mCons (mCall m_based (mCons (mVar 2) mNil)) (mCons (mCall m_tail_of (mCons (mVar 3) (mCons (mVar 4) (mCons (mVar 5) mNil)))) mNil))))))
def m_key_from : List SD → W → Option (SD × W) := mFn 1 6 b_key_from
def b_following_key : Sx :=
 (mSeq (mAsg (mVar 0) (mgTup 3 (mgCons (mgName 1) (mgCons (mgName 2) (mgCons (mgName 3) mgNil)))))
 (mSeq (mAsg (mCall m_split_tail (mCons (mVar 3) mNil)) (mgTup 3 (mgCons (mgName 4) (mgCons (mgName 5) (mgCons (mgName 6) mgNil)))))
 (mSeq (mIf (mTru (mOp isNotD (mVar 6) (mC .none))) (mRet (mTup (mCons (mVar 1) (mCons (mVar 2) (mCons (mCall m_tail_of (mCons (mVar 4) (mCons (mVar 5) (mCons (mOp addD (mVar 6) (mC (.int 1))) mNil)))) mNil))))) mNx)
 (mRet (mTup (mCons (mVar 1) (mCons (mVar 2) (mCons (mCall m_tail_of (mCons (mVar 4) (mCons (mIf (mTru (mOp isD (mVar 5) (mC .none))) (mC (.int 0)) (mOp addD (mVar 5) (mC (.int 1)))) (mCons (mC (.int 0)) mNil)))) mNil))))))))
def m_following_key : List SD → W → Option (SD × W) := mFn 1 7 b_following_key
def b_need_key : Sx :=
 (mSeq (mSet 1 (mCall m_parts_of (mCons (mVar 0) mNil)))
 (mSeq (mIf (mTru (mOp isD (mVar 1) (mC .none))) mFail mNx)
 (mRet (mCall m_key_from (mCons (mVar 1) mNil)))))
def m_need_key : List SD → W → Option (SD × W) := mFn 1 2 b_need_key
def b_need_version : Sx :=
 (mSeq (mDrop (mCall m_need_key (mCons (mVar 0) mNil)))
 (mRet (mVar 0)))
def m_need_version : List SD → W → Option (SD × W) := mFn 1 1 b_need_version
def b_key_of : Sx :=
 (mRet (mCall m_key_from (mCons (mCall m_parts_of (mCons (mVar 0) mNil)) mNil)))
def m_key_of : List SD → W → Option (SD × W) := mFn 1 1 b_key_of
def b_is_plain : Sx :=
 (mRet (mOp eqD (mSl (mVar 0) (mPart (mC (.int 2))) mNo) (mTup (mCons (mC .none) (mCons (mC .none) (mCons (mC .none) mNil))))))
def m_is_plain : List SD → W → Option (SD × W) := mFn 1 1 b_is_plain
def b_numbers_of : Sx :=
 (mSeq (mSet 1 (mCall m_parts_of (mCons (mVar 0) mNil)))
 (mRet (mTup (mCons (mOp ixD (mVar 1) (mC (.int 0))) (mCons (mOp ixD (mVar 1) (mC (.int 1))) mNil)))))
def m_numbers_of : List SD → W → Option (SD × W) := mFn 1 2 b_numbers_of
end
end Dn

set_option maxHeartbeats 4000000
namespace Dn
open PySem PySem.Spec PyProof.Rows L2
noncomputable section
def b_is_small : Sx :=
 (mSeq (mAsg (mVar 0) (mgTup 5 (mgCons (mgName 1) (mgCons (mgName 2) (mgCons (mgName 3) (mgCons (mgName 4) (mgCons (mgName 5) mgNil)))))))
 (mSeq (mSet 6 (mFz (mLst (mCons (mVar 1) (mStar (mVar 2) (mCons (mIf (mTru (mOp isD (mVar 3) (mC .none))) (mC (.int 0)) (mOp ixD (mVar 3) (mC (.int 1)))) (mCons (mIf (mTru (mOp isD (mVar 4) (mC .none))) (mC (.int 0)) (mVar 4)) (mCons (mIf (mTru (mOp isD (mVar 5) (mC .none))) (mC (.int 0)) (mVar 5)) mNil))))))))
 (mRet (mAndV (mOp leI (mB lenD (mCons (mVar 2) mNil)) (mC (.int 8))) (mOp leI (mB maxLE (mCons (mVar 6) mNil)) (mC (.int 1000000000)))))))
def m_is_small : List SD → W → Option (SD × W) := mFn 1 7 b_is_small
def b_is_clause : Sx :=
 (mSeq (mIf (mOr (mNot (mTru (mIs isTup (mVar 0)))) (mTru (mOp neD (mB lenD (mCons (mVar 0) mNil)) (mC (.int 2))))) (mRet (mC (.bool false))) mNx)
 (mSeq (mAsg (mVar 0) (mgTup 2 (mgCons (mgName 1) (mgCons (mgName 2) mgNil))))
 (mSeq (mIf (mOr (mNot (mTru (mIs isStr (mVar 1)))) (mOr (mTru (mOp notInD (mVar 1) (mC (.tuple ((["==", "!=", "<=", ">=", "<", ">", "~="] : List Str).map .str))))) (mNot (mTru (mIs isStr (mVar 2)))))) (mRet (mC (.bool false))) mNx)
 (mSeq (mSet 3 (mAndV (mOp inD (mVar 1) (mTup (mCons (mC (.str "==")) (mCons (mC (.str "!=")) mNil)))) (mMtS endsD (mVar 2) (mCons (mC (.str ".*")) mNil))))
 (mSeq (mSet 4 (mCall m_parts_of (mCons (mIf (mTru (mVar 3)) (mSl (mVar 2) mNo (mPart (mNeg (mB lenD (mCons (mC (.str ".*")) mNil))))) (mVar 2)) mNil)))
 (mSeq (mIf (mOr (mTru (mOp isD (mVar 4) (mC .none))) (mNot (mTru (mCall m_is_small (mCons (mVar 4) mNil))))) (mRet (mC (.bool false))) mNx)
 (mSeq (mIf (mOr (mTru (mVar 3)) (mTru (mOp inD (mVar 1) (mTup (mCons (mC (.str "<")) (mCons (mC (.str ">")) mNil)))))) (mRet (mCall m_is_plain (mCons (mVar 4) mNil))) mNx)
 (mRet (mOrV (mOp neD (mVar 1) (mC (.str "~="))) (mOp gtI (mB lenD (mCons (mOp ixD (mVar 4) (mC (.int 1))) mNil)) (mC (.int 1))))))))))))
def m_is_clause : List SD → W → Option (SD × W) := mFn 1 5 b_is_clause
def bF1_need_requirement : Sx :=
 (mIf (mNot (mTru (mCall m_is_clause (mCons (mVar 2) mNil)))) mFail mNx)
def b_need_requirement : Sx :=
 (mSeq (mIf (mOr (mNot (mTru (mIs isTup (mVar 0)))) (mTru (mOp gtI (mB lenD (mCons (mVar 0) mNil)) (mC (.int 12))))) mFail mNx)
 (mSeq (mFor (mEnum (mCons (mVar 0) mNil)) (mgTup 2 (mgCons (mgName 1) (mgCons (mgName 2) mgNil))) bF1_need_requirement)
 (mRet (mVar 0))))
def m_need_requirement : List SD → W → Option (SD × W) := mFn 1 3 b_need_requirement
end
end Dn

set_option maxHeartbeats 4000000
namespace Dn
open PySem PySem.Spec PyProof.Rows L2
noncomputable section
def b_numbers_cuts : Sx :=
 (mSeq (mSet 2 (mOp addD (mSl (mVar 1) mNo (mPart (mNeg (mC (.int 1))))) (mTup (mCons (mOp addD (mOp ixD (mVar 1) (mNeg (mC (.int 1)))) (mC (.int 1))) mNil))))
 (mRet (mTup (mCons (mTup (mCons (mVar 0) (mCons (mCall m_based (mCons (mVar 1) mNil)) (mCons (mC (.tuple [(.int 0), (.int 0)])) mNil)))) (mCons (mTup (mCons (mVar 0) (mCons (mCall m_based (mCons (mVar 2) mNil)) (mCons (mC (.tuple [(.int 0), (.int 0)])) mNil)))) mNil)))))
def m_numbers_cuts : List SD → W → Option (SD × W) := mFn 2 3 b_numbers_cuts
def b_block_cuts : Sx :=
 (mSeq (mAsg (mCall m_numbers_of (mCons (mSl (mVar 0) mNo (mPart (mNeg (mB lenD (mCons (mC (.str ".*")) mNil))))) mNil)) (mgTup 2 (mgCons (mgName 1) (mgCons (mgName 2) mgNil))))
 (mRet (mCall m_numbers_cuts (mCons (mVar 1) (mCons (mVar 2) mNil)))))
def m_block_cuts : List SD → W → Option (SD × W) := mFn 1 3 b_block_cuts
def b_outside : Sx :=
 (mSeq (mSet 2 (mIf (mTru (mOp ltD (mC (.tuple [(.int 0), (.tuple []), (.tuple [(.int 0), (.int 0)])])) (mVar 0))) (mFz (mLst (mCons (mTup (mCons (mC (.tuple [(.int 0), (.tuple []), (.tuple [(.int 0), (.int 0)])])) (mCons (mVar 0) mNil))) mNil))) (mFz (mLst mNil))))
 (mRet (mOp addD (mVar 2) (mFz (mLst (mCons (mTup (mCons (mVar 1) (mCons (mC .none) mNil))) mNil))))))
def m_outside : List SD → W → Option (SD × W) := mFn 2 3 b_outside
def b_bounded_spans : Sx :=
 (mSeq (mAsg (mVar 1) (mgTup 3 (mgCons (mgName 2) (mgCons (mgName 3) (mgCons (mgName 4) mgNil)))))
 (mSeq (mIf (mTru (mOp eqD (mVar 0) (mC (.str ">")))) (mRet (mFz (mLst (mCons (mTup (mCons (mTup (mCons (mVar 2) (mCons (mVar 3) (mCons (mC (.tuple [(.int 4)])) mNil)))) (mCons (mC .none) mNil))) mNil)))) mNx)
 (mRet (mIf (mTru (mOp ltD (mC (.tuple [(.int 0), (.tuple []), (.tuple [(.int 0), (.int 0)])])) (mTup (mCons (mVar 2) (mCons (mVar 3) (mCons (mC (.tuple [(.int 0), (.int 0)])) mNil)))))) (mFz (mLst (mCons (mTup (mCons (mC (.tuple [(.int 0), (.tuple []), (.tuple [(.int 0), (.int 0)])])) (mCons (mTup (mCons (mVar 2) (mCons (mVar 3) (mCons (mC (.tuple [(.int 0), (.int 0)])) mNil)))) mNil))) mNil))) (mFz (mLst mNil))))))
def m_bounded_spans : List SD → W → Option (SD × W) := mFn 2 5 b_bounded_spans
def b_clause_spans : Sx :=
 (mSeq (mAsg (mVar 0) (mgTup 2 (mgCons (mgName 1) (mgCons (mgName 2) mgNil))))
 (mSeq (mIf (mTru (mMtS endsD (mVar 2) (mCons (mC (.str ".*")) mNil))) (mSeq (mAsg (mCall m_block_cuts (mCons (mVar 2) mNil)) (mgTup 2 (mgCons (mgName 3) (mgCons (mgName 4) mgNil))))
 (mRet (mIf (mTru (mOp eqD (mVar 1) (mC (.str "==")))) (mFz (mLst (mCons (mTup (mCons (mVar 3) (mCons (mVar 4) mNil))) mNil))) (mCall m_outside (mCons (mVar 3) (mCons (mVar 4) mNil)))))) mNx)
 (mSeq (mSet 5 (mCall m_key_of (mCons (mVar 2) mNil)))
 (mSeq (mIf (mTru (mOp inD (mVar 1) (mTup (mCons (mC (.str "<")) (mCons (mC (.str ">")) mNil))))) (mRet (mCall m_bounded_spans (mCons (mVar 1) (mCons (mVar 5) mNil)))) mNx)
 (mSeq (mIf (mTru (mOp eqD (mVar 1) (mC (.str ">=")))) (mRet (mFz (mLst (mCons (mTup (mCons (mVar 5) (mCons (mC .none) mNil))) mNil)))) mNx)
 (mSeq (mIf (mTru (mOp eqD (mVar 1) (mC (.str "~=")))) (mSeq (mAsg (mCall m_numbers_of (mCons (mVar 2) mNil)) (mgTup 2 (mgCons (mgName 6) (mgCons (mgName 7) mgNil))))
 (mRet (mFz (mLst (mCons (mTup (mCons (mVar 5) (mCons (mOp ixD (mCall m_numbers_cuts (mCons (mVar 6) (mCons (mSl (mVar 7) mNo (mPart (mNeg (mC (.int 1))))) mNil))) (mC (.int 1))) mNil))) mNil))))) mNx)
 (mSeq (mSet 8 (mCall m_following_key (mCons (mVar 5) mNil)))
 (mSeq (mIf (mTru (mOp eqD (mVar 1) (mC (.str "!=")))) (mRet (mCall m_outside (mCons (mVar 5) (mCons (mVar 8) mNil)))) mNx)
 (mRet (mFz (mLst (mCons (mTup (mCons (mIf (mTru (mOp eqD (mVar 1) (mC (.str "==")))) (mVar 5) (mC (.tuple [(.int 0), (.tuple []), (.tuple [(.int 0), (.int 0)])]))) (mCons (mVar 8) mNil))) mNil))))))))))))
def m_clause_spans : List SD → W → Option (SD × W) := mFn 1 9 b_clause_spans
def b_lesser_end : Sx :=
 (mSeq (mIf (mOr (mTru (mOp isD (mVar 0) (mC .none))) (mTru (mOp isD (mVar 1) (mC .none)))) (mRet (mIf (mTru (mOp isD (mVar 0) (mC .none))) (mVar 1) (mVar 0))) mNx)
 (mRet (mB min2E (mCons (mVar 0) (mCons (mVar 1) mNil)))))
def m_lesser_end : List SD → W → Option (SD × W) := mFn 2 2 b_lesser_end
def bF1_meet : Sx :=
 (mSeq (mPar 7 8 (mB max2E (mCons (mVar 3) (mCons (mVar 5) mNil))) (mCall m_lesser_end (mCons (mVar 4) (mCons (mVar 6) mNil))))
 (mIf (mOr (mTru (mOp isD (mVar 8) (mC .none))) (mTru (mOp ltD (mVar 7) (mVar 8)))) (mAppend 2 (mTup (mCons (mVar 7) (mCons (mVar 8) mNil)))) mNx))
def bF2_meet : Sx :=
 (mFor (mItems (mVar 1)) (mgTup 2 (mgCons (mgName 5) (mgCons (mgName 6) mgNil))) bF1_meet)
def b_meet : Sx :=
 (mSeq (mSetO 2 (mLst mNil))
 (mSeq (mFor (mItems (mVar 0)) (mgTup 2 (mgCons (mgName 3) (mgCons (mgName 4) mgNil))) bF2_meet)
 (mRet (mVar 2))))
def m_meet : List SD → W → Option (SD × W) := mFn 2 9 b_meet
def bF1_spans_of : Sx :=
 (mSet 1 (mCall m_meet (mCons (mVar 1) (mCons (mCall m_clause_spans (mCons (mVar 2) mNil)) mNil))))
def b_spans_of : Sx :=
 (mSeq (mSet 1 (mFz (mLst (mCons (mTup (mCons (mC (.tuple [(.int 0), (.tuple []), (.tuple [(.int 0), (.int 0)])])) (mCons (mC .none) mNil))) mNil))))
 (mSeq (mFor (mItems (mVar 0)) (mgName 2) bF1_spans_of)
 (mRet (mVar 1))))
def m_spans_of : List SD → W → Option (SD × W) := mFn 1 3 b_spans_of
def eC1_has_key : Ex :=
 (mAndV (mOp leD (mVar 2) (mVar 1)) (mOrV (mOp isD (mVar 3) (mC .none)) (mOp ltD (mVar 1) (mVar 3))))
def b_has_key : Sx :=
 (mRet (mB anyD (mCons (mFz (mLc (mItems (mVar 0)) (mgTup 2 (mgCons (mgName 2) (mgCons (mgName 3) mgNil))) mYes eC1_has_key [2, 3])) mNil)))
def m_has_key : List SD → W → Option (SD × W) := mFn 2 4 b_has_key
end
end Dn

set_option maxHeartbeats 4000000
namespace Dn
open PySem PySem.Spec PyProof.Rows L2
noncomputable section
def bF1_need_rows : Sx :=
 (mDrop (mCall m_need_requirement (mCons (mVar 1) mNil)))
def b_need_rows : Sx :=
 (mSeq (mIf (mOr (mNot (mTru (mIs isTup (mVar 0)))) (mTru (mOp gtI (mB lenD (mCons (mVar 0) mNil)) (mC (.int 12))))) mFail mNx)
 (mSeq (mFor (mItems (mVar 0)) (mgName 1) bF1_need_rows)
 (mRet (mVar 0))))
def m_need_rows : List SD → W → Option (SD × W) := mFn 1 2 b_need_rows
def bF1_joined : Sx :=
 (mExtendT 1 (mVar 2))
def b_joined : Sx :=
 (mSeq (mSetO 1 (mLst mNil))
 (mSeq (mFor (mItems (mVar 0)) (mgName 2) bF1_joined)
 (mRet (mB tupleD (mCons (mVar 1) mNil)))))
def m_joined : List SD → W → Option (SD × W) := mFn 1 3 b_joined
def tC1_core_of : Tx :=
 (mTru (mOp neD (mVar 4) (mVar 2)))
def eC2_core_of : Ex :=
 (mOp ixD (mVar 0) (mVar 4))
def bF3_core_of : Sx :=
 (mSeq (mSet 3 (mFz (mLc (mItems (mVar 1)) (mgName 4) tC1_core_of (mVar 4) [4])))
 (mIf (mTru (mOp eqD (mCall m_spans_of (mCons (mCall m_joined (mCons (mFz (mLc (mItems (mVar 3)) (mgName 4) mYes eC2_core_of [4])) mNil)) mNil)) (mFz (mLst mNil)))) (mSet 1 (mVar 3)) mNx))
def b_core_of : Sx :=
 (mSeq (mIf (mTru (mOp neD (mCall m_spans_of (mCons (mCall m_joined (mCons (mVar 0) mNil)) mNil)) (mFz (mLst mNil)))) (mRet (mC .none)) mNx)
 (mSeq (mSet 1 (mFz (mLRng (mB lenD (mCons (mVar 0) mNil)))))
 (mSeq (mFor (mRng rng1D (mCons (mB lenD (mCons (mVar 0) mNil)) mNil)) (mgName 2) bF3_core_of)
 (mRet (mVar 1)))))
def m_core_of : List SD → W → Option (SD × W) := mFn 1 5 b_core_of
def b_is_open : Sx :=
 (mRet (mOp neD (mCall m_spans_of (mCons (mCall m_joined (mCons (mCall m_need_rows (mCons (mVar 0) mNil)) mNil)) mNil)) (mFz (mLst mNil))))
def m_is_open : List SD → W → Option (SD × W) := mFn 1 1 b_is_open
def b_core : Sx :=
 (mSeq (mSet 1 (mCall m_core_of (mCons (mCall m_need_rows (mCons (mVar 0) mNil)) mNil)))
 (mRet (mIf (mTru (mOp isD (mVar 1) (mC .none))) (mC .none) (mB tupleD (mCons (mVar 1) mNil)))))
def m_core : List SD → W → Option (SD × W) := mFn 1 2 b_core
def tC1_bars : Tx :=
 (mNot (mTru (mCall m_has_key (mCons (mCall m_spans_of (mCons (mVar 4) mNil)) (mCons (mVar 2) mNil)))))
def b_bars : Sx :=
 (mSeq (mDrop (mCall m_need_rows (mCons (mVar 0) mNil)))
 (mSeq (mSet 2 (mCall m_key_of (mCons (mCall m_need_version (mCons (mVar 1) mNil)) mNil)))
 (mRet (mB tupleD (mCons (mFz (mLc (mEnum (mCons (mVar 0) mNil)) (mgTup 2 (mgCons (mgName 3) (mgCons (mgName 4) mgNil))) tC1_bars (mVar 3) [3, 4])) mNil)))))
def m_bars : List SD → W → Option (SD × W) := mFn 2 5 b_bars
end
end Dn

set_option maxHeartbeats 4000000
namespace Dn
open PySem PySem.Spec PyProof.Rows L2
noncomputable section
end
end Dn

set_option maxHeartbeats 4000000
namespace Dn
open PySem PySem.Spec PyProof.Rows L2
noncomputable section
end
end Dn

set_option maxHeartbeats 4000000
namespace Dn
open PySem PySem.Spec PyProof.Rows L2
noncomputable section
end
end Dn

set_option maxHeartbeats 4000000
namespace Dn
open PySem PySem.Spec PyProof.Rows L2
noncomputable section
end
end Dn

set_option maxHeartbeats 4000000
namespace Dn
open PySem PySem.Spec PyProof.Rows L2
noncomputable section
end
end Dn

set_option maxHeartbeats 4000000
namespace Dn
open PySem PySem.Spec PyProof.Rows L2
noncomputable section
end
end Dn

set_option maxHeartbeats 4000000
namespace Dn
open PySem PySem.Spec PyProof.Rows L2
noncomputable section
def rb_need_key : Rx :=
 (rSeq (mSet 1 (mCall m_parts_of (mCons (mVar 0) mNil))) rNo
 (rSeq (mIf (mTru (mOp isD (mVar 1) (mC .none))) mFail mNx) (rIf (mTru (mOp isD (mVar 1) (mC .none))) (rRaise0 "BadVersion") rNo)
 rNo))
def r_need_key : List SD → W → Option (Xc × W) := rFn 1 2 rb_need_key
def rb_need_version : Rx :=
 (rSeq (mDrop (mCall m_need_key (mCons (mVar 0) mNil))) (rCall r_need_key (mCons (mVar 0) mNil))
 rNo)
def r_need_version : List SD → W → Option (Xc × W) := rFn 1 1 rb_need_version
def rbF1_need_requirement : Sx :=
 (mIf (mNot (mTru (mCall m_is_clause (mCons (mVar 2) mNil)))) mFail mNx)
def rbF2_need_requirement : Sx :=
 (mIf (mNot (mTru (mCall m_is_clause (mCons (mVar 2) mNil)))) mFail mNx)
def rb_need_requirement : Rx :=
 (rSeq (mIf (mOr (mNot (mTru (mIsL isTup (mVar 0)))) (mTru (mOp gtI (mB lenD (mCons (mVar 0) mNil)) (mC (.int 12))))) mFail mNx) (rIf (mOr (mNot (mTru (mIsL isTup (mVar 0)))) (mTru (mOp gtI (mB lenD (mCons (mVar 0) mNil)) (mC (.int 12))))) (rRaise1 "BadRequirement" (mTup mNil)) rNo)
 (rSeq (mFor (mEnum (mCons (mVar 0) mNil)) (mgTup 2 (mgCons (mgName 1) (mgCons (mgName 2) mgNil))) rbF1_need_requirement) (rFor (mEnum (mCons (mVar 0) mNil)) (mgTup 2 (mgCons (mgName 1) (mgCons (mgName 2) mgNil))) rbF2_need_requirement (rIf (mNot (mTru (mCall m_is_clause (mCons (mVar 2) mNil)))) (rRaise1 "BadRequirement" (mTup (mCons (mVar 1) mNil))) rNo))
 rNo))
def r_need_requirement : List SD → W → Option (Xc × W) := rFn 1 3 rb_need_requirement
def rbF1_need_rows : Sx :=
 (mDrop (mCall m_need_requirement (mCons (mVar 1) mNil)))
def rbF2_need_rows : Sx :=
 (mDrop (mCall m_need_requirement (mCons (mVar 1) mNil)))
def rb_need_rows : Rx :=
 (rSeq (mIf (mOr (mNot (mTru (mIsL isTup (mVar 0)))) (mTru (mOp gtI (mLenL (mVar 0)) (mC (.int 12))))) mFail mNx) (rIf (mOr (mNot (mTru (mIsL isTup (mVar 0)))) (mTru (mOp gtI (mLenL (mVar 0)) (mC (.int 12))))) (rRaise0 "BadQuestion") rNo)
 (rSeq (mFor (mItemsL (mVar 0)) (mgNameL 1) rbF1_need_rows) (rFor (mItemsL (mVar 0)) (mgNameL 1) rbF2_need_rows (rCall r_need_requirement (mCons (mVar 1) mNil)))
 rNo))
def r_need_rows : List SD → W → Option (Xc × W) := rFn 1 2 rb_need_rows
def rb_is_open : Rx :=
 (rThen (rThen (rThen (rCall r_need_rows (mCons (mVar 0) mNil)) (mCall m_need_rows (mCons (mVar 0) mNil)) rNo) (mCall m_joined (mCons (mCall m_need_rows (mCons (mVar 0) mNil)) mNil)) rNo) (mCall m_spans_of (mCons (mCall m_joined (mCons (mCall m_need_rows (mCons (mVar 0) mNil)) mNil)) mNil)) rNo)
def r_is_open : List SD → W → Option (Xc × W) := rFn 1 1 rb_is_open
def rb_core : Rx :=
 (rSeq (mSet 1 (mCall m_core_of (mCons (mCall m_need_rows (mCons (mVar 0) mNil)) mNil))) (rThen (rCall r_need_rows (mCons (mVar 0) mNil)) (mCall m_need_rows (mCons (mVar 0) mNil)) rNo)
 rNo)
def r_core : List SD → W → Option (Xc × W) := rFn 1 2 rb_core
def rb_bars : Rx :=
 (rSeq (mDrop (mCall m_need_rows (mCons (mVar 0) mNil))) (rCall r_need_rows (mCons (mVar 0) mNil))
 (rSeq (mSet 2 (mCall m_key_of (mCons (mCall m_need_version (mCons (mVar 1) mNil)) mNil))) (rThen (rCall r_need_version (mCons (mVar 1) mNil)) (mCall m_need_version (mCons (mVar 1) mNil)) rNo)
 rNo))
def r_bars : List SD → W → Option (Xc × W) := rFn 2 5 rb_bars
end
end Dn

set_option maxHeartbeats 4000000
namespace Dn
open PySem PySem.Spec PyProof.Rows L2
noncomputable section
def b__law_ofZ : Sx :=
 (mRet (mIxL (mVar 1) (mCall m__law_draw (mCons (mVar 0) (mCons (mLenL (mVar 1)) mNil)))))
def m__law_ofZ : List SD → W → Option (SD × W) := mFn 2 2 b__law_ofZ
def b__law_all_k46 : Sx :=
 (mSeq (mSet 2 (mFz (mLst (mCons (mLam (mCall m_is_open (mCons (mVar 0) mNil)) (rCall r_is_open (mCons (mVar 0) mNil)) f__law_heard) (mCons (mLam (mCall m_core (mCons (mVar 0) mNil)) (rCall r_core (mCons (mVar 0) mNil)) f__law_heard) mNil)))))
 (mRet (mOp addD (mVar 2) (mFz (mLst (mCons (mLam (mCall m_bars (mCons (mVar 0) (mCons (mVar 1) mNil))) (rCall r_bars (mCons (mVar 0) (mCons (mVar 1) mNil))) f__law_heard) mNil))))))
def m__law_all_k46 : List SD → W → Option (SD × W) := mFn 2 3 b__law_all_k46
def eC1__law_full_right : Ex :=
 (mTup (mCons (mC (.str "!=")) (mCons (mOp addD (mB strD (mCons (mOp addD (mOp mulD (mC (.int 12)) (mVar 2)) (mVar 3)) mNil)) (mC (.str ".*"))) mNil)))
def eC2__law_full_right : Ex :=
 (mB tupleD (mCons (mFz (mLc (mRng rng1D (mCons (mC (.int 12)) mNil)) (mgName 3) mYes eC1__law_full_right [3])) mNil))
def b__law_full_right : Sx :=
 (mSeq (mSet 0 (mFz (mLc (mRng rng1D (mCons (mC (.int 12)) mNil)) (mgName 2) mYes eC2__law_full_right [2])))
 (mSeq (mSet 1 (mB tupleD (mCons (mOp addD (mSl (mVar 0) mNo (mPart (mC (.int 11)))) (mFz (mLst (mCons (mOp addD (mSl (mOp ixD (mVar 0) (mC (.int 11))) mNo (mPart (mC (.int 11)))) (mTup (mCons (mTup (mCons (mC (.str "<")) (mCons (mC (.str "143")) mNil))) mNil))) mNil)))) mNil)))
 (mSeq (mIf (mOr (mTru (mOp isNotD (mCall m_is_open (mCons (mVar 1) mNil)) (mC (.bool false)))) (mOr (mTru (mOp neD (mCall m_core (mCons (mVar 1) mNil)) (mTRng (mC (.int 12))))) (mTru (mOp neD (mCall m_bars (mCons (mVar 1) (mCons (mC (.str "7.5")) mNil))) (mTup (mCons (mC (.int 0)) mNil)))))) (mRet (mC (.bool false))) mNx)
 (mRet (mAndV (mOp isD (mCall m_is_open (mCons (mOp addD (mSl (mVar 1) mNo (mPart (mC (.int 11)))) (mTup (mCons (mSl (mOp ixD (mVar 0) (mC (.int 11))) mNo (mPart (mC (.int 11)))) mNil))) mNil)) (mC (.bool true))) (mOp eqD (mCall m_bars (mCons (mVar 1) (mCons (mC (.str "143")) mNil))) (mTup (mCons (mC (.int 11)) mNil))))))))
def m__law_full_right : List SD → W → Option (SD × W) := mFn 0 4 b__law_full_right
def bF1__law_strange_right_k46 : Sx :=
 (mSet 0 (mTup (mCons (mVar 0) mNil)))
def eC2__law_strange_right_k46 : Ex :=
 (mOp ixD (mCall m__law_all_k46 (mCons (mTup mNil) (mCons (mVar 3) mNil))) (mC (.int 2)))
def b__law_strange_right_k46 : Sx :=
 (mSeq (mPar 0 1 (mTup mNil) (mOp mulW (mB intN (mCons (mOp mulB (mC (.str "9")) (mC (.int 4000))) mNil)) (mB intN (mCons (mOp mulB (mC (.str "9")) (mC (.int 4000))) mNil))))
 (mSeq (mFor (mRng rng1D (mCons (mC (.int 2000)) mNil)) (mgName 2) bF1__law_strange_right_k46)
 (mSeq (mIf (mOr (mTru (mOp neD (mCall m__law_all_k46 (mCons (mVar 1) (mCons (mC (.str "1")) mNil))) (mOp mulD (mFz (mLst (mCons (mC (.str "question")) mNil))) (mC (.int 3))))) (mTru (mOp neD (mCall m__law_all_k46 (mCons (mTup (mCons (mTup mNil) (mCons (mVar 1) mNil))) (mCons (mC (.str "1")) mNil))) (mOp mulD (mFz (mLst (mCons (mTup (mCons (mC (.str "requirement")) (mCons (mTup mNil) mNil))) mNil))) (mC (.int 3)))))) (mRet (mC (.bool false))) mNx)
 (mSeq (mIf (mTru (mOp neD (mCall m__law_all_k46 (mCons (mVar 0) (mCons (mC (.str "1")) mNil))) (mOp mulD (mFz (mLst (mCons (mTup (mCons (mC (.str "requirement")) (mCons (mTup (mCons (mC (.int 0)) mNil)) mNil))) mNil))) (mC (.int 3))))) (mRet (mC (.bool false))) mNx)
 (mRet (mOp eqD (mFz (mLc (mItems (mTup (mCons (mVar 1) (mCons (mVar 0) mNil)))) (mgName 3) mYes eC2__law_strange_right_k46 [3])) (mOp mulD (mFz (mLst (mCons (mC (.str "version")) mNil))) (mC (.int 2)))))))))
def m__law_strange_right_k46 : List SD → W → Option (SD × W) := mFn 0 4 b__law_strange_right_k46
def bF1_law_k46 : Sx :=
 (mIf (mTru (mOp neD (mB reprD (mCons (mCall m__law_all_k46 (mCons (mAddT (mOp mulE (mTup (mCons (mVar 7) mNil)) (mVar 9)) (mTupL (mCons (mVar 10) (mCons (mC .none) mNil)))) (mCons (mVar 8) mNil))) mNil)) (mB reprD (mCons (mOp mulD (mLstL (mCons (mTupL (mCons (mC (.str "requirement")) (mCons (mVar 11) mNil))) mNil)) (mC (.int 3))) mNil)))) (mRet (mC (.bool false))) mNx)
def bF2_law_k46 : Sx :=
 (mSeq (mSet 3 (mCall m__law_ofZ (mCons (mVar 1) (mCons (mLstL (mCons (mC .none) (mCons (mC (.int 5)) (mCons (mC (.str "a")) (mCons (mFz (mLst mNil)) (mCons mDct (mCons (mFz (mLst (mCons (mTup mNil) mNil))) (mCons (mOp mulE (mTup (mCons (mTup mNil) mNil)) (mC (.int 13))) (mCons (mC (.bool true)) (mCons (mOp mulE (mTup (mCons (mC (.int 5)) mNil)) (mC (.int 13))) mNil)))))))))) mNil))))
 (mSeq (mSet 4 (mCall m__law_ofZ (mCons (mVar 1) (mCons (mLstL (mCons (mC .none) (mCons (mC (.int 5)) (mCons (mFz (mLst mNil)) (mCons (mC (.str "")) (mCons (mTup (mCons (mC .none) mNil)) (mCons (mTup (mCons (mC (.int 5)) mNil)) (mCons (mTup (mCons (mTup (mCons (mC (.str ">=")) mNil)) mNil)) (mCons (mTup (mCons (mTup (mCons (mC (.str ">=")) (mCons (mC (.str "1.0.*")) mNil))) mNil)) (mCons (mTup (mCons (mTup (mCons (mC (.str "~=")) (mCons (mC (.str "1")) mNil))) mNil)) (mCons mDct mNil))))))))))) mNil))))
 (mSeq (mSet 5 (mCall m__law_of (mCons (mVar 1) (mCons (mFz (mLst (mCons (mTup (mCons (mTup (mCons (mC (.str "<")) (mCons (mC (.str "1a1")) mNil))) mNil)) (mCons (mTup (mCons (mTup (mCons (mC (.str ">")) (mCons (mC (.str "1.dev0")) mNil))) mNil)) (mCons (mTup (mCons (mTup (mCons (mC (.str "=")) (mCons (mC (.str "1")) mNil))) mNil)) (mCons (mTup (mCons (mTup (mCons (mC (.str "==")) (mCons (mC (.str "01")) mNil))) mNil)) (mCons (mTup (mCons (mTup (mCons (mC (.str ">=")) (mCons (mC (.str "1.")) mNil))) mNil)) mNil))))))) mNil))))
 (mSeq (mSet 6 (mOp addD (mOp mulE (mTup (mCons (mTup (mCons (mC (.str "==")) (mCons (mC (.str "1")) mNil))) mNil)) (mCall m__law_draw (mCons (mVar 1) (mCons (mC (.int 3)) mNil)))) (mTup (mCons (mCall m__law_of (mCons (mVar 1) (mCons (mFz (mLst (mCons (mC (.int 5)) (mCons (mTup (mCons (mC (.str "==")) (mCons (mC (.str "1")) (mCons (mC (.str "2")) mNil)))) (mCons (mFz (mLst (mCons (mC (.str "==")) (mCons (mC (.str "1")) mNil)))) (mCons (mTup (mCons (mC (.str "!=")) (mCons (mC (.int 5)) mNil))) mNil)))))) mNil))) mNil))))
 (mSeq (mSet 7 (mTup (mCons (mTup (mCons (mC (.str ">=")) (mCons (mC (.str "1")) mNil))) (mCons (mTup (mCons (mC (.str "!=")) (mCons (mC (.str "1.4.*")) mNil))) mNil))))
 (mSeq (mSet 8 (mCall m__law_of (mCons (mVar 1) (mCons (mFz (mLst (mCons (mC .none) (mCons (mC (.int 5)) (mCons (mC (.str "")) (mCons (mC (.str "1.")) (mCons (mC (.str "v1")) (mCons (mC (.str "1.0.*")) (mCons (mC (.str "01")) (mCons (mFz (mLst mNil)) (mCons (mC (.str "1..2")) (mCons (mC (.str "1a")) (mCons (mC (.str "1.post")) (mCons (mC (.str "1!")) (mCons (mC (.bool true)) mNil))))))))))))))) mNil))))
 (mSeq (mIf (mOr (mTru (mOp neD (mCall m__law_all_k46 (mCons (mVar 3) (mCons (mVar 8) mNil))) (mOp mulD (mFz (mLst (mCons (mC (.str "question")) mNil))) (mC (.int 3))))) (mTru (mOp neD (mOp ixD (mCall m__law_all_k46 (mCons (mTup (mCons (mVar 7) (mCons (mVar 7) mNil))) (mCons (mVar 8) mNil))) (mC (.int 2))) (mC (.str "version"))))) (mRet (mC (.bool false))) mNx)
 (mSeq (mSet 9 (mCall m__law_draw (mCons (mVar 1) (mCons (mC (.int 5)) mNil))))
 (mSeq (mFor (mItemsL (mTupL (mCons (mTupL (mCons (mVar 4) (mCons (mIf (mNot (mTru (mIsL isTup (mVar 4)))) (mTup mNil) (mTup (mCons (mC (.int 0)) mNil))) mNil))) (mCons (mTup (mCons (mVar 5) (mCons (mTup (mCons (mC (.int 0)) mNil)) mNil))) (mCons (mTup (mCons (mVar 6) (mCons (mTup (mCons (mOp subI (mB lenD (mCons (mVar 6) mNil)) (mC (.int 1))) mNil)) mNil))) mNil))))) (mgTup 2 (mgCons (mgNameL 10) (mgCons (mgNameL 11) mgNil))) bF1_law_k46)
 (mSeq (mIf (mTru (mOp neD (mOp ixD (mCall m__law_all_k46 (mCons (mTup (mCons (mOp mulE (mTup (mCons (mTup (mCons (mC (.str "!=")) (mCons (mC (.str "1")) mNil))) mNil)) (mC (.int 13))) mNil)) (mCons (mC (.str "1")) mNil))) (mC (.int 0))) (mTup (mCons (mC (.str "requirement")) (mCons (mTup mNil) mNil))))) (mRet (mC (.bool false))) mNx)
 (mIf (mTru (mOp neD (mB reprD (mCons (mCall m__law_all_k46 (mCons (mOp mulE (mTup (mCons (mVar 7) mNil)) (mC (.int 12))) (mCons (mC (.str "1.4.2")) mNil))) mNil)) (mB reprD (mCons (mFz (mLst (mCons (mFz (mLst (mCons (mC (.bool true)) mNil))) (mCons (mFz (mLst (mCons (mC .none) mNil))) (mCons (mFz (mLst (mCons (mTRng (mC (.int 12))) mNil))) mNil))))) mNil)))) (mRet (mC (.bool false))) mNx)))))))))))
def b_law_k46 : Sx :=
 (mSeq (mIf (mOr (mNot (mTru (mCall m__law_full_right mNil))) (mNot (mTru (mCall m__law_strange_right_k46 mNil)))) (mRet (mC (.bool false))) mNx)
 (mSeq (mFor (mRng rng1D (mCons (mOp addD (mC (.int 2)) (mB min2D (mCons (mC (.int 6)) (mCons (mScrLen 0) mNil)))) mNil)) (mgName 2) bF2_law_k46)
 (mRet (mC (.bool true)))))
end
end Dn

set_option maxHeartbeats 4000000
namespace Dn
open PySem PySem.Spec PyProof.Rows L2 SX
open TL (numL)

def dig (c : Nat) : Bool := decide (48 ≤ c) && decide (c ≤ 57)
/-- short enough for all operations -/
abbrev Sh (l : List Nat) : Prop := l.length ≤ 100000
theorem sh_line {l : List Nat} (h : Sh l) : (S l).length ≤ sizeLine := by rw [S_len, sizeLine_eq]; unfold Sh at h; omega
theorem cutS_nat (l : List Nat) (a b : Nat) : cutS (S l) (some (a : Int)) (some (b : Int)) = S ((l.drop a).take (b - a)) := by
  unfold cutS
  rw [HT.sIx_nat, HT.sIx_nat, S_len]
  refine congrArg S ?_
  show (l.drop (min a l.length)).take (min b l.length - min a l.length) = _
  by_cases ha : a ≤ l.length
  · rw [Nat.min_eq_left ha]
    by_cases hb : b ≤ l.length
    · rw [Nat.min_eq_left hb]
    · rw [Nat.min_eq_right (by omega), List.take_of_length_le (by rw [List.length_drop]; omega), List.take_of_length_le (by rw [List.length_drop]; omega)]
  · rw [Nat.min_eq_right (a := a) (by omega), List.drop_eq_nil_of_le (Nat.le_refl _), List.drop_eq_nil_of_le (by omega)]
    simp
theorem slD_S {l : List Nat} (h : Sh l) (a b : Nat) : slD (.str (S l)) (some (a : Int)) (some (b : Int)) = some (.str (S ((l.drop a).take (b - a)))) := by
  unfold slD
  dsimp only
  rw [if_pos (sh_line h), cutS_nat]
theorem atI_nat {α : Type} (l : List α) (a : Nat) : atI l (a : Int) = l[a]? := by
  unfold atI ixN
  rw [if_pos (by omega)]
  split
  · rename_i h
    rw [Int.toNat_natCast]
    rfl
  · rename_i h
    exact (List.getElem?_eq_none_iff.mpr (by omega)).symm
theorem ixD_S {l : List Nat} (h : Sh l) {a c : Nat} (e : l[a]? = some c) : ixD (.str (S l)) (.int (a : Int)) = some (.str (S [c])) := by
  unfold ixD
  dsimp only
  rw [if_pos (sh_line h)]
  show (atI l (a : Int)).map _ = _
  rw [atI_nat, e]
  rfl
theorem eq_S (a b : List Nat) : PyData.eqv (.str (S a)) (.str (S b)) = decide (a = b) := by
  rw [PyData.eqv]
  exact S_beq_eq
theorem eqD_S (a b : List Nat) : eqD (.str (S a)) (.str (S b)) = some (.bool (decide (a = b))) := by
  unfold eqD
  rw [eq_S]
  rfl
theorem neD_S (a b : List Nat) : neD (.str (S a)) (.str (S b)) = some (.bool (!decide (a = b))) := by
  unfold neD
  rw [eq_S]
  rfl
theorem inD_one (c : Nat) (b : List Nat) : inD (.str (S [c])) (.str (S b)) = some (.bool (decide (c ∈ b))) := by
  unfold inD inS
  rw [Option.map_some, in_one]
theorem lenD_S {l : List Nat} (h : Sh l) : lenD [.str (S l)] = some (.int (l.length : Int)) := by
  unfold lenD
  dsimp only
  rw [if_pos (sh_line h), S_len]
theorem add_nat (a b : Nat) : addD (.int (a : Int)) (.int (b : Int)) = some (.int ((a + b : Nat) : Int)) := by
  unfold addD addI int2
  simp
theorem addI_nat (a b : Nat) : addI (.int (a : Int)) (.int (b : Int)) = some (.int ((a + b : Nat) : Int)) := by
  unfold addI int2
  simp
theorem addD1 (a : Nat) : addD (.int (a : Int)) (.int 1) = some (.int ((a + 1 : Nat) : Int)) := add_nat a 1
theorem addD2 (a : Nat) : addD (.int (a : Int)) (.int 2) = some (.int ((a + 2 : Nat) : Int)) := add_nat a 2
theorem addI1 (a : Nat) : addI (.int (a : Int)) (.int 1) = some (.int ((a + 1 : Nat) : Int)) := addI_nat a 1
theorem gtI_int (a b : Int) : gtI (.int a) (.int b) = some (.bool (decide (b < a))) := rfl
theorem leI_int (a b : Int) : leI (.int a) (.int b) = some (.bool (decide (a ≤ b))) := rfl
theorem ixS0 {c : Nat} {r : List Nat} (h : Sh (c :: r)) : ixD (.str (S (c :: r))) (.int 0) = some (.str (S [c])) := ixD_S h (a := 0) rfl
theorem intS {F : List Nat} (h : NumText.AllDigits F) (h1 : F ≠ []) (h2 : F.length ≤ 24) : intD [.str (S F)] = some (.int ((NumText.digitsVal F : Nat) : Int)) := by
  unfold intD
  dsimp only
  rw [PySem.intText_digits (x := S F) h h1 (by rw [S_len]; omega)]
  dsimp only
  rw [if_pos (by rw [S_len]; omega)]
theorem eqD_int (a b : Int) : eqD (.int a) (.int b) = some (.bool (decide (a = b))) := by
  unfold eqD PyData.eqv
  simp [dOk]
  rfl
theorem neD_int (a b : Int) : neD (.int a) (.int b) = some (.bool (!decide (a = b))) := by
  unfold neD PyData.eqv
  simp [dOk]
  rfl
theorem str0 : (("" : String) : Str) = S [] := by decide +kernel
theorem strN : (("0" : String) : Str) = S [48] := by decide +kernel
theorem strDot : (("." : String) : Str) = S [46] := by decide +kernel
theorem strBang : (("!" : String) : Str) = S [33] := by decide +kernel
theorem figs : (("0123456789" : String) : Str) = S [48, 49, 50, 51, 52, 53, 54, 55, 56, 57] := by decide +kernel
theorem mem_figs (c : Nat) : decide (c ∈ [48, 49, 50, 51, 52, 53, 54, 55, 56, 57]) = dig c := by
  unfold dig
  rw [← Bool.decide_and]
  refine decide_eq_decide.mpr ?_
  simp
  omega
theorem sub_self1 (a : Nat) : a + 1 - a = 1 := by omega

theorem while_go {c : Tx} {b : Sx} {n : Nat} {env : Ev} {w : W} {e1 : Ev} {w1 : W} {e2 : Ev} {w2 : W} (hc : c env w = some (true, e1, w1)) (hb : b e1 w1 = some (.nx, e2, w2)) : mWhile c b (n + 1) env w = mWhile c b n e2 w2 := by
  simp only [mWhile, hc, hb]
theorem while_end {c : Tx} {b : Sx} {n : Nat} {env : Ev} {w : W} {e1 : Ev} {w1 : W} (hc : c env w = some (false, e1, w1)) : mWhile c b (n + 1) env w = some (.nx, e1, w1) := by
  simp only [mWhile, hc]
theorem while_rt {c : Tx} {b : Sx} {n : Nat} {env : Ev} {w : W} {e1 : Ev} {w1 : W} {e2 : Ev} {w2 : W} {r : SD} (hc : c env w = some (true, e1, w1)) (hb : b e1 w1 = some (.rt r, e2, w2)) : mWhile c b (n + 1) env w = some (.rt r, e2, w2) := by
  simp only [mWhile, hc, hb]
theorem loop_go {g : Gx} {b : Sx} {d : PyData} {ds : List PyData} {env : Ev} {w : W} {e1 e2 : Ev} {w2 : W} (hg : g d env = some e1) (hb : b e1 w = some (.nx, e2, w2)) : mLoop g b (d :: ds) env w = mLoop g b ds e2 w2 := by
  simp only [mLoop, hg, hb]
theorem loop_rt {g : Gx} {b : Sx} {d : PyData} {ds : List PyData} {env : Ev} {w : W} {e1 e2 : Ev} {w2 : W} {r : SD} (hg : g d env = some e1) (hb : b e1 w = some (.rt r, e2, w2)) : mLoop g b (d :: ds) env w = some (.rt r, e2, w2) := by
  simp only [mLoop, hg, hb]
theorem loop_nil {g : Gx} {b : Sx} {env : Ev} {w : W} : mLoop g b [] env w = some (.nx, env, w) := rfl
theorem lc_nil {g : Gx} {tt : Tx} {me : Ex} {vs : List Nat} {acc : List PyData} {env : Ev} {w : W} : lcLoop g tt me vs [] acc env w = some (acc, env, w) := rfl
theorem lc_go {g : Gx} {tt : Tx} {me : Ex} {vs : List Nat} {d : PyData} {ds acc : List PyData} {env : Ev} {w : W} {e1 e2 e3 : Ev} {w2 w3 : W} {y : PyData} (hg : g d env = some e1) (ht : tt e1 w = some (true, e2, w2)) (hm : me e2 w2 = some (.d y, e3, w3)) :
    lcLoop g tt me vs (d :: ds) acc env w = lcLoop g tt me vs ds (acc ++ [y]) (wipeE e3 vs) w3 := by
  rw [lcLoop, hg]
  dsimp only
  rw [ht]
  dsimp only
  rw [hm]
theorem lc_skip {g : Gx} {tt : Tx} {me : Ex} {vs : List Nat} {d : PyData} {ds acc : List PyData} {env : Ev} {w : W} {e1 e2 : Ev} {w2 : W} (hg : g d env = some e1) (ht : tt e1 w = some (false, e2, w2)) :
    lcLoop g tt me vs (d :: ds) acc env w = lcLoop g tt me vs ds acc (wipeE e2 vs) w2 := by
  rw [lcLoop, hg]
  dsimp only
  rw [ht]
theorem fn_rt {n N : Nat} {b : Sx} {as : List SD} {w w' : W} {r : SD} {e' : Ev} (hn : as.length = n) (h : b (as.map some ++ List.replicate (N - as.length) none) w = some (.rt r, e', w')) : mFn n N b as w = some (r, w') := by
  unfold mFn
  rw [if_pos hn, h]
theorem seq_nx {a b : Sx} {env : Ev} {w : W} {e1 : Ev} {w1 : W} (h : a env w = some (.nx, e1, w1)) : mSeq a b env w = b e1 w1 := by
  unfold mSeq
  rw [h]
theorem seq_rt {a b : Sx} {env : Ev} {w : W} {e1 : Ev} {w1 : W} {r : SD} (h : a env w = some (.rt r, e1, w1)) : mSeq a b env w = some (.rt r, e1, w1) := by
  unfold mSeq
  rw [h]

theorem if_t {α : Type} {t : Tx} {a b : Ev → W → Option α} {env : Ev} {w : W} {e1 : Ev} {w1 : W} (h : t env w = some (true, e1, w1)) : mIf t a b env w = a e1 w1 := by
  simp only [mIf, h]
theorem if_f {α : Type} {t : Tx} {a b : Ev → W → Option α} {env : Ev} {w : W} {e1 : Ev} {w1 : W} (h : t env w = some (false, e1, w1)) : mIf t a b env w = b e1 w1 := by
  simp only [mIf, h]
theorem or_t {a b : Tx} {env : Ev} {w : W} {e1 : Ev} {w1 : W} (h : a env w = some (true, e1, w1)) : mOr a b env w = some (true, e1, w1) := by
  simp only [mOr, h]
theorem or_f {a b : Tx} {env : Ev} {w : W} {e1 : Ev} {w1 : W} (h : a env w = some (false, e1, w1)) : mOr a b env w = b e1 w1 := by
  simp only [mOr, h]
theorem ex_nx {a b : Sx} {env : Ev} {w : W} {e1 : Ev} {w1 w' : W} {r : Fl} (h : a env w = some (.nx, e1, w1)) (k : ∃ e, b e1 w1 = some (r, e, w')) : ∃ e, mSeq a b env w = some (r, e, w') := by
  obtain ⟨e, k⟩ := k
  exact ⟨e, (seq_nx h).trans k⟩
theorem ex_rt {a b : Sx} {env : Ev} {w : W} {e1 : Ev} {w1 : W} {r : SD} (h : a env w = some (.rt r, e1, w1)) : ∃ e, mSeq a b env w = some (.rt r, e, w1) := ⟨e1, seq_rt h⟩
theorem fn_ex {n N : Nat} {b : Sx} {as : List SD} {w w' : W} {r : SD} (hn : as.length = n) (h : ∃ e, b (as.map some ++ List.replicate (N - as.length) none) w = some (.rt r, e, w')) : mFn n N b as w = some (r, w') := by
  obtain ⟨e, h⟩ := h
  exact fn_rt hn h
theorem tup_ok {ms : Ax} {env e1 : Ev} {w w1 : W} {rs : List SD} {ds : List PyData} (h : ms env w = some (rs, e1, w1)) (hd : dsOf rs = some ds) (hl : ds.length ≤ 1000) : mTup ms env w = some (.d (.tuple ds), e1, w1) := by
  simp only [mTup, argsD, h, hd, tupD, hl, if_true, optE]
theorem cons_ok {a : Ex} {b : Ax} {env e1 e2 : Ev} {w w1 w2 : W} {r : SD} {rs : List SD} (h1 : a env w = some (r, e1, w1)) (h2 : b e1 w1 = some (rs, e2, w2)) : mCons a b env w = some (r :: rs, e2, w2) := by
  simp only [mCons, h1, h2]
theorem nil_ok {env : Ev} {w : W} : mNil env w = some ([], env, w) := rfl
theorem ret_ok {m : Ex} {env e1 : Ev} {w w1 : W} {r : SD} (h : m env w = some (r, e1, w1)) : mRet m env w = some (.rt r, e1, w1) := by
  simp only [mRet, h]
theorem ixT0 (x : PyData) (r : List PyData) : ixD (.tuple (x :: r)) (.int 0) = some x := atI_nat (x :: r) 0
theorem ixT1 (x y : PyData) (r : List PyData) : ixD (.tuple (x :: y :: r)) (.int 1) = some y := atI_nat (x :: y :: r) 1
theorem ixT2 (x y z : PyData) (r : List PyData) : ixD (.tuple (x :: y :: z :: r)) (.int 2) = some z := atI_nat (x :: y :: z :: r) 2
theorem ixL0 (x : PyData) (r : List PyData) : ixD (.list (x :: r)) (.int 0) = some x := atI_nat (x :: r) 0
theorem ixL1 (x y : PyData) (r : List PyData) : ixD (.list (x :: y :: r)) (.int 1) = some y := atI_nat (x :: y :: r) 1
theorem ixL2 (x y z : PyData) (r : List PyData) : ixD (.list (x :: y :: z :: r)) (.int 2) = some z := atI_nat (x :: y :: z :: r) 2
theorem isD_nn : isD .none .none = some (.bool true) := rfl
theorem isD_in (i : Int) : isD (.int i) .none = some (.bool false) := rfl
theorem isD_sn (i : Str) : isD (.str i) .none = some (.bool false) := rfl
theorem isD_tn (i : List PyData) : isD (.tuple i) .none = some (.bool false) := rfl
theorem isN_nn : isNotD .none .none = some (.bool false) := rfl
theorem isN_in (i : Int) : isNotD (.int i) .none = some (.bool true) := rfl
theorem isN_sn (i : Str) : isNotD (.str i) .none = some (.bool true) := rfl
theorem isN_tn (i : List PyData) : isNotD (.tuple i) .none = some (.bool true) := rfl
end Dn

set_option maxHeartbeats 4000000
namespace Dn
open PySem PySem.Spec PyProof.Rows L2 SX
open TL (numL)
def numR (r : List Nat) : Option (Nat × Nat) := if r.takeWhile dig = [] ∨ 24 < (r.takeWhile dig).length ∨ ((r.takeWhile dig).head? = some 48 ∧ r.takeWhile dig ≠ [48]) then none else some (NumText.digitsVal (r.takeWhile dig), (r.takeWhile dig).length)
def numD (a : Nat) (r : List Nat) : PyData := match numR r with
  | none => .none
  | some (n, k) => .tuple [.int (n : Int), .int ((a + k : Nat) : Int)]
theorem drop_at {l : List Nat} {b c : Nat} (e : l[b]? = some c) : l.drop b = c :: l.drop (b + 1) := by
  have hc : b < l.length := (List.getElem?_eq_some_iff.mp e).1
  rw [List.drop_eq_getElem_cons hc, (List.getElem?_eq_some_iff.mp e).2]
theorem cW_number {l : List Nat} (h : Sh l) (x : Option SD) (w : W) (b : Nat) : cW1_number_at [some (.d (.str (S l))), x, some (.d (.int (b : Int))), none] w =
    some (match l[b]? with | some c => dig c | none => false, [some (.d (.str (S l))), x, some (.d (.int (b : Int))), none], w) := by
  unfold cW1_number_at
  cases e : l[b]? with
  | none =>
    have e2 : l.drop b = [] := List.drop_eq_nil_of_le (List.getElem?_eq_none_iff.mp e)
    simp only [mSeq, mSet, mVar, mC, mOp, seqE, optE, mTru, mAnd, mOr, mNot, mIf, mBl, mNil, mCons, mCall, mTup, argsD, dsOf, tupD, mFz, mLst, mRet, mDrop, mNx, mBk, mCt, mFail, mItems, itemsD, mRng, mgName, mgNil, mgCons, mgTup, mAsg, mFor, mNo, mPart, mSl, mB, mSetO, mAppend, mPop, mPkOp, mPkIx, mPkLen, mScrLen, mYes, mPar, mPar3, mParO, mAug, mMtS, mIs, mStar, mFmt, mJs, mAndV, mOrV, mListO, mCatO, mgUnl, truD, pk, mEnum, mStep, stepD, List.getElem?_cons_zero, List.getElem?_cons_succ, List.set_cons_zero, List.set_cons_succ, List.length_cons, List.length_nil, Option.map_some, Option.map_none, List.map_cons, List.map_nil, List.cons_append, List.nil_append, List.replicate, Nat.zero_add, Nat.reduceAdd, Nat.reduceSub, Nat.reduceLeDiff, if_true, if_false, Bool.not_true, Bool.not_false, reduceCtorEq, reduceIte, decide_true, decide_false, Bool.false_eq_true, List.isEmpty_cons, List.isEmpty_nil, ixT0, ixT1, ixT2, ixL0, ixL1, ixL2, isD_nn, isD_in, isD_sn, isD_tn, isN_nn, isN_in, isN_sn, isN_tn, Int.cast_ofNat_Int, Int.reduceEq, Int.reduceLT, Int.reduceLE, Bool.and_false, Bool.and_true, Bool.true_and, Bool.false_and, Bool.or_false, Bool.or_true, Bool.true_or, Bool.false_or, slD_S h, addD1, str0, neD_S, sub_self1, e2, List.take_nil]
  | some c => simp only [mSeq, mSet, mVar, mC, mOp, seqE, optE, mTru, mAnd, mOr, mNot, mIf, mBl, mNil, mCons, mCall, mTup, argsD, dsOf, tupD, mFz, mLst, mRet, mDrop, mNx, mBk, mCt, mFail, mItems, itemsD, mRng, mgName, mgNil, mgCons, mgTup, mAsg, mFor, mNo, mPart, mSl, mB, mSetO, mAppend, mPop, mPkOp, mPkIx, mPkLen, mScrLen, mYes, mPar, mPar3, mParO, mAug, mMtS, mIs, mStar, mFmt, mJs, mAndV, mOrV, mListO, mCatO, mgUnl, truD, pk, mEnum, mStep, stepD, List.getElem?_cons_zero, List.getElem?_cons_succ, List.set_cons_zero, List.set_cons_succ, List.length_cons, List.length_nil, Option.map_some, Option.map_none, List.map_cons, List.map_nil, List.cons_append, List.nil_append, List.replicate, Nat.zero_add, Nat.reduceAdd, Nat.reduceSub, Nat.reduceLeDiff, if_true, if_false, Bool.not_true, Bool.not_false, reduceCtorEq, reduceIte, decide_true, decide_false, Bool.false_eq_true, List.isEmpty_cons, List.isEmpty_nil, ixT0, ixT1, ixT2, ixL0, ixL1, ixL2, isD_nn, isD_in, isD_sn, isD_tn, isN_nn, isN_in, isN_sn, isN_tn, Int.cast_ofNat_Int, Int.reduceEq, Int.reduceLT, Int.reduceLE, Bool.and_false, Bool.and_true, Bool.true_and, Bool.false_and, Bool.or_false, Bool.or_true, Bool.true_or, Bool.false_or, slD_S h, addD1, str0, neD_S, sub_self1, drop_at e, List.take_succ_cons, List.take_zero, ixD_S h e, figs, inD_one, mem_figs]
theorem loop_number {l : List Nat} (h : Sh l) (x : Option SD) (w : W) : ∀ (f b : Nat), l.length < b + f → b ≤ l.length →
    mWhile cW1_number_at bW2_number_at f [some (.d (.str (S l))), x, some (.d (.int (b : Int))), none] w = some (.nx, [some (.d (.str (S l))), x, some (.d (.int ((b + ((l.drop b).takeWhile dig).length : Nat) : Int))), none], w)
  | 0, b, hf, hb => by omega
  | f + 1, b, hf, hb => by
    have hc := cW_number h x w b
    cases e : l[b]? with
    | none =>
      rw [e] at hc
      have e2 : l.drop b = [] := List.drop_eq_nil_of_le (List.getElem?_eq_none_iff.mp e)
      rw [while_end hc, e2]
      rfl
    | some c =>
      rw [e] at hc
      dsimp only at hc
      have hlt : b < l.length := (List.getElem?_eq_some_iff.mp e).1
      cases hd : dig c with
      | false =>
        rw [hd] at hc
        rw [while_end hc, drop_at e, List.takeWhile_cons, hd]
        rfl
      | true =>
        rw [hd] at hc
        rw [while_go hc (e2 := [some (.d (.str (S l))), x, some (.d (.int ((b + 1 : Nat) : Int))), none]) (w2 := w) (by unfold bW2_number_at; simp only [mSeq, mSet, mVar, mC, mOp, seqE, optE, mTru, mAnd, mOr, mNot, mIf, mBl, mNil, mCons, mCall, mTup, argsD, dsOf, tupD, mFz, mLst, mRet, mDrop, mNx, mBk, mCt, mFail, mItems, itemsD, mRng, mgName, mgNil, mgCons, mgTup, mAsg, mFor, mNo, mPart, mSl, mB, mSetO, mAppend, mPop, mPkOp, mPkIx, mPkLen, mScrLen, mYes, mPar, mPar3, mParO, mAug, mMtS, mIs, mStar, mFmt, mJs, mAndV, mOrV, mListO, mCatO, mgUnl, truD, pk, mEnum, mStep, stepD, List.getElem?_cons_zero, List.getElem?_cons_succ, List.set_cons_zero, List.set_cons_succ, List.length_cons, List.length_nil, Option.map_some, Option.map_none, List.map_cons, List.map_nil, List.cons_append, List.nil_append, List.replicate, Nat.zero_add, Nat.reduceAdd, Nat.reduceSub, Nat.reduceLeDiff, if_true, if_false, Bool.not_true, Bool.not_false, reduceCtorEq, reduceIte, decide_true, decide_false, Bool.false_eq_true, List.isEmpty_cons, List.isEmpty_nil, ixT0, ixT1, ixT2, ixL0, ixL1, ixL2, isD_nn, isD_in, isD_sn, isD_tn, isN_nn, isN_in, isN_sn, isN_tn, Int.cast_ofNat_Int, Int.reduceEq, Int.reduceLT, Int.reduceLE, Bool.and_false, Bool.and_true, Bool.true_and, Bool.false_and, Bool.or_false, Bool.or_true, Bool.true_or, Bool.false_or, addI1]), loop_number h x w f (b + 1) (by omega) (by omega), drop_at e, List.takeWhile_cons, if_pos hd, List.length_cons, show b + 1 + ((l.drop (b + 1)).takeWhile dig).length = b + (((l.drop (b + 1)).takeWhile dig).length + 1) by omega]
theorem tw_dig (r : List Nat) : NumText.AllDigits (r.takeWhile dig) := fun c hc => by
  have := List.all_eq_true.mp (List.all_takeWhile (p := dig) (l := r)) c hc
  unfold dig at this
  simpa using this
theorem tw_take (r : List Nat) : r.take (r.takeWhile dig).length = r.takeWhile dig := by
  conv => lhs; arg 2; rw [← List.takeWhile_append_dropWhile (p := dig) (l := r)]
  exact List.take_left
theorem run_number {l : List Nat} (h : Sh l) {a : Nat} (ha : a ≤ l.length) (w : W) : m_number_at [.d (.str (S l)), .d (.int (a : Int))] w = some (.d (numD a (l.drop a)), w) := by
  have hlen : (l.drop a).takeWhile dig = (l.drop a).takeWhile dig := rfl
  have hshf : Sh ((l.drop a).takeWhile dig) := by
    have h1 := (List.takeWhile_prefix (p := dig) (l := l.drop a)).length_le
    rw [List.length_drop] at h1
    unfold Sh at h ⊢
    omega
  refine fn_rt (e' := [some (.d (.str (S l))), some (.d (.int (a : Int))), some (.d (.int ((a + ((l.drop a).takeWhile dig).length : Nat) : Int))), some (.d (.str (S ((l.drop a).takeWhile dig))))]) rfl ?_
  unfold b_number_at
  refine (seq_nx (by simp only [mSeq, mSet, mVar, mC, mOp, seqE, optE, mTru, mAnd, mOr, mNot, mIf, mBl, mNil, mCons, mCall, mTup, argsD, dsOf, tupD, mFz, mLst, mRet, mDrop, mNx, mBk, mCt, mFail, mItems, itemsD, mRng, mgName, mgNil, mgCons, mgTup, mAsg, mFor, mNo, mPart, mSl, mB, mSetO, mAppend, mPop, mPkOp, mPkIx, mPkLen, mScrLen, mYes, mPar, mPar3, mParO, mAug, mMtS, mIs, mStar, mFmt, mJs, mAndV, mOrV, mListO, mCatO, mgUnl, truD, pk, mEnum, mStep, stepD, List.getElem?_cons_zero, List.getElem?_cons_succ, List.set_cons_zero, List.set_cons_succ, List.length_cons, List.length_nil, Option.map_some, Option.map_none, List.map_cons, List.map_nil, List.cons_append, List.nil_append, List.replicate, Nat.zero_add, Nat.reduceAdd, Nat.reduceSub, Nat.reduceLeDiff, if_true, if_false, Bool.not_true, Bool.not_false, reduceCtorEq, reduceIte, decide_true, decide_false, Bool.false_eq_true, List.isEmpty_cons, List.isEmpty_nil, ixT0, ixT1, ixT2, ixL0, ixL1, ixL2, isD_nn, isD_in, isD_sn, isD_tn, isN_nn, isN_in, isN_sn, isN_tn, Int.cast_ofNat_Int, Int.reduceEq, Int.reduceLT, Int.reduceLE, Bool.and_false, Bool.and_true, Bool.true_and, Bool.false_and, Bool.or_false, Bool.or_true, Bool.true_or, Bool.false_or]; rfl)).trans ?_
  refine (seq_nx (loop_number h _ w fuel a (by unfold fuel; unfold Sh at h; omega) ha)).trans ?_
  refine (seq_nx (e1 := [some (.d (.str (S l))), some (.d (.int (a : Int))), some (.d (.int ((a + ((l.drop a).takeWhile dig).length : Nat) : Int))), some (.d (.str (S ((l.drop a).takeWhile dig))))]) (w1 := w) (by simp only [mSeq, mSet, mVar, mC, mOp, seqE, optE, mTru, mAnd, mOr, mNot, mIf, mBl, mNil, mCons, mCall, mTup, argsD, dsOf, tupD, mFz, mLst, mRet, mDrop, mNx, mBk, mCt, mFail, mItems, itemsD, mRng, mgName, mgNil, mgCons, mgTup, mAsg, mFor, mNo, mPart, mSl, mB, mSetO, mAppend, mPop, mPkOp, mPkIx, mPkLen, mScrLen, mYes, mPar, mPar3, mParO, mAug, mMtS, mIs, mStar, mFmt, mJs, mAndV, mOrV, mListO, mCatO, mgUnl, truD, pk, mEnum, mStep, stepD, List.getElem?_cons_zero, List.getElem?_cons_succ, List.set_cons_zero, List.set_cons_succ, List.length_cons, List.length_nil, Option.map_some, Option.map_none, List.map_cons, List.map_nil, List.cons_append, List.nil_append, List.replicate, Nat.zero_add, Nat.reduceAdd, Nat.reduceSub, Nat.reduceLeDiff, if_true, if_false, Bool.not_true, Bool.not_false, reduceCtorEq, reduceIte, decide_true, decide_false, Bool.false_eq_true, List.isEmpty_cons, List.isEmpty_nil, ixT0, ixT1, ixT2, ixL0, ixL1, ixL2, isD_nn, isD_in, isD_sn, isD_tn, isN_nn, isN_in, isN_sn, isN_tn, Int.cast_ofNat_Int, Int.reduceEq, Int.reduceLT, Int.reduceLE, Bool.and_false, Bool.and_true, Bool.true_and, Bool.false_and, Bool.or_false, Bool.or_true, Bool.true_or, Bool.false_or, slD_S h, Nat.add_sub_cancel_left, tw_take])).trans ?_
  unfold numD numR
  generalize hF : (l.drop a).takeWhile dig = F at hshf ⊢
  have hdg : NumText.AllDigits F := hF ▸ tw_dig _
  by_cases c1 : F = []
  · subst c1
    refine (seq_rt (by simp only [mSeq, mSet, mVar, mC, mOp, seqE, optE, mTru, mAnd, mOr, mNot, mIf, mBl, mNil, mCons, mCall, mTup, argsD, dsOf, tupD, mFz, mLst, mRet, mDrop, mNx, mBk, mCt, mFail, mItems, itemsD, mRng, mgName, mgNil, mgCons, mgTup, mAsg, mFor, mNo, mPart, mSl, mB, mSetO, mAppend, mPop, mPkOp, mPkIx, mPkLen, mScrLen, mYes, mPar, mPar3, mParO, mAug, mMtS, mIs, mStar, mFmt, mJs, mAndV, mOrV, mListO, mCatO, mgUnl, truD, pk, mEnum, mStep, stepD, List.getElem?_cons_zero, List.getElem?_cons_succ, List.set_cons_zero, List.set_cons_succ, List.length_cons, List.length_nil, Option.map_some, Option.map_none, List.map_cons, List.map_nil, List.cons_append, List.nil_append, List.replicate, Nat.zero_add, Nat.reduceAdd, Nat.reduceSub, Nat.reduceLeDiff, if_true, if_false, Bool.not_true, Bool.not_false, reduceCtorEq, reduceIte, decide_true, decide_false, Bool.false_eq_true, List.isEmpty_cons, List.isEmpty_nil, ixT0, ixT1, ixT2, ixL0, ixL1, ixL2, isD_nn, isD_in, isD_sn, isD_tn, isN_nn, isN_in, isN_sn, isN_tn, Int.cast_ofNat_Int, Int.reduceEq, Int.reduceLT, Int.reduceLE, Bool.and_false, Bool.and_true, Bool.true_and, Bool.false_and, Bool.or_false, Bool.or_true, Bool.true_or, Bool.false_or, str0, eqD_S]; rfl)).trans ?_
    rfl
  by_cases c2 : 24 < F.length
  · have c2' : (24 : Int) < (F.length : Int) := by omega
    refine (seq_rt (by simp only [mSeq, mSet, mVar, mC, mOp, seqE, optE, mTru, mAnd, mOr, mNot, mIf, mBl, mNil, mCons, mCall, mTup, argsD, dsOf, tupD, mFz, mLst, mRet, mDrop, mNx, mBk, mCt, mFail, mItems, itemsD, mRng, mgName, mgNil, mgCons, mgTup, mAsg, mFor, mNo, mPart, mSl, mB, mSetO, mAppend, mPop, mPkOp, mPkIx, mPkLen, mScrLen, mYes, mPar, mPar3, mParO, mAug, mMtS, mIs, mStar, mFmt, mJs, mAndV, mOrV, mListO, mCatO, mgUnl, truD, pk, mEnum, mStep, stepD, List.getElem?_cons_zero, List.getElem?_cons_succ, List.set_cons_zero, List.set_cons_succ, List.length_cons, List.length_nil, Option.map_some, Option.map_none, List.map_cons, List.map_nil, List.cons_append, List.nil_append, List.replicate, Nat.zero_add, Nat.reduceAdd, Nat.reduceSub, Nat.reduceLeDiff, if_true, if_false, Bool.not_true, Bool.not_false, reduceCtorEq, reduceIte, decide_true, decide_false, Bool.false_eq_true, List.isEmpty_cons, List.isEmpty_nil, ixT0, ixT1, ixT2, ixL0, ixL1, ixL2, isD_nn, isD_in, isD_sn, isD_tn, isN_nn, isN_in, isN_sn, isN_tn, Int.cast_ofNat_Int, Int.reduceEq, Int.reduceLT, Int.reduceLE, Bool.and_false, Bool.and_true, Bool.true_and, Bool.false_and, Bool.or_false, Bool.or_true, Bool.true_or, Bool.false_or, str0, eqD_S, c1, lenD_S hshf, gtI_int, c2']; rfl)).trans ?_
    rw [if_pos (.inr (.inl c2))]
  have c2' : ¬ (24 : Int) < (F.length : Int) := by omega
  obtain ⟨c, F', rfl⟩ := List.exists_cons_of_ne_nil c1
  rw [List.length_cons] at c2'
  by_cases c3 : c = 48
  · subst c3
    by_cases c4 : F' = []
    · subst c4
      rw [if_neg (by simp)]
      refine (seq_nx (by simp only [mSeq, mSet, mVar, mC, mOp, seqE, optE, mTru, mAnd, mOr, mNot, mIf, mBl, mNil, mCons, mCall, mTup, argsD, dsOf, tupD, mFz, mLst, mRet, mDrop, mNx, mBk, mCt, mFail, mItems, itemsD, mRng, mgName, mgNil, mgCons, mgTup, mAsg, mFor, mNo, mPart, mSl, mB, mSetO, mAppend, mPop, mPkOp, mPkIx, mPkLen, mScrLen, mYes, mPar, mPar3, mParO, mAug, mMtS, mIs, mStar, mFmt, mJs, mAndV, mOrV, mListO, mCatO, mgUnl, truD, pk, mEnum, mStep, stepD, List.getElem?_cons_zero, List.getElem?_cons_succ, List.set_cons_zero, List.set_cons_succ, List.length_cons, List.length_nil, Option.map_some, Option.map_none, List.map_cons, List.map_nil, List.cons_append, List.nil_append, List.replicate, Nat.zero_add, Nat.reduceAdd, Nat.reduceSub, Nat.reduceLeDiff, if_true, if_false, Bool.not_true, Bool.not_false, reduceCtorEq, reduceIte, decide_true, decide_false, Bool.false_eq_true, List.isEmpty_cons, List.isEmpty_nil, ixT0, ixT1, ixT2, ixL0, ixL1, ixL2, isD_nn, isD_in, isD_sn, isD_tn, isN_nn, isN_in, isN_sn, isN_tn, Int.cast_ofNat_Int, Int.reduceEq, Int.reduceLT, Int.reduceLE, Bool.and_false, Bool.and_true, Bool.true_and, Bool.false_and, Bool.or_false, Bool.or_true, Bool.true_or, Bool.false_or, str0, eqD_S, lenD_S hshf, gtI_int, c2', ixS0 hshf, strN, neD_S, List.cons_ne_nil]; rfl)).trans ?_
      simp only [mSeq, mSet, mVar, mC, mOp, seqE, optE, mTru, mAnd, mOr, mNot, mIf, mBl, mNil, mCons, mCall, mTup, argsD, dsOf, tupD, mFz, mLst, mRet, mDrop, mNx, mBk, mCt, mFail, mItems, itemsD, mRng, mgName, mgNil, mgCons, mgTup, mAsg, mFor, mNo, mPart, mSl, mB, mSetO, mAppend, mPop, mPkOp, mPkIx, mPkLen, mScrLen, mYes, mPar, mPar3, mParO, mAug, mMtS, mIs, mStar, mFmt, mJs, mAndV, mOrV, mListO, mCatO, mgUnl, truD, pk, mEnum, mStep, stepD, List.getElem?_cons_zero, List.getElem?_cons_succ, List.set_cons_zero, List.set_cons_succ, List.length_cons, List.length_nil, Option.map_some, Option.map_none, List.map_cons, List.map_nil, List.cons_append, List.nil_append, List.replicate, Nat.zero_add, Nat.reduceAdd, Nat.reduceSub, Nat.reduceLeDiff, if_true, if_false, Bool.not_true, Bool.not_false, reduceCtorEq, reduceIte, decide_true, decide_false, Bool.false_eq_true, List.isEmpty_cons, List.isEmpty_nil, ixT0, ixT1, ixT2, ixL0, ixL1, ixL2, isD_nn, isD_in, isD_sn, isD_tn, isN_nn, isN_in, isN_sn, isN_tn, Int.cast_ofNat_Int, Int.reduceEq, Int.reduceLT, Int.reduceLE, Bool.and_false, Bool.and_true, Bool.true_and, Bool.false_and, Bool.or_false, Bool.or_true, Bool.true_or, Bool.false_or, intS hdg c1 (by simp)]
    · have c5 : ¬ (48 :: F' = [48]) := by simpa using c4
      refine (seq_rt (by simp only [mSeq, mSet, mVar, mC, mOp, seqE, optE, mTru, mAnd, mOr, mNot, mIf, mBl, mNil, mCons, mCall, mTup, argsD, dsOf, tupD, mFz, mLst, mRet, mDrop, mNx, mBk, mCt, mFail, mItems, itemsD, mRng, mgName, mgNil, mgCons, mgTup, mAsg, mFor, mNo, mPart, mSl, mB, mSetO, mAppend, mPop, mPkOp, mPkIx, mPkLen, mScrLen, mYes, mPar, mPar3, mParO, mAug, mMtS, mIs, mStar, mFmt, mJs, mAndV, mOrV, mListO, mCatO, mgUnl, truD, pk, mEnum, mStep, stepD, List.getElem?_cons_zero, List.getElem?_cons_succ, List.set_cons_zero, List.set_cons_succ, List.length_cons, List.length_nil, Option.map_some, Option.map_none, List.map_cons, List.map_nil, List.cons_append, List.nil_append, List.replicate, Nat.zero_add, Nat.reduceAdd, Nat.reduceSub, Nat.reduceLeDiff, if_true, if_false, Bool.not_true, Bool.not_false, reduceCtorEq, reduceIte, decide_true, decide_false, Bool.false_eq_true, List.isEmpty_cons, List.isEmpty_nil, ixT0, ixT1, ixT2, ixL0, ixL1, ixL2, isD_nn, isD_in, isD_sn, isD_tn, isN_nn, isN_in, isN_sn, isN_tn, Int.cast_ofNat_Int, Int.reduceEq, Int.reduceLT, Int.reduceLE, Bool.and_false, Bool.and_true, Bool.true_and, Bool.false_and, Bool.or_false, Bool.or_true, Bool.true_or, Bool.false_or, str0, eqD_S, lenD_S hshf, gtI_int, c2', ixS0 hshf, strN, neD_S, List.cons_ne_nil, c5]; rfl)).trans ?_
      rw [if_pos (.inr (.inr ⟨rfl, c5⟩))]
      rfl
  · have c5 : ¬ ([c] = [48]) := by simpa using c3
    rw [if_neg (by
      rintro (z | z | z)
      · exact c1 z
      · exact c2 z
      · exact c3 (by simpa using z.1))]
    refine (seq_nx (by simp only [mSeq, mSet, mVar, mC, mOp, seqE, optE, mTru, mAnd, mOr, mNot, mIf, mBl, mNil, mCons, mCall, mTup, argsD, dsOf, tupD, mFz, mLst, mRet, mDrop, mNx, mBk, mCt, mFail, mItems, itemsD, mRng, mgName, mgNil, mgCons, mgTup, mAsg, mFor, mNo, mPart, mSl, mB, mSetO, mAppend, mPop, mPkOp, mPkIx, mPkLen, mScrLen, mYes, mPar, mPar3, mParO, mAug, mMtS, mIs, mStar, mFmt, mJs, mAndV, mOrV, mListO, mCatO, mgUnl, truD, pk, mEnum, mStep, stepD, List.getElem?_cons_zero, List.getElem?_cons_succ, List.set_cons_zero, List.set_cons_succ, List.length_cons, List.length_nil, Option.map_some, Option.map_none, List.map_cons, List.map_nil, List.cons_append, List.nil_append, List.replicate, Nat.zero_add, Nat.reduceAdd, Nat.reduceSub, Nat.reduceLeDiff, if_true, if_false, Bool.not_true, Bool.not_false, reduceCtorEq, reduceIte, decide_true, decide_false, Bool.false_eq_true, List.isEmpty_cons, List.isEmpty_nil, ixT0, ixT1, ixT2, ixL0, ixL1, ixL2, isD_nn, isD_in, isD_sn, isD_tn, isN_nn, isN_in, isN_sn, isN_tn, Int.cast_ofNat_Int, Int.reduceEq, Int.reduceLT, Int.reduceLE, Bool.and_false, Bool.and_true, Bool.true_and, Bool.false_and, Bool.or_false, Bool.or_true, Bool.true_or, Bool.false_or, str0, eqD_S, lenD_S hshf, gtI_int, c2', ixS0 hshf, strN, neD_S, List.cons_ne_nil, c5]; rfl)).trans ?_
    simp only [mSeq, mSet, mVar, mC, mOp, seqE, optE, mTru, mAnd, mOr, mNot, mIf, mBl, mNil, mCons, mCall, mTup, argsD, dsOf, tupD, mFz, mLst, mRet, mDrop, mNx, mBk, mCt, mFail, mItems, itemsD, mRng, mgName, mgNil, mgCons, mgTup, mAsg, mFor, mNo, mPart, mSl, mB, mSetO, mAppend, mPop, mPkOp, mPkIx, mPkLen, mScrLen, mYes, mPar, mPar3, mParO, mAug, mMtS, mIs, mStar, mFmt, mJs, mAndV, mOrV, mListO, mCatO, mgUnl, truD, pk, mEnum, mStep, stepD, List.getElem?_cons_zero, List.getElem?_cons_succ, List.set_cons_zero, List.set_cons_succ, List.length_cons, List.length_nil, Option.map_some, Option.map_none, List.map_cons, List.map_nil, List.cons_append, List.nil_append, List.replicate, Nat.zero_add, Nat.reduceAdd, Nat.reduceSub, Nat.reduceLeDiff, if_true, if_false, Bool.not_true, Bool.not_false, reduceCtorEq, reduceIte, decide_true, decide_false, Bool.false_eq_true, List.isEmpty_cons, List.isEmpty_nil, ixT0, ixT1, ixT2, ixL0, ixL1, ixL2, isD_nn, isD_in, isD_sn, isD_tn, isN_nn, isN_in, isN_sn, isN_tn, Int.cast_ofNat_Int, Int.reduceEq, Int.reduceLT, Int.reduceLE, Bool.and_false, Bool.and_true, Bool.true_and, Bool.false_and, Bool.or_false, Bool.or_true, Bool.true_or, Bool.false_or, intS hdg c1 (by omega)]

def nxt (r : List Nat) : Bool := match r with
  | 46 :: c :: _ => dig c
  | _ => false
def numsR : Nat → List Nat → Option (List Nat × Nat)
  | 0, _ => none
  | f + 1, r => match numR r with
    | none => none
    | some (n, k) => if nxt (r.drop k) then (match numsR f (r.drop (k + 1)) with
      | some (ns, j) => some (n :: ns, k + 1 + j)
      | none => none) else some ([n], k)
def intsD (ns : List Nat) : List PyData := ns.map fun n : Nat => .int (n : Int)
def figT : List PyData := [48, 49, 50, 51, 52, 53, 54, 55, 56, 57].map fun c => .str (S [c])
theorem figTup : tupStrD [.str "0123456789"] = some (.tuple figT) := by
  rfl
theorem notIn_fig (x : List Nat) : notInD (.str (S x)) (.tuple figT) = some (.bool (match x with | [c] => !dig c | _ => true)) := by
  unfold notInD inS figT
  simp only [dOk, Bool.true_or, if_true, Option.map_some, List.any_map]
  refine congrArg some (congrArg PyData.bool ?_)
  have e : ∀ c : Nat, ((fun y => PyData.eqv y (.str (S x))) ∘ fun c => PyData.str (S [c])) c = decide ([c] = x) := fun c => eq_S [c] x
  rw [show ((fun y => PyData.eqv y (.str (S x))) ∘ fun c => PyData.str (S [c])) = fun c => decide ([c] = x) from funext e]
  match x with
  | [] => simp
  | [c] =>
    dsimp only
    rw [← mem_figs]
    refine congrArg (!·) ?_
    rw [Bool.eq_iff_iff]
    simp
    omega
  | c :: d :: r => simp
theorem numR_bound {r : List Nat} {n k : Nat} (h : numR r = some (n, k)) : 0 < k ∧ k ≤ r.length := by
  unfold numR at h
  split at h
  · cases h
  · rename_i hn
    cases h
    have h1 := (List.takeWhile_prefix (p := dig) (l := r)).length_le
    refine ⟨List.length_pos_iff.mpr fun z => hn (.inl z), h1⟩
theorem take_two (r : List Nat) : r.take 1 ≠ [46] ∨ (r.take 1 = [46] ∧ ∃ q, r = 46 :: q) := by
  cases r with
  | nil => exact .inl (by simp)
  | cons c q =>
    by_cases h : c = 46
    · subst h; exact .inr ⟨rfl, q, rfl⟩
    · exact .inl (by simpa using h)
/-- the end of one turn -/
def numsEnd (acc : List Nat) (p : Nat) : PyData := if acc.length ≤ 60 then .tuple [.tuple (intsD acc), .int (p : Int)] else .none
theorem bW_numbers {l : List Nat} (h : Sh l) {p : Nat} (hp : p ≤ l.length) (x y : Option SD) (acc : List Nat) (hacc : acc.length ≤ p) (w : W) : ∃ e,
    bW2_numbers_at [some (.d (.str (S l))), x, some (.own (intsD acc)), some (.d (.int (p : Int))), y] w = match numR (l.drop p) with
      | none => some (.rt (.d .none), e, w)
      | some (n, k) => if nxt (l.drop (p + k)) then some (.nx, [some (.d (.str (S l))), x, some (.own (intsD (acc ++ [n]))), some (.d (.int ((p + k + 1 : Nat) : Int))), some (.d (numD p (l.drop p)))], w)
        else some (.rt (.d (numsEnd (acc ++ [n]) (p + k))), e, w) := by
  unfold bW2_numbers_at
  rw [seq_nx (e1 := [some (.d (.str (S l))), x, some (.own (intsD acc)), some (.d (.int (p : Int))), some (.d (numD p (l.drop p)))]) (w1 := w) (by push_cast [run_number h hp])]
  cases hn : numR (l.drop p) with
  | none =>
    have e : numD p (l.drop p) = .none := by unfold numD; rw [hn]
    rw [e]
    exact ⟨_, seq_rt (by push_cast)⟩
  | some q =>
    obtain ⟨n, k⟩ := q
    have e : numD p (l.drop p) = .tuple [.int (n : Int), .int ((p + k : Nat) : Int)] := by unfold numD; rw [hn]
    rw [e]
    have hk := numR_bound hn
    rw [List.length_drop] at hk
    have hpk : p + k ≤ l.length := by omega
    have hal : (intsD acc).length < sizeLine := by
      unfold intsD
      rw [List.length_map, sizeLine_eq]
      unfold Sh at h
      omega
    have ei : intsD acc ++ [.int (n : Int)] = intsD (acc ++ [n]) := by unfold intsD; simp
    rw [seq_nx (e1 := [some (.d (.str (S l))), x, some (.own (intsD acc)), some (.d (.int (p : Int))), some (.d (.tuple [.int (n : Int), .int ((p + k : Nat) : Int)]))]) (w1 := w) (by push_cast),
      seq_nx (e1 := [some (.d (.str (S l))), x, some (.own (intsD (acc ++ [n]))), some (.d (.int (p : Int))), some (.d (.tuple [.int (n : Int), .int ((p + k : Nat) : Int)]))]) (w1 := w) (by push_cast [hal, ei]),
      seq_nx (e1 := [some (.d (.str (S l))), x, some (.own (intsD (acc ++ [n]))), some (.d (.int ((p + k : Nat) : Int))), some (.d (.tuple [.int (n : Int), .int ((p + k : Nat) : Int)]))]) (w1 := w) (by push_cast)]
    dsimp only
    have t1 : p + k + 2 - (p + k + 1) = 1 := by omega
    have t0 : p + k + 1 - (p + k) = 1 := by omega
    have hlen : (intsD (acc ++ [n])).length = (acc ++ [n]).length := by unfold intsD; rw [List.length_map]
    -- what is told
    have fin : ∃ e, mRet (mIf (mTru (mOp leI (mPkLen 2) (mC (.int 60)))) (mTup (mCons (mB tupleD (mCons (mVar 2) mNil)) (mCons (mVar 3) mNil))) (mC .none))
        [some (.d (.str (S l))), x, some (.own (intsD (acc ++ [n]))), some (.d (.int ((p + k : Nat) : Int))), some (.d (.tuple [.int (n : Int), .int ((p + k : Nat) : Int)]))] w = some (.rt (.d (numsEnd (acc ++ [n]) (p + k))), e, w) := by
      unfold numsEnd
      by_cases c : (acc ++ [n]).length ≤ 60
      · have c' : ((intsD (acc ++ [n])).length : Int) ≤ 60 := by rw [hlen]; omega
        rw [if_pos c]
        exact ⟨_, by push_cast [leI_int, c', tupleD]⟩
      · have c' : ¬ ((intsD (acc ++ [n])).length : Int) ≤ 60 := by rw [hlen]; omega
        rw [if_neg c]
        exact ⟨_, by push_cast [leI_int, c', tupleD]⟩
    obtain ⟨e0, fin⟩ := fin
    refine ⟨e0, ?_⟩
    rcases take_two (l.drop (p + k)) with hd | ⟨hd, q, hq⟩
    · have hx : nxt (l.drop (p + k)) = false := by
        unfold nxt
        split
        · rename_i z
          rw [z] at hd
          exact absurd rfl hd
        · rfl
      rw [hx]
      have hd' : ¬ ((l.drop (p + k)).take 1 = [46]) := hd
      exact seq_rt ((if_t (or_t (by push_cast [slD_S h, addD1, t0, strDot, neD_S, hd']))).trans fin)
    · have o1 : mTru (mOp neD (mSl (mVar 0) (mPart (mVar 3)) (mPart (mOp addD (mVar 3) (mC (.int 1))))) (mC (.str "."))) [some (.d (.str (S l))), x, some (.own (intsD (acc ++ [n]))), some (.d (.int ((p + k : Nat) : Int))), some (.d (.tuple [.int (n : Int), .int ((p + k : Nat) : Int)]))] w
          = some (false, [some (.d (.str (S l))), x, some (.own (intsD (acc ++ [n]))), some (.d (.int ((p + k : Nat) : Int))), some (.d (.tuple [.int (n : Int), .int ((p + k : Nat) : Int)]))], w) := by push_cast [slD_S h, addD1, t0, strDot, neD_S, hd]
      have hq1 : l.drop (p + k + 1) = q := by
        rw [show p + k + 1 = (p + k) + 1 from rfl, ← List.drop_drop, hq]
        rfl
      have o2 : mTru (mOp notInD (mSl (mVar 0) (mPart (mOp addD (mVar 3) (mC (.int 1)))) (mPart (mOp addD (mVar 3) (mC (.int 2))))) (mB tupStrD (mCons (mC (.str "0123456789")) mNil))) [some (.d (.str (S l))), x, some (.own (intsD (acc ++ [n]))), some (.d (.int ((p + k : Nat) : Int))), some (.d (.tuple [.int (n : Int), .int ((p + k : Nat) : Int)]))] w
          = some (!nxt (l.drop (p + k)), [some (.d (.str (S l))), x, some (.own (intsD (acc ++ [n]))), some (.d (.int ((p + k : Nat) : Int))), some (.d (.tuple [.int (n : Int), .int ((p + k : Nat) : Int)]))], w) := by
        have e3 : (match q.take 1 with | [c] => !dig c | _ => true) = !nxt (l.drop (p + k)) := by
          rw [hq]
          cases q with
          | nil => rfl
          | cons c q' => rfl
        simp only [mSeq, mSet, mVar, mC, mOp, seqE, optE, mTru, mAnd, mOr, mNot, mIf, mBl, mNil, mCons, mCall, mTup, argsD, dsOf, tupD, mFz, mLst, mRet, mDrop, mNx, mBk, mCt, mFail, mItems, itemsD, mRng, mgName, mgNil, mgCons, mgTup, mAsg, mFor, mNo, mPart, mSl, mB, mSetO, mAppend, mPop, mPkOp, mPkIx, mPkLen, mScrLen, mYes, mPar, mPar3, mParO, mAug, mMtS, mIs, mStar, mFmt, mJs, mAndV, mOrV, mListO, mCatO, mgUnl, truD, pk, mEnum, mStep, stepD, List.getElem?_cons_zero, List.getElem?_cons_succ, List.set_cons_zero, List.set_cons_succ, List.length_cons, List.length_nil, Option.map_some, Option.map_none, List.map_cons, List.map_nil, List.cons_append, List.nil_append, List.replicate, Nat.zero_add, Nat.reduceAdd, Nat.reduceSub, Nat.reduceLeDiff, if_true, if_false, Bool.not_true, Bool.not_false, reduceCtorEq, reduceIte, decide_true, decide_false, Bool.false_eq_true, List.isEmpty_cons, List.isEmpty_nil, ixT0, ixT1, ixT2, ixL0, ixL1, ixL2, isD_nn, isD_in, isD_sn, isD_tn, isN_nn, isN_in, isN_sn, isN_tn, Int.cast_ofNat_Int, Int.reduceEq, Int.reduceLT, Int.reduceLE, Bool.and_false, Bool.and_true, Bool.true_and, Bool.false_and, Bool.or_false, Bool.or_true, Bool.true_or, Bool.false_or, slD_S h, addD1, addD2, t1, figTup, notIn_fig, hq1, e3]
      cases hx : nxt (l.drop (p + k)) with
      | false =>
        rw [hx] at o2
        exact seq_rt ((if_t ((or_f o1).trans o2)).trans fin)
      | true =>
        rw [hx] at o2
        refine (seq_nx ((if_f ((or_f o1).trans o2)).trans rfl)).trans ?_
        push_cast [addI1]
theorem numsR_bound : ∀ {f : Nat} {r ns : List Nat} {j : Nat}, numsR f r = some (ns, j) → j ≤ r.length ∧ ns ≠ []
  | 0, _, _, _, h => by cases h
  | f + 1, r, ns, j, h => by
    unfold numsR at h
    split at h
    · cases h
    · rename_i n k hn
      have hk := numR_bound hn
      split at h
      · rename_i hx
        split at h
        · rename_i ms i hr
          cases h
          have h1 := numsR_bound hr
          rw [List.length_drop] at h1
          have : k + 1 ≤ r.length := by
            unfold nxt at hx
            split at hx
            · rename_i z
              have := congrArg List.length z
              rw [List.length_drop] at this
              simp at this
              omega
            · cases hx
          exact ⟨by omega, by simp⟩
        · cases h
      · cases h
        exact ⟨hk.2, by simp⟩
theorem cW_true (env : Ev) (w : W) : cW1_numbers_at env w = some (true, env, w) := by
  unfold cW1_numbers_at
  push_cast
theorem loop_numbers {l : List Nat} (h : Sh l) (x : Option SD) (w : W) : ∀ (f F p : Nat) (acc : List Nat) (y : Option SD), l.length < p + f → f ≤ F → p ≤ l.length → acc.length ≤ p → ∃ e,
    mWhile cW1_numbers_at bW2_numbers_at F [some (.d (.str (S l))), x, some (.own (intsD acc)), some (.d (.int (p : Int))), y] w = some (.rt (.d (match numsR f (l.drop p) with
      | none => .none
      | some (ns, j) => numsEnd (acc ++ ns) (p + j))), e, w)
  | 0, F, p, acc, y, hf, hF, hp, ha => by omega
  | f + 1, F, p, acc, y, hf, hF, hp, ha => by
    obtain ⟨F', rfl⟩ : ∃ F', F = F' + 1 := ⟨F - 1, by omega⟩
    obtain ⟨e, he⟩ := bW_numbers h hp x y acc ha w
    unfold numsR
    cases hn : numR (l.drop p) with
    | none =>
      rw [hn] at he
      exact ⟨e, while_rt (cW_true _ _) he⟩
    | some q =>
      obtain ⟨n, k⟩ := q
      rw [hn] at he
      dsimp only at he ⊢
      have hk := numR_bound hn
      rw [List.length_drop] at hk
      rw [List.drop_drop, List.drop_drop]
      cases hx : nxt (l.drop (p + k)) with
      | false =>
        rw [hx] at he
        exact ⟨e, while_rt (cW_true _ _) he⟩
      | true =>
        rw [hx] at he
        have hlt : p + k + 1 ≤ l.length := by
          unfold nxt at hx
          split at hx
          · rename_i z
            have := congrArg List.length z
            rw [List.length_drop] at this
            simp at this
            omega
          · cases hx
        obtain ⟨e', h'⟩ := loop_numbers h x w f F' (p + k + 1) (acc ++ [n]) (some (.d (numD p (l.drop p)))) (by omega) (by omega) hlt (by simp; omega)
        refine ⟨e', (while_go (cW_true _ _) he).trans (h'.trans ?_)⟩
        rw [show p + (k + 1) = p + k + 1 from rfl]
        cases hr : numsR f (l.drop (p + k + 1)) with
        | none => rfl
        | some q =>
          obtain ⟨ns, j⟩ := q
          dsimp only
          rw [List.append_assoc, show p + k + 1 + j = p + (k + 1 + j) by omega]
          rfl
/-- what numbers_at tells -/
def numsD (a : Nat) (r : List Nat) : PyData := match numsR (r.length + 1) r with
  | none => .none
  | some (ns, j) => numsEnd ns (a + j)
theorem run_numbers {l : List Nat} (h : Sh l) {a : Nat} (ha : a ≤ l.length) (w : W) : m_numbers_at [.d (.str (S l)), .d (.int (a : Int))] w = some (.d (numsD a (l.drop a)), w) := by
  obtain ⟨e, he⟩ := loop_numbers h (some (.d (.int (a : Int)))) w ((l.drop a).length + 1) fuel a [] none (by rw [List.length_drop]; omega) (by rw [List.length_drop]; unfold fuel; unfold Sh at h; omega) ha (Nat.zero_le _)
  refine fn_rt (e' := e) rfl ?_
  unfold b_numbers_at
  refine (seq_nx (by push_cast)).trans ?_
  refine he.trans ?_
  unfold numsD
  rfl
end Dn

set_option maxHeartbeats 4000000
namespace Dn
open PySem PySem.Spec PyProof.Rows L2 SX
open TL (numL pre)

theorem starts3 (l b : List Nat) (hb : b ≠ []) {a : Nat} : Txt.startswith3 (S l) (S b) (a : Int) = pre b (l.drop a) := by
  unfold Txt.startswith3
  have e : fromIndex (S l).length (a : Int) = a := by
    unfold fromIndex
    rw [if_neg (by omega)]
    omega
  rw [e]
  have q := TL.at_iff (x := S l) (y := S b) hb a
  unfold PySem.StrLaws.At at q
  rw [Bool.eq_iff_iff, Bool.and_eq_true, decide_eq_true_iff]
  exact q
def wordR : List (List Nat) → List Nat → Option (Option (List Nat × Nat) × Nat)
  | [], _ => some (none, 0)
  | x :: xs, r => if pre x r then (match numR (r.drop x.length) with
    | none => none
    | some (n, k) => some (some (x, n), x.length + k)) else wordR xs r
def foD : Option (List Nat × Nat) → PyData
  | none => .none
  | some (x, n) => .tuple [.str (S x), .int (n : Int)]
def wordD (a : Nat) (xs : List (List Nat)) (r : List Nat) : PyData := match wordR xs r with
  | none => .none
  | some (o, k) => .tuple [foD o, .int ((a + k : Nat) : Int)]
def Wok (x : List Nat) : Prop := x ≠ [] ∧ x.length ≤ 10
theorem bF_word {l : List Nat} (h : Sh l) {a : Nat} (ha : a ≤ l.length) (z y : Option SD) (x : List Nat) (hx : Wok x) (w : W) : ∃ e,
    bF1_word_at [some (.d (.str (S l))), some (.d (.int (a : Int))), z, some (.d (.str (S x))), y] w = if pre x (l.drop a) then some (.rt (.d (match numR ((l.drop a).drop x.length) with
      | none => .none
      | some (n, k) => .tuple [foD (some (x, n)), .int ((a + (x.length + k) : Nat) : Int)])), e, w) else some (.nx, [some (.d (.str (S l))), some (.d (.int (a : Int))), z, some (.d (.str (S x))), y], w) := by
  unfold bF1_word_at
  have hs : Sh x := by have := hx.2; unfold Sh; omega
  cases hp : pre x (l.drop a) with
  | false =>
    refine ⟨[], ?_⟩
    rw [if_f (e1 := [some (.d (.str (S l))), some (.d (.int (a : Int))), z, some (.d (.str (S x))), y]) (w1 := w) (by push_cast [starts2D, starts3 l x hx.1, hp])]
    push_cast
  | true =>
    have hlen : a + x.length ≤ l.length := by
      have e := congrArg List.length (eq_of_beq hp)
      rw [List.length_take, List.length_drop] at e
      omega
    have hadd : addD (.int (a : Int)) (.int (x.length : Int)) = some (.int ((a + x.length : Nat) : Int)) := add_nat a x.length
    simp only [if_true]
    rw [if_t (e1 := [some (.d (.str (S l))), some (.d (.int (a : Int))), z, some (.d (.str (S x))), y]) (w1 := w) (by push_cast [starts2D, starts3 l x hx.1, hp]),
      seq_nx (e1 := [some (.d (.str (S l))), some (.d (.int (a : Int))), z, some (.d (.str (S x))), some (.d (numD (a + x.length) (l.drop (a + x.length))))]) (w1 := w) (by push_cast [lenD_S hs, hadd, run_number h hlen])]
    rw [List.drop_drop]
    unfold numD
    cases hn : numR (l.drop (a + x.length)) with
    | none => exact ⟨_, by push_cast⟩
    | some q =>
      obtain ⟨n, k⟩ := q
      dsimp only
      rw [show a + (x.length + k) = a + x.length + k by omega]
      exact ⟨_, by push_cast [foD]⟩
theorem loop_word {l : List Nat} (h : Sh l) {a : Nat} (ha : a ≤ l.length) (z : Option SD) (w : W) : ∀ (xs : List (List Nat)) (y u : Option SD), (∀ x ∈ xs, Wok x) → ∃ e y',
    mLoop (mgName 3) bF1_word_at (xs.map fun x => .str (S x)) [some (.d (.str (S l))), some (.d (.int (a : Int))), z, y, u] w = match wordR xs (l.drop a) with
      | some (none, _) => some (.nx, [some (.d (.str (S l))), some (.d (.int (a : Int))), z, y', u], w)
      | some (some q, k) => some (.rt (.d (.tuple [foD (some q), .int ((a + k : Nat) : Int)])), e, w)
      | none => some (.rt (.d .none), e, w)
  | [], y, u, hx => ⟨[], y, rfl⟩
  | x :: xs, y, u, hx => by
    obtain ⟨e, he⟩ := bF_word h ha z u x (hx x (by simp)) w
    unfold wordR
    cases hp : pre x (l.drop a) with
    | true =>
      rw [hp, if_pos rfl] at he
      refine ⟨e, none, ?_⟩
      rw [List.map_cons, loop_rt (by push_cast) he]
      simp only [if_true]
      cases hn : numR ((l.drop a).drop x.length) with
      | none => rfl
      | some q => rfl
    | false =>
      rw [hp] at he
      simp only [Bool.false_eq_true, if_false] at he ⊢
      obtain ⟨e', y', h'⟩ := loop_word h ha z w xs (some (.d (.str (S x)))) u fun x hm => hx x (List.mem_cons_of_mem _ hm)
      refine ⟨e', y', ?_⟩
      rw [List.map_cons, loop_go (by push_cast) he]
      exact h'
theorem wordR_none {xs : List (List Nat)} {r : List Nat} : ∀ {k : Nat}, wordR xs r = some (none, k) → k = 0 := by
  induction xs with
  | nil => intro k h; cases h; rfl
  | cons x xs ih =>
    intro k h
    unfold wordR at h
    split at h
    · split at h <;> cases h
    · exact ih h
theorem run_word {l : List Nat} (h : Sh l) {a : Nat} (ha : a ≤ l.length) (xs : List (List Nat)) (hx : ∀ x ∈ xs, Wok x) (w : W) : m_word_at [.d (.str (S l)), .d (.int (a : Int)), .d (.tuple (xs.map fun x => .str (S x)))] w = some (.d (wordD a xs (l.drop a)), w) := by
  obtain ⟨e, y', he⟩ := loop_word h ha (some (.d (.tuple (xs.map fun x => .str (S x))))) w xs none none hx
  unfold wordD
  cases hq : wordR xs (l.drop a) with
  | none =>
    rw [hq] at he
    refine fn_rt (e' := e) rfl ?_
    unfold b_word_at
    refine (seq_rt ?_).trans rfl
    simp only [mFor, mItems, seqE, mVar, itemsD, Option.map_some, List.map_cons, List.map_nil, List.cons_append, List.nil_append, List.getElem?_cons_zero, List.getElem?_cons_succ]
    exact he
  | some q =>
    obtain ⟨o, k⟩ := q
    cases o with
    | none =>
      rw [hq] at he
      rw [wordR_none hq]
      refine fn_rt (e' := [some (.d (.str (S l))), some (.d (.int (a : Int))), some (.d (.tuple (xs.map fun x => .str (S x)))), y', none]) rfl ?_
      unfold b_word_at
      refine (seq_nx (e1 := [some (.d (.str (S l))), some (.d (.int (a : Int))), some (.d (.tuple (xs.map fun x => .str (S x)))), y', none]) (w1 := w) ?_).trans (by push_cast [foD, Nat.add_zero])
      simp only [mFor, mItems, seqE, mVar, itemsD, Option.map_some, List.map_cons, List.map_nil, List.cons_append, List.nil_append, List.getElem?_cons_zero, List.getElem?_cons_succ]
      exact he
    | some q =>
      rw [hq] at he
      refine fn_rt (e' := e) rfl ?_
      unfold b_word_at
      refine (seq_rt ?_).trans rfl
      simp only [mFor, mItems, seqE, mVar, itemsD, Option.map_some, List.map_cons, List.map_nil, List.cons_append, List.nil_append, List.getElem?_cons_zero, List.getElem?_cons_succ]
      exact he
theorem wordR_bound : ∀ {xs : List (List Nat)} {r : List Nat} {o : Option (List Nat × Nat)} {k : Nat}, wordR xs r = some (o, k) → k ≤ r.length
  | [], r, o, k, h => by cases h; exact Nat.zero_le _
  | x :: xs, r, o, k, h => by
    unfold wordR at h
    split at h
    · rename_i hp
      split at h
      · cases h
      · rename_i n j hn
        cases h
        have h1 := (numR_bound hn).2
        have e := congrArg List.length (eq_of_beq hp)
        rw [List.length_take] at e
        rw [List.length_drop] at h1
        omega
    · exact wordR_bound h

def WS : List (List Nat) := [[97], [98], [114, 99]]
def POSTS : List Nat := [46, 112, 111, 115, 116]
def DEVS : List Nat := [46, 100, 101, 118]
def tailR (r : List Nat) : Option (Option (List Nat × Nat) × Option Nat × Option Nat) := match wordR WS r with
  | none => none
  | some (f, k1) => match wordR [POSTS] (r.drop k1) with
    | none => none
    | some (p, k2) => match wordR [DEVS] (r.drop (k1 + k2)) with
      | none => none
      | some (d, k3) => if k1 + k2 + k3 = r.length then some (f, p.map Prod.snd, d.map Prod.snd) else none
def onD : Option Nat → PyData
  | none => .none
  | some n => .int (n : Int)
def tailD (r : List Nat) : PyData := match tailR r with
  | none => .none
  | some (f, p, d) => .tuple [foD f, onD p, onD d]
theorem bF_tail {l : List Nat} (h : Sh l) {a : Nat} (ha : a ≤ l.length) (x y : Option SD) (acc : List PyData) (hacc : acc.length < 10) (xs : List (List Nat)) (hx : ∀ x ∈ xs, Wok x) (w : W) : ∃ e,
    bF1_tail_at [some (.d (.str (S l))), x, some (.own acc), some (.d (.int (a : Int))), some (.d (.tuple (xs.map fun x => .str (S x)))), y, none, none, none] w = match wordR xs (l.drop a) with
      | none => some (.rt (.d .none), e, w)
      | some (o, k) => some (.nx, [some (.d (.str (S l))), x, some (.own (acc ++ [foD o])), some (.d (.int ((a + k : Nat) : Int))), some (.d (.tuple (xs.map fun x => .str (S x)))), some (.d (wordD a xs (l.drop a))), none, none, none], w) := by
  unfold bF1_tail_at
  rw [seq_nx (e1 := [some (.d (.str (S l))), x, some (.own acc), some (.d (.int (a : Int))), some (.d (.tuple (xs.map fun x => .str (S x)))), some (.d (wordD a xs (l.drop a))), none, none, none]) (w1 := w) (by push_cast [run_word h ha xs hx])]
  have hal : acc.length < sizeLine := by rw [sizeLine_eq]; omega
  unfold wordD
  cases hq : wordR xs (l.drop a) with
  | none => exact ⟨_, seq_rt (by push_cast)⟩
  | some q =>
    obtain ⟨o, k⟩ := q
    refine ⟨[], ?_⟩
    dsimp only
    refine (seq_nx (by push_cast)).trans ?_
    refine (seq_nx (by push_cast [hal])).trans ?_
    push_cast
theorem ws_data : ((["a", "b", "rc"] : List Str).map PyData.str) = WS.map fun x => .str (S x) := by
  unfold WS
  rfl
theorem ws_ok : ∀ x ∈ WS, Wok x := by
  unfold WS Wok
  simp
theorem post_data : PyData.str ".post" = .str (S POSTS) := rfl
theorem dev_data : PyData.str ".dev" = .str (S DEVS) := rfl
theorem post_ok : ∀ x ∈ [POSTS], Wok x := by
  unfold POSTS Wok
  simp
theorem dev_ok : ∀ x ∈ [DEVS], Wok x := by
  unfold DEVS Wok
  simp
def wordsD (xs : List (List Nat)) : PyData := .tuple (xs.map fun x => .str (S x))
theorem tails_it : ∀ (env : Ev) (w : W), mItems (mTup (mCons (mC (.tuple ((["a", "b", "rc"] : List Str).map .str))) (mCons (mTup (mCons (mC (.str ".post")) mNil)) (mCons (mTup (mCons (mC (.str ".dev")) mNil)) mNil)))) env w = some ([wordsD WS, wordsD [POSTS], wordsD [DEVS]], env, w) := by
  intro env w
  rw [ws_data]
  simp only [mSeq, mSet, mVar, mC, mOp, seqE, optE, mTru, mAnd, mOr, mNot, mIf, mBl, mNil, mCons, mCall, mTup, argsD, dsOf, tupD, mFz, mLst, mRet, mDrop, mNx, mBk, mCt, mFail, mItems, itemsD, mRng, mgName, mgNil, mgCons, mgTup, mAsg, mFor, mNo, mPart, mSl, mB, mSetO, mAppend, mPop, mPkOp, mPkIx, mPkLen, mScrLen, mYes, mPar, mPar3, mParO, mAug, mMtS, mIs, mStar, mFmt, mJs, mAndV, mOrV, mListO, mCatO, mgUnl, truD, pk, mEnum, mStep, stepD, List.getElem?_cons_zero, List.getElem?_cons_succ, List.set_cons_zero, List.set_cons_succ, List.length_cons, List.length_nil, Option.map_some, Option.map_none, List.map_cons, List.map_nil, List.cons_append, List.nil_append, List.replicate, Nat.zero_add, Nat.reduceAdd, Nat.reduceSub, Nat.reduceLeDiff, if_true, if_false, Bool.not_true, Bool.not_false, reduceCtorEq, reduceIte, decide_true, decide_false, Bool.false_eq_true, List.isEmpty_cons, List.isEmpty_nil, ixT0, ixT1, ixT2, ixL0, ixL1, ixL2, isD_nn, isD_in, isD_sn, isD_tn, isN_nn, isN_in, isN_sn, isN_tn, Int.cast_ofNat_Int, Int.reduceEq, Int.reduceLT, Int.reduceLE, Bool.and_false, Bool.and_true, Bool.true_and, Bool.false_and, Bool.or_false, Bool.or_true, Bool.true_or, Bool.false_or, wordsD, post_data, dev_data]
theorem pick2 (o : Option (List Nat × Nat)) (i : Nat) (env : Ev) (w : W) (h : env[i]? = some (some (.d (foD o)))) : mIf (mTru (mOp isD (mVar i) (mC .none))) (mC .none) (mOp ixD (mVar i) (mC (.int 1))) env w = some (.d (onD (o.map Prod.snd)), env, w) := by
  cases o with
  | none =>
    simp only [mSeq, mSet, mVar, mC, mOp, seqE, optE, mTru, mAnd, mOr, mNot, mIf, mBl, mNil, mCons, mCall, mTup, argsD, dsOf, tupD, mFz, mLst, mRet, mDrop, mNx, mBk, mCt, mFail, mItems, itemsD, mRng, mgName, mgNil, mgCons, mgTup, mAsg, mFor, mNo, mPart, mSl, mB, mSetO, mAppend, mPop, mPkOp, mPkIx, mPkLen, mScrLen, mYes, mPar, mPar3, mParO, mAug, mMtS, mIs, mStar, mFmt, mJs, mAndV, mOrV, mListO, mCatO, mgUnl, truD, pk, mEnum, mStep, stepD, List.getElem?_cons_zero, List.getElem?_cons_succ, List.set_cons_zero, List.set_cons_succ, List.length_cons, List.length_nil, Option.map_some, Option.map_none, List.map_cons, List.map_nil, List.cons_append, List.nil_append, List.replicate, Nat.zero_add, Nat.reduceAdd, Nat.reduceSub, Nat.reduceLeDiff, if_true, if_false, Bool.not_true, Bool.not_false, reduceCtorEq, reduceIte, decide_true, decide_false, Bool.false_eq_true, List.isEmpty_cons, List.isEmpty_nil, ixT0, ixT1, ixT2, ixL0, ixL1, ixL2, isD_nn, isD_in, isD_sn, isD_tn, isN_nn, isN_in, isN_sn, isN_tn, Int.cast_ofNat_Int, Int.reduceEq, Int.reduceLT, Int.reduceLE, Bool.and_false, Bool.and_true, Bool.true_and, Bool.false_and, Bool.or_false, Bool.or_true, Bool.true_or, Bool.false_or, h, foD]
    rfl
  | some q =>
    obtain ⟨x, n⟩ := q
    simp only [mSeq, mSet, mVar, mC, mOp, seqE, optE, mTru, mAnd, mOr, mNot, mIf, mBl, mNil, mCons, mCall, mTup, argsD, dsOf, tupD, mFz, mLst, mRet, mDrop, mNx, mBk, mCt, mFail, mItems, itemsD, mRng, mgName, mgNil, mgCons, mgTup, mAsg, mFor, mNo, mPart, mSl, mB, mSetO, mAppend, mPop, mPkOp, mPkIx, mPkLen, mScrLen, mYes, mPar, mPar3, mParO, mAug, mMtS, mIs, mStar, mFmt, mJs, mAndV, mOrV, mListO, mCatO, mgUnl, truD, pk, mEnum, mStep, stepD, List.getElem?_cons_zero, List.getElem?_cons_succ, List.set_cons_zero, List.set_cons_succ, List.length_cons, List.length_nil, Option.map_some, Option.map_none, List.map_cons, List.map_nil, List.cons_append, List.nil_append, List.replicate, Nat.zero_add, Nat.reduceAdd, Nat.reduceSub, Nat.reduceLeDiff, if_true, if_false, Bool.not_true, Bool.not_false, reduceCtorEq, reduceIte, decide_true, decide_false, Bool.false_eq_true, List.isEmpty_cons, List.isEmpty_nil, ixT0, ixT1, ixT2, ixL0, ixL1, ixL2, isD_nn, isD_in, isD_sn, isD_tn, isN_nn, isN_in, isN_sn, isN_tn, Int.cast_ofNat_Int, Int.reduceEq, Int.reduceLT, Int.reduceLE, Bool.and_false, Bool.and_true, Bool.true_and, Bool.false_and, Bool.or_false, Bool.or_true, Bool.true_or, Bool.false_or, h, foD]
    rfl
theorem run_tail {l : List Nat} (h : Sh l) {a : Nat} (ha : a ≤ l.length) (w : W) : m_tail_at [.d (.str (S l)), .d (.int (a : Int))] w = some (.d (tailD (l.drop a)), w) := by
  suffices hs : ∃ e, b_tail_at [some (.d (.str (S l))), some (.d (.int (a : Int))), none, none, none, none, none, none, none] w = some (.rt (.d (tailD (l.drop a))), e, w) by
    obtain ⟨e, he⟩ := hs
    exact fn_rt (e' := e) rfl he
  unfold b_tail_at
  rw [seq_nx (e1 := [some (.d (.str (S l))), some (.d (.int (a : Int))), some (.own []), some (.d (.int (a : Int))), none, none, none, none, none]) (w1 := w) (by push_cast)]
  have hfor : ∀ (b : Sx) (env : Ev) (w : W), mFor (mItems (mTup (mCons (mC (.tuple ((["a", "b", "rc"] : List Str).map .str))) (mCons (mTup (mCons (mC (.str ".post")) mNil)) (mCons (mTup (mCons (mC (.str ".dev")) mNil)) mNil))))) (mgName 4) b env w = mLoop (mgName 4) b [wordsD WS, wordsD [POSTS], wordsD [DEVS]] env w := by
    intro b env w
    unfold mFor
    rw [tails_it]
  unfold tailD tailR
  obtain ⟨e1, h1⟩ := bF_tail h ha (some (.d (.int (a : Int)))) none [] (by simp) WS ws_ok w
  cases q1 : wordR WS (l.drop a) with
  | none =>
    rw [q1] at h1
    exact ⟨e1, seq_rt ((hfor _ _ _).trans (loop_rt (by push_cast) h1))⟩
  | some z1 =>
    obtain ⟨f, k1⟩ := z1
    rw [q1] at h1
    have b1 := wordR_bound q1
    rw [List.length_drop] at b1
    obtain ⟨e2, h2⟩ := bF_tail h (a := a + k1) (by omega) (some (.d (.int (a : Int)))) (some (.d (wordD a WS (l.drop a)))) [foD f] (by simp) [POSTS] post_ok w
    dsimp only
    rw [List.drop_drop]
    cases q2 : wordR [POSTS] (l.drop (a + k1)) with
    | none =>
      rw [q2] at h2
      exact ⟨e2, seq_rt ((hfor _ _ _).trans ((loop_go (by push_cast) h1).trans (loop_rt (by push_cast) h2)))⟩
    | some z2 =>
      obtain ⟨p, k2⟩ := z2
      rw [q2] at h2
      have b2 := wordR_bound q2
      rw [List.length_drop] at b2
      obtain ⟨e3, h3⟩ := bF_tail h (a := a + k1 + k2) (by omega) (some (.d (.int (a : Int)))) (some (.d (wordD (a + k1) [POSTS] (l.drop (a + k1))))) [foD f, foD p] (by simp) [DEVS] dev_ok w
      dsimp only
      rw [List.drop_drop, show a + (k1 + k2) = a + k1 + k2 by omega]
      cases q3 : wordR [DEVS] (l.drop (a + k1 + k2)) with
      | none =>
        rw [q3] at h3
        exact ⟨e3, seq_rt ((hfor _ _ _).trans ((loop_go (by push_cast) h1).trans ((loop_go (by push_cast) h2).trans (loop_rt (by push_cast) h3))))⟩
      | some z3 =>
        obtain ⟨d, k3⟩ := z3
        rw [q3] at h3
        have b3 := wordR_bound q3
        rw [List.length_drop] at b3
        dsimp only
        rw [seq_nx ((hfor _ _ _).trans ((loop_go (by push_cast) h1).trans ((loop_go (by push_cast) h2).trans ((loop_go (by push_cast) h3).trans loop_nil))))]
        rw [List.length_drop]
        by_cases c : k1 + k2 + k3 = l.length - a
        · rw [if_pos c]
          have c' : ((a + k1 + k2 + k3 : Nat) : Int) = (l.length : Int) := by omega
          refine ex_nx (by push_cast [lenD_S h, neD_int, c']) ?_
          refine ex_nx (by push_cast) ?_
          exact ⟨_, ret_ok (tup_ok (cons_ok (by push_cast) (cons_ok (pick2 p 7 _ _ rfl) (cons_ok (pick2 d 8 _ _ rfl) nil_ok))) rfl (by simp))⟩
        · rw [if_neg c]
          have c' : ¬ ((a + k1 + k2 + k3 : Nat) : Int) = (l.length : Int) := by omega
          exact ⟨_, seq_rt (by push_cast [lenD_S h, neD_int, c'])⟩

structure Pt where
  ep : Nat
  ns : List Nat
  fo : Option (List Nat × Nat)
  po : Option Nat
  dv : Option Nat
def restR (e : Nat) (r : List Nat) : Option Pt := match numsR (r.length + 1) r with
  | none => none
  | some (ns, j) => if ns.length ≤ 60 then (match tailR (r.drop j) with
    | none => none
    | some (f, p, d) => some ⟨e, ns, f, p, d⟩) else none
def partsR (l : List Nat) : Option Pt := if 33 ∈ l then (match numR l with
  | none => none
  | some (n, k) => if l[k]? = some 33 then restR n (l.drop (k + 1)) else none) else restR 0 l
def ptD (p : Pt) : PyData := .tuple [.int (p.ep : Int), .tuple (intsD p.ns), foD p.fo, onD p.po, onD p.dv]
def opD (f : Pt → PyData) : Option Pt → PyData
  | none => .none
  | some p => f p
theorem numR_stop {l : List Nat} {n k : Nat} (hb : 33 ∈ l) (h : numR l = some (n, k)) : k < l.length := by
  unfold numR at h
  split at h
  · cases h
  · cases h
    have hp := List.takeWhile_prefix (p := dig) (l := l)
    rcases Nat.lt_or_ge (l.takeWhile dig).length l.length with q | q
    · exact q
    · have e : l.takeWhile dig = l := hp.eq_of_length (Nat.le_antisymm hp.length_le q)
      have hm : 33 ∈ l.takeWhile dig := by rw [e]; exact hb
      have := tw_dig l 33 hm
      omega
theorem rest_parts {l : List Nat} (h : Sh l) {a e : Nat} (ha : a ≤ l.length) (y : Option SD) (w : W) : ∃ e',
    mSeq (mSet 4 (mCall m_numbers_at (mCons (mVar 0) (mCons (mVar 2) mNil))))
     (mSeq (mIf (mTru (mOp isD (mVar 4) (mC .none))) (mRet (mC .none)) mNx)
     (mSeq (mSet 5 (mCall m_tail_at (mCons (mVar 0) (mCons (mOp ixD (mVar 4) (mC (.int 1))) mNil))))
     (mRet (mIf (mTru (mOp isD (mVar 5) (mC .none))) (mC .none) (mTup (mCons (mVar 1) (mCons (mOp ixD (mVar 4) (mC (.int 0))) (mStar (mVar 5) mNil)))))))) [some (.d (.str (S l))), some (.d (.int (e : Int))), some (.d (.int (a : Int))), y, none, none] w = some (.rt (.d (opD ptD (restR e (l.drop a)))), e', w) := by
  refine ex_nx (e1 := [some (.d (.str (S l))), some (.d (.int (e : Int))), some (.d (.int (a : Int))), y, some (.d (numsD a (l.drop a))), none]) (w1 := w) (by push_cast [run_numbers h ha]) ?_
  unfold numsD restR
  cases hq : numsR ((l.drop a).length + 1) (l.drop a) with
  | none => exact ex_rt (by push_cast)
  | some q =>
    obtain ⟨ns, j⟩ := q
    have hj := (numsR_bound hq).1
    rw [List.length_drop] at hj
    dsimp only
    unfold numsEnd
    by_cases c : ns.length ≤ 60
    · rw [if_pos c, if_pos c, List.drop_drop]
      refine ex_nx (by push_cast) ?_
      refine ex_nx (e1 := [some (.d (.str (S l))), some (.d (.int (e : Int))), some (.d (.int (a : Int))), y, some (.d (.tuple [.tuple (intsD ns), .int ((a + j : Nat) : Int)])), some (.d (tailD (l.drop (a + j))))]) (w1 := w) (by push_cast [run_tail h (a := a + j) (by omega)]) ?_
      unfold tailD
      cases ht : tailR (l.drop (a + j)) with
      | none => exact ⟨_, by push_cast [opD]⟩
      | some q =>
        obtain ⟨f, p, d⟩ := q
        exact ⟨_, by push_cast [opD, ptD]⟩
    · rw [if_neg c, if_neg c]
      exact ex_rt (by push_cast)
theorem run_parts {l : List Nat} (h : Sh l) (w : W) : m_parts_of [.d (.str (S l))] w = some (.d (opD ptD (partsR l)), w) := by
  refine fn_ex rfl ?_
  unfold b_parts_of
  refine ex_nx (e1 := [some (.d (.str (S l))), none, none, none, none, none]) (w1 := w) (by push_cast [isStr]) ?_
  refine ex_nx (e1 := [some (.d (.str (S l))), some (.d (.int ((0 : Nat) : Int))), some (.d (.int ((0 : Nat) : Int))), none, none, none]) (w1 := w) (by push_cast) ?_
  unfold partsR
  by_cases hb : 33 ∈ l
  · rw [if_pos hb]
    have hin : inD (.str "!") (.str (S l)) = some (.bool true) := by rw [strBang, inD_one, decide_eq_true hb]
    have r0 := run_number h (a := 0) (Nat.zero_le _) w
    rw [List.drop_zero] at r0
    have hz : (((0 : Nat) : Int)) = 0 := rfl
    rw [hz] at r0
    have st : mSet 3 (mCall m_number_at (mCons (mVar 0) (mCons (mC (.int 0)) mNil))) [some (.d (.str (S l))), some (.d (.int ((0 : Nat) : Int))), some (.d (.int ((0 : Nat) : Int))), none, none, none] w = some (.nx, [some (.d (.str (S l))), some (.d (.int ((0 : Nat) : Int))), some (.d (.int ((0 : Nat) : Int))), some (.d (numD 0 l)), none, none], w) := by
      push_cast [r0]
    unfold numD at st
    cases hn : numR l with
    | none =>
      rw [hn] at st
      exact ex_rt ((if_t (by push_cast [hin])).trans ((seq_nx st).trans (seq_rt (by push_cast))))
    | some q =>
      obtain ⟨n, k⟩ := q
      rw [hn] at st
      have hk := numR_stop hb hn
      obtain ⟨c, hc⟩ : ∃ c, l[k]? = some c := ⟨_, List.getElem?_eq_getElem hk⟩
      have hix : ixD (.str (S l)) (.int (k : Int)) = some (.str (S [c])) := ixD_S h hc
      dsimp only at st ⊢
      rw [hc]
      by_cases c33 : c = 33
      · subst c33
        rw [if_pos rfl]
        have hb' := hin
        refine ex_nx (e1 := [some (.d (.str (S l))), some (.d (.int (n : Int))), some (.d (.int ((k + 1 : Nat) : Int))), some (.d (.tuple [.int (n : Int), .int ((0 + k : Nat) : Int)])), none, none]) (w1 := w) ((if_t (e1 := [some (.d (.str (S l))), some (.d (.int ((0 : Nat) : Int))), some (.d (.int ((0 : Nat) : Int))), none, none, none]) (w1 := w) (by push_cast [hin])).trans ((seq_nx st).trans ((seq_nx (e1 := [some (.d (.str (S l))), some (.d (.int ((0 : Nat) : Int))), some (.d (.int ((0 : Nat) : Int))), some (.d (.tuple [.int (n : Int), .int ((0 + k : Nat) : Int)])), none, none]) (w1 := w) (by push_cast [hix, strBang, neD_S])).trans (by push_cast [addD1, Nat.zero_add])))) ?_
        exact rest_parts h (by omega) _ w
      · have c33' : ¬ (some c = some 33) := by simpa using c33
        have c34 : ¬ ([c] = [33]) := by simpa using c33
        rw [if_neg c33']
        exact ex_rt ((if_t (by push_cast [hin])).trans ((seq_nx st).trans (seq_rt (by push_cast [hix, strBang, neD_S, c34, opD]))))
  · rw [if_neg hb]
    have hin : inD (.str "!") (.str (S l)) = some (.bool false) := by rw [strBang, inD_one, decide_eq_false hb]
    refine ex_nx (e1 := [some (.d (.str (S l))), some (.d (.int ((0 : Nat) : Int))), some (.d (.int ((0 : Nat) : Int))), none, none, none]) (w1 := w) ((if_f (by push_cast [hin])).trans rfl) ?_
    exact rest_parts h (Nat.zero_le _) _ w
end Dn

set_option maxHeartbeats 4000000
namespace Dn
open PySem PySem.Spec PyProof.Rows L2 SX
open TL (numL pre joinL)

def bas (ns : List Nat) : List Nat := (ns.reverse.dropWhile (· == 0)).reverse
theorem bas_zero (ns : List Nat) : bas (ns ++ [0]) = bas ns := by
  unfold bas
  rw [List.reverse_append]
  rfl
theorem bas_pos (ns : List Nat) {n : Nat} (h : n ≠ 0) : bas (ns ++ [n]) = ns ++ [n] := by
  unfold bas
  rw [List.reverse_append, List.reverse_singleton, List.singleton_append, List.dropWhile_cons, if_neg (by simpa using h), List.reverse_cons, List.reverse_reverse]
theorem bas_pre (ns : List Nat) : bas ns <+: ns := by
  unfold bas
  have h := List.dropWhile_suffix (l := ns.reverse) (· == 0)
  have h2 := List.reverse_prefix.mpr h
  rwa [List.reverse_reverse] at h2
theorem bas_take (ns : List Nat) : ns.take (bas ns).length = bas ns := (List.prefix_iff_eq_take.mp (bas_pre ns)).symm
theorem intsD_len (ns : List Nat) : (intsD ns).length = ns.length := by unfold intsD; rw [List.length_map]
theorem intsD_get (ns : List Nat) (i : Nat) : (intsD ns)[i]? = ns[i]?.map fun n : Nat => .int (n : Int) := by unfold intsD; rw [List.getElem?_map]
theorem loop_based (ns : List Nat) (w : W) : ∀ (m f : Nat), m ≤ ns.length → m < f →
    mWhile cW1_based bW2_based f [some (.d (.tuple (intsD ns))), some (.d (.int (m : Int)))] w = some (.nx, [some (.d (.tuple (intsD ns))), some (.d (.int (((bas (ns.take m)).length : Nat) : Int)))], w)
  | m, 0, _, hf => by omega
  | 0, f + 1, _, _ => by
    rw [while_end (e1 := [some (.d (.tuple (intsD ns))), some (.d (.int ((0 : Nat) : Int)))]) (w1 := w) (by unfold cW1_based; push_cast [gtI_int])]
    rfl
  | m + 1, f + 1, hm, hf => by
    have h1 : (0 : Int) < ((m + 1 : Nat) : Int) := by omega
    have h2 : subI (.int ((m + 1 : Nat) : Int)) (.int 1) = some (.int (m : Int)) := by
      unfold subI int2
      dsimp only
      rw [show ((m + 1 : Nat) : Int) - 1 = (m : Int) by omega]
    obtain ⟨x, hx⟩ : ∃ x, ns[m]? = some x := ⟨_, List.getElem?_eq_getElem (by omega)⟩
    have h3 : ixD (.tuple (intsD ns)) (.int (m : Int)) = some (.int (x : Int)) := by
      show atI (intsD ns) (m : Int) = _
      rw [atI_nat, intsD_get, hx]
      rfl
    have hs : ns.take (m + 1) = ns.take m ++ [x] := by rw [List.take_add_one, hx]; rfl
    by_cases hz : x = 0
    · subst hz
      rw [while_go (e1 := [some (.d (.tuple (intsD ns))), some (.d (.int ((m + 1 : Nat) : Int)))]) (w1 := w) (e2 := [some (.d (.tuple (intsD ns))), some (.d (.int (m : Int)))]) (w2 := w) (by unfold cW1_based; push_cast [gtI_int, h1, h2, h3, eqD_int]) (by unfold bW2_based; push_cast [h2]),
        loop_based ns w m f (by omega) (by omega), hs, bas_zero]
    · have hz' : ¬ ((x : Int) = 0) := by omega
      rw [while_end (e1 := [some (.d (.tuple (intsD ns))), some (.d (.int ((m + 1 : Nat) : Int)))]) (w1 := w) (by unfold cW1_based; push_cast [gtI_int, h1, h2, h3, eqD_int, hz']), hs, bas_pos _ hz, ← hs, List.length_take, Nat.min_eq_left hm]
theorem run_based {ns : List Nat} (h : ns.length ≤ 1000) (w : W) : m_based [.d (.tuple (intsD ns))] w = some (.d (.tuple (intsD (bas ns))), w) := by
  refine fn_ex rfl ?_
  unfold b_based
  refine ex_nx (e1 := [some (.d (.tuple (intsD ns))), some (.d (.int (ns.length : Int)))]) (w1 := w) (by push_cast [lenD, intsD_len]) ?_
  refine ex_nx (loop_based ns w ns.length fuel (Nat.le_refl _) (by unfold fuel; omega)) ?_
  rw [List.take_length]
  have hc : cutL (intsD ns) none (some (((bas ns).length : Nat) : Int)) = intsD (bas ns) := by
    unfold cutL
    rw [HT.sIx_none, HT.sIx_nat, intsD_len, List.drop_zero, Nat.sub_zero, Nat.min_eq_left (bas_pre ns).length_le]
    unfold intsD
    rw [← List.map_take, bas_take]
  exact ⟨_, by push_cast [slD, hc]⟩

def widx (x : List Nat) : Nat := if x = [97] then 0 else if x = [98] then 1 else 2
def ownK : Option Nat → List Nat
  | none => [1]
  | some d => [0, d]
def tailK (fo : Option (List Nat × Nat)) (po dv : Option Nat) : List Nat := match fo, po with
  | some (x, n), none => [1, widx x, n] ++ ownK dv
  | some (x, n), some p => [1, widx x, n] ++ [2, p] ++ ownK dv
  | none, some p => [3, p] ++ ownK dv
  | none, none => (match dv with
    | none => [2]
    | some d => [0, d])
theorem idx_ws {x : List Nat} (h : x ∈ WS) : idxD ["a", "b", "rc"] [.str (S x)] = some (.int ((widx x : Nat) : Int)) := by
  unfold WS at h
  simp only [List.mem_cons, List.not_mem_nil, or_false] at h
  rcases h with rfl | rfl | rfl <;> rfl
theorem run_tailof {fo : Option (List Nat × Nat)} (hf : ∀ x n, fo = some (x, n) → x ∈ WS) (po dv : Option Nat) (w : W) : m_tail_of [.d (foD fo), .d (onD po), .d (onD dv)] w = some (.d (.tuple (intsD (tailK fo po dv))), w) := by
  refine fn_ex rfl ?_
  unfold b_tail_of
  have sz : ∀ a b : Nat, a + b ≤ 20 → a + b ≤ sizeLine := fun a b h => by rw [sizeLine_eq]; omega
  cases fo with
  | none =>
    cases po <;> cases dv
    · exact ⟨_, by push_cast [foD, onD, tailK, intsD]⟩
    · exact ⟨_, by push_cast [foD, onD, tailK, intsD]⟩
    · exact ⟨_, by push_cast [foD, onD, tailK, intsD, ownK, addD, addT, sizeLine_eq]⟩
    · exact ⟨_, by push_cast [foD, onD, tailK, intsD, ownK, addD, addT, sizeLine_eq]⟩
  | some q =>
    obtain ⟨x, n⟩ := q
    have hi := idx_ws (hf x n rfl)
    cases po <;> cases dv <;> exact ⟨_, by push_cast [foD, onD, tailK, intsD, ownK, addD, addT, sizeLine_eq, hi]⟩

theorem ws_ix {x : List Nat} (h : x ∈ WS) : ixD (.tuple ((["a", "b", "rc"] : List Str).map .str)) (.int ((widx x : Nat) : Int)) = some (.str (S x)) := by
  unfold WS at h
  simp only [List.mem_cons, List.not_mem_nil, or_false] at h
  rcases h with rfl | rfl | rfl <;> rfl
theorem cut3 (a b c : PyData) (r : List PyData) : cutL (a :: b :: c :: r) (some 3) none = r := by
  unfold cutL
  rw [HT.sIx_none, show (3 : Int) = ((3 : Nat) : Int) from rfl, HT.sIx_nat]
  have : min 3 (a :: b :: c :: r).length = 3 := by simp
  rw [this]
  simp
theorem cut2 (a b : PyData) (r : List PyData) : cutL (a :: b :: r) (some 2) none = r := by
  unfold cutL
  rw [HT.sIx_none, show (2 : Int) = ((2 : Nat) : Int) from rfl, HT.sIx_nat]
  have : min 2 (a :: b :: r).length = 2 := by simp
  rw [this]
  simp
theorem eqv_i (a b : Int) : PyData.eqv (.int a) (.int b) = decide (a = b) := by
  have h := eqD_int a b
  unfold eqD at h
  rw [if_pos (by rfl)] at h
  cases h
  rfl
theorem inD_23 (a : Int) : inD (.int a) (.tuple [.int 2, .int 3]) = some (.bool (decide (a = 2) || decide (a = 3))) := by
  unfold inD inS
  simp only [dOk, Bool.true_or, if_true, Option.map_some, List.any_cons, List.any_nil, eqv_i, Bool.or_false]
  rw [show decide (2 = a) = decide (a = 2) from decide_eq_decide.mpr ⟨Eq.symm, Eq.symm⟩, show decide (3 = a) = decide (a = 3) from decide_eq_decide.mpr ⟨Eq.symm, Eq.symm⟩]
theorem eqD_t2 (xs : List PyData) : eqD (.tuple xs) (.tuple [.int 2]) = some (.bool (PyData.eqvAll xs [.int 2])) := by
  unfold eqD
  rw [PyData.eqv, if_pos]
  rw [Bool.or_eq_true]
  exact .inr rfl
theorem eqA_t2 (a : Int) (xs : List PyData) : PyData.eqvAll (.int a :: xs) [.int 2] = (decide (a = 2) && xs.isEmpty) := by
  rw [PyData.eqvAll, eqv_i]
  cases xs <;> rfl
theorem run_split {fo : Option (List Nat × Nat)} (hf : ∀ x n, fo = some (x, n) → x ∈ WS) (po dv : Option Nat) (w : W) : m_split_tail [.d (.tuple (intsD (tailK fo po dv)))] w = some (.d (.tuple [foD fo, onD po, onD dv]), w) := by
  refine fn_ex rfl ?_
  unfold b_split_tail
  cases fo with
  | none =>
    cases po <;> cases dv
    · exact ⟨_, by push_cast [foD, onD, tailK, intsD, eqD_t2, eqA_t2]⟩
    · exact ⟨_, by push_cast [foD, onD, tailK, intsD, eqD_t2, eqA_t2, eqD_int, inD_23, Bool.or_false]⟩
    · exact ⟨_, by push_cast [foD, onD, tailK, intsD, ownK, eqD_t2, eqA_t2, eqD_int, inD_23, slD, cut2]⟩
    · exact ⟨_, by push_cast [foD, onD, tailK, intsD, ownK, eqD_t2, eqA_t2, eqD_int, inD_23, slD, cut2]⟩
  | some q =>
    obtain ⟨x, n⟩ := q
    have hi := ws_ix (hf x n rfl)
    rw [ws_data] at hi ⊢
    cases po <;> cases dv <;> exact ⟨_, by push_cast [foD, onD, tailK, intsD, ownK, eqD_t2, eqA_t2, eqD_int, inD_23, slD, cut2, cut3, hi]⟩

abbrev Sm (n : Nat) : Prop := n < 10 ^ 24
theorem sm_log {n : Nat} (h : Sm n) : (n : Int).natAbs.log2 < 1920 := by
  rw [Int.natAbs_natCast]
  by_cases hz : n = 0
  · subst hz; decide
  · have h1 : n < 2 ^ 80 := Nat.lt_of_lt_of_le h (by decide)
    exact Nat.lt_trans ((Nat.log2_lt hz).mpr h1) (by decide)
theorem strD_num {n : Nat} (h : Sm n) : strD [.int (n : Int)] = some (.str (S (numL n))) := by
  unfold strD
  dsimp only
  rw [if_pos (sm_log h), num_S]
theorem addS_S {a b : List Nat} (h : Sh (a ++ b)) : addS (.str (S a)) (.str (S b)) = some (.str (S (a ++ b))) := by
  unfold addS
  dsimp only
  rw [if_pos (by rw [S_len, S_len, sizeLine_eq]; unfold Sh at h; rw [List.length_append] at h; omega), S_cat]
theorem addD_S {a b : List Nat} (h : Sh (a ++ b)) : addD (.str (S a)) (.str (S b)) = some (.str (S (a ++ b))) := addS_S h
theorem num24 {n : Nat} (h : Sm n) : (numL n).length ≤ 24 := TL.numL_len (by decide) h
end Dn

set_option maxHeartbeats 4000000
namespace Dn
open PySem PySem.Spec PyProof.Rows L2 SX
open TL (numL pre joinL)

structure Pt.Wf (p : Pt) : Prop where
  ne : p.ns ≠ []
  len : p.ns.length ≤ 60
  sm : ∀ n ∈ p.ns, Sm n
  ep : Sm p.ep
  fo : ∀ x n, p.fo = some (x, n) → x ∈ WS ∧ Sm n
  po : ∀ n, p.po = some n → Sm n
  dv : ∀ n, p.dv = some n → Sm n
def epS (b : Bool) (e : Nat) : List Nat := if e = 0 ∧ b = false then [] else numL e ++ [33]
def foS : Option (List Nat × Nat) → List Nat
  | none => []
  | some (x, n) => x ++ numL n
def poS : Option Nat → List Nat
  | none => []
  | some n => POSTS ++ numL n
def dvS : Option Nat → List Nat
  | none => []
  | some n => DEVS ++ numL n
def nsS (ns : List Nat) : List Nat := joinL [46] (ns.map numL)
def prB (b : Bool) (p : Pt) : List Nat := epS b p.ep ++ (nsS p.ns ++ (foS p.fo ++ (poS p.po ++ dvS p.dv)))
theorem nsS_len : ∀ {ns : List Nat}, (∀ n ∈ ns, Sm n) → (nsS ns).length ≤ 25 * ns.length
  | [], _ => by simp [nsS, joinL]
  | [n], h => by
    have := num24 (h n (by simp))
    simp only [nsS, List.map_cons, List.map_nil, joinL, List.length_cons, List.length_nil]
    omega
  | n :: m :: ns, h => by
    have h1 := num24 (h n (by simp))
    have h2 := nsS_len (ns := m :: ns) fun k hk => h k (List.mem_cons_of_mem _ hk)
    simp only [nsS, List.map_cons, joinL, List.length_append, List.length_cons, List.length_nil] at h2 ⊢
    omega
theorem epS_len {b : Bool} {e : Nat} (h : Sm e) : (epS b e).length ≤ 25 := by
  unfold epS
  split
  · simp
  · have := num24 h
    simp only [List.length_append, List.length_cons, List.length_nil]
    omega
theorem ws_len {x : List Nat} (h : x ∈ WS) : x.length ≤ 2 := by
  unfold WS at h
  simp only [List.mem_cons, List.not_mem_nil, or_false] at h
  rcases h with rfl | rfl | rfl <;> decide
theorem foS_len {p : Pt} (h : p.Wf) : (foS p.fo).length ≤ 26 := by
  have q := h.fo
  cases e : p.fo with
  | none => simp [foS]
  | some z =>
    obtain ⟨x, n⟩ := z
    have h1 := ws_len (q x n e).1
    have h2 := num24 (q x n e).2
    simp only [foS, List.length_append]
    omega
theorem poS_len {p : Pt} (h : p.Wf) : (poS p.po).length ≤ 29 := by
  have q := h.po
  cases e : p.po with
  | none => simp [poS]
  | some n =>
    have h2 := num24 (q n e)
    simp only [poS, POSTS, List.length_append, List.length_cons, List.length_nil]
    omega
theorem dvS_len {p : Pt} (h : p.Wf) : (dvS p.dv).length ≤ 28 := by
  have q := h.dv
  cases e : p.dv with
  | none => simp [dvS]
  | some n =>
    have h2 := num24 (q n e)
    simp only [dvS, DEVS, List.length_append, List.length_cons, List.length_nil]
    omega
theorem prB_len {b : Bool} {p : Pt} (h : p.Wf) : (prB b p).length ≤ 2000 := by
  have h1 := epS_len (b := b) h.ep
  have h2 := nsS_len h.sm
  have h3 := foS_len h
  have h4 := poS_len h
  have h5 := dvS_len h
  have h6 := h.len
  unfold prB
  simp only [List.length_append]
  omega
theorem prB_sh {b : Bool} {p : Pt} (h : p.Wf) : Sh (prB b p) := by
  have := prB_len (b := b) h
  unfold Sh
  omega

def keyD (p : Pt) : PyData := .tuple [.int (p.ep : Int), .tuple (intsD (bas p.ns)), .tuple (intsD (tailK p.fo p.po p.dv))]
theorem run_key {p : Pt} (h : p.Wf) (w : W) : m_key_from [.d (ptD p)] w = some (.d (keyD p), w) := by
  refine fn_ex rfl ?_
  unfold b_key_from ptD
  have h1 := run_based (ns := p.ns) (by have := h.len; omega) w
  have h2 := run_tailof (fo := p.fo) (fun x n e => (h.fo x n e).1) p.po p.dv w
  refine ex_nx (by push_cast) ?_
  exact ⟨_, by push_cast [h1, h2, keyD]⟩

theorem run_need {l : List Nat} (hl : Sh l) {p : Pt} (h : p.Wf) (e : partsR l = some p) (w : W) : m_need_key [.d (.str (S l))] w = some (.d (keyD p), w) := by
  refine fn_ex rfl ?_
  unfold b_need_key
  have h1 := run_parts hl w
  rw [e] at h1
  have h1' : m_parts_of [.d (.str (S l))] w = some (.d (ptD p), w) := h1
  have h2 := run_key h w
  have h3 : isD (ptD p) .none = some (.bool false) := rfl
  refine ex_nx (by push_cast [h1']) ?_
  refine ex_nx (by push_cast [h3]) ?_
  exact ⟨_, by push_cast [h2]⟩
end Dn

set_option maxHeartbeats 4000000
namespace Dn
open PySem PySem.Spec PyProof.Rows L2 SX
open TL (numL pre joinL)

/-- no figure comes first -/
def NoFig (r : List Nat) : Prop := ∀ c, r.head? = some c → dig c = false
theorem noFig_nil : NoFig [] := fun c h => by simp at h
theorem noFig_cons {c : Nat} {r : List Nat} (h : dig c = false) : NoFig (c :: r) := fun d e => by
  simp at e
  subst e
  exact h
theorem numL_dig (n : Nat) : ∀ c ∈ numL n, dig c = true := fun c hc => by
  have := TL.numL_digits n c hc
  unfold dig
  simpa using this
theorem tw_all {p : Nat → Bool} : ∀ {a r : List Nat}, (∀ c ∈ a, p c = true) → (∀ c, r.head? = some c → p c = false) → (a ++ r).takeWhile p = a
  | [], r, _, h => by
    rw [List.nil_append]
    cases r with
    | nil => rfl
    | cons c r => rw [List.takeWhile_cons, h c rfl]; rfl
  | x :: a, r, ha, h => by
    rw [List.cons_append, List.takeWhile_cons, ha x (by simp), if_pos rfl, tw_all (fun c hc => ha c (by simp [hc])) h]
theorem numL_head : ∀ (n : Nat), n ≠ 0 → (numL n).head? ≠ some 48 := by
  intro n
  induction n using Nat.strongRecOn with
  | ind n ih =>
    intro hn
    by_cases h : n < 10
    · rw [TL.numL_lt h]
      simp
      omega
    · have h1 := ih (n / 10) (by omega) (by omega)
      rw [TL.numL_step (by omega)]
      cases q : numL (n / 10) with
      | nil => exact absurd q (TL.numL_ne _)
      | cons c r =>
        rw [q] at h1
        exact h1
theorem numR_print {n : Nat} (h : Sm n) {r : List Nat} (hr : NoFig r) : numR (numL n ++ r) = some (n, (numL n).length) := by
  unfold numR
  rw [tw_all (numL_dig n) hr, TL.numL_val, if_neg]
  have h1 := num24 h
  rintro (z | z | z)
  · exact TL.numL_ne n z
  · omega
  · by_cases hn : n = 0
    · subst hn
      exact z.2 (TL.numL_lt (n := 0) (by decide))
    · exact numL_head n hn z.1
theorem drop_app (a b : List Nat) : (a ++ b).drop a.length = b := List.drop_left
theorem noFig_dot (r : List Nat) : NoFig (46 :: r) := noFig_cons (by decide)
theorem numL_cons (n : Nat) : ∃ c r, numL n = c :: r ∧ dig c = true := by
  cases q : numL n with
  | nil => exact absurd q (TL.numL_ne n)
  | cons c r => exact ⟨c, r, rfl, numL_dig n c (by rw [q]; simp)⟩
theorem nsS_cons (n m : Nat) (ns : List Nat) : nsS (n :: m :: ns) = numL n ++ (46 :: nsS (m :: ns)) := rfl
theorem nsS_one (n : Nat) : nsS [n] = numL n := rfl
theorem nsS_head (n : Nat) (ns : List Nat) : ∃ c r, nsS (n :: ns) = c :: r ∧ dig c = true := by
  obtain ⟨c, r, e, h⟩ := numL_cons n
  cases ns with
  | nil => exact ⟨c, r, by rw [nsS_one, e], h⟩
  | cons m ns => exact ⟨c, r ++ (46 :: nsS (m :: ns)), by rw [nsS_cons, e]; rfl, h⟩
theorem numsR_print : ∀ (ns : List Nat) {f : Nat} {r : List Nat}, ns ≠ [] → (∀ n ∈ ns, Sm n) → ns.length ≤ f → NoFig r → nxt r = false → numsR f (nsS ns ++ r) = some (ns, (nsS ns).length)
  | [], _, _, h, _, _, _, _ => absurd rfl h
  | [n], 0, _, _, _, hf, _, _ => by simp at hf
  | [n], f + 1, r, _, hs, _, hr, hx => by
    unfold numsR
    rw [nsS_one, numR_print (hs n (by simp)) hr]
    dsimp only
    rw [drop_app, hx]
    rfl
  | n :: m :: ns, 0, _, _, _, hf, _, _ => by simp at hf
  | n :: m :: ns, f + 1, r, _, hs, hf, hr, hx => by
    have ih := numsR_print (m :: ns) (f := f) (r := r) (by simp) (fun k hk => hs k (List.mem_cons_of_mem _ hk)) (by simp at hf ⊢; omega) hr hx
    unfold numsR
    rw [nsS_cons, List.append_assoc, List.cons_append, numR_print (hs n (by simp)) (noFig_dot _)]
    dsimp only
    obtain ⟨c, q, e, hd⟩ := nsS_head m ns
    have hn : nxt (46 :: (nsS (m :: ns) ++ r)) = true := by
      rw [e]
      exact hd
    have hd1 : (numL n ++ 46 :: (nsS (m :: ns) ++ r)).drop ((numL n).length + 1) = nsS (m :: ns) ++ r := by
      rw [← List.drop_drop, drop_app]
      rfl
    rw [drop_app, hn, if_pos rfl, hd1, ih]
    simp
    omega

def Dot0 (r : List Nat) : Prop := r = [] ∨ ∃ q, r = 46 :: q
theorem dot0_fig {r : List Nat} (h : Dot0 r) : NoFig r := by
  rcases h with rfl | ⟨q, rfl⟩
  · exact noFig_nil
  · exact noFig_dot q
theorem poS_dot (po dv : Option Nat) : Dot0 (poS po ++ dvS dv) := by
  cases po with
  | some n => exact .inr ⟨_, rfl⟩
  | none =>
    cases dv with
    | some n => exact .inr ⟨_, rfl⟩
    | none => exact .inl rfl
theorem dvS_dot (dv : Option Nat) : Dot0 (dvS dv) := poS_dot none dv
theorem pre_head {s c : Nat} {S r : List Nat} (h : c ≠ s) : pre (s :: S) (c :: r) = false := TL.pre_of_head S r h
theorem word_fore {fo : Option (List Nat × Nat)} (hf : ∀ x n, fo = some (x, n) → x ∈ WS ∧ Sm n) {r : List Nat} (hr : Dot0 r) : wordR WS (foS fo ++ r) = some (fo, (foS fo).length) := by
  cases fo with
  | none =>
    show wordR WS r = some (none, 0)
    rcases hr with rfl | ⟨q, rfl⟩
    · rfl
    · unfold WS
      simp only [wordR, pre_head (c := 46) (s := 97) (by decide), pre_head (c := 46) (s := 98) (by decide), pre_head (c := 46) (s := 114) (by decide), Bool.false_eq_true, if_false]
  | some q =>
    obtain ⟨x, n⟩ := q
    obtain ⟨h1, h2⟩ := hf x n rfl
    have hn := numR_print h2 (dot0_fig hr)
    unfold WS at h1
    simp only [List.mem_cons, List.not_mem_nil, or_false] at h1
    have key : ∀ y : List Nat, (y ++ (numL n ++ r)).drop y.length = numL n ++ r := fun y => drop_app y _
    rcases h1 with rfl | rfl | rfl
    · show wordR WS ([97] ++ numL n ++ r) = _
      rw [List.append_assoc]
      unfold WS wordR
      rw [TL.pre_self, if_pos rfl, key, hn]
      simp [foS]
      omega
    · show wordR WS ([98] ++ numL n ++ r) = _
      rw [List.append_assoc]
      unfold WS wordR
      rw [show pre [97] ([98] ++ (numL n ++ r)) = false from pre_head (by decide)]
      unfold wordR
      rw [TL.pre_self, if_pos rfl, key, hn]
      simp [foS]
      omega
    · show wordR WS ([114, 99] ++ numL n ++ r) = _
      rw [List.append_assoc]
      unfold WS wordR
      rw [show pre [97] ([114, 99] ++ (numL n ++ r)) = false from pre_head (by decide)]
      unfold wordR
      rw [show pre [98] ([114, 99] ++ (numL n ++ r)) = false from pre_head (by decide)]
      unfold wordR
      rw [TL.pre_self, if_pos rfl, key, hn]
      simp [foS]
      omega
theorem word_one {y : List Nat} {n : Nat} (h : Sm n) {r : List Nat} (hr : Dot0 r) : wordR [y] (y ++ numL n ++ r) = some (some (y, n), (y ++ numL n).length) := by
  have hn := numR_print h (dot0_fig hr)
  rw [List.append_assoc]
  unfold wordR
  rw [TL.pre_self, if_pos rfl, drop_app, hn, List.length_append]
theorem word_post {po : Option Nat} (hp : ∀ n, po = some n → Sm n) (dv : Option Nat) : wordR [POSTS] (poS po ++ dvS dv) = some (po.map fun n => (POSTS, n), (poS po).length) := by
  cases po with
  | some n => exact word_one (hp n rfl) (dvS_dot dv)
  | none =>
    cases dv with
    | none => rfl
    | some d =>
      show wordR [POSTS] (DEVS ++ numL d) = some (none, 0)
      have : pre POSTS (DEVS ++ numL d) = false := by
        unfold POSTS DEVS pre
        simp
      unfold wordR
      rw [this]
      rfl
theorem word_dev {dv : Option Nat} (hp : ∀ n, dv = some n → Sm n) : wordR [DEVS] (dvS dv) = some (dv.map fun n => (DEVS, n), (dvS dv).length) := by
  cases dv with
  | none => rfl
  | some n =>
    have := word_one (y := DEVS) (hp n rfl) (r := []) (.inl rfl)
    rw [List.append_nil] at this
    exact this
theorem tail_print {p : Pt} (h : p.Wf) : tailR (foS p.fo ++ (poS p.po ++ dvS p.dv)) = some (p.fo, p.po, p.dv) := by
  unfold tailR
  rw [word_fore h.fo (poS_dot p.po p.dv)]
  dsimp only
  rw [drop_app, word_post h.po]
  dsimp only
  rw [← List.drop_drop, drop_app, drop_app, word_dev h.dv]
  dsimp only
  rw [if_pos (by simp only [List.length_append]; omega)]
  cases p.po <;> cases p.dv <;> rfl

def tlS (p : Pt) : List Nat := foS p.fo ++ (poS p.po ++ dvS p.dv)
theorem tlS_cases {p : Pt} (h : p.Wf) : tlS p = [] ∨ ∃ c q, tlS p = c :: q ∧ dig c = false ∧ (c = 46 → ∃ d q', q = d :: q' ∧ dig d = false) := by
  unfold tlS
  have hf := h.fo
  cases e : p.fo with
  | some z =>
    obtain ⟨x, n⟩ := z
    have hx := (hf x n e).1
    unfold WS at hx
    simp only [List.mem_cons, List.not_mem_nil, or_false] at hx
    rcases hx with rfl | rfl | rfl
    · exact .inr ⟨97, _, rfl, by decide, fun z => absurd z (by decide)⟩
    · exact .inr ⟨98, _, rfl, by decide, fun z => absurd z (by decide)⟩
    · exact .inr ⟨114, _, rfl, by decide, fun z => absurd z (by decide)⟩
  | none =>
    cases p.po with
    | some n => exact .inr ⟨46, _, rfl, by decide, fun _ => ⟨112, _, rfl, by decide⟩⟩
    | none =>
      cases p.dv with
      | some n => exact .inr ⟨46, _, rfl, by decide, fun _ => ⟨100, _, rfl, by decide⟩⟩
      | none => exact .inl rfl
theorem tlS_fig {p : Pt} (h : p.Wf) : NoFig (tlS p) := by
  rcases tlS_cases h with e | ⟨c, q, e, hc, _⟩
  · rw [e]; exact noFig_nil
  · rw [e]; exact noFig_cons hc
theorem tlS_nxt {p : Pt} (h : p.Wf) : nxt (tlS p) = false := by
  rcases tlS_cases h with e | ⟨c, q, e, hc, hd⟩
  · rw [e]; rfl
  · rw [e]
    unfold nxt
    split
    · rename_i z
      cases z
      obtain ⟨d, q', e', hd'⟩ := hd rfl
      cases e'
      exact hd'
    · rfl
theorem rest_print {p : Pt} (h : p.Wf) : restR p.ep (nsS p.ns ++ tlS p) = some p := by
  have hl : p.ns.length ≤ (nsS p.ns).length := by
    have : ∀ ns : List Nat, ns.length ≤ (nsS ns).length := by
      intro ns
      induction ns with
      | nil => exact Nat.zero_le _
      | cons n ns ih =>
        obtain ⟨c, r, e, _⟩ := numL_cons n
        cases ns with
        | nil => rw [nsS_one, e]; simp
        | cons m ns =>
          rw [nsS_cons, e]
          simp only [List.length_append, List.length_cons] at ih ⊢
          omega
    exact this _
  unfold restR
  rw [numsR_print p.ns h.ne h.sm (by rw [List.length_append]; omega) (tlS_fig h) (tlS_nxt h)]
  dsimp only
  rw [if_pos h.len, drop_app]
  unfold tlS
  rw [tail_print h]
theorem bang_num (n : Nat) : 33 ∉ numL n := TL.numL_free (.inl (by decide))
theorem bang_ns : ∀ ns : List Nat, 33 ∉ nsS ns
  | [] => by simp [nsS, joinL]
  | [n] => bang_num n
  | n :: m :: ns => by
    rw [nsS_cons]
    have h1 := bang_num n
    have h2 := bang_ns (m :: ns)
    simp [h1, h2]
theorem bang_tl {p : Pt} (h : p.Wf) : 33 ∉ tlS p := by
  unfold tlS
  have hf : 33 ∉ foS p.fo := by
    have q := h.fo
    cases e : p.fo with
    | none => simp [foS]
    | some z =>
      obtain ⟨x, n⟩ := z
      have hx := (q x n e).1
      have h1 := bang_num n
      unfold WS at hx
      simp only [List.mem_cons, List.not_mem_nil, or_false] at hx
      rcases hx with rfl | rfl | rfl <;> simp [foS, h1]
  have hp : 33 ∉ poS p.po := by
    cases p.po with
    | none => simp [poS]
    | some n => simp [poS, POSTS, bang_num n]
  have hd : 33 ∉ dvS p.dv := by
    cases p.dv with
    | none => simp [dvS]
    | some n => simp [dvS, DEVS, bang_num n]
  simp [hf, hp, hd]
theorem parts_print (b : Bool) {p : Pt} (h : p.Wf) : partsR (prB b p) = some p := by
  have hb : 33 ∉ nsS p.ns ++ tlS p := by
    have h1 := bang_ns p.ns
    have h2 := bang_tl h
    simp [h1, h2]
  have ep : prB b p = epS b p.ep ++ (nsS p.ns ++ tlS p) := rfl
  rw [ep]
  unfold partsR epS
  by_cases c : p.ep = 0 ∧ b = false
  · rw [if_pos c, List.nil_append, if_neg hb]
    have := rest_print h
    rw [c.1] at this
    exact this
  · rw [if_neg c, if_pos (by simp), List.append_assoc, numR_print h.ep (r := [33] ++ (nsS p.ns ++ tlS p)) (noFig_cons (by decide))]
    dsimp only
    have hg : (numL p.ep ++ ([33] ++ (nsS p.ns ++ tlS p)))[(numL p.ep).length]? = some 33 := by
      rw [List.getElem?_append_right (Nat.le_refl _), Nat.sub_self]
      rfl
    rw [hg, if_pos rfl, ← List.drop_drop, drop_app]
    exact rest_print h
theorem snoc_ind {α : Type} {P : List α → Prop} (h0 : P []) (hs : ∀ xs x, P xs → P (xs ++ [x])) (l : List α) : P l := by
  have h : ∀ m : List α, P m.reverse := fun m => by
    induction m with
    | nil => exact h0
    | cons x m ih => rw [List.reverse_cons]; exact hs _ _ ih
  have := h l.reverse
  rwa [List.reverse_reverse] at this
theorem bas_bas (ns : List Nat) : bas (bas ns) = bas ns := by
  have key : ∀ xs : List Nat, bas xs = [] ∨ ∃ ys n, bas xs = ys ++ [n] ∧ n ≠ 0 := by
    refine snoc_ind (.inl rfl) fun ys n ih => ?_
    by_cases hn : n = 0
    · subst hn; rw [bas_zero]; exact ih
    · rw [bas_pos _ hn]; exact .inr ⟨ys, n, rfl, hn⟩
  rcases key ns with e | ⟨ys, n, e, hn⟩
  · rw [e]; rfl
  · rw [e, bas_pos _ hn]
end Dn

set_option maxHeartbeats 4000000
namespace Dn
open PySem PySem.Spec PyProof.Rows L2 SX
open TL (numL pre joinL)

theorem eqD_nil1 (x : PyData) (xs : List PyData) : eqD (.list (x :: xs)) (.list []) = some (.bool false) := by
  unfold eqD
  rw [PyData.eqv, if_pos (by rw [Bool.or_eq_true]; exact .inr rfl)]
  rfl
theorem neD_nil1 (x : PyData) (xs : List PyData) : neD (.list (x :: xs)) (.list []) = some (.bool true) := by
  unfold neD
  rw [PyData.eqv, if_pos (by rw [Bool.or_eq_true]; exact .inr rfl)]
  rfl
section
variable (t e m d p : Option SD) (u v z : Option SD) (w : W)
end
end Dn

set_option maxHeartbeats 4000000
namespace Dn
open PySem PySem.Spec PyProof.Rows L2 SX
open TL (numL pre joinL)

end Dn

set_option maxHeartbeats 4000000
namespace Dn
open PySem PySem.Spec PyProof.Rows L2 SX
open TL (numL pre joinL)

theorem intsD_snoc (ns : List Nat) (n : Nat) : intsD (ns ++ [n]) = intsD ns ++ [.int (n : Int)] := by unfold intsD; simp
end Dn

set_option maxHeartbeats 4000000
namespace Dn
open PySem PySem.Spec PyProof.Rows L2 SX
open TL (numL pre joinL)

end Dn

set_option maxHeartbeats 4000000
namespace Dn
open PySem PySem.Spec PyProof.Rows L2 SX
open TL (numL pre joinL)

/-- n more draws may be done -/
def Gd (n : Nat) (s : DS) : Prop := s.Ok ∧ s.pos + (n : Int) ≤ 1000000000000
theorem Gd.mono {m n : Nat} {s : DS} (h : Gd m s) (hl : n ≤ m) : Gd n s := ⟨h.1, by have := h.2; omega⟩
theorem gd_begin (ns : List Int) (h : ns.length ≤ 63) : Gd 1000000 (beginDS ns) := ⟨begin_ok ns h, by show (0 : Int) + _ ≤ _; decide⟩
theorem draw_ok {n : Nat} {s : DS} (h : Gd (n + 1) s) {many : Nat} (h1 : 0 < many) (h2 : many < 1073741824) : ∃ (k : Nat) (s' : DS), m__law_draw [.st, .d (.int (many : Int))] (some s) = some (.d (.int (k : Int)), some s') ∧ k < many ∧ Gd n s' := by
  have hr := draw_range s (many := (many : Int)) (by omega)
  refine ⟨(s.val many).toNat, s.next many, ?_, by omega, ?_⟩
  · rw [draw_eq h.1 (by omega) (by omega), show (((s.val (many : Int)).toNat : Nat) : Int) = s.val (many : Int) by omega]
  · have ha := draw_adv s (many : Int)
    have := h.2
    refine ⟨ha.ok h.1 (by omega), ?_⟩
    have := ha.hi
    omega
end Dn

set_option maxHeartbeats 4000000
namespace Dn
open PySem PySem.Spec PyProof.Rows L2 SX
open TL (numL pre joinL)

abbrev Fx := List SD → W → Option (SD × W)
def DrawOk (md : Fx) : Prop := ∀ (n : Nat) (s : DS), Gd (n + 1) s → ∀ many : Nat, 0 < many → many < 1073741824 → ∃ (k : Nat) (s' : DS), md [.st, .d (.int (many : Int))] (some s) = some (.d (.int (k : Int)), some s') ∧ k < many ∧ Gd n s'
theorem drawOk : DrawOk m__law_draw := fun n s h many h1 h2 => draw_ok h h1 h2
theorem drawE {md : Fx} {i : Nat} {many : Int} {env : Ev} {w w' : W} {k : PyData} (hst : env[i]? = some (some .st)) (hd : md [.st, .d (.int many)] w = some (.d k, w')) : mCall md (mCons (mVar i) (mCons (mC (.int many)) mNil)) env w = some (.d k, env, w') := by
  simp only [mCall, mCons, mNil, mVar, mC, hst, hd]
theorem call2 {m : Fx} {a b : Ex} {env e1 e2 : Ev} {w w1 w2 w3 : W} {x y r : SD} (h1 : a env w = some (x, e1, w1)) (h2 : b e1 w1 = some (y, e2, w2)) (hm : m [x, y] w2 = some (r, w3)) : mCall m (mCons a (mCons b mNil)) env w = some (r, e2, w3) := by
  simp only [mCall, mCons, mNil, h1, h2, hm]
theorem call1 {m : Fx} {a : Ex} {env e1 : Ev} {w w1 w3 : W} {x r : SD} (h1 : a env w = some (x, e1, w1)) (hm : m [x] w1 = some (r, w3)) : mCall m (mCons a mNil) env w = some (r, e1, w3) := by
  simp only [mCall, mCons, mNil, h1, hm]
theorem op_ok {g : PyData → PyData → Option PyData} {a b : Ex} {env e1 e2 : Ev} {w w1 w2 : W} {x y z : PyData} (h1 : a env w = some (.d x, e1, w1)) (h2 : b e1 w1 = some (.d y, e2, w2)) (hz : g x y = some z) : mOp g a b env w = some (.d z, e2, w2) := by
  simp only [mOp, seqE, h1, h2, hz, optE]
theorem lst_ok {ms : Ax} {env e1 : Ev} {w w1 : W} {rs : List SD} {ds : List PyData} (h : ms env w = some (rs, e1, w1)) (hd : dsOf rs = some ds) (hl : ds.length ≤ 1000) : mFz (mLst ms) env w = some (.d (.list ds), e1, w1) := by
  simp only [mFz, mLst, argsD, h, hd, hl, if_true]
theorem set_ok {i : Nat} {m : Ex} {env e1 : Ev} {w w1 : W} {r : SD} (h : m env w = some (r, e1, w1)) : mSet i m env w = some (.nx, e1.set i (some r), w1) := by
  simp only [mSet, h]
theorem tru_ok {m : Ex} {env e1 : Ev} {w w1 : W} {b : Bool} (h : m env w = some (.d (.bool b), e1, w1)) : mTru m env w = some (b, e1, w1) := by
  simp only [mTru, seqE, h, truD, Option.map_some]
theorem var_d {i : Nat} {x : PyData} {env : Ev} {w : W} (h : env[i]? = some (some (.d x))) : mVar i env w = some (.d x, env, w) := by
  simp only [mVar, h]
section
variable {md : Fx}
end

end Dn

set_option maxHeartbeats 4000000
namespace Dn
open PySem PySem.Spec PyProof.Rows L2 SX
open TL (numL pre joinL)

mutual
def nb : PyData → Bool
  | .none => true
  | .int _ => true
  | .str _ => true
  | .list xs => nbA xs
  | .tuple xs => nbA xs
  | _ => false
def nbA : List PyData → Bool
  | [] => true
  | x :: xs => nb x && nbA xs
end
mutual
theorem eqv_eq : ∀ (x y : PyData), nb x = true → nb y = true → PyData.eqv x y = true → x = y
  | .none, .none, _, _, _ => rfl
  | .int i, .int j, _, _, h => by
    rw [PyData.eqv] at h
    rw [eq_of_beq h]
  | .str i, .str j, _, _, h => by
    rw [PyData.eqv] at h
    rw [eq_of_beq h]
  | .list xs, .list ys, h1, h2, h => by
    rw [PyData.eqv] at h
    rw [eqvA_eq xs ys (by simpa [nb] using h1) (by simpa [nb] using h2) h]
  | .tuple xs, .tuple ys, h1, h2, h => by
    rw [PyData.eqv] at h
    rw [eqvA_eq xs ys (by simpa [nb] using h1) (by simpa [nb] using h2) h]
  | .bool _, _, h, _, _ => by cases h
  | .dict _, _, h, _, _ => by cases h
  | _, .bool _, _, h, _ => by cases h
  | _, .dict _, _, h, _ => by cases h
  | .none, .int _, _, _, h | .none, .str _, _, _, h | .none, .list _, _, _, h | .none, .tuple _, _, _, h => by simp [PyData.eqv] at h
  | .int _, .none, _, _, h | .int _, .str _, _, _, h | .int _, .list _, _, _, h | .int _, .tuple _, _, _, h => by simp [PyData.eqv] at h
  | .str _, .none, _, _, h | .str _, .int _, _, _, h | .str _, .list _, _, _, h | .str _, .tuple _, _, _, h => by simp [PyData.eqv] at h
  | .list _, .none, _, _, h | .list _, .int _, _, _, h | .list _, .str _, _, _, h | .list _, .tuple _, _, _, h => by simp [PyData.eqv] at h
  | .tuple _, .none, _, _, h | .tuple _, .int _, _, _, h | .tuple _, .str _, _, _, h | .tuple _, .list _, _, _, h => by simp [PyData.eqv] at h
theorem eqvA_eq : ∀ (xs ys : List PyData), nbA xs = true → nbA ys = true → PyData.eqvAll xs ys = true → xs = ys
  | [], [], _, _, _ => rfl
  | x :: xs, y :: ys, h1, h2, h => by
    rw [nbA, Bool.and_eq_true] at h1 h2
    rw [PyData.eqvAll, Bool.and_eq_true] at h
    rw [eqv_eq x y h1.1 h2.1 h.1, eqvA_eq xs ys h1.2 h2.2 h.2]
  | [], _ :: _, _, _, h => by simp [PyData.eqvAll] at h
  | _ :: _, [], _, _, h => by simp [PyData.eqvAll] at h
end
mutual
theorem eqv_rf : ∀ (x : PyData), nb x = true → PyData.eqv x x = true
  | .none, _ => rfl
  | .int i, _ => by rw [PyData.eqv]; exact beq_self_eq_true _
  | .str i, _ => by rw [PyData.eqv]; exact beq_self_eq_true _
  | .list xs, h => by rw [PyData.eqv]; exact eqvA_rf xs (by simpa [nb] using h)
  | .tuple xs, h => by rw [PyData.eqv]; exact eqvA_rf xs (by simpa [nb] using h)
  | .bool _, h => by cases h
  | .dict _, h => by cases h
theorem eqvA_rf : ∀ (xs : List PyData), nbA xs = true → PyData.eqvAll xs xs = true
  | [], _ => rfl
  | x :: xs, h => by
    rw [nbA, Bool.and_eq_true] at h
    rw [PyData.eqvAll, eqv_rf x h.1, eqvA_rf xs h.2]
    rfl
end
open Classical in
theorem eqv_dec {x y : PyData} (h1 : nb x = true) (h2 : nb y = true) : PyData.eqv x y = decide (x = y) := by
  by_cases h : x = y
  · subst h
    rw [eqv_rf x h1, decide_eq_true rfl]
  · rw [decide_eq_false h]
    cases q : PyData.eqv x y with
    | false => rfl
    | true => exact absurd (eqv_eq x y h1 h2 q) h
theorem nb_ints : ∀ ns : List Nat, nbA (intsD ns) = true
  | [] => rfl
  | n :: ns => nb_ints ns
theorem dOk_ints (m : Nat) : ∀ ns : List Nat, dOkAll m (intsD ns) = true
  | [] => by unfold intsD; simp [dOkAll]
  | n :: ns => by
    have ih := dOk_ints m ns
    unfold intsD at ih ⊢
    simp [dOkAll, dOk]
    simpa using ih
theorem intsD_inj : ∀ {a b : List Nat}, intsD a = intsD b → a = b
  | [], [], _ => rfl
  | [], _ :: _, h => by simp [intsD] at h
  | _ :: _, [], h => by simp [intsD] at h
  | x :: a, y :: b, h => by
    simp only [intsD, List.map_cons, List.cons.injEq, PyData.int.injEq] at h
    rw [show x = y by omega, intsD_inj (a := a) (b := b) h.2]
end Dn

set_option maxHeartbeats 4000000
namespace Dn
open PySem PySem.Spec PyProof.Rows L2 SX
open TL (numL pre joinL)

def ltL : List Nat → List Nat → Bool
  | [], [] => false
  | [], _ :: _ => true
  | _ :: _, [] => false
  | x :: xs, y :: ys => if x = y then ltL xs ys else decide (x < y)
theorem ltL_irr : ∀ a : List Nat, ltL a a = false
  | [] => rfl
  | x :: xs => by rw [ltL, if_pos rfl]; exact ltL_irr xs
/-- epoch, base, tail -/
abbrev Ky := Nat × List Nat × List Nat
def ltK (a b : Ky) : Bool := if a.1 = b.1 then (if a.2.1 = b.2.1 then ltL a.2.2 b.2.2 else ltL a.2.1 b.2.1) else decide (a.1 < b.1)
def kyD (k : Ky) : PyData := .tuple [.int (k.1 : Int), .tuple (intsD k.2.1), .tuple (intsD k.2.2)]
def Pt.key (p : Pt) : Ky := (p.ep, bas p.ns, tailK p.fo p.po p.dv)
theorem keyD_key (p : Pt) : keyD p = kyD p.key := rfl
theorem alike_intsL : ∀ a b : List Nat, PySem.W.alikeAll (intsD a) (intsD b) = true
  | [], _ => by unfold intsD; simp [PySem.W.alikeAll]
  | _ :: _, [] => by unfold intsD; simp [PySem.W.alikeAll]
  | x :: xs, y :: ys => by
    have := alike_intsL xs ys
    unfold intsD at this ⊢
    simp only [List.map_cons, PySem.W.alikeAll, PySem.W.alike, Bool.true_and]
    exact this
theorem alike_ky (a b : Ky) : PySem.W.alike (kyD a) (kyD b) = true := by
  unfold kyD
  simp only [PySem.W.alike, PySem.W.alikeAll, alike_intsL, Bool.and_self]
theorem rowLt_ints : ∀ a b : List Nat, PyProof.Rows.lexLt itemOrd (PySem.W.keyToksAll (intsD a)) (PySem.W.keyToksAll (intsD b)) = ltL a b
  | [], [] => by rw [ltL_irr]; exact PySem.W.dataLt_self (.tuple [])
  | [], y :: ys => by
    unfold intsD
    simp only [List.map_nil, List.map_cons, PySem.W.keyToksAll, ltL]
    rfl
  | x :: xs, [] => by
    unfold intsD
    simp only [List.map_nil, List.map_cons, PySem.W.keyToksAll, ltL]
    rfl
  | x :: xs, y :: ys => by
    have e : intsD (x :: xs) = .int (x : Int) :: intsD xs := rfl
    have e2 : intsD (y :: ys) = .int (y : Int) :: intsD ys := rfl
    rw [e, e2, PySem.W.dataLt_cons (by simp [PySem.W.alike]), ltL, eqv_i, PySem.W.dataLt_int, rowLt_ints xs ys]
    by_cases h : x = y
    · subst h; simp
    · rw [if_neg (by simpa using (fun z => h (Int.ofNat.inj z))), if_neg h]
      exact decide_eq_decide.mpr (by omega)
theorem dOk_ky (n : Nat) (k : Ky) : dOk (n + 2) (kyD k) = true := by
  unfold kyD
  simp [dOk, dOkAll, dOk_ints]
theorem eqv_intsT (a b : List Nat) : PyData.eqv (.tuple (intsD a)) (.tuple (intsD b)) = decide (a = b) := by
  rw [eqv_dec (show nb (.tuple (intsD a)) = true by simp [nb, nb_ints]) (show nb (.tuple (intsD b)) = true by simp [nb, nb_ints])]
  refine decide_eq_decide.mpr ⟨fun h => intsD_inj (PyData.tuple.inj h), fun h => by rw [h]⟩
theorem dataLt_ky (a b : Ky) : PySem.W.dataLt (kyD a) (kyD b) = ltK a b := by
  obtain ⟨a1, a2, a3⟩ := a
  obtain ⟨b1, b2, b3⟩ := b
  unfold kyD ltK
  dsimp only
  have al : PySem.W.alike (.tuple (intsD a2)) (.tuple (intsD b2)) = true := by simp only [PySem.W.alike, alike_intsL]
  have al3 : PySem.W.alike (.tuple (intsD a3)) (.tuple (intsD b3)) = true := by simp only [PySem.W.alike, alike_intsL]
  rw [PySem.W.dataLt_tuple, PySem.W.dataLt_cons (by simp [PySem.W.alike]), eqv_i, PySem.W.dataLt_int, PySem.W.dataLt_cons al, eqv_intsT, PySem.W.dataLt_tuple, rowLt_ints, PySem.W.dataLt_cons al3, eqv_intsT, PySem.W.dataLt_tuple, rowLt_ints]
  by_cases h1 : a1 = b1
  · subst h1
    rw [if_pos (by simp), if_pos rfl]
    by_cases h2 : a2 = b2
    · subst h2
      rw [if_pos (by simp), if_pos rfl]
      by_cases h3 : a3 = b3
      · subst h3
        rw [if_pos (by simp), ltL_irr]
        exact PySem.W.dataLt_self (.tuple [])
      · rw [if_neg (by simpa using h3)]
    · rw [if_neg (by simpa using h2), if_neg h2]
  · rw [if_neg (by simpa using (fun z => h1 (Int.ofNat.inj z))), if_neg h1]
    exact decide_eq_decide.mpr (by omega)
theorem ltD_ky (a b : Ky) : ltD (kyD a) (kyD b) = some (.bool (ltK a b)) := by
  have h := dataLt_ky a b
  have h2 := alike_ky a b
  have h3 := dOk_ky 58 a
  unfold ltD
  show ltT (kyD a) (kyD b) = _
  unfold ltT
  rw [h, h2, h3, Bool.true_or, Bool.and_self, if_pos rfl]
theorem cmpOk_ky (a b : Ky) : cmpOk (kyD a) (kyD b) = true := by
  unfold cmpOk
  rw [alike_ky, dOk_ky 58 a]
  rfl
theorem leD_ky (a b : Ky) : leD (kyD a) (kyD b) = some (.bool (!ltK b a)) := by
  show leT (kyD a) (kyD b) = _
  unfold leT
  rw [cmpOk_ky, if_pos rfl, dataLt_ky]
theorem al_ky (a b : Ky) : alAll [kyD a, kyD b] = true := by
  unfold alAll
  simp only [List.all_cons, List.all_nil, alike_ky, Bool.and_self, dOkAll, dOk_ky 57]
  rfl
def maxK (a b : Ky) : Ky := if ltK a b then b else a
def minK (a b : Ky) : Ky := if ltK b a then b else a
theorem max2E_ky (a b : Ky) : max2E [kyD a, kyD b] = some (kyD (maxK a b)) := by
  unfold max2E
  dsimp only
  rw [al_ky, if_pos rfl, dataLt_ky]
  unfold maxK
  split <;> rfl
theorem min2E_ky (a b : Ky) : min2E [kyD a, kyD b] = some (kyD (minK a b)) := by
  unfold min2E
  dsimp only
  rw [al_ky, if_pos rfl, dataLt_ky]
  unfold minK
  split <;> rfl
end Dn

set_option maxHeartbeats 4000000
namespace Dn
open PySem PySem.Spec PyProof.Rows L2 SX
open TL (numL pre joinL)

theorem for_ok {m : Lx} {g : Gx} {b : Sx} {env e1 : Ev} {w w1 : W} {ds : List PyData} (h : m env w = some (ds, e1, w1)) : mFor m g b env w = mLoop g b ds e1 w1 := by
  simp only [mFor, h]
end Dn

set_option maxHeartbeats 4000000
namespace Dn
open PySem PySem.Spec PyProof.Rows L2 SX
open TL (numL pre joinL)

theorem run_partsP (b : Bool) {p : Pt} (h : p.Wf) (w : W) : m_parts_of [.d (.str (S (prB b p)))] w = some (.d (ptD p), w) := by
  have h1 := run_parts (prB_sh (b := b) h) w
  rw [parts_print b h] at h1
  exact h1
theorem run_keyof (b : Bool) {p : Pt} (h : p.Wf) (w : W) : m_key_of [.d (.str (S (prB b p)))] w = some (.d (kyD p.key), w) := by
  refine fn_ex rfl ?_
  unfold b_key_of
  have h1 := run_partsP b h w
  have h2 := run_key h w
  rw [keyD_key] at h2
  exact ⟨_, by push_cast [h1, h2]⟩
theorem run_needP (b : Bool) {p : Pt} (h : p.Wf) (w : W) : m_need_key [.d (.str (S (prB b p)))] w = some (.d (kyD p.key), w) := run_need (prB_sh h) h (parts_print b h) w
theorem run_numsof (b : Bool) {p : Pt} (h : p.Wf) (w : W) : m_numbers_of [.d (.str (S (prB b p)))] w = some (.d (.tuple [.int (p.ep : Int), .tuple (intsD p.ns)]), w) := by
  refine fn_ex rfl ?_
  unfold b_numbers_of
  have h1 := run_partsP b h w
  refine ex_nx (by push_cast [h1]) ?_
  unfold ptD
  exact ⟨_, by push_cast⟩
def Pt.plain (p : Pt) : Bool := p.fo.isNone && p.po.isNone && p.dv.isNone
theorem run_isplain (p : Pt) (w : W) : m_is_plain [.d (ptD p)] w = some (.d (.bool p.plain), w) := by
  refine fn_ex rfl ?_
  unfold b_is_plain ptD
  have hc : slD (.tuple [.int (p.ep : Int), .tuple (intsD p.ns), foD p.fo, onD p.po, onD p.dv]) (some 2) none = some (.tuple [foD p.fo, onD p.po, onD p.dv]) := by
    unfold slD
    dsimp only
    rw [cut2]
  have he : eqD (.tuple [foD p.fo, onD p.po, onD p.dv]) (.tuple [.none, .none, .none]) = some (.bool p.plain) := by
    unfold eqD
    rw [Bool.or_eq_true_iff.mpr (.inr (by decide)), if_pos rfl]
    unfold Pt.plain
    cases p.fo with
    | none => cases p.po <;> cases p.dv <;> simp [foD, onD, PyData.eqv, PyData.eqvAll]
    | some q => obtain ⟨x, n⟩ := q; simp [foD, PyData.eqv, PyData.eqvAll]
  exact ⟨_, by push_cast [hc, he]⟩

def fol (p : Pt) : Pt := match p.dv with
  | some d => { p with dv := some (d + 1) }
  | none => { p with po := some (match p.po with | some n => n + 1 | none => 0), dv := some 0 }
theorem on_add (n : Nat) : addD (.int (n : Int)) (.int 1) = some (.int ((n + 1 : Nat) : Int)) := addD1 n
theorem run_fol {p : Pt} (h : p.Wf) (w : W) : m_following_key [.d (kyD p.key)] w = some (.d (kyD (fol p).key), w) := by
  refine fn_ex rfl ?_
  have h0 := run_split (fo := p.fo) (fun x n e => (h.fo x n e).1) p.po p.dv w
  have h1 := fun po dv => run_tailof (fo := p.fo) (fun x n e => (h.fo x n e).1) po dv w
  unfold b_following_key
  cases hd : p.dv with
  | some d =>
    have e1 : (fol p).key = (p.ep, bas p.ns, tailK p.fo p.po (some (d + 1))) := by unfold fol Pt.key; rw [hd]
    rw [e1]
    unfold kyD Pt.key
    dsimp only
    rw [hd] at h0 ⊢
    have h2 := h1 p.po (some (d + 1))
    generalize tailK p.fo p.po (some d) = t0 at h0 ⊢
    generalize tailK p.fo p.po (some (d + 1)) = t1 at h2 ⊢
    unfold onD at h0 h2
    refine ex_nx (by push_cast) ?_
    refine ex_nx (by push_cast [h0]) ?_
    exact ex_rt (by push_cast [on_add, h2])
  | none =>
    rw [hd] at h0
    cases hp : p.po with
    | some n =>
      have e1 : (fol p).key = (p.ep, bas p.ns, tailK p.fo (some (n + 1)) (some 0)) := by unfold fol Pt.key; rw [hd, hp]
      rw [e1]
      unfold kyD Pt.key
      dsimp only
      rw [hp] at h0
      rw [hd, hp]
      have h2 : m_tail_of [.d (foD p.fo), .d (.int ((n + 1 : Nat) : Int)), .d (.int 0)] w = some (.d (.tuple (intsD (tailK p.fo (some (n + 1)) (some 0)))), w) := h1 (some (n + 1)) (some 0)
      generalize tailK p.fo (some n) none = t0 at h0 ⊢
      generalize tailK p.fo (some (n + 1)) (some 0) = t1 at h2 ⊢
      unfold onD at h0
      refine ex_nx (by push_cast) ?_
      refine ex_nx (by push_cast [h0]) ?_
      refine ex_nx (by push_cast) ?_
      exact ⟨_, by push_cast [on_add, h2]⟩
    | none =>
      have e1 : (fol p).key = (p.ep, bas p.ns, tailK p.fo (some 0) (some 0)) := by unfold fol Pt.key; rw [hd, hp]
      rw [e1]
      unfold kyD Pt.key
      dsimp only
      rw [hp] at h0
      rw [hd, hp]
      have h2 : m_tail_of [.d (foD p.fo), .d (.int 0), .d (.int 0)] w = some (.d (.tuple (intsD (tailK p.fo (some 0) (some 0)))), w) := h1 (some 0) (some 0)
      generalize tailK p.fo none none = t0 at h0 ⊢
      generalize tailK p.fo (some 0) (some 0) = t1 at h2 ⊢
      unfold onD at h0
      refine ex_nx (by push_cast) ?_
      refine ex_nx (by push_cast [h0]) ?_
      refine ex_nx (by push_cast) ?_
      exact ⟨_, by push_cast [h2]⟩
end Dn

set_option maxHeartbeats 4000000
namespace Dn
open PySem PySem.Spec PyProof.Rows L2 SX
open TL (numL pre joinL)

theorem dsOf_app : ∀ (xs : List PyData) {rs : List SD} {ys : List PyData}, dsOf rs = some ys → dsOf (xs.map SD.d ++ rs) = some (xs ++ ys)
  | [], rs, ys, h => h
  | x :: xs, rs, ys, h => by
    rw [List.map_cons, List.cons_append, dsOf, dsOf_app xs h]
    rfl
theorem al_nats (ns : List Nat) : alAll (intsD ns) = true := by
  unfold alAll
  rw [dOk_ints 59, Bool.and_true, Bool.and_eq_true]
  unfold intsD
  constructor
  · rw [List.all_eq_true]
    intro x hx
    rw [List.all_eq_true]
    intro y hy
    obtain ⟨n, _, rfl⟩ := List.mem_map.mp hx
    obtain ⟨m, _, rfl⟩ := List.mem_map.mp hy
    simp [PySem.W.alike]
  · rw [List.all_eq_true]
    intro x hx
    obtain ⟨n, _, rfl⟩ := List.mem_map.mp hx
    rfl
theorem foldmax_le {B : Int} : ∀ (ns : List Int) (a : Int), a ≤ B → (∀ n ∈ ns, n ≤ B) → ns.foldl max a ≤ B
  | [], a, h, _ => h
  | n :: ns, a, h, hn => foldmax_le ns (max a n) (by have := hn n (by simp); omega) fun m hm => hn m (by simp [hm])
theorem max_nats {n : Nat} {ns : List Nat} {B : Nat} (h : ∀ m ∈ n :: ns, m ≤ B) : ∃ k : Int, maxLE [.list (intsD (n :: ns))] = some (.int k) ∧ k ≤ (B : Int) := by
  have e : intsD (n :: ns) = .int (n : Int) :: (ns.map fun m : Nat => (m : Int)).map .int := by
    unfold intsD
    rw [List.map_cons, List.map_map]
    rfl
  refine ⟨(ns.map fun m : Nat => (m : Int)).foldl max (n : Int), ?_, ?_⟩
  · have ha := al_nats (n :: ns)
    rw [e] at ha ⊢
    unfold maxLE
    dsimp only
    rw [if_pos ha, PySem.W.maxD_ints]
  · refine foldmax_le _ _ (by have := h n (by simp); omega) fun m hm => ?_
    obtain ⟨q, hq, rfl⟩ := List.mem_map.mp hm
    have := h q (by simp [hq])
    omega
/-- it may stand in a clause -/
structure Pt.Small (p : Pt) : Prop where
  len : p.ns.length ≤ 8
  ns : ∀ n ∈ p.ns, n ≤ 1000000000
  ep : p.ep ≤ 1000000000
  fo : ∀ x n, p.fo = some (x, n) → n ≤ 1000000000
  po : ∀ n, p.po = some n → n ≤ 1000000000
  dv : ∀ n, p.dv = some n → n ≤ 1000000000
def on0 : Option Nat → Nat
  | some n => n
  | none => 0
theorem run_small_ {p : Pt} (h : p.Small) (w : W) : m_is_small [.d (ptD p)] w = some (.d (.bool true), w) := by
  refine fn_ex rfl ?_
  unfold b_is_small ptD
  refine ex_nx (by push_cast) ?_
  obtain ⟨k, hk, hle⟩ := max_nats (n := p.ep) (ns := p.ns ++ [on0 (p.fo.map Prod.snd), on0 p.po, on0 p.dv]) (B := 1000000000) (by
    intro m hm
    rcases List.mem_cons.mp hm with rfl | hm
    · exact h.ep
    rcases List.mem_append.mp hm with hm | hm
    · exact h.ns m hm
    simp only [List.mem_cons, List.not_mem_nil, or_false] at hm
    rcases hm with rfl | rfl | rfl
    · cases e : p.fo with
      | none => exact Nat.zero_le _
      | some q => exact h.fo q.1 q.2 e
    · cases e : p.po with
      | none => exact Nat.zero_le _
      | some q => exact h.po q e
    · cases e : p.dv with
      | none => exact Nat.zero_le _
      | some q => exact h.dv q e)
  have hd : ∀ a b c : Nat, dsOf (SD.d (.int (p.ep : Int)) :: ((intsD p.ns).map SD.d ++ [SD.d (.int (a : Int)), SD.d (.int (b : Int)), SD.d (.int (c : Int))])) = some (intsD (p.ep :: (p.ns ++ [a, b, c]))) := by
    intro a b c
    rw [dsOf, dsOf_app (intsD p.ns) (ys := [.int (a : Int), .int (b : Int), .int (c : Int)]) rfl]
    unfold intsD
    simp
  have hl : ∀ a b c : Nat, (intsD (p.ep :: (p.ns ++ [a, b, c]))).length ≤ 1000 := by
    intro a b c
    rw [intsD_len]
    have := h.len
    simp
    omega
  have hle8 : leI (.int ((p.ns.length : Nat) : Int)) (.int 8) = some (.bool true) := by
    rw [leI_int, decide_eq_true (by have := h.len; omega)]
  have hleK : leI (.int k) (.int 1000000000) = some (.bool true) := by
    rw [leI_int, decide_eq_true (by omega)]
  have hlen : lenD [.tuple (intsD p.ns)] = some (.int ((p.ns.length : Nat) : Int)) := by
    unfold lenD
    dsimp only
    rw [intsD_len]
  have hA : ∀ (i : Nat) (env : Ev), env[i]? = some (some (.d (foD p.fo))) → mIf (mTru (mOp isD (mVar i) (mC .none))) (mC (.int 0)) (mOp ixD (mVar i) (mC (.int 1))) env w = some (.d (.int ((on0 (p.fo.map Prod.snd) : Nat) : Int)), env, w) := by
    intro i env e
    cases hf : p.fo with
    | none => rw [hf] at e; push_cast [e, foD]
    | some q => obtain ⟨x, n⟩ := q; rw [hf] at e; push_cast [e, foD]
  have hB : ∀ (o : Option Nat) (i : Nat) (env : Ev), env[i]? = some (some (.d (onD o))) → mIf (mTru (mOp isD (mVar i) (mC .none))) (mC (.int 0)) (mVar i) env w = some (.d (.int ((on0 o : Nat) : Int)), env, w) := by
    intro o i env e
    cases o with
    | none => push_cast [e, onD]
    | some q => push_cast [e, onD]
  generalize henv : ([some (.d (.tuple [.int (p.ep : Int), .tuple (intsD p.ns), foD p.fo, onD p.po, onD p.dv])), some (.d (.int (p.ep : Int))), some (.d (.tuple (intsD p.ns))), some (.d (foD p.fo)), some (.d (onD p.po)), some (.d (onD p.dv)), none] : Ev) = env
  have g1 : env[1]? = some (some (.d (.int (p.ep : Int)))) := by rw [← henv]; rfl
  have g2 : env[2]? = some (some (.d (.tuple (intsD p.ns)))) := by rw [← henv]; rfl
  have g3 : env[3]? = some (some (.d (foD p.fo))) := by rw [← henv]; rfl
  have g4 : env[4]? = some (some (.d (onD p.po))) := by rw [← henv]; rfl
  have g5 : env[5]? = some (some (.d (onD p.dv))) := by rw [← henv]; rfl
  have hst : ∀ {ms : Ax} {rs : List SD}, ms env w = some (rs, env, w) → mStar (mVar 2) ms env w = some ((intsD p.ns).map SD.d ++ rs, env, w) := by
    intro ms rs e
    simp only [mStar, seqE, mVar, g2, itemsD, e]
  have hL := lst_ok (cons_ok (var_d g1) (hst (cons_ok (hA 3 env g3) (cons_ok (hB p.po 4 env g4) (cons_ok (hB p.dv 5 env g5) nil_ok))))) (hd _ _ _) (hl _ _ _)
  refine ex_nx (set_ok hL) ?_
  have g6 : (env.set 6 (some (.d (.list (intsD (p.ep :: (p.ns ++ [on0 (p.fo.map Prod.snd), on0 p.po, on0 p.dv]))))))) = [some (.d (.tuple [.int (p.ep : Int), .tuple (intsD p.ns), foD p.fo, onD p.po, onD p.dv])), some (.d (.int (p.ep : Int))), some (.d (.tuple (intsD p.ns))), some (.d (foD p.fo)), some (.d (onD p.po)), some (.d (onD p.dv)), some (.d (.list (intsD (p.ep :: (p.ns ++ [on0 (p.fo.map Prod.snd), on0 p.po, on0 p.dv])))))] := by rw [← henv]; rfl
  rw [g6]
  generalize intsD (p.ep :: (p.ns ++ [on0 (p.fo.map Prod.snd), on0 p.po, on0 p.dv])) = big at hk ⊢
  exact ⟨_, by push_cast [hlen, hle8, hk, hleK]⟩

inductive Sg where
  | eq | ne | le | ge | lt | gt | co
deriving DecidableEq
def Sg.s : Sg → Str
  | .eq => "=="
  | .ne => "!="
  | .le => "<="
  | .ge => ">="
  | .lt => "<"
  | .gt => ">"
  | .co => "~="
structure Cl where
  sg : Sg
  star : Bool
  b : Bool
  p : Pt
def starS (s : Bool) : List Nat := if s then [46, 42] else []
def Cl.txt (c : Cl) : List Nat := prB c.b c.p ++ starS c.star
def clD (c : Cl) : PyData := .tuple [.str c.sg.s, .str (S c.txt)]
structure Cl.Wf (c : Cl) : Prop where
  wf : c.p.Wf
  sm : c.p.Small
  st : c.star = true → (c.sg = .eq ∨ c.sg = .ne) ∧ c.p.plain = true
  pl : c.sg = .lt ∨ c.sg = .gt → c.p.plain = true
  co : c.sg = .co → 2 ≤ c.p.ns.length
/-- a clause of any size -/
structure Cl.Wg (c : Cl) : Prop where
  wf : c.p.Wf
  st : c.star = true → (c.sg = .eq ∨ c.sg = .ne) ∧ c.p.plain = true
  pl : c.sg = .lt ∨ c.sg = .gt → c.p.plain = true
  co : c.sg = .co → 2 ≤ c.p.ns.length
theorem Cl.Wf.g {c : Cl} (h : c.Wf) : c.Wg := ⟨h.wf, h.st, h.pl, h.co⟩
theorem numL_no {c : Nat} (hc : dig c = false) (n : Nat) : c ∉ numL n := fun h => by
  have := numL_dig n c h
  rw [hc] at this; cases this
theorem nsS_no {c : Nat} (hc : dig c = false) (h46 : c ≠ 46) : ∀ ns : List Nat, c ∉ nsS ns
  | [] => by simp [nsS, joinL]
  | [n] => by rw [nsS_one]; exact numL_no hc n
  | n :: m :: ns => by
    rw [nsS_cons, List.mem_append, List.mem_cons]
    rintro (h | h | h)
    · exact numL_no hc n h
    · exact h46 h
    · exact nsS_no hc h46 (m :: ns) h
theorem prB_no {c : Nat} (hc : dig c = false) (h1 : c ∉ [46, 33, 97, 98, 114, 99, 112, 111, 115, 116, 100, 101, 118]) (b : Bool) {p : Pt} (h : p.Wf) : c ∉ prB b p := by
  simp only [List.mem_cons, List.not_mem_nil, or_false, not_or] at h1
  unfold prB
  simp only [List.mem_append]
  rintro (q | q | q | q | q)
  · unfold epS at q
    split at q
    · simp at q
    · rcases List.mem_append.mp q with q | q
      · exact numL_no hc _ q
      · simp at q; omega
  · exact nsS_no hc h1.1 _ q
  · cases hf : p.fo with
    | none => rw [hf] at q; simp [foS] at q
    | some x =>
      obtain ⟨x, n⟩ := x
      rw [hf] at q
      have hx := (h.fo x n hf).1
      simp only [foS, List.mem_append] at q
      rcases q with q | q
      · unfold WS at hx
        simp only [List.mem_cons, List.not_mem_nil, or_false] at hx
        rcases hx with rfl | rfl | rfl <;> simp at q <;> omega
      · exact numL_no hc _ q
  · cases hf : p.po with
    | none => rw [hf] at q; simp [poS] at q
    | some n =>
      rw [hf] at q
      simp only [poS, POSTS, List.mem_append, List.mem_cons, List.not_mem_nil, or_false] at q
      rcases q with q | q
      · omega
      · exact numL_no hc _ q
  · cases hf : p.dv with
    | none => rw [hf] at q; simp [dvS] at q
    | some n =>
      rw [hf] at q
      simp only [dvS, DEVS, List.mem_append, List.mem_cons, List.not_mem_nil, or_false] at q
      rcases q with q | q
      · omega
      · exact numL_no hc _ q
theorem starStr : ((".*" : String) : Str) = S [46, 42] := by decide +kernel
theorem ends_star {l : List Nat} (h : 42 ∉ l) (s : Bool) : Txt.endswith (S (l ++ starS s)) ".*" = s := by
  rw [starStr]
  unfold Txt.endswith Builtin.Str.subAt starS
  cases s with
  | true =>
    simp only [if_true, S_len, List.length_append, List.length_cons, List.length_nil]
    have e : (S (l ++ [46, 42])).cps.extract (l.length + 2 - 2) (l.length + 2 - 2 + 2) = (S [46, 42]).cps := by
      apply Array.toList_inj.mp
      simp [S]
    simp
  | false =>
    simp only [Bool.false_eq_true, if_false, List.append_nil, S_len, List.length_cons, List.length_nil]
    rw [Bool.and_eq_false_iff]
    by_cases hl : 2 ≤ l.length
    · right
      rw [beq_eq_false_iff_ne]
      intro e
      have e2 := congrArg Array.toList e
      have : 42 ∈ (S [46, 42]).cps.toList := by simp [S]
      rw [← e2] at this
      apply h
      simp only [S, Array.toList_extract, List.extract_eq_drop_take] at this
      exact List.mem_of_mem_drop (List.mem_of_mem_take this)
    · left
      simp
      omega
theorem ends_txt (c : Cl) (h : c.p.Wf) : endsD (.str (S c.txt)) [.str ".*"] = some (.bool c.star) := by
  unfold endsD s1b Cl.txt
  dsimp only
  rw [ends_star (prB_no (by decide) (by decide) c.b h)]

theorem cutS_m2 (l : List Nat) : cutS (S (l ++ [46, 42])) none (some (-2)) = S l := by
  unfold cutS
  rw [HT.sIx_none, S_len]
  refine congrArg S ?_
  show (List.drop 0 (l ++ [46, 42])).take (HT.sIx (l ++ [46, 42]).length (l ++ [46, 42]).length (some (-2)) - 0) = l
  have e : HT.sIx (l ++ [46, 42]).length (l ++ [46, 42]).length (some (-2)) = l.length := by
    unfold HT.sIx
    dsimp only
    rw [if_pos (by decide), List.length_append]
    simp
    omega
  rw [e, List.drop_zero, Nat.sub_zero, List.take_left]
theorem sl_star {l : List Nat} (h : Sh (l ++ [46, 42])) : slD (.str (S (l ++ [46, 42]))) none (some (-2)) = some (.str (S l)) := by
  unfold slD
  dsimp only
  rw [if_pos (sh_line h), cutS_m2]
def sgB (s : Sg) : Bool := match s with
  | .eq => true
  | .ne => true
  | _ => false
def sgO (s : Sg) : Bool := match s with
  | .lt => true
  | .gt => true
  | _ => false
theorem sg_in (s : Sg) : notInD (.str s.s) (.tuple ((["==", "!=", "<=", ">=", "<", ">", "~="] : List Str).map .str)) = some (.bool false) := by
  cases s <;> rfl
theorem sg_inB (s : Sg) : inD (.str s.s) (.tuple [.str "==", .str "!="]) = some (.bool (sgB s)) := by
  cases s <;> rfl
theorem sg_inO (s : Sg) : inD (.str s.s) (.tuple [.str "<", .str ">"]) = some (.bool (sgO s)) := by
  cases s <;> rfl
theorem sg_co (s : Sg) : neD (.str s.s) (.str "~=") = some (.bool (!decide (s = .co))) := by
  cases s <;> rfl
theorem sg_eq (s t : Sg) : eqD (.str s.s) (.str t.s) = some (.bool (decide (s = t))) := by
  cases s <;> cases t <;> rfl
theorem txt_sh {c : Cl} (h : c.p.Wf) : Sh c.txt := by
  have := prB_len (b := c.b) h
  unfold Sh Cl.txt starS
  rw [List.length_append]
  split <;> simp <;> omega
theorem run_isclause {c : Cl} (h : c.Wf) (w : W) : m_is_clause [.d (clD c)] w = some (.d (.bool true), w) := by
  refine fn_ex rfl ?_
  unfold b_is_clause clD
  have hlen : lenD [.tuple [.str c.sg.s, .str (S c.txt)]] = some (.int 2) := rfl
  have hne : neD (.int 2) (.int 2) = some (.bool false) := rfl
  have i1 := sg_in c.sg
  have i2 := sg_inB c.sg
  have i3 := sg_inO c.sg
  have i4 := sg_co c.sg
  have he := ends_txt c h.wf
  have hs := txt_sh h.wf
  have hp := run_partsP c.b h.wf w
  have hsm := run_small_ h.sm w
  have hpl := run_isplain c.p w
  have hl2 : lenD [.str ".*"] = some (.int 2) := rfl
  have hpn : isD (ptD c.p) .none = some (.bool false) := rfl
  have hx : ixD (ptD c.p) (.int 1) = some (.tuple (intsD c.p.ns)) := rfl
  have hlx : lenD [.tuple (intsD c.p.ns)] = some (.int ((c.p.ns.length : Nat) : Int)) := by
    unfold lenD
    dsimp only
    rw [intsD_len]
  generalize (["==", "!=", "<=", ">=", "<", ">", "~="] : List Str).map PyData.str = SL at i1 ⊢
  generalize hD : ptD c.p = D at hp hsm hpl hpn hx ⊢
  refine ex_nx (by push_cast [isTup, hlen, hne]) ?_
  refine ex_nx (by push_cast) ?_
  refine ex_nx (by push_cast [isStr, i1]) ?_
  by_cases hst : c.star = true
  · -- a block
    obtain ⟨hsg, hpp⟩ := h.st hst
    have hB : sgB c.sg = true := by rcases hsg with e | e <;> rw [e] <;> rfl
    rw [hB] at i2
    rw [hst] at he
    have hcut : slD (.str (S c.txt)) none (some (-2)) = some (.str (S (prB c.b c.p))) := by
      have e : c.txt = prB c.b c.p ++ [46, 42] := by unfold Cl.txt starS; rw [hst]; rfl
      rw [e] at hs ⊢
      exact sl_star hs
    rw [hpp] at hpl
    generalize c.txt = T at he hcut ⊢
    generalize prB c.b c.p = T0 at hcut hp
    refine ex_nx (by push_cast [i2, he]) ?_
    refine ex_nx (by push_cast [hl2, mNeg, hcut, hp]) ?_
    refine ex_nx (by push_cast [hpn, hsm]) ?_
    exact ex_rt (by push_cast [hpl])
  · have hst : c.star = false := by simpa using hst
    rw [hst] at he
    have e : c.txt = prB c.b c.p := by unfold Cl.txt starS; rw [hst]; simp
    rw [← e] at hp
    generalize c.txt = T at he hp ⊢
    refine ex_nx (e1 := [some (.d (.tuple [.str c.sg.s, .str (S T)])), some (.d (.str c.sg.s)), some (.d (.str (S T))), some (.d (.bool false)), none]) (w1 := w) (by cases hb : sgB c.sg <;> rw [hb] at i2 <;> push_cast [i2, he]) ?_
    refine ex_nx (by push_cast [hp]) ?_
    refine ex_nx (by push_cast [hpn, hsm]) ?_
    by_cases hO : sgO c.sg = true
    · have hpp := h.pl (by cases hc : c.sg <;> rw [hc] at hO <;> first | exact .inl rfl | exact .inr rfl | cases hO)
      rw [hO] at i3
      rw [hpp] at hpl
      exact ex_rt (by push_cast [i3, hpl])
    · have hO : sgO c.sg = false := by simpa using hO
      rw [hO] at i3
      refine ex_nx (by push_cast [i3]) ?_
      by_cases hc : c.sg = .co
      · rw [decide_eq_true hc] at i4
        have hg : gtI (.int ((c.p.ns.length : Nat) : Int)) (.int 1) = some (.bool true) := by
          rw [gtI_int, decide_eq_true (by have := h.co hc; omega)]
        exact ⟨_, by push_cast [i4, hx, hlx, hg]⟩
      · rw [decide_eq_false hc] at i4
        exact ⟨_, by push_cast [i4]⟩
end Dn

set_option maxHeartbeats 4000000
namespace Dn
open PySem PySem.Spec PyProof.Rows L2 SX
open TL (numL pre joinL)

def rqD (cs : List Cl) : PyData := .tuple (cs.map clD)
theorem loop_need {x : Option SD} (w : W) : ∀ (cs : List Cl) (k : Nat) (a b : Option SD), (∀ c ∈ cs, c.Wf) → ∃ a' b',
    mLoop (mgTup 2 (mgCons (mgName 1) (mgCons (mgName 2) mgNil))) bF1_need_requirement (((cs.map clD).zipIdx k).map fun p => .tuple [.int (p.2 : Nat), p.1]) [x, a, b] w = some (.nx, [x, a', b'], w)
  | [], k, a, b, _ => ⟨a, b, rfl⟩
  | c :: cs, k, a, b, h => by
    obtain ⟨a', b', ih⟩ := loop_need w cs (k + 1) (some (.d (.int (k : Nat)))) (some (.d (clD c))) fun q hq => h q (by simp [hq])
    have h1 := run_isclause (h c (by simp)) w
    refine ⟨a', b', ?_⟩
    rw [List.map_cons, List.zipIdx_cons, List.map_cons]
    refine (loop_go (e1 := [x, some (.d (.int (k : Nat))), some (.d (clD c))]) (e2 := [x, some (.d (.int (k : Nat))), some (.d (clD c))]) (w2 := w) rfl ?_).trans ih
    unfold bF1_need_requirement
    generalize clD c = C at h1 ⊢
    push_cast [h1]
theorem run_needreq {cs : List Cl} (h : ∀ c ∈ cs, c.Wf) (hl : cs.length ≤ 12) (w : W) : m_need_requirement [.d (rqD cs)] w = some (.d (rqD cs), w) := by
  refine fn_ex rfl ?_
  unfold b_need_requirement
  have hlen : lenD [rqD cs] = some (.int ((cs.length : Nat) : Int)) := by
    unfold lenD rqD
    dsimp only
    rw [List.length_map]
  have hg : gtI (.int ((cs.length : Nat) : Int)) (.int 12) = some (.bool false) := by
    rw [gtI_int, decide_eq_false (by omega)]
  have ht : isTup (rqD cs) = true := rfl
  obtain ⟨a', b', hL⟩ := loop_need (x := some (.d (rqD cs))) w cs 0 none none h
  have hen : ∀ env : Ev, env[0]? = some (some (.d (rqD cs))) → mEnum (mCons (mVar 0) mNil) env w = some (((cs.map clD).zipIdx 0).map fun p => .tuple [.int (p.2 : Nat), p.1], env, w) := by
    intro env e
    simp only [mEnum, argsD, mCons, mVar, e, mNil, dsOf, Option.map_some, rqD, itemsD]
    rfl
  refine ex_nx (by push_cast [ht, hlen, hg]) ?_
  refine ex_nx ((for_ok (hen _ rfl)).trans hL) ?_
  exact ⟨_, ret_ok (var_d rfl)⟩

abbrev Sp1 := Ky × Option Ky
def okD : Option Ky → PyData
  | none => .none
  | some k => kyD k
def spD (s : Sp1) : PyData := .tuple [kyD s.1, okD s.2]
def rowD (r : List Sp1) : PyData := .list (r.map spD)
def leastK : Ky := (0, [], [0, 0])
theorem leastD : PyData.tuple [.int 0, .tuple [], .tuple [.int 0, .int 0]] = kyD leastK := rfl
/-- the numbers with the last one one more -/
def incr (ns : List Nat) : List Nat := ns.dropLast ++ [ns.getLast?.getD 0 + 1]
def cutsK (e : Nat) (ns : List Nat) : Ky × Ky := ((e, bas ns, [0, 0]), (e, bas (incr ns), [0, 0]))
theorem run_numcuts (e : Nat) {ns : List Nat} (h0 : ns ≠ []) (hl : ns.length ≤ 60) (w : W) : m_numbers_cuts [.d (.int (e : Int)), .d (.tuple (intsD ns))] w = some (.d (.tuple [kyD (cutsK e ns).1, kyD (cutsK e ns).2]), w) := by
  refine fn_ex rfl ?_
  unfold b_numbers_cuts
  obtain ⟨xs, x, rfl⟩ : ∃ xs x, ns = xs ++ [x] := ⟨ns.dropLast, ns.getLast h0, (List.dropLast_concat_getLast h0).symm⟩
  have e1 : incr (xs ++ [x]) = xs ++ [x + 1] := by unfold incr; simp
  have hb1 := run_based (ns := xs ++ [x]) (by omega) w
  have hb2 := run_based (ns := xs ++ [x + 1]) (by simp at hl ⊢; omega) w
  have hcut : slD (.tuple (intsD (xs ++ [x]))) none (some (-1)) = some (.tuple (intsD xs)) := by
    unfold slD cutL
    dsimp only
    rw [HT.sIx_none, intsD_len]
    have e : HT.sIx (xs ++ [x]).length (xs ++ [x]).length (some (-1)) = xs.length := by
      unfold HT.sIx
      dsimp only
      rw [if_pos (by decide), List.length_append]
      simp
      omega
    rw [e, List.drop_zero, Nat.sub_zero, intsD_snoc, List.take_left' (intsD_len xs)]
  have hix : ixD (.tuple (intsD (xs ++ [x]))) (.int (-1)) = some (.int (x : Int)) := by
    unfold ixD
    dsimp only
    rw [intsD_snoc]
    unfold atI ixN
    rw [if_neg (by decide), if_pos (by simp; omega)]
    have : ((-1 : Int) + (((intsD xs).length : Int) + 1)).toNat = (intsD xs).length := by omega
    simp [this]
  have hadd : addD (.tuple (intsD xs)) (.tuple [.int ((x + 1 : Nat) : Int)]) = some (.tuple (intsD (xs ++ [x + 1]))) := by
    rw [intsD_snoc]
    unfold addD addT
    dsimp only
    rw [if_pos (by rw [intsD_len, sizeLine_eq]; simp at hl ⊢; omega)]
  unfold cutsK kyD
  rw [e1]
  dsimp only
  have ha1 := addD1 x
  generalize xs ++ [x + 1] = n2 at hadd hb2 ⊢
  generalize xs ++ [x] = n1 at hcut hix hb1 ⊢
  refine ex_nx (by push_cast [mNeg, hcut, hix, ha1, hadd]) ?_
  exact ⟨_, by push_cast [hb1, hb2]⟩
theorem run_blockcuts {c : Cl} (h : c.p.Wf) (hst : c.star = true) (w : W) : m_block_cuts [.d (.str (S c.txt))] w = some (.d (.tuple [kyD (cutsK c.p.ep c.p.ns).1, kyD (cutsK c.p.ep c.p.ns).2]), w) := by
  refine fn_ex rfl ?_
  unfold b_block_cuts
  have hs := txt_sh h
  have hcut : slD (.str (S c.txt)) none (some (-2)) = some (.str (S (prB c.b c.p))) := by
    have e : c.txt = prB c.b c.p ++ [46, 42] := by unfold Cl.txt starS; rw [hst]; rfl
    rw [e] at hs ⊢
    exact sl_star hs
  have hn := run_numsof c.b h w
  have hc := run_numcuts c.p.ep h.ne h.len w
  have hl2 : lenD [.str ".*"] = some (.int 2) := rfl
  generalize prB c.b c.p = T0 at hcut hn
  refine ex_nx (by push_cast [hl2, mNeg, hcut, hn]) ?_
  exact ⟨_, by push_cast [hc]⟩
def outK (l h : Ky) : List Sp1 := (if ltK leastK l then [(leastK, some l)] else []) ++ [(h, none)]
theorem run_outside (l h : Ky) (w : W) : m_outside [.d (kyD l), .d (kyD h)] w = some (.d (rowD (outK l h)), w) := by
  refine fn_ex rfl ?_
  unfold b_outside
  rw [leastD]
  have h1 := ltD_ky leastK l
  have ha : ∀ xs : List PyData, xs.length ≤ 1 → addD (.list xs) (.list [.tuple [kyD h, .none]]) = some (.list (xs ++ [.tuple [kyD h, .none]])) := by
    intro xs hx
    unfold addD addL
    dsimp only
    rw [if_pos (by rw [sizeLine_eq]; simp; omega)]
  have e0 : spD (h, none) = .tuple [kyD h, .none] := rfl
  have e1 : spD (leastK, some l) = .tuple [kyD leastK, kyD l] := rfl
  unfold rowD outK
  cases hc : ltK leastK l with
  | true =>
    rw [hc] at h1
    have h2 := ha [.tuple [kyD leastK, kyD l]] (by simp)
    simp only [if_true, List.cons_append, List.nil_append, List.map_cons, List.map_nil, e0, e1]
    generalize kyD leastK = L at h1 h2 ⊢
    generalize kyD l = K1 at h1 h2 ⊢
    generalize kyD h = K2 at h2 ⊢
    refine ex_nx (by push_cast [h1]) ?_
    exact ⟨_, by push_cast [h2]⟩
  | false =>
    rw [hc] at h1
    have h2 := ha [] (by simp)
    simp only [Bool.false_eq_true, if_false, List.nil_append, List.map_cons, List.map_nil, e0]
    generalize kyD leastK = L at h1 h2 ⊢
    generalize kyD l = K1 at h1 h2 ⊢
    generalize kyD h = K2 at h2 ⊢
    refine ex_nx (by push_cast [h1]) ?_
    exact ⟨_, by push_cast [h2]⟩
def bndK (gt : Bool) (k : Ky) : List Sp1 := if gt then [((k.1, k.2.1, [4]), none)] else if ltK leastK (k.1, k.2.1, [0, 0]) then [(leastK, some (k.1, k.2.1, [0, 0]))] else []
theorem run_bounded (gt : Bool) (k : Ky) (w : W) : m_bounded_spans [.d (.str (if gt then (">" : Str) else "<")), .d (kyD k)] w = some (.d (rowD (bndK gt k)), w) := by
  refine fn_ex rfl ?_
  unfold b_bounded_spans
  rw [leastD]
  have h1 := ltD_ky leastK (k.1, k.2.1, [0, 0])
  have e0 : kyD (k.1, k.2.1, [0, 0]) = .tuple [.int (k.1 : Int), .tuple (intsD k.2.1), .tuple [.int 0, .int 0]] := rfl
  have e4 : kyD (k.1, k.2.1, [4]) = .tuple [.int (k.1 : Int), .tuple (intsD k.2.1), .tuple [.int 4]] := rfl
  have ek : kyD k = .tuple [.int (k.1 : Int), .tuple (intsD k.2.1), .tuple (intsD k.2.2)] := rfl
  have q1 : eqD (.str ">") (.str ">") = some (.bool true) := rfl
  have q2 : eqD (.str "<") (.str ">") = some (.bool false) := rfl
  rw [e0] at h1
  unfold rowD bndK
  cases gt with
  | true =>
    simp only [if_true, List.map_cons, List.map_nil, spD, okD, e4, ek]
    refine ex_nx (by push_cast) ?_
    exact ex_rt (by push_cast [q1])
  | false =>
    simp only [Bool.false_eq_true, if_false, ek]
    refine ex_nx (by push_cast) ?_
    refine ex_nx (by push_cast [q2]) ?_
    cases hc : ltK leastK (k.1, k.2.1, [0, 0]) with
    | true =>
      rw [hc] at h1
      simp only [if_true, List.map_cons, List.map_nil, spD, okD, e0]
      generalize kyD leastK = L at h1 ⊢
      exact ⟨_, by push_cast [h1]⟩
    | false =>
      rw [hc] at h1
      simp only [Bool.false_eq_true, if_false, List.map_nil]
      generalize kyD leastK = L at h1 ⊢
      exact ⟨_, by push_cast [h1]⟩

def clK (c : Cl) : List Sp1 := if c.star then (if c.sg = .eq then [((cutsK c.p.ep c.p.ns).1, some (cutsK c.p.ep c.p.ns).2)] else outK (cutsK c.p.ep c.p.ns).1 (cutsK c.p.ep c.p.ns).2) else match c.sg with
  | .lt => bndK false c.p.key
  | .gt => bndK true c.p.key
  | .ge => [(c.p.key, none)]
  | .co => [(c.p.key, some (cutsK c.p.ep c.p.ns.dropLast).2)]
  | .ne => outK c.p.key (fol c.p).key
  | .eq => [(c.p.key, some (fol c.p).key)]
  | .le => [(leastK, some (fol c.p).key)]
theorem cut_last {ns : List Nat} (h : ns ≠ []) : slD (.tuple (intsD ns)) none (some (-1)) = some (.tuple (intsD ns.dropLast)) := by
  obtain ⟨xs, x, rfl⟩ : ∃ xs x, ns = xs ++ [x] := ⟨ns.dropLast, ns.getLast h, (List.dropLast_concat_getLast h).symm⟩
  unfold slD cutL
  dsimp only
  rw [HT.sIx_none, intsD_len]
  have e : HT.sIx (xs ++ [x]).length (xs ++ [x]).length (some (-1)) = xs.length := by
    unfold HT.sIx
    dsimp only
    rw [if_pos (by decide), List.length_append]
    simp
    omega
  rw [e, List.drop_zero, Nat.sub_zero, intsD_snoc, List.take_left' (intsD_len xs)]
  simp
theorem run_clspans {c : Cl} (h : c.Wf) (w : W) : m_clause_spans [.d (clD c)] w = some (.d (rowD (clK c)), w) := by
  refine fn_ex rfl ?_
  unfold b_clause_spans clD
  rw [leastD]
  have he := ends_txt c h.wf
  have q1 : eqD (.str c.sg.s) (.str "==") = some (.bool (decide (c.sg = .eq))) := sg_eq c.sg .eq
  have q2 : eqD (.str c.sg.s) (.str ">=") = some (.bool (decide (c.sg = .ge))) := sg_eq c.sg .ge
  have q3 : eqD (.str c.sg.s) (.str "~=") = some (.bool (decide (c.sg = .co))) := sg_eq c.sg .co
  have q4 : eqD (.str c.sg.s) (.str "!=") = some (.bool (decide (c.sg = .ne))) := sg_eq c.sg .ne
  have q5 := sg_inO c.sg
  refine ex_nx (by push_cast) ?_
  by_cases hst : c.star = true
  · have hb := run_blockcuts h.wf hst w
    have ho := run_outside (cutsK c.p.ep c.p.ns).1 (cutsK c.p.ep c.p.ns).2 w
    rw [hst] at he
    unfold clK
    rw [if_pos hst]
    generalize c.txt = T at he hb ⊢
    by_cases hsg : c.sg = .eq
    · rw [decide_eq_true hsg] at q1
      rw [if_pos hsg]
      unfold rowD
      simp only [List.map_cons, List.map_nil, spD, okD]
      generalize kyD (cutsK c.p.ep c.p.ns).1 = K1 at hb ⊢
      generalize kyD (cutsK c.p.ep c.p.ns).2 = K2 at hb ⊢
      exact ex_rt (by push_cast [he, hb, q1])
    · rw [decide_eq_false hsg] at q1
      rw [if_neg hsg]
      generalize kyD (cutsK c.p.ep c.p.ns).1 = K1 at hb ho ⊢
      generalize kyD (cutsK c.p.ep c.p.ns).2 = K2 at hb ho ⊢
      exact ex_rt (by push_cast [he, hb, q1, ho])
  · have hst : c.star = false := by simpa using hst
    rw [hst] at he
    have e : c.txt = prB c.b c.p := by unfold Cl.txt starS; rw [hst]; simp
    have hk := run_keyof c.b h.wf w
    have hn := run_numsof c.b h.wf w
    have hf := run_fol h.wf w
    have ho := run_outside c.p.key (fol c.p).key w
    have hb1 : m_bounded_spans [.d (.str ">"), .d (kyD c.p.key)] w = some (.d (rowD (bndK true c.p.key)), w) := run_bounded true c.p.key w
    have hb2 : m_bounded_spans [.d (.str "<"), .d (kyD c.p.key)] w = some (.d (rowD (bndK false c.p.key)), w) := run_bounded false c.p.key w
    rw [← e] at hk hn
    unfold clK
    rw [hst]
    simp only [Bool.false_eq_true, if_false]
    generalize c.txt = T at he hk hn ⊢
    refine ex_nx (by push_cast [he]) ?_
    refine ex_nx (by push_cast [hk]) ?_
    cases hsg : c.sg with
    | lt =>
      rw [hsg] at q5
      have hb3 : m_bounded_spans [.d (.str Sg.lt.s), .d (kyD c.p.key)] w = some (.d (rowD (bndK false c.p.key)), w) := hb2
      exact ex_rt (by push_cast [q5, sgO, hb3])
    | gt =>
      rw [hsg] at q5
      have hb3 : m_bounded_spans [.d (.str Sg.gt.s), .d (kyD c.p.key)] w = some (.d (rowD (bndK true c.p.key)), w) := hb1
      exact ex_rt (by push_cast [q5, sgO, hb3])
    | ge =>
      rw [hsg] at q2 q5
      refine ex_nx (by push_cast [q5, sgO]) ?_
      unfold rowD
      simp only [List.map_cons, List.map_nil, spD, okD]
      generalize kyD c.p.key = K1 at hk ⊢
      exact ex_rt (by push_cast [q2, eq_self])
    | co =>
      rw [hsg] at q2 q3 q5
      have hne := h.wf.ne
      have hc := cut_last hne
      have h2 := h.co hsg
      have hm := run_numcuts c.p.ep (ns := c.p.ns.dropLast) (by intro z; have := congrArg List.length z; simp at this; omega) (by have := h.wf.len; simp; omega) w
      refine ex_nx (by push_cast [q5, sgO]) ?_
      refine ex_nx (by push_cast [q2, eq_self]) ?_
      unfold rowD
      simp only [List.map_cons, List.map_nil, spD, okD]
      generalize kyD (cutsK c.p.ep c.p.ns.dropLast).1 = K1 at hm
      generalize kyD (cutsK c.p.ep c.p.ns.dropLast).2 = K2 at hm ⊢
      generalize kyD c.p.key = K0 at hk ⊢
      generalize intsD c.p.ns = I1 at hn hc
      generalize intsD c.p.ns.dropLast = I2 at hc hm
      exact ex_rt (by push_cast [q3, eq_self, hn, mNeg, hc, hm])
    | ne =>
      rw [hsg] at q2 q3 q4 q5
      generalize kyD c.p.key = K0 at hk ho hf ⊢
      generalize kyD (fol c.p).key = K1 at ho hf ⊢
      refine ex_nx (by push_cast [q5, sgO]) ?_
      refine ex_nx (by push_cast [q2, eq_self]) ?_
      refine ex_nx (by push_cast [q3, eq_self]) ?_
      refine ex_nx (by push_cast [hf]) ?_
      exact ex_rt (by push_cast [q4, eq_self, ho])
    | eq =>
      rw [hsg] at q1 q2 q3 q4 q5
      unfold rowD
      simp only [List.map_cons, List.map_nil, spD, okD]
      generalize kyD c.p.key = K0 at hk ho hf ⊢
      generalize kyD (fol c.p).key = K1 at ho hf ⊢
      refine ex_nx (by push_cast [q5, sgO]) ?_
      refine ex_nx (by push_cast [q2, eq_self]) ?_
      refine ex_nx (by push_cast [q3, eq_self]) ?_
      refine ex_nx (by push_cast [hf]) ?_
      refine ex_nx (by push_cast [q4, eq_self]) ?_
      exact ⟨_, by push_cast [q1, eq_self]⟩
    | le =>
      rw [hsg] at q1 q2 q3 q4 q5
      unfold rowD
      simp only [List.map_cons, List.map_nil, spD, okD]
      generalize kyD c.p.key = K0 at hk ho hf ⊢
      generalize kyD (fol c.p).key = K1 at ho hf ⊢
      generalize kyD leastK = L
      refine ex_nx (by push_cast [q5, sgO]) ?_
      refine ex_nx (by push_cast [q2, eq_self]) ?_
      refine ex_nx (by push_cast [q3, eq_self]) ?_
      refine ex_nx (by push_cast [hf]) ?_
      refine ex_nx (by push_cast [q4, eq_self]) ?_
      exact ⟨_, by push_cast [q1, eq_self]⟩
end Dn

set_option maxHeartbeats 4000000
namespace Dn
open PySem PySem.Spec PyProof.Rows L2 SX
open TL (numL pre joinL)

def endK : Option Ky → Option Ky → Option Ky
  | none, b => b
  | some a, none => some a
  | some a, some b => some (minK a b)
theorem isD_ky (k : Ky) : isD (kyD k) .none = some (.bool false) := rfl
theorem run_lesser (a b : Option Ky) (w : W) : m_lesser_end [.d (okD a), .d (okD b)] w = some (.d (okD (endK a b)), w) := by
  refine fn_ex rfl ?_
  unfold b_lesser_end
  cases a with
  | none =>
    cases b with
    | none => exact ex_rt (by push_cast [okD, endK])
    | some k =>
      have h := isD_ky k
      simp only [okD, endK]
      generalize kyD k = K at h ⊢
      exact ex_rt (by push_cast [h])
  | some k =>
    cases b with
    | none =>
      have h := isD_ky k
      simp only [okD, endK]
      generalize kyD k = K at h ⊢
      exact ex_rt (by push_cast [h])
    | some j =>
      have h := isD_ky k
      have h2 := isD_ky j
      have h3 := min2E_ky k j
      simp only [okD, endK]
      generalize kyD k = K at h h3 ⊢
      generalize kyD j = J at h2 h3 ⊢
      generalize kyD (minK k j) = M at h3 ⊢
      refine ex_nx (by push_cast [h, h2]) ?_
      exact ⟨_, by push_cast [h3]⟩
/-- a key is below an end -/
def belowK (k : Ky) : Option Ky → Bool
  | none => true
  | some h => ltK k h
def stepK (s t : Sp1) : Option Sp1 := if belowK (maxK s.1 t.1) (endK s.2 t.2) then some (maxK s.1 t.1, endK s.2 t.2) else none
def meetK (a b : List Sp1) : List Sp1 := a.flatMap fun s => b.filterMap (stepK s)
theorem meetK_len (a b : List Sp1) : (meetK a b).length ≤ a.length * b.length := by
  unfold meetK
  induction a with
  | nil => simp
  | cons s a ih =>
    rw [List.flatMap_cons, List.length_append, List.length_cons, Nat.succ_mul]
    have := List.length_filterMap_le (stepK s) b
    omega
theorem body_meet {x y : Option SD} (s t : Sp1) (acc : List PyData) (hl : acc.length < sizeLine) (a b : Option SD) (w : W) : ∃ a' b',
    bF1_meet [x, y, some (.own acc), some (.d (kyD s.1)), some (.d (okD s.2)), some (.d (kyD t.1)), some (.d (okD t.2)), a, b] w =
      some (.nx, [x, y, some (.own (acc ++ (stepK s t).toList.map spD)), some (.d (kyD s.1)), some (.d (okD s.2)), some (.d (kyD t.1)), some (.d (okD t.2)), a', b'], w) := by
  have h1 := max2E_ky s.1 t.1
  have h2 := run_lesser s.2 t.2 w
  unfold bF1_meet stepK
  refine ⟨some (.d (kyD (maxK s.1 t.1))), some (.d (okD (endK s.2 t.2))), ?_⟩
  generalize kyD s.1 = K1 at h1 ⊢
  generalize kyD t.1 = K2 at h1 ⊢
  generalize okD s.2 = K3 at h2 ⊢
  generalize okD t.2 = K4 at h2 ⊢
  generalize maxK s.1 t.1 = m at h1 ⊢
  generalize endK s.2 t.2 = e at h2 ⊢
  refine (seq_nx (e1 := [x, y, some (.own acc), some (.d K1), some (.d K3), some (.d K2), some (.d K4), some (.d (kyD m)), some (.d (okD e))]) (w1 := w) (by push_cast [h1, h2])).trans ?_
  cases e with
  | none =>
    simp only [belowK, if_true, Option.toList_some, List.map_cons, List.map_nil, spD, okD]
    generalize kyD m = M
    push_cast [hl]
  | some k =>
    have h3 := isD_ky k
    have h4 := ltD_ky m k
    by_cases hc : belowK m (some k) = true
    · rw [if_pos hc]
      rw [show ltK m k = true from hc] at h4
      simp only [Option.toList_some, List.map_cons, List.map_nil, spD, okD]
      generalize kyD m = M at h4 ⊢
      generalize kyD k = K at h3 h4 ⊢
      push_cast [h3, h4, hl]
    · rw [if_neg hc]
      rw [show ltK m k = false from (by simpa using hc : belowK m (some k) = false)] at h4
      simp only [Option.toList_none, List.map_nil, List.append_nil, okD]
      generalize kyD m = M at h4 ⊢
      generalize kyD k = K at h3 h4 ⊢
      push_cast [h3, h4]
theorem inner_meet {x y : Option SD} (s : Sp1) (w : W) : ∀ (ts : List Sp1) (acc : List PyData) (c d a b : Option SD), acc.length + ts.length ≤ 1000000 → ∃ c' d' a' b',
    mLoop (mgTup 2 (mgCons (mgName 5) (mgCons (mgName 6) mgNil))) bF1_meet (ts.map spD) [x, y, some (.own acc), some (.d (kyD s.1)), some (.d (okD s.2)), c, d, a, b] w =
      some (.nx, [x, y, some (.own (acc ++ (ts.filterMap (stepK s)).map spD)), some (.d (kyD s.1)), some (.d (okD s.2)), c', d', a', b'], w)
  | [], acc, c, d, a, b, _ => ⟨c, d, a, b, by rw [List.filterMap_nil, List.map_nil, List.append_nil]; rfl⟩
  | t :: ts, acc, c, d, a, b, hl => by
    rw [List.length_cons] at hl
    obtain ⟨a1, b1, h1⟩ := body_meet (x := x) (y := y) s t acc (by rw [sizeLine_eq]; omega) a b w
    have hle : (stepK s t).toList.length ≤ 1 := by cases stepK s t <;> simp
    obtain ⟨c', d', a', b', ih⟩ := inner_meet (x := x) (y := y) s w ts (acc ++ (stepK s t).toList.map spD) (some (.d (kyD t.1))) (some (.d (okD t.2))) a1 b1 (by rw [List.length_append, List.length_map]; omega)
    refine ⟨c', d', a', b', ?_⟩
    rw [List.map_cons]
    refine (loop_go (e1 := [x, y, some (.own acc), some (.d (kyD s.1)), some (.d (okD s.2)), some (.d (kyD t.1)), some (.d (okD t.2)), a, b]) rfl h1).trans (ih.trans ?_)
    rw [List.filterMap_cons]
    cases stepK s t with
    | none => simp
    | some z => simp
theorem outer_meet {x : Option SD} (b0 : List Sp1) (w : W) : ∀ (ss : List Sp1) (acc : List PyData) (p q c d a b : Option SD), acc.length + ss.length * b0.length ≤ 1000000 → b0.length ≤ 1000000 → ∃ p' q' c' d' a' b',
    mLoop (mgTup 2 (mgCons (mgName 3) (mgCons (mgName 4) mgNil))) bF2_meet (ss.map spD) [x, some (.d (rowD b0)), some (.own acc), p, q, c, d, a, b] w =
      some (.nx, [x, some (.d (rowD b0)), some (.own (acc ++ (meetK ss b0).map spD)), p', q', c', d', a', b'], w)
  | [], acc, p, q, c, d, a, b, _, _ => ⟨p, q, c, d, a, b, by simp [meetK]; rfl⟩
  | s :: ss, acc, p, q, c, d, a, b, hl, hb => by
    rw [List.length_cons, Nat.succ_mul] at hl
    obtain ⟨c1, d1, a1, b1, h1⟩ := inner_meet (x := x) (y := some (.d (rowD b0))) s w b0 acc c d a b (by omega)
    have hle := List.length_filterMap_le (stepK s) b0
    obtain ⟨p', q', c', d', a', b', ih⟩ := outer_meet (x := x) b0 w ss (acc ++ (b0.filterMap (stepK s)).map spD) (some (.d (kyD s.1))) (some (.d (okD s.2))) c1 d1 a1 b1 (by rw [List.length_append, List.length_map]; omega) hb
    refine ⟨p', q', c', d', a', b', ?_⟩
    rw [List.map_cons]
    have hit : ∀ env : Ev, env[1]? = some (some (.d (rowD b0))) → mItems (mVar 1) env w = some (b0.map spD, env, w) := by
      intro env e
      simp only [mItems, seqE, mVar, e, rowD, itemsD, Option.map_some]
    refine (loop_go (e1 := [x, some (.d (rowD b0)), some (.own acc), some (.d (kyD s.1)), some (.d (okD s.2)), c, d, a, b]) rfl (by unfold bF2_meet; exact (for_ok (hit _ rfl)).trans h1)).trans (ih.trans ?_)
    unfold meetK
    rw [List.flatMap_cons, List.map_append, List.append_assoc]
theorem run_meet (a b : List Sp1) (hl : a.length * b.length ≤ 1000000) (hb : b.length ≤ 1000000) (w : W) : m_meet [.d (rowD a), .d (rowD b)] w = some (.d (rowD (meetK a b)), w) := by
  refine fn_ex rfl ?_
  unfold b_meet
  obtain ⟨p', q', c', d', a', b', h⟩ := outer_meet (x := some (.d (rowD a))) b w a [] none none none none none none (by simpa using hl) hb
  have hit : ∀ env : Ev, env[0]? = some (some (.d (rowD a))) → mItems (mVar 0) env w = some (a.map spD, env, w) := by
    intro env e
    simp only [mItems, seqE, mVar, e, rowD, itemsD, Option.map_some]
  refine ex_nx (e1 := [some (.d (rowD a)), some (.d (rowD b)), some (.own []), none, none, none, none, none, none]) (w1 := w) rfl ?_
  refine ex_nx ((for_ok (hit _ rfl)).trans h) ?_
  exact ⟨_, rfl⟩

def spansK (cs : List Cl) : List Sp1 := cs.foldl (fun r c => meetK r (clK c)) [(leastK, none)]
theorem clK_len (c : Cl) : (clK c).length ≤ 2 := by
  have ho : ∀ l h, (outK l h).length ≤ 2 := fun l h => by unfold outK; split <;> simp
  have hb : ∀ g k, (bndK g k).length ≤ 2 := fun g k => by
    unfold bndK
    split
    · simp
    · split <;> simp
  unfold clK
  split
  · split
    · simp
    · exact ho _ _
  · split <;> first | exact hb _ _ | exact ho _ _ | simp
theorem loop_spans {x : Option SD} (w : W) : ∀ (cs : List Cl) (r : List Sp1) (y : Option SD), (∀ c ∈ cs, c.Wf) → r.length * 2 ^ cs.length ≤ 500000 → ∃ y',
    mLoop (mgName 2) bF1_spans_of (cs.map clD) [x, some (.d (rowD r)), y] w = some (.nx, [x, some (.d (rowD (cs.foldl (fun r c => meetK r (clK c)) r))), y'], w)
  | [], r, y, _, _ => ⟨y, rfl⟩
  | c :: cs, r, y, h, hl => by
    rw [List.length_cons, Nat.pow_succ] at hl
    have h1 := run_clspans (h c (by simp)) w
    have hlen := clK_len c
    have hp : 1 ≤ 2 ^ cs.length := Nat.one_le_two_pow
    have hr : r.length * 2 ≤ 500000 := by
      have : r.length * 2 ≤ r.length * (2 ^ cs.length * 2) := Nat.mul_le_mul_left _ (by omega)
      omega
    have hrc : r.length * (clK c).length ≤ r.length * 2 := Nat.mul_le_mul_left _ hlen
    have h2 := run_meet r (clK c) (by omega) (by omega) w
    have hm := meetK_len r (clK c)
    obtain ⟨y', ih⟩ := loop_spans (x := x) w cs (meetK r (clK c)) (some (.d (clD c))) (fun q hq => h q (by simp [hq])) (by
      have h3 : (meetK r (clK c)).length ≤ r.length * 2 := Nat.le_trans hm hrc
      have h4 : (meetK r (clK c)).length * 2 ^ cs.length ≤ (r.length * 2) * 2 ^ cs.length := Nat.mul_le_mul_right _ h3
      have h5 : (r.length * 2) * 2 ^ cs.length = r.length * (2 ^ cs.length * 2) := by rw [Nat.mul_assoc, Nat.mul_comm 2]
      omega)
    refine ⟨y', ?_⟩
    rw [List.map_cons]
    refine (loop_go (e1 := [x, some (.d (rowD r)), some (.d (clD c))]) (e2 := [x, some (.d (rowD (meetK r (clK c)))), some (.d (clD c))]) (w2 := w) rfl ?_).trans ih
    unfold bF1_spans_of
    generalize clD c = C at h1 ⊢
    generalize rowD r = R at h2 ⊢
    generalize rowD (clK c) = R1 at h1 h2
    push_cast [h1, h2]
theorem items_rq {cs : List Cl} (i : Nat) {w : W} (env : Ev) (e : env[i]? = some (some (.d (rqD cs)))) : mItems (mVar i) env w = some (cs.map clD, env, w) := by
  simp only [mItems, seqE, mVar, e, rqD, itemsD, Option.map_some]
theorem run_spansof {cs : List Cl} (h : ∀ c ∈ cs, c.Wf) (hl : cs.length ≤ 18) (w : W) : m_spans_of [.d (rqD cs)] w = some (.d (rowD (spansK cs)), w) := by
  refine fn_ex rfl ?_
  unfold b_spans_of
  rw [leastD]
  have hp : 2 ^ cs.length ≤ 2 ^ 18 := Nat.pow_le_pow_right (by decide) hl
  obtain ⟨y', hL⟩ := loop_spans (x := some (.d (rqD cs))) w cs [(leastK, none)] none h (by simp; omega)
  have e0 : PyData.list [.tuple [kyD leastK, .none]] = rowD [(leastK, none)] := rfl
  refine ex_nx (e1 := [some (.d (rqD cs)), some (.d (rowD [(leastK, none)])), none]) (w1 := w) (by rw [← e0]; generalize kyD leastK = L; push_cast) ?_
  refine ex_nx ((for_ok (items_rq 0 _ rfl)).trans hL) ?_
  exact ⟨_, ret_ok (var_d rfl)⟩
end Dn

set_option maxHeartbeats 4000000
namespace Dn

end Dn

set_option maxHeartbeats 4000000
namespace Dn
open PySem PySem.Spec PyProof.Rows L2 SX
open TL (numL pre joinL)

/-- the key of a version -/
def VK (k : Ky) : Prop := ∃ p : Pt, p.Wf ∧ p.key = k
end Dn

set_option maxHeartbeats 4000000
namespace Dn

end Dn

set_option maxHeartbeats 4000000
namespace Dn

def memB (r : List Sp1) (k : Ky) : Bool := r.any fun s => !ltK k s.1 && belowK k s.2
end Dn

set_option maxHeartbeats 4000000
namespace Dn

end Dn

set_option maxHeartbeats 4000000
namespace Dn
open PySem PySem.Spec PyProof.Rows L2 SX
open TL (numL pre joinL)

theorem lc_has (w : W) (x : Option SD) (k : Ky) : ∀ (r : List Sp1) (acc : List PyData),
    lcLoop (mgTup 2 (mgCons (mgName 2) (mgCons (mgName 3) mgNil))) mYes eC1_has_key [2, 3] (r.map spD) acc [x, some (.d (kyD k)), none, none] w = some (acc ++ (r.map fun s => !ltK k s.1 && belowK k s.2).map PyData.bool, [x, some (.d (kyD k)), none, none], w)
  | [], acc => by rw [List.map_nil, lc_nil, List.map_nil, List.map_nil, List.append_nil]
  | s :: r, acc => by
    have h1 := leD_ky s.1 k
    rw [List.map_cons, lc_go (e1 := [x, some (.d (kyD k)), some (.d (kyD s.1)), some (.d (okD s.2))]) (e2 := [x, some (.d (kyD k)), some (.d (kyD s.1)), some (.d (okD s.2))]) (w2 := w) (e3 := [x, some (.d (kyD k)), some (.d (kyD s.1)), some (.d (okD s.2))]) (w3 := w) (y := .bool (!ltK k s.1 && belowK k s.2)) rfl rfl (by
      unfold eC1_has_key
      cases hb : ltK k s.1 with
      | true =>
        rw [hb] at h1
        generalize kyD s.1 = K1 at h1 ⊢
        generalize kyD k = K at h1 ⊢
        generalize okD s.2 = O
        push_cast [h1]
      | false =>
        rw [hb] at h1
        cases ho : s.2 with
        | none =>
          generalize kyD s.1 = K1 at h1 ⊢
          generalize kyD k = K at h1 ⊢
          simp only [okD, belowK]
          push_cast [h1]
        | some e =>
          have h2 := ltD_ky k e
          have h3 := isD_ky e
          simp only [okD, belowK]
          generalize ltK k e = B at h2 ⊢
          generalize kyD s.1 = K1 at h1 ⊢
          generalize kyD k = K at h1 h2 ⊢
          generalize kyD e = E at h2 h3 ⊢
          push_cast [h1, h2, h3])]
    refine (lc_has w x k r _).trans ?_
    rw [List.append_assoc]
    rfl
theorem run_haskey (r : List Sp1) (k : Ky) (w : W) : m_has_key [.d (rowD r), .d (kyD k)] w = some (.d (.bool (memB r k)), w) := by
  refine fn_ex rfl ?_
  unfold b_has_key
  have h3 := lc_has w (some (.d (rowD r))) k r []
  have hi : ∀ env : Ev, env[0]? = some (some (.d (rowD r))) → mItems (mVar 0) env w = some (r.map spD, env, w) := by
    intro env e
    simp only [mItems, seqE, mVar, e, rowD, itemsD, Option.map_some]
  have hz : mFz (mLc (mItems (mVar 0)) (mgTup 2 (mgCons (mgName 2) (mgCons (mgName 3) mgNil))) mYes eC1_has_key [2, 3]) [some (.d (rowD r)), some (.d (kyD k)), none, none] w = some (.d (.list ((r.map fun s => !ltK k s.1 && belowK k s.2).map PyData.bool)), [some (.d (rowD r)), some (.d (kyD k)), none, none], w) := by
    have hw : wipeE [some (.d (rowD r)), some (.d (kyD k)), none, none] [2, 3] = [some (.d (rowD r)), some (.d (kyD k)), none, none] := rfl
    have hr : rst [some (.d (rowD r)), some (.d (kyD k)), none, none] [some (.d (rowD r)), some (.d (kyD k)), none, none] [2, 3] = [some (.d (rowD r)), some (.d (kyD k)), none, none] := rfl
    rw [List.nil_append] at h3
    have hi2 := hi [some (.d (rowD r)), some (.d (kyD k)), none, none] rfl
    simp only [mFz, mLc, hi2, hw, h3, hr]
  refine ⟨[some (.d (rowD r)), some (.d (kyD k)), none, none], ret_ok ?_⟩
  show mB anyD (mCons (mFz (mLc (mItems (mVar 0)) (mgTup 2 (mgCons (mgName 2) (mgCons (mgName 3) mgNil))) mYes eC1_has_key [2, 3])) mNil) [some (.d (rowD r)), some (.d (kyD k)), none, none] w = _
  simp only [mB, argsD, mCons, mNil, hz, dsOf, Option.map_some, anyD, boolsOf_map, optE]
  unfold memB
  rw [List.any_map]
  rfl
end Dn

set_option maxHeartbeats 4000000
namespace Dn
open PySem PySem.Spec PyProof.Rows L2 SX
open TL (numL pre joinL)
end Dn

set_option maxHeartbeats 4000000
namespace Dn
open PySem PySem.Spec PyProof.Rows L2 SX
open TL (numL pre joinL)

end Dn

set_option maxHeartbeats 4000000
namespace Dn
open PySem PySem.Spec PyProof.Rows L2 SX
open TL (numL pre joinL)

def TK (t : List Nat) : Prop := t = [4] ∨ ∃ fo po dv, (∀ x n, fo = some (x, n) → x ∈ WS) ∧ t = tailK fo po dv
theorem VK.tk {k : Ky} (h : VK k) : TK k.2.2 := by
  obtain ⟨p, hp, rfl⟩ := h
  exact .inr ⟨p.fo, p.po, p.dv, fun x n e => (hp.fo x n e).1, rfl⟩
end Dn

set_option maxHeartbeats 4000000
namespace Dn
open PySem PySem.Spec PyProof.Rows L2 SX
open TL (numL pre joinL)

theorem addD_L {xs ys : List PyData} (h : xs.length + ys.length ≤ 1000000) : addD (.list xs) (.list ys) = some (.list (xs ++ ys)) := by
  simp only [addD, addL]
  rw [if_pos (by rw [sizeLine_eq]; omega)]
section
variable {MP MK MI : Fx} {TX SG Q z CP : Str} {LK LP EP NS BP : PyData} {rest : List PyData} {w : W} {IB DE : Bool}
end
section
variable {q : Pt} {c : Cl}
end

section
variable {MP MK MI MB : Fx} {TX SG Q z CP : Str} {LK LP EP NS NS2 BP DU B1 B2 R : PyData} {rest : List PyData} {w : W} {IB DE : Bool}
end
end Dn

set_option maxHeartbeats 4000000
namespace Dn
open PySem PySem.Spec PyProof.Rows L2 SX
open TL (numL pre joinL)

theorem lc_filt {α : Type} {g : Gx} {tt : Tx} {me : Ex} {vs : List Nat} {env : Ev} {w : W} (f : α → PyData) (p : α → Bool) (y : α → PyData)
    : ∀ (as : List α) (acc : List PyData), (∀ a ∈ as, ∃ e1 e2, g (f a) env = some e1 ∧ tt e1 w = some (p a, e2, w) ∧ (p a = true → ∃ e3, me e2 w = some (.d (y a), e3, w) ∧ wipeE e3 vs = env) ∧ (p a = false → wipeE e2 vs = env)) →
      lcLoop g tt me vs (as.map f) acc env w = some (acc ++ (as.filter p).map y, env, w)
  | [], acc, _ => by rw [List.map_nil, lc_nil, List.filter_nil, List.map_nil, List.append_nil]
  | a :: as, acc, hs => by
    obtain ⟨e1, e2, h1, h2, h3, h4⟩ := hs a (by simp)
    have ih := fun acc => lc_filt (g := g) (tt := tt) (me := me) (vs := vs) (env := env) (w := w) f p y as acc fun b hb => hs b (by simp [hb])
    rw [List.map_cons]
    cases hp : p a with
    | true =>
      rw [hp] at h2
      obtain ⟨e3, h5, h6⟩ := h3 hp
      rw [lc_go h1 h2 h5, h6, ih, List.filter_cons, if_pos hp, List.map_cons, List.append_assoc]
      rfl
    | false =>
      rw [hp] at h2
      rw [lc_skip h1 h2, h4 hp, ih, List.filter_cons, if_neg (by rw [hp]; simp)]
theorem lcm_filt {α : Type} {mi : Lx} {g : Gx} {tt : Tx} {me : Ex} {vs : List Nat} {env : Ev} {w : W} (f : α → PyData) (p : α → Bool) (y : α → PyData) (as : List α) (hi : mi env w = some (as.map f, env, w)) (hw : wipeE env vs = env) (hr : rst env env vs = env)
    (hs : ∀ a ∈ as, ∃ e1 e2, g (f a) env = some e1 ∧ tt e1 w = some (p a, e2, w) ∧ (p a = true → ∃ e3, me e2 w = some (.d (y a), e3, w) ∧ wipeE e3 vs = env) ∧ (p a = false → wipeE e2 vs = env)) :
    mFz (mLc mi g tt me vs) env w = some (.d (.list ((as.filter p).map y)), env, w) := by
  have h := lc_filt (g := g) (tt := tt) (me := me) (vs := vs) (env := env) (w := w) f p y as [] hs
  rw [List.nil_append] at h
  simp only [mFz, mLc, hi, hw, h, hr]
/-- without a test -/
theorem lcm_map {α : Type} {mi : Lx} {g : Gx} {me : Ex} {vs : List Nat} {env : Ev} {w : W} (f : α → PyData) (y : α → PyData) (as : List α) (hi : mi env w = some (as.map f, env, w)) (hw : wipeE env vs = env) (hr : rst env env vs = env)
    (hs : ∀ a ∈ as, ∃ e1 e3, g (f a) env = some e1 ∧ me e1 w = some (.d (y a), e3, w) ∧ wipeE e3 vs = env) :
    mFz (mLc mi g mYes me vs) env w = some (.d (.list (as.map y)), env, w) := by
  have := lcm_filt (tt := mYes) f (fun _ => true) y as hi hw hr fun a ha => by
    obtain ⟨e1, e3, h1, h2, h3⟩ := hs a ha
    exact ⟨e1, e1, h1, rfl, fun _ => ⟨e3, h2, h3⟩, fun h => by cases h⟩
  rw [List.filter_eq_self.mpr (fun _ _ => rfl)] at this
  exact this
theorem eq_nilL (xs : List PyData) : eqD (.list xs) (.list []) = some (.bool xs.isEmpty) := by
  cases xs with
  | nil => rfl
  | cons x xs => exact eqD_nil1 x xs
theorem ne_nilL (xs : List PyData) : neD (.list xs) (.list []) = some (.bool (!xs.isEmpty)) := by
  cases xs with
  | nil => rfl
  | cons x xs => exact neD_nil1 x xs

end Dn

set_option maxHeartbeats 4000000
namespace Dn
open PySem PySem.Spec PyProof.Rows L2 SX
open TL (numL pre joinL)

theorem ne_str_self (x : Str) : neD (.str x) (.str x) = some (.bool false) := by
  unfold neD
  rw [eqv_rf _ (by simp [nb]), if_pos (by simp [dOk])]
  rfl
end Dn

set_option maxHeartbeats 4000000
namespace Dn
open PySem PySem.Spec PyProof.Rows L2 SX
open TL (numL pre joinL)

end Dn

set_option maxHeartbeats 4000000
namespace Dn
open PySem PySem.Spec PyProof.Rows L2 SX
open TL (numL pre joinL)

end Dn

set_option maxHeartbeats 4000000
namespace Dn
open PySem PySem.Spec PyProof.Rows L2 SX
open TL (numL pre joinL)

section
variable {md mv mp mt ma : Fx}
end
end Dn

set_option maxHeartbeats 4000000
namespace Dn
open PySem PySem.Spec PyProof.Rows L2 SX
open TL (numL pre joinL)

end Dn

set_option maxHeartbeats 4000000
namespace Dn
open PySem PySem.Spec PyProof.Rows L2 SX
open TL (numL pre joinL)

section
variable {md mc ma mt : Fx} {R sg tx : PyData} {xs : List PyData} {way j k : Nat}
end
end Dn

set_option maxHeartbeats 4000000
namespace Dn
open PySem PySem.Spec PyProof.Rows L2 SX
open TL (numL pre joinL)

section
variable {R : PyData} {xs : List PyData} {way j : Nat} {TX SG z : Str} {w : W} {b q : Bool}
end
section
variable {md mc ma mt : Fx} {R : PyData} {xs : List PyData} {way j k : Nat} {c : Cl}
end
end Dn

set_option maxHeartbeats 4000000
namespace Dn
open PySem PySem.Spec PyProof.Rows L2 SX
open TL (numL pre joinL)

section
variable {md mc : Fx} {R : PyData} {xs : List PyData} {way j k : Nat}
end
end Dn

set_option maxHeartbeats 4000000
namespace Dn
open PySem PySem.Spec PyProof.Rows L2 SX
open TL (numL pre joinL)

end Dn

set_option maxHeartbeats 4000000
namespace Dn
open PySem PySem.Spec PyProof.Rows L2 SX
open TL (numL pre joinL)

end Dn

set_option maxHeartbeats 4000000
namespace Dn
open PySem PySem.Spec PyProof.Rows L2 SX
open TL (numL pre joinL)
def HE (m : Ex) (env : Ev) (k : Nat) (P : PyData → Prop) : Prop := ∀ (n : Nat) (s : DS), Gd (n + k) s → ∃ x s', m env (some s) = some (.d x, env, some s') ∧ P x ∧ Gd n s'
def HA (ms : Ax) (env : Ev) (k : Nat) (P : List SD → Prop) : Prop := ∀ (n : Nat) (s : DS), Gd (n + k) s → ∃ as s', ms env (some s) = some (as, env, some s') ∧ P as ∧ Gd n s'
def HF (m : Fx) (as : List SD) (k : Nat) (P : PyData → Prop) : Prop := ∀ (n : Nat) (s : DS), Gd (n + k) s → ∃ x s', m as (some s) = some (.d x, some s') ∧ P x ∧ Gd n s'
def HT (t : Tx) (env : Ev) (k : Nat) (P : Bool → Prop) : Prop := ∀ (n : Nat) (s : DS), Gd (n + k) s → ∃ b s', t env (some s) = some (b, env, some s') ∧ P b ∧ Gd n s'
def HR (b : Sx) (env : Ev) (k : Nat) (P : PyData → Prop) : Prop := ∀ (n : Nat) (s : DS), Gd (n + k) s → ∃ x e s', b env (some s) = some (.rt (.d x), e, some s') ∧ P x ∧ Gd n s'
def HN (b : Sx) (env : Ev) (k : Nat) (Q : Ev → Prop) : Prop := ∀ (n : Nat) (s : DS), Gd (n + k) s → ∃ e s', b env (some s) = some (.nx, e, some s') ∧ Q e ∧ Gd n s'
def HL (m : Lx) (env : Ev) (k : Nat) (P : List PyData → Prop) : Prop := ∀ (n : Nat) (s : DS), Gd (n + k) s → ∃ xs s', m env (some s) = some (xs, env, some s') ∧ P xs ∧ Gd n s'
section
variable {m a b : Ex} {ms : Ax} {env : Ev} {j k l : Nat} {P Q R : PyData → Prop} {mf : Fx} {as : List SD} {sa sb : Sx} {t u : Tx} {ml : Lx}
theorem HE.mono (h : HE m env j P) (hl : j ≤ k) (hp : ∀ x, P x → Q x) : HE m env k Q := fun n s hs => by
  obtain ⟨x, s', h1, h2, h3⟩ := h n s (hs.mono (by omega))
  exact ⟨x, s', h1, hp x h2, h3⟩
theorem HE.imp (h : HE m env k P) (hp : ∀ x, P x → Q x) : HE m env k Q := h.mono (Nat.le_refl _) hp
theorem HE.up (h : HE m env j P) (hl : j ≤ k) : HE m env k P := h.mono hl fun _ h => h
theorem HF.mono (h : HF mf as j P) (hl : j ≤ k) (hp : ∀ x, P x → Q x) : HF mf as k Q := fun n s hs => by
  obtain ⟨x, s', h1, h2, h3⟩ := h n s (hs.mono (by omega))
  exact ⟨x, s', h1, hp x h2, h3⟩
theorem HF.up (h : HF mf as j P) (hl : j ≤ k) : HF mf as k P := h.mono hl fun _ h => h
theorem HR.mono (h : HR sa env j P) (hl : j ≤ k) (hp : ∀ x, P x → Q x) : HR sa env k Q := fun n s hs => by
  obtain ⟨x, e, s', h1, h2, h3⟩ := h n s (hs.mono (by omega))
  exact ⟨x, e, s', h1, hp x h2, h3⟩
theorem HR.up (h : HR sa env j P) (hl : j ≤ k) : HR sa env k P := h.mono hl fun _ h => h
theorem HN.mono {P Q : Ev → Prop} (h : HN sa env j P) (hl : j ≤ k) (hp : ∀ x, P x → Q x) : HN sa env k Q := fun n s hs => by
  obtain ⟨x, s', h1, h2, h3⟩ := h n s (hs.mono (by omega))
  exact ⟨x, s', h1, hp x h2, h3⟩
theorem HN.up {P : Ev → Prop} (h : HN sa env j P) (hl : j ≤ k) : HN sa env k P := h.mono hl fun _ h => h
theorem HT.mono {P Q : Bool → Prop} (h : HT t env j P) (hl : j ≤ k) (hp : ∀ x, P x → Q x) : HT t env k Q := fun n s hs => by
  obtain ⟨x, s', h1, h2, h3⟩ := h n s (hs.mono (by omega))
  exact ⟨x, s', h1, hp x h2, h3⟩
theorem HL.mono {P Q : List PyData → Prop} (h : HL ml env j P) (hl : j ≤ k) (hp : ∀ x, P x → Q x) : HL ml env k Q := fun n s hs => by
  obtain ⟨x, s', h1, h2, h3⟩ := h n s (hs.mono (by omega))
  exact ⟨x, s', h1, hp x h2, h3⟩
/-- without a draw -/
theorem HE.pure {x : PyData} (h : ∀ w, m env w = some (.d x, env, w)) (hp : P x) : HE m env k P := fun n s hs => ⟨x, s, h _, hp, hs.mono (by omega)⟩
theorem HF.pure {x : PyData} (h : ∀ w, mf as w = some (.d x, w)) (hp : P x) : HF mf as k P := fun n s hs => ⟨x, s, h _, hp, hs.mono (by omega)⟩
theorem HT.pure {x : Bool} {P : Bool → Prop} (h : ∀ w, t env w = some (x, env, w)) (hp : P x) : HT t env k P := fun n s hs => ⟨x, s, h _, hp, hs.mono (by omega)⟩
theorem HN.pure {e : Ev} {P : Ev → Prop} (h : ∀ w, sa env w = some (.nx, e, w)) (hp : P e) : HN sa env k P := fun n s hs => ⟨e, s, h _, hp, hs.mono (by omega)⟩
theorem HL.pure {x : List PyData} {P : List PyData → Prop} (h : ∀ w, ml env w = some (x, env, w)) (hp : P x) : HL ml env k P := fun n s hs => ⟨x, s, h _, hp, hs.mono (by omega)⟩
theorem ha_nil : HA mNil env 0 (· = []) := fun n s hs => ⟨[], s, rfl, rfl, hs⟩
theorem ha_st {i : Nat} {A : List SD → Prop} (h : env[i]? = some (some .st)) (hm : HA ms env k A) : HA (mCons (mVar i) ms) env k (fun l => ∃ r, l = .st :: r ∧ A r) := fun n s hs => by
  obtain ⟨as, s1, h1, h2, h3⟩ := hm n s hs
  exact ⟨_, s1, cons_ok (by simp only [mVar, h]) h1, ⟨as, rfl, h2⟩, h3⟩
theorem ha_cons {A : List SD → Prop} (ha : HE a env j P) (hm : HA ms env k A) : HA (mCons a ms) env (j + k) (fun l => ∃ x r, l = .d x :: r ∧ P x ∧ A r) := fun n s hs => by
  obtain ⟨x, s1, h1, h2, h3⟩ := ha (n + k) s (hs.mono (by omega))
  obtain ⟨as, s2, q1, q2, q3⟩ := hm n s1 h3
  exact ⟨_, s2, cons_ok h1 q1, ⟨x, as, rfl, h2, q2⟩, q3⟩
theorem he_call {A : List SD → Prop} (ha : HA ms env j A) (hm : ∀ as, A as → HF mf as k P) : HE (mCall mf ms) env (j + k) P := fun n s hs => by
  obtain ⟨as, s1, h1, h2, h3⟩ := ha (n + k) s (hs.mono (by omega))
  obtain ⟨x, s2, q1, q2, q3⟩ := hm as h2 n s1 h3
  exact ⟨x, s2, by simp only [mCall, h1, q1], q2, q3⟩
/-- f(state, a) -/
theorem he_call1 {i : Nat} (h : env[i]? = some (some .st)) (ha : HE a env j P) (hm : ∀ x, P x → HF mf [.st, .d x] k Q) : HE (mCall mf (mCons (mVar i) (mCons a mNil))) env (j + k) Q := by
  refine he_call (j := j) (ha_st h (ha_cons ha ha_nil)) fun as => ?_
  rintro ⟨r, rfl, x, r', rfl, hx, rfl⟩
  exact hm x hx
/-- _law_draw(state, k) -/
theorem he_draw {i : Nat} (h : env[i]? = some (some .st)) (many : Nat) (h1 : 0 < many) (h2 : many < 1073741824) : HE (mCall m__law_draw (mCons (mVar i) (mCons (mC (.int (many : Int))) mNil))) env 1 (fun x => ∃ k : Nat, x = .int (k : Int) ∧ k < many) := fun n s hs => by
  obtain ⟨k, s', q1, q2, q3⟩ := draw_ok hs h1 h2
  exact ⟨_, s', drawE h q1, ⟨k, rfl, q2⟩, q3⟩
theorem hr_ret (h : HE m env k P) : HR (mRet m) env k P := fun n s hs => by
  obtain ⟨x, s', h1, h2, h3⟩ := h n s hs
  exact ⟨x, env, s', ret_ok h1, h2, h3⟩
theorem hr_seq {I : Ev → Prop} (h : HN sa env j I) (hb : ∀ e, I e → HR sb e k Q) : HR (mSeq sa sb) env (j + k) Q := fun n s hs => by
  obtain ⟨e1, s1, h1, h2, h3⟩ := h (n + k) s (hs.mono (by omega))
  obtain ⟨y, e, s2, q1, q2, q3⟩ := hb e1 h2 n s1 h3
  exact ⟨y, e, s2, (seq_nx h1).trans q1, q2, q3⟩
theorem loop_inv {g : Gx} {K : Nat} {A : PyData → Prop} {I : Ev → Prop} (hb : ∀ e d, I e → A d → ∃ e1, g d e = some e1 ∧ HN sb e1 K I) :
    ∀ (ds : List PyData) (e : Ev) (n : Nat) (s : DS), (∀ d ∈ ds, A d) → I e → Gd (n + K * ds.length) s → ∃ e' s', mLoop g sb ds e (some s) = some (.nx, e', some s') ∧ I e' ∧ Gd n s'
  | [], e, n, s, _, hI, h => ⟨e, s, rfl, hI, by simpa using h⟩
  | d :: ds, e, n, s, ha, hI, h => by
    obtain ⟨e1, h1, h2⟩ := hb e d hI (ha d (by simp))
    obtain ⟨e2, s1, q1, q2, q3⟩ := h2 (n + K * ds.length) s (h.mono (by rw [List.length_cons, Nat.mul_succ]; omega))
    obtain ⟨e3, s2, r1, r2, r3⟩ := loop_inv hb ds e2 n s1 (fun x hx => ha x (by simp [hx])) q2 q3
    exact ⟨e3, s2, (loop_go h1 q1).trans r1, r2, r3⟩
/-- for g in ml: sb -/
theorem hn_for {g : Gx} {N : Nat} {A : PyData → Prop} {I : Ev → Prop} (hl : HL ml env j (fun ds : List PyData => ds.length ≤ N ∧ ∀ d ∈ ds, A d)) (hI : I env) (hb : ∀ e d, I e → A d → ∃ e1, g d e = some e1 ∧ HN sb e1 k I) : HN (mFor ml g sb) env (j + k * N) I := fun n s hs => by
  obtain ⟨ds, s1, h1, ⟨h2, h3⟩, h4⟩ := hl (n + k * N) s (hs.mono (by omega))
  obtain ⟨e, s2, q1, q2, q3⟩ := loop_inv hb ds env n s1 h3 hI (h4.mono (Nat.add_le_add_left (Nat.mul_le_mul_left k h2) n))
  exact ⟨e, s2, (for_ok h1).trans q1, q2, q3⟩
theorem HR.law (h : HR sa env k (· = .bool true)) {s : DS} (hs : Gd k s) : ∃ env' w', sa env (some s) = some (.rt (.d (.bool true)), env', w') := by
  obtain ⟨x, e, s', h1, rfl, _⟩ := h 0 s (by rw [Nat.zero_add]; exact hs)
  exact ⟨e, _, h1⟩
end
/-- _law_of(state, some) -/
theorem hf_of_list {xs : List PyData} (h0 : xs ≠ []) (hl : xs.length ≤ 100000) : HF m__law_of [.st, .d (.list xs)] 1 (· ∈ xs) := fun n s hs => by
  have hD := drawOk
  suffices hb : ∃ x s', x ∈ xs ∧ Gd n s' ∧ ∃ e, b__law_of [some .st, some (.d (.list xs))] (some s) = some (.rt (.d x), e, some s') by
    obtain ⟨x, s', h1, h2, h3⟩ := hb
    exact ⟨x, s', fn_ex rfl h3, h1, h2⟩
  unfold b__law_of
  generalize m__law_draw = md at hD ⊢
  have h1 : 0 < xs.length := List.length_pos_iff.mpr h0
  obtain ⟨k, s1, d1, hk, g1⟩ := hD n s hs xs.length h1 (by omega)
  obtain ⟨x, hxk⟩ : ∃ x, xs[k]? = some x := ⟨_, List.getElem?_eq_getElem (by omega)⟩
  have hix : ixD (.list xs) (.int (k : Int)) = some x := by
    show atI xs (k : Int) = some x
    rw [atI_nat, hxk]
  have hlen : lenD [.list xs] = some (.int ((xs.length : Nat) : Int)) := by
    unfold lenD
    dsimp only
  refine ⟨x, s1, List.mem_of_getElem? hxk, g1, _, ret_ok (op_ok (var_d rfl) (call2 (x := .st) (y := .d (.int ((xs.length : Nat) : Int))) (e1 := [some .st, some (.d (.list xs))]) (w1 := some s) (e2 := [some .st, some (.d (.list xs))]) (w2 := some s) rfl ?_ d1) hix)⟩
  simp only [mB, argsD, mCons, mNil, mVar, List.getElem?_cons_zero, List.getElem?_cons_succ, dsOf, Option.map_some, hlen, optE]
end Dn

set_option maxHeartbeats 4000000
namespace Dn
open PySem PySem.Spec PyProof.Rows L2 SX
open TL (numL pre joinL)
theorem lcm_filtR {α : Type} {mi : Lx} {g : Gx} {tt : Tx} {me : Ex} {vs : List Nat} {env env' : Ev} {w : W} (f : α → PyData) (p : α → Bool) (y : α → PyData) (as : List α) (hi : mi env w = some (as.map f, env, w)) (hw : wipeE env vs = env') (hr : rst env env' vs = env)
    (hs : ∀ a ∈ as, ∃ e1 e2, g (f a) env' = some e1 ∧ tt e1 w = some (p a, e2, w) ∧ (p a = true → ∃ e3, me e2 w = some (.d (y a), e3, w) ∧ wipeE e3 vs = env') ∧ (p a = false → wipeE e2 vs = env')) :
    mFz (mLc mi g tt me vs) env w = some (.d (.list ((as.filter p).map y)), env, w) := by
  have h := lc_filt (g := g) (tt := tt) (me := me) (vs := vs) (env := env') (w := w) f p y as [] hs
  rw [List.nil_append] at h
  simp only [mFz, mLc, hi, hw, h, hr]
theorem cutL_take {α : Type} (xs : List α) (k : Nat) : cutL xs none (some (k : Int)) = xs.take k := by
  unfold cutL
  rw [HT.sIx_none, HT.sIx_nat, List.drop_zero, Nat.sub_zero]
  by_cases c : k ≤ xs.length
  · rw [Nat.min_eq_left c]
  · rw [Nat.min_eq_right (by omega), List.take_of_length_le (Nat.le_refl _), List.take_of_length_le (by omega)]
theorem up_tupL {xs ys : List PyData} (h : xs.length + ys.length ≤ 1000000) : addD (.tuple xs) (.tuple ys) = some (.tuple (xs ++ ys)) := by
  unfold addD addT
  dsimp only
  rw [if_pos (by rw [sizeLine_eq]; omega)]
section
variable {env : Ev} {w : W} {m a b c d : Ex} {mf : Fx} {x y z u r : SD} {t : Tx}
theorem call1s (h1 : a env w = some (x, env, w)) (hm : mf [x] w = some (r, w)) : mCall mf (mCons a mNil) env w = some (r, env, w) := call1 h1 hm
theorem call2s (h1 : a env w = some (x, env, w)) (h2 : b env w = some (y, env, w)) (hm : mf [x, y] w = some (r, w)) : mCall mf (mCons a (mCons b mNil)) env w = some (r, env, w) := call2 h1 h2 hm
theorem ops {g : PyData → PyData → Option PyData} {x y z : PyData} (h1 : a env w = some (.d x, env, w)) (h2 : b env w = some (.d y, env, w)) (hz : g x y = some z) : mOp g a b env w = some (.d z, env, w) := op_ok h1 h2 hz
theorem trus {b : Bool} (h : m env w = some (.d (.bool b), env, w)) : mTru m env w = some (b, env, w) := tru_ok h
theorem lst1s {x : PyData} (h : a env w = some (.d x, env, w)) : mFz (mLst (mCons a mNil)) env w = some (.d (.list [x]), env, w) := lst_ok (ds := [x]) (cons_ok h nil_ok) rfl (by simp)
theorem lst2s {x y : PyData} (h : a env w = some (.d x, env, w)) (h2 : b env w = some (.d y, env, w)) : mFz (mLst (mCons a (mCons b mNil))) env w = some (.d (.list [x, y]), env, w) := lst_ok (ds := [x, y]) (cons_ok h (cons_ok h2 nil_ok)) rfl (by simp)
theorem tup1s {x : PyData} (h : a env w = some (.d x, env, w)) : mTup (mCons a mNil) env w = some (.d (.tuple [x]), env, w) := tup_ok (ds := [x]) (cons_ok h nil_ok) rfl (by simp)
theorem tup2s {x y : PyData} (h : a env w = some (.d x, env, w)) (h2 : b env w = some (.d y, env, w)) : mTup (mCons a (mCons b mNil)) env w = some (.d (.tuple [x, y]), env, w) := tup_ok (ds := [x, y]) (cons_ok h (cons_ok h2 nil_ok)) rfl (by simp)
theorem vars {i : Nat} {x : PyData} (h : env[i]? = some (some (.d x))) : mVar i env w = some (.d x, env, w) := var_d h
theorem cst {x : PyData} : mC x env w = some (.d x, env, w) := rfl
theorem items_s {x : PyData} {ds : List PyData} (h : m env w = some (.d x, env, w)) (hi : itemsD x = some ds) : mItems m env w = some (ds, env, w) := by
  simp only [mItems, seqE, h, hi, Option.map_some]
theorem b1s {g : List PyData → Option PyData} {x z : PyData} (h : a env w = some (.d x, env, w)) (hg : g [x] = some z) : mB g (mCons a mNil) env w = some (.d z, env, w) := by
  simp only [mB, argsD, mCons, mNil, h, dsOf, Option.map_some, hg, optE]
theorem nots {b : Bool} (h : t env w = some (b, env, w)) : mNot t env w = some (!b, env, w) := by simp only [mNot, h]
theorem ors {u : Tx} {p q : Bool} (h1 : t env w = some (p, env, w)) (h2 : p = false → u env w = some (q, env, w)) : mOr t u env w = some (p || q, env, w) := by
  cases p with
  | true => simp only [mOr, h1, Bool.true_or]
  | false => simp only [mOr, h1, h2 rfl, Bool.false_or]
variable {sa sb : Sx} {f : Fl} {w' : W}
theorem ex_set {i : Nat} (h : m env w = some (r, env, w)) (k : ∃ e, sb (env.set i (some r)) w = some (f, e, w')) : ∃ e, mSeq (mSet i m) sb env w = some (f, e, w') := ex_nx (set_ok h) k
theorem ex_skip (h : t env w = some (false, env, w)) (k : ∃ e, sb env w = some (f, e, w')) : ∃ e, mSeq (mIf t sa mNx) sb env w = some (f, e, w') := ex_nx (e1 := env) (w1 := w) (if_f h) k
theorem ex_hit (h : t env w = some (true, env, w)) (hm : m env w = some (r, env, w)) {sc : Sx} : ∃ e, mSeq (mIf t (mRet m) sc) sb env w = some (.rt r, e, w) := ex_rt ((if_t h).trans (ret_ok hm))
theorem ex_ret (h : m env w = some (r, env, w)) : ∃ e, mRet m env w = some (.rt r, e, w) := ⟨_, ret_ok h⟩
theorem ex_drop (h : m env w = some (r, env, w)) (k : ∃ e, sb env w = some (f, e, w')) : ∃ e, mSeq (mDrop m) sb env w = some (f, e, w') := ex_nx (e1 := env) (w1 := w) (by simp only [mDrop, h]) k
theorem ex_par {i j : Nat} {ma mb : Ex} {x y : SD} (h1 : ma env w = some (x, env, w)) (h2 : mb env w = some (y, env, w)) (k : ∃ e, sb ((env.set i (some x)).set j (some y)) w = some (f, e, w')) : ∃ e, mSeq (mPar i j ma mb) sb env w = some (f, e, w') :=
  ex_nx (by simp only [mPar, mCons, mNil, h1, h2]) k
theorem ex_for {ml : Lx} {g : Gx} {ds : List PyData} {e1 : Ev} (h : ml env w = some (ds, env, w)) (hL : mLoop g sa ds env w = some (.nx, e1, w)) (k : ∃ e, sb e1 w = some (f, e, w')) : ∃ e, mSeq (mFor ml g sa) sb env w = some (f, e, w') := ex_nx ((for_ok h).trans hL) k
end
end Dn

set_option maxHeartbeats 4000000
namespace Dn
open PySem PySem.Spec PyProof.Rows L2 SX
open TL (numL pre joinL)
section
variable {n N : Nat} {r rb ra : Rx} {rf : List SD → W → Option (Xc × W)} {ms : Ax} {a b : Ex} {sa sb : Sx} {env e1 : Ev} {w w1 w2 : W} {as : List SD} {x : Xc} {t u : SD}
theorem rfn_ex (hl : as.length = n) (h : ∃ e, r (as.map some ++ List.replicate (N - as.length) none) w = some (x, e, w1)) : rFn n N r as w = some (x, w1) := by
  obtain ⟨e, h⟩ := h
  unfold rFn
  rw [if_pos hl, h]
theorem rfn_no (hl : as.length = n) (h : r (as.map some ++ List.replicate (N - as.length) none) w = none) : rFn n N r as w = none := by
  unfold rFn
  rw [if_pos hl, h]
theorem rcall_ok (h1 : ms env w = some (as, e1, w1)) (h2 : rf as w1 = some (x, w2)) : rCall rf ms env w = some (x, e1, w2) := by simp only [rCall, h1, h2]
theorem rcall_no (h1 : ms env w = some (as, e1, w1)) (h2 : rf as w1 = none) : rCall rf ms env w = none := by simp only [rCall, h1, h2]
theorem rthen_l {α : Type} {a : Ev → W → Option (α × Ev × W)} {y : Xc × Ev × W} (h : ra env w = some y) : rThen ra a rb env w = some y := by simp only [rThen, h]
theorem rthen_r {α : Type} {a : Ev → W → Option (α × Ev × W)} {z : α} (h1 : ra env w = none) (h2 : a env w = some (z, e1, w1)) {o : Option (Xc × Ev × W)} (h3 : rb e1 w1 = o) : rThen ra a rb env w = o := by simp only [rThen, h1, h2, h3]
theorem rseq_l {y : Xc × Ev × W} (h : ra env w = some y) : rSeq sa ra rb env w = some y := by simp only [rSeq, h]
theorem rseq_r (h1 : ra env w = none) (h2 : sa env w = some (.nx, e1, w1)) {o : Option (Xc × Ev × W)} (h3 : rb e1 w1 = o) : rSeq sa ra rb env w = o := by simp only [rSeq, h1, h2, h3]
theorem rif_t {tc : Tx} (h : tc env w = some (true, e1, w1)) : rIf tc ra rb env w = ra e1 w1 := by simp only [rIf, h]
theorem rif_f {tc : Tx} (h : tc env w = some (false, e1, w1)) : rIf tc ra rb env w = rb e1 w1 := by simp only [rIf, h]
/-- data, loose or not -/
def IsDat : SD → Prop
  | .d _ => True
  | .l _ => True
  | _ => False
theorem isDat_mk (x : PyData) : IsDat (mkZ x) := by
  unfold mkZ
  split <;> trivial
theorem var_dt {i : Nat} (h : env[i]? = some (some t)) (ht : IsDat t) : mVar i env w = some (t, env, w) := by
  unfold mVar
  rw [h]
  cases t <;> first | rfl | exact ht.elim
theorem args1 (h : a env w = some (t, env, w)) : mCons a mNil env w = some ([t], env, w) := by simp only [mCons, mNil, h]
theorem args2 (h : a env w = some (t, env, w)) (h2 : b env w = some (u, env, w)) : mCons a (mCons b mNil) env w = some ([t, u], env, w) := by simp only [mCons, mNil, h, h2]
theorem drop_ok {m : Ex} (h : m env w = some (t, env, w)) : mDrop m env w = some (.nx, env, w) := by simp only [mDrop, h]
end
section
variable {t u g g' : SD} {x : Xc} {R : PyData}
end
theorem rl_go {g : Gx} {b : Sx} {rb : Rx} {d : PyData} {ds : List PyData} {env e1 e2 : Ev} {w w2 : W} (hg : g d env = some e1) (h1 : rb e1 w = none) (h2 : b e1 w = some (.nx, e2, w2)) : rLoop g b rb (d :: ds) env w = rLoop g b rb ds e2 w2 := by
  rw [rLoop]
  simp only [hg, h1, h2]
theorem rl_hit {g : Gx} {b : Sx} {rb : Rx} {d : PyData} {ds : List PyData} {env e1 : Ev} {w : W} {y : Xc × Ev × W} (hg : g d env = some e1) (h1 : rb e1 w = some y) : rLoop g b rb (d :: ds) env w = some y := by
  rw [rLoop]
  simp only [hg, h1]
abbrev gNR : Gx := mgTup 2 (mgCons (mgName 1) (mgCons (mgName 2) mgNil))
abbrev rNR : Rx := rIf (mNot (mTru (mCall m_is_clause (mCons (mVar 2) mNil)))) (rRaise1 "BadRequirement" (mTup (mCons (mVar 1) mNil))) rNo
def enD (k : Nat) (ds : List PyData) : List PyData := (ds.zipIdx k).map fun p => .tuple [.int (p.2 : Nat), p.1]
theorem enD_cons (k : Nat) (d : PyData) (ds : List PyData) : enD k (d :: ds) = .tuple [.int (k : Nat), d] :: enD (k + 1) ds := rfl
theorem enD_app (ds es : List PyData) : ∀ k : Nat, enD k (ds ++ es) = enD k ds ++ enD (k + ds.length) es := by
  induction ds with
  | nil => intro k; rfl
  | cons d ds ih =>
    intro k
    rw [List.cons_append, enD_cons, enD_cons, ih, List.cons_append, List.length_cons, show k + 1 + ds.length = k + (ds.length + 1) by omega]
theorem turn_no {x : Option SD} {k : Int} {C : PyData} {w : W} (h1 : m_is_clause [.d C] w = some (.d (.bool true), w)) : rNR [x, some (.d (.int k)), some (.d C)] w = none := by
  refine (rif_f (e1 := [x, some (.d (.int k)), some (.d C)]) (w1 := w) ?_).trans rfl
  push_cast [h1]
theorem turn_go {x : Option SD} {k : Int} {C : PyData} {w : W} (h1 : m_is_clause [.d C] w = some (.d (.bool true), w)) : rbF2_need_requirement [x, some (.d (.int k)), some (.d C)] w = some (.nx, [x, some (.d (.int k)), some (.d C)], w) := by
  unfold rbF2_need_requirement
  push_cast [h1]
theorem turn_bad {x : Option SD} {k : Int} {C : PyData} {w : W} (h1 : m_is_clause [.d C] w = some (.d (.bool false), w)) : rNR [x, some (.d (.int k)), some (.d C)] w = some (⟨"BadRequirement", some (.tuple [.int k])⟩, [x, some (.d (.int k)), some (.d C)], w) := by
  refine (rif_t (e1 := [x, some (.d (.int k)), some (.d C)]) (w1 := w) ?_).trans ?_
  · push_cast [h1]
  · simp only [rRaise1]
    push_cast
theorem rl_good {x : Option SD} (w : W) (tl : List PyData) : ∀ (cs : List Cl) (k : Nat) (a b : Option SD), (∀ c ∈ cs, c.Wf) → ∃ a' b', rLoop gNR rbF2_need_requirement rNR (enD k (cs.map clD) ++ tl) [x, a, b] w = rLoop gNR rbF2_need_requirement rNR tl [x, a', b'] w
  | [], k, a, b, _ => ⟨a, b, rfl⟩
  | c :: cs, k, a, b, h => by
    obtain ⟨a', b', ih⟩ := rl_good (x := x) w tl cs (k + 1) (some (.d (.int (k : Nat)))) (some (.d (clD c))) fun q hq => h q (by simp [hq])
    have h1 := run_isclause (h c (by simp)) w
    refine ⟨a', b', ?_⟩
    rw [List.map_cons, enD_cons, List.cons_append]
    have e1 : gNR (.tuple [.int (k : Nat), clD c]) [x, a, b] = some [x, some (.d (.int (k : Nat))), some (.d (clD c))] := rfl
    have e2 := turn_no (x := x) (k := (k : Nat)) h1
    have e3 := turn_go (x := x) (k := (k : Nat)) h1
    exact (rl_go e1 e2 e3).trans ih
theorem rl_bad {x : Option SD} {w : W} {odd : PyData} (ho : m_is_clause [.d odd] w = some (.d (.bool false), w)) (ds : List PyData) (k : Nat) (a b : Option SD) : ∃ e, rLoop gNR rbF2_need_requirement rNR (enD k (odd :: ds)) [x, a, b] w = some (⟨"BadRequirement", some (.tuple [.int (k : Nat)])⟩, e, w) := by
  have e1 : gNR (.tuple [.int (k : Nat), odd]) [x, a, b] = some [x, some (.d (.int (k : Nat))), some (.d odd)] := rfl
  have e2 := turn_bad (x := x) (k := (k : Nat)) ho
  exact ⟨_, by rw [enD_cons]; exact rl_hit e1 e2⟩
theorem nr_head {ds : List PyData} (hl : ds.length ≤ 12) (w : W) : (mOr (mNot (mTru (mIsL isTup (mVar 0)))) (mTru (mOp gtI (mB lenD (mCons (mVar 0) mNil)) (mC (.int 12))))) [some (.d (.tuple ds)), none, none] w = some (false, [some (.d (.tuple ds)), none, none], w) := by
  have hlen : lenD [PyData.tuple ds] = some (.int ((ds.length : Nat) : Int)) := rfl
  have hg : gtI (.int ((ds.length : Nat) : Int)) (.int 12) = some (.bool false) := by
    rw [gtI_int, decide_eq_false (by omega)]
  have hi : mIsL isTup (mVar 0) [some (.d (.tuple ds)), none, none] w = some (.d (.bool true), [some (.d (.tuple ds)), none, none], w) := rfl
  push_cast [hi, hlen, hg]
theorem nr_enum {ds : List PyData} (w : W) : mEnum (mCons (mVar 0) mNil) [some (.d (.tuple ds)), none, none] w = some (enD 0 ds, [some (.d (.tuple ds)), none, none], w) := rfl
theorem nr_walk {ds : List PyData} (hl : ds.length ≤ 12) {w : W} {o : Option (Xc × Ev × W)} (h : rLoop gNR rbF2_need_requirement rNR (enD 0 ds) [some (.d (.tuple ds)), none, none] w = o)
    (hn : o = none → ∃ e, mFor (mEnum (mCons (mVar 0) mNil)) gNR rbF1_need_requirement [some (.d (.tuple ds)), none, none] w = some (.nx, e, w)) : rb_need_requirement [some (.d (.tuple ds)), none, none] w = o := by
  unfold rb_need_requirement
  have hh := nr_head hl w
  refine rseq_r (e1 := [some (.d (.tuple ds)), none, none]) (w1 := w) ((rif_f hh).trans rfl) ((if_f hh).trans rfl) ?_
  have hf : rFor (mEnum (mCons (mVar 0) mNil)) gNR rbF2_need_requirement rNR [some (.d (.tuple ds)), none, none] w = o := by
    unfold rFor
    rw [nr_enum]
    exact h
  cases o with
  | some y => exact rseq_l hf
  | none =>
    obtain ⟨e, he⟩ := hn rfl
    exact rseq_r hf he rfl
theorem need_no {cs : List Cl} (h : ∀ c ∈ cs, c.Wf) (hl : cs.length ≤ 12) : r_need_requirement [.d (rqD cs)] none = none := by
  refine rfn_no rfl ?_
  obtain ⟨a, b, hr⟩ := rl_good (x := some (.d (rqD cs))) none [] cs 0 none none h
  rw [List.append_nil] at hr
  refine nr_walk (ds := cs.map clD) (by rw [List.length_map]; exact hl) hr fun _ => ?_
  obtain ⟨a', b', hL⟩ := loop_need (x := some (.d (rqD cs))) none cs 0 none none h
  exact ⟨_, (for_ok (nr_enum none)).trans hL⟩
theorem need_bad {cs : List Cl} (h : ∀ c ∈ cs, c.Wf) {odd : PyData} {ds : List PyData} (hl : cs.length + ds.length ≤ 11) (ho : m_is_clause [.d odd] none = some (.d (.bool false), none)) : r_need_requirement [.d (.tuple (cs.map clD ++ odd :: ds))] none = some (⟨"BadRequirement", some (.tuple [.int (cs.length : Nat)])⟩, none) := by
  refine rfn_ex rfl ?_
  obtain ⟨a, b, hr⟩ := rl_good (x := some (.d (.tuple (cs.map clD ++ odd :: ds)))) none (enD cs.length (odd :: ds)) cs 0 none none h
  obtain ⟨e, he⟩ := rl_bad (x := some (.d (.tuple (cs.map clD ++ odd :: ds)))) ho ds cs.length a b
  refine ⟨e, nr_walk (by simp; omega) ?_ fun z => by cases z⟩
  rw [enD_app, List.length_map, Nat.zero_add, hr, he]
end Dn

set_option maxHeartbeats 4000000
namespace Dn
open PySem PySem.Spec PyProof.Rows L2 SX
section
variable {m : Ex} {r : Rx} {f : LR → Option PyData} {rf : List SD → W → Option (Xc × W)} {env e1 : Ev} {w : W} {x : Xc} {y z : PyData} {t u : SD} {i j : Nat}
theorem dataOnly_at (h : env[i]? = some (some t)) (ht : IsDat t) : (dataOnly env)[i]? = some (some t) := by
  unfold dataOnly
  rw [List.getElem?_map, h]
  cases t <;> first | rfl | exact ht.elim
theorem lam_x (hw : w.isSome = true) (h : r (dataOnly env) none = some (x, e1, none)) (hf : f (.inr x) = some y) : mLam m r f env w = some (.d y, env, w) := by
  have h1 : lamRes m r env = some (.inr x) := by
    unfold lamRes
    rw [h]
  unfold mLam
  rw [if_pos hw, h1]
  show (match f (.inr x) with
    | some y => some (SD.d y, env, w)
    | none => none) = _
  rw [hf]
theorem lam_d (hw : w.isSome = true) (h0 : r (dataOnly env) none = none) (h : m (dataOnly env) none = some (.d z, e1, none)) (hf : f (.inl z) = some y) : mLam m r f env w = some (.d y, env, w) := by
  have h1 : lamRes m r env = some (.inl z) := by
    unfold lamRes
    rw [h0]
    dsimp only
    rw [h]
  unfold mLam
  rw [if_pos hw, h1]
  show (match f (.inl z) with
    | some y => some (SD.d y, env, w)
    | none => none) = _
  rw [hf]
theorem lam1 (hw : w.isSome = true) (h : env[i]? = some (some t)) (ht : IsDat t) (hr : rf [t] none = some (x, none)) (hf : f (.inr x) = some y) : mLam m (rCall rf (mCons (mVar i) mNil)) f env w = some (.d y, env, w) :=
  lam_x hw (rcall_ok (args1 (var_dt (dataOnly_at h ht) ht)) hr) hf
theorem lam2 (hw : w.isSome = true) (h : env[i]? = some (some t)) (ht : IsDat t) (h2 : env[j]? = some (some u)) (hu : IsDat u) (hr : rf [t, u] none = some (x, none)) (hf : f (.inr x) = some y) : mLam m (rCall rf (mCons (mVar i) (mCons (mVar j) mNil))) f env w = some (.d y, env, w) :=
  lam_x hw (rcall_ok (args2 (var_dt (dataOnly_at h ht) ht) (var_dt (dataOnly_at h2 hu) hu)) hr) hf
theorem isx_ok {a : Addr} {d : Option Addr} {p : Option PyData} {b : Bool} (h : env[i]? = some (some (.ex a d p))) : mIsX a d p i b env w = some (.d (.bool b), env, w) := by
  unfold mIsX
  rw [if_pos h]
theorem plx_ok {a : Addr} {d : Option Addr} {p : PyData} (h : env[i]? = some (some (.ex a d (some p)))) : mPlX a d (some p) i env w = some (.d p, env, w) := by
  unfold mPlX
  rw [if_pos h]
end
end Dn

set_option maxHeartbeats 4000000
namespace Dn
open PySem PySem.Spec PyProof.Rows L2 SX
open TL (numL pre joinL)
theorem heard_val (d : PyData) : f__law_heard (.inl d) = some (.list [d]) := resOf3_of_l (env' := [none, some (.d .none), some (.d (.list [d])), none, none, none, none]) rfl
section
variable {C : Str} {p : Option PyData} {b1 b2 b3 b4 b5 : Bool} {n : Nat} {word : Str}
abbrev hE46 (a : Addr) (d : Option Addr) (p : Option PyData) (x4 x5 x6 : Option SD) : Ev := [none, some (.ex a d p), none, none, x4, x5, x6]
theorem heard_kinds (s1 : subX C "BadVersion" = b1) (s2 : subX C "BadQuestion" = b2) (s3 : subX C "BadText" = b3) (s4 : subX C "BadRequirement" = b4) (s5 : subX C "BadReleases" = b5)
    (hc : ∀ e : Ev, e[4]? = some (some (.d (.list [.bool b1, .bool b2, .bool b3, .bool b4, .bool b5, .bool false]))) → mCntB true (mVar 4) e none = some (.d (.int 1), e, none))
    (hi : ∀ e : Ev, e[4]? = some (some (.d (.list [.bool b1, .bool b2, .bool b3, .bool b4, .bool b5, .bool false]))) → mIdxB true (mVar 4) e none = some (.d (.int (n : Nat)), e, none)) (a : Addr) (d : Option Addr) {r : SD} (hk : ∃ e, (mSeq (mIf (mTru (mOp ltD (mVar 6) (mC (.int 2)))) (mRet (mOp ixD (mVar 5) (mVar 6))) mNx)
 (mRet (mTup (mCons (mOp ixD (mVar 5) (mVar 6)) (mCons (mIf (mTru (mOp eqD (mVar 6) (mC (.int 5)))) mStop (mPlX a d p 1)) mNil))))) (hE46 a d p (some (.d (.list [.bool b1, .bool b2, .bool b3, .bool b4, .bool b5, .bool false]))) (some (.d (.list [.str "version", .str "question", .str "text", .str "requirement", .str "releases", .str "missing"]))) (some (.d (.int (n : Nat))))) none = some (.rt r, e, none)) : ∃ e, mX__law_heard a d ⟨C, p⟩ (hE46 a d p none none none) none = some (.rt r, e, none) := by
  unfold mX__law_heard
  dsimp only
  rw [s1, s2, s3, s4, s5]
  have i1 : ∀ (b : Bool) (x4 x5 x6 : Option SD), mIsX a d p 1 b (hE46 a d p x4 x5 x6) none = some (.d (.bool b), hE46 a d p x4 x5 x6, none) := fun b x4 x5 x6 => isx_ok rfl
  refine ex_skip (trus rfl) ?_
  refine ex_set (r := .d (.list [.bool b1, .bool b2, .bool b3])) (lst_ok (ds := [.bool b1, .bool b2, .bool b3]) (cons_ok (i1 _ _ _ _) (cons_ok (i1 _ _ _ _) (cons_ok (i1 _ _ _ _) nil_ok))) rfl (by simp)) ?_
  refine ex_set (r := .d (.list [.bool b1, .bool b2, .bool b3, .bool b4, .bool b5, .bool false])) (ops (vars rfl) (lst_ok (ds := [.bool b4, .bool b5, .bool false]) (cons_ok (i1 _ _ _ _) (cons_ok (i1 _ _ _ _) (cons_ok (i1 _ _ _ _) nil_ok))) rfl (by simp)) (addD_L (by simp))) ?_
  refine ex_set (r := .d (.list [.str "version", .str "question", .str "text", .str "requirement", .str "releases", .str "missing"])) (lst_ok (ds := [.str "version", .str "question", .str "text", .str "requirement", .str "releases", .str "missing"]) (cons_ok cst (cons_ok cst (cons_ok cst (cons_ok cst (cons_ok cst (cons_ok cst nil_ok)))))) rfl (by simp)) ?_
  refine ex_skip (trus (b := false) (ops (hc _ rfl) cst rfl)) ?_
  exact ex_set (hi _ rfl) hk
end
theorem heard_q : f__law_heard (.inr ⟨"BadQuestion", none⟩) = some (.str "question") :=
  resOf3_of_r (by kernel_rfl) fun a d _ => heard_kinds (n := 1) (b1 := false) (b2 := true) (b3 := false) (b4 := false) (b5 := false) (by decide) (by decide) (by decide) (by decide) (by decide) (fun e h => by simp only [mCntB, seqE_of (vars h)]; rfl) (fun e h => by simp only [mIdxB, seqE_of (vars h)]; rfl) a d (ex_hit (trus (ops (vars rfl) cst rfl)) (ops (vars rfl) (vars rfl) rfl))
theorem heard_v : f__law_heard (.inr ⟨"BadVersion", none⟩) = some (.str "version") :=
  resOf3_of_r (by kernel_rfl) fun a d _ => heard_kinds (n := 0) (b1 := true) (b2 := false) (b3 := false) (b4 := false) (b5 := false) (by decide) (by decide) (by decide) (by decide) (by decide) (fun e h => by simp only [mCntB, seqE_of (vars h)]; rfl) (fun e h => by simp only [mIdxB, seqE_of (vars h)]; rfl) a d (ex_hit (trus (ops (vars rfl) cst rfl)) (ops (vars rfl) (vars rfl) rfl))
theorem heard_req (P : PyData) : f__law_heard (.inr ⟨"BadRequirement", some P⟩) = some (.tuple [.str "requirement", P]) :=
  resOf3_of_r (by kernel_rfl) fun a d _ => heard_kinds (n := 3) (b1 := false) (b2 := false) (b3 := false) (b4 := true) (b5 := false) (by decide) (by decide) (by decide) (by decide) (by decide) (fun e h => by simp only [mCntB, seqE_of (vars h)]; rfl) (fun e h => by simp only [mIdxB, seqE_of (vars h)]; rfl) a d (ex_skip (trus (ops (vars rfl) cst rfl)) (ex_ret (tup2s (ops (vars rfl) (vars rfl) rfl) ((if_f (trus (ops (vars rfl) cst rfl))).trans (plx_ok rfl)))))
theorem isl46 {m : Ex} {t : SD} {d : PyData} {f : PyData → Bool} {env : Ev} {w : W} {b : Bool} (h : m env w = some (t, env, w)) (hs : sdOf t = some d) (hd : f d = b) : mIsL f m env w = some (.d (.bool b), env, w) := by
  unfold mIsL seqL
  rw [h]
  dsimp only
  rw [hs]
  dsimp only
  rw [hd]
theorem lenl46 {m : Ex} {t : SD} {xs : List PyData} {env : Ev} {w : W} (h : m env w = some (t, env, w)) (hs : sdOf t = some (.tuple xs)) : mLenL m env w = some (.d (.int (xs.length : Nat)), env, w) := by
  unfold mLenL seqL
  rw [h]
  dsimp only
  rw [hs]
theorem isDat_of {t : SD} {d : PyData} (hs : sdOf t = some d) : IsDat t := by
  cases t with
  | d x => trivial
  | l x => trivial
  | _ => cases hs
theorem nrows_q {t : SD} {d : PyData} (hs : sdOf t = some d) (h : isTup d = false ∨ ∃ xs, d = .tuple xs ∧ 12 < xs.length) : r_need_rows [t] none = some (⟨"BadQuestion", none⟩, none) := by
  refine rfn_ex rfl ?_
  unfold rb_need_rows
  have hv : mVar 0 [some t, none] none = some (t, [some t, none], none) := var_dt rfl (isDat_of hs)
  refine ⟨_, rseq_l ((rif_t (e1 := [some t, none]) (w1 := none) ?_).trans rfl)⟩
  rcases h with h | ⟨xs, rfl, hl⟩
  · exact ors (p := true) (q := true) (nots (b := false) (trus (isl46 hv hs h))) fun q => absurd q (by simp)
  · exact ors (p := false) (q := true) (nots (b := true) (trus (isl46 hv hs rfl))) fun _ => trus (ops (lenl46 hv hs) cst (by rw [gtI_int, decide_eq_true (by omega)]))
/-- a good requirement, as data -/
structure G46 (x : PyData) : Prop where
  zk : mkZ x = .d x
  no : r_need_requirement [.d x] none = none
  need : ∀ w, m_need_requirement [.d x] w = some (.d x, w)
theorem head46 {t : SD} {xs : List PyData} (hs : sdOf t = some (.tuple xs)) (hl : xs.length ≤ 12) : (mOr (mNot (mTru (mIsL isTup (mVar 0)))) (mTru (mOp gtI (mLenL (mVar 0)) (mC (.int 12))))) [some t, none] none = some (false, [some t, none], none) := by
  have hv : mVar 0 [some t, none] none = some (t, [some t, none], none) := var_dt rfl (isDat_of hs)
  exact ors (p := false) (q := false) (nots (b := true) (trus (isl46 hv hs rfl))) fun _ => trus (ops (lenl46 hv hs) cst (by rw [gtI_int, decide_eq_false (by omega)]))
theorem itl46 {m : Ex} {t : SD} {xs : List PyData} {env : Ev} {w : W} (h : m env w = some (t, env, w)) (hs : sdOf t = some (.tuple xs)) : mItemsL m env w = some (xs, env, w) := by
  unfold mItemsL seqL
  rw [h]
  dsimp only
  rw [hs]
  rfl
theorem goods46 {t : Option SD} (tl : List PyData) : ∀ (xs : List PyData) (y : Option SD), (∀ x ∈ xs, G46 x) → ∃ y', rLoop (mgNameL 1) rbF2_need_rows (rCall r_need_requirement (mCons (mVar 1) mNil)) (xs ++ tl) [t, y] none = rLoop (mgNameL 1) rbF2_need_rows (rCall r_need_requirement (mCons (mVar 1) mNil)) tl [t, y'] none
  | [], y, _ => ⟨y, rfl⟩
  | x :: xs, y, h => by
    obtain ⟨y', ih⟩ := goods46 (t := t) tl xs (some (.d x)) fun q hq => h q (by simp [hq])
    have g := h x (by simp)
    refine ⟨y', (rl_go (e1 := [t, some (.d x)]) (e2 := [t, some (.d x)]) (w2 := none) ?_ (rcall_no (args1 (var_d rfl)) g.no) (drop_ok (call1s (var_d rfl) (g.need none)))).trans ih⟩
    show some ([t, some (mkZ x)]) = _
    rw [g.zk]
theorem mgoods46 {t : Option SD} (w : W) : ∀ (xs : List PyData) (y : Option SD), (∀ x ∈ xs, G46 x) → ∃ y', mLoop (mgNameL 1) rbF1_need_rows xs [t, y] w = some (.nx, [t, y'], w)
  | [], y, _ => ⟨y, rfl⟩
  | x :: xs, y, h => by
    obtain ⟨y', ih⟩ := mgoods46 (t := t) w xs (some (.d x)) fun q hq => h q (by simp [hq])
    have g := h x (by simp)
    refine ⟨y', (loop_go (e1 := [t, some (.d x)]) (e2 := [t, some (.d x)]) (w2 := w) ?_ (drop_ok (call1s (var_d rfl) (g.need w)))).trans ih⟩
    show some ([t, some (mkZ x)]) = _
    rw [g.zk]
theorem nrows_at {t : SD} {xs zs : List PyData} {bad : PyData} {x : Xc} (hs : sdOf t = some (.tuple (xs ++ bad :: zs))) (hl : xs.length + zs.length ≤ 11) (hg : ∀ x ∈ xs, G46 x) (hb : r_need_requirement [mkZ bad] none = some (x, none)) : r_need_rows [t] none = some (x, none) := by
  refine rfn_ex rfl ?_
  unfold rb_need_rows
  have hv : mVar 0 [some t, none] none = some (t, [some t, none], none) := var_dt rfl (isDat_of hs)
  have hh := head46 hs (by rw [List.length_append, List.length_cons]; omega)
  obtain ⟨y', q⟩ := goods46 (t := some t) (bad :: zs) xs none hg
  refine ⟨_, rseq_r (e1 := [some t, none]) (w1 := none) ((rif_f hh).trans rfl) ((if_f hh).trans rfl) (rseq_l (y := (x, [some t, some (mkZ bad)], none)) ?_)⟩
  unfold rFor
  rw [itl46 hv hs]
  dsimp only
  rw [q]
  exact rl_hit (e1 := [some t, some (mkZ bad)]) rfl (rcall_ok (args1 (var_dt rfl (isDat_mk bad))) hb)
theorem nrows_no {xs : List PyData} (hl : xs.length ≤ 12) (hg : ∀ x ∈ xs, G46 x) : r_need_rows [.d (.tuple xs)] none = none := by
  refine rfn_no rfl ?_
  unfold rb_need_rows
  have hs : sdOf (.d (.tuple xs)) = some (.tuple xs) := rfl
  have hv : mVar 0 [some (.d (.tuple xs)), none] none = some (.d (.tuple xs), [some (.d (.tuple xs)), none], none) := rfl
  have hh := head46 hs hl
  obtain ⟨y', q⟩ := goods46 (t := some (.d (.tuple xs))) [] xs none hg
  rw [List.append_nil] at q
  obtain ⟨z', q2⟩ := mgoods46 (t := some (.d (.tuple xs))) none xs none hg
  refine rseq_r (e1 := [some (.d (.tuple xs)), none]) (w1 := none) ((rif_f hh).trans rfl) ((if_f hh).trans rfl) (rseq_r (e1 := [some (.d (.tuple xs)), z']) (w1 := none) ?_ ((for_ok (itl46 hv hs)).trans q2) rfl)
  unfold rFor
  rw [itl46 hv hs]
  exact q
theorem run_nrows {xs : List PyData} (hl : xs.length ≤ 12) (hg : ∀ x ∈ xs, G46 x) (w : W) : m_need_rows [.d (.tuple xs)] w = some (.d (.tuple xs), w) := by
  refine fn_ex rfl ?_
  unfold b_need_rows
  have hlen : lenD [.tuple xs] = some (.int ((xs.length : Nat) : Int)) := rfl
  refine ex_skip (ors (p := false) (q := false) (nots (b := true) (trus (b := true) rfl)) fun _ => trus (ops (b1s (vars rfl) hlen) cst (by rw [gtI_int, decide_eq_false (by omega)]))) ?_
  have key : ∀ (ys : List PyData) (y : Option SD), (∀ x ∈ ys, G46 x) → ∃ y', mLoop (mgName 1) bF1_need_rows ys [some (.d (.tuple xs)), y] w = some (.nx, [some (.d (.tuple xs)), y'], w) := by
    intro ys
    induction ys with
    | nil => exact fun y _ => ⟨y, rfl⟩
    | cons z ys ih =>
      intro y h
      obtain ⟨y', q⟩ := ih (some (.d z)) fun q hq => h q (by simp [hq])
      exact ⟨y', (loop_go (e1 := [some (.d (.tuple xs)), some (.d z)]) (e2 := [some (.d (.tuple xs)), some (.d z)]) (w2 := w) rfl (drop_ok (call1s (var_d rfl) ((h z (by simp)).need w)))).trans q⟩
  obtain ⟨y', q⟩ := key xs none hg
  exact ex_for (items_s (vars rfl) rfl) q (ex_ret (vars rfl))
section
variable {t : SD} {x : Xc} {xs : List PyData}
theorem bad_open (ht : IsDat t) (hb : r_need_rows [t] none = some (x, none)) : r_is_open [t] none = some (x, none) := by
  refine rfn_ex rfl ?_
  unfold rb_is_open
  exact ⟨_, rthen_l (rthen_l (rthen_l (rcall_ok (args1 (var_dt rfl ht)) hb)))⟩
theorem bad_core (ht : IsDat t) (hb : r_need_rows [t] none = some (x, none)) : r_core [t] none = some (x, none) := by
  refine rfn_ex rfl ?_
  unfold rb_core
  exact ⟨_, rseq_l (rthen_l (rcall_ok (args1 (var_dt rfl ht)) hb))⟩
theorem bad_bars (u : SD) (ht : IsDat t) (hb : r_need_rows [t] none = some (x, none)) : r_bars [t, u] none = some (x, none) := by
  refine rfn_ex rfl ?_
  unfold rb_bars
  exact ⟨_, rseq_l (rcall_ok (args1 (var_dt rfl ht)) hb)⟩
theorem bad_barsv {u : SD} (hl : xs.length ≤ 12) (hg : ∀ x ∈ xs, G46 x) (hu : IsDat u) (hb : r_need_version [u] none = some (x, none)) : r_bars [.d (.tuple xs), u] none = some (x, none) := by
  refine rfn_ex rfl ?_
  unfold rb_bars
  exact ⟨_, rseq_r (rcall_no (args1 (var_d rfl)) (nrows_no hl hg)) (drop_ok (call1s (var_d rfl) (run_nrows hl hg none))) (rseq_l (rthen_l (rcall_ok (args1 (var_dt rfl hu)) hb)))⟩
end
end Dn

set_option maxHeartbeats 4000000
namespace Dn
open PySem PySem.Spec PyProof.Rows L2 SX
open TL (numL pre joinL)
/-- the rows stay short -/
def lenOk : List Sp1 → List Cl → Bool
  | _, [] => true
  | r, c :: cs => decide (r.length ≤ 1000) && lenOk (meetK r (clK c)) cs
theorem loop_spL {x : Option SD} (w : W) : ∀ (cs : List Cl) (r : List Sp1) (y : Option SD), (∀ c ∈ cs, c.Wf) → lenOk r cs = true → ∃ y',
    mLoop (mgName 2) bF1_spans_of (cs.map clD) [x, some (.d (rowD r)), y] w = some (.nx, [x, some (.d (rowD (cs.foldl (fun r c => meetK r (clK c)) r))), y'], w)
  | [], r, y, _, _ => ⟨y, rfl⟩
  | c :: cs, r, y, h, hl => by
    rw [lenOk, Bool.and_eq_true, decide_eq_true_iff] at hl
    have h1 := run_clspans (h c (by simp)) w
    have hlen := clK_len c
    have hrc : r.length * (clK c).length ≤ r.length * 2 := Nat.mul_le_mul_left _ hlen
    have h2 := run_meet r (clK c) (by omega) (by omega) w
    obtain ⟨y', ih⟩ := loop_spL (x := x) w cs (meetK r (clK c)) (some (.d (clD c))) (fun q hq => h q (by simp [hq])) hl.2
    refine ⟨y', ?_⟩
    rw [List.map_cons]
    refine (loop_go (e1 := [x, some (.d (rowD r)), some (.d (clD c))]) (e2 := [x, some (.d (rowD (meetK r (clK c)))), some (.d (clD c))]) (w2 := w) rfl ?_).trans ih
    unfold bF1_spans_of
    exact set_ok (call2s (vars rfl) (call1s (vars rfl) h1) h2)
theorem run_spL {cs : List Cl} (h : ∀ c ∈ cs, c.Wf) (hl : lenOk [(leastK, none)] cs = true) (w : W) : m_spans_of [.d (rqD cs)] w = some (.d (rowD (spansK cs)), w) := by
  refine fn_ex rfl ?_
  unfold b_spans_of
  rw [leastD]
  obtain ⟨y', hL⟩ := loop_spL (x := some (.d (rqD cs))) w cs [(leastK, none)] none h hl
  have e0 : PyData.list [.tuple [kyD leastK, .none]] = rowD [(leastK, none)] := rfl
  refine ex_nx (e1 := [some (.d (rqD cs)), some (.d (rowD [(leastK, none)])), none]) (w1 := w) (by rw [← e0]; generalize kyD leastK = L; push_cast) ?_
  refine ex_nx ((for_ok (items_rq 0 _ rfl)).trans hL) ?_
  exact ⟨_, ret_ok (var_d rfl)⟩
theorem extT46 {env : Ev} {w : W} {i : Nat} {xs ys : List PyData} {m : Ex} (h0 : env[i]? = some (some (.own xs))) (h : m env w = some (.d (.tuple ys), env, w)) (hl : xs.length + ys.length ≤ 1000000) : mExtendT i m env w = some (.nx, env.set i (some (.own (xs ++ ys))), w) := by
  unfold mExtendT
  rw [h0]
  try dsimp only
  rw [seqE_of h]
  try dsimp only
  rw [h0]
  try dsimp only
  rw [if_pos (by rw [sizeLine_eq]; omega)]
theorem loop_join {x : Option SD} (w : W) : ∀ (css : List (List Cl)) (acc : List PyData) (y : Option SD), acc.length + (css.flatten).length ≤ 100000 → ∃ y', mLoop (mgName 2) bF1_joined (css.map rqD) [x, some (.own acc), y] w = some (.nx, [x, some (.own (acc ++ (css.flatten).map clD)), y'], w)
  | [], acc, y, _ => ⟨y, by rw [show (([] : List (List Cl)).flatten.map clD) = [] from rfl, List.append_nil]; rfl⟩
  | cs :: css, acc, y, hl => by
    rw [List.flatten_cons, List.length_append] at hl
    obtain ⟨y', ih⟩ := loop_join (x := x) w css (acc ++ cs.map clD) (some (.d (rqD cs))) (by rw [List.length_append, List.length_map]; omega)
    refine ⟨y', (loop_go (e1 := [x, some (.own acc), some (.d (rqD cs))]) (e2 := [x, some (.own (acc ++ cs.map clD)), some (.d (rqD cs))]) (w2 := w) rfl ?_).trans (ih.trans ?_)⟩
    · unfold bF1_joined
      exact extT46 (ys := cs.map clD) rfl rfl (by rw [List.length_map]; omega)
    · rw [List.flatten_cons, List.map_append, List.append_assoc]
theorem run_join {T : PyData} {css : List (List Cl)} (hT : itemsD T = some (css.map rqD)) (hl : (css.flatten).length ≤ 90000) (w : W) : m_joined [.d T] w = some (.d (rqD css.flatten), w) := by
  refine fn_ex rfl ?_
  unfold b_joined
  refine ex_nx (e1 := [some (.d T), some (.own []), none]) (w1 := w) rfl ?_
  obtain ⟨y', q⟩ := loop_join (x := some (.d T)) w css [] none (by rw [List.length_nil, Nat.zero_add]; omega)
  rw [List.nil_append] at q
  refine ex_for (items_s (vars rfl) hT) q ?_
  exact ⟨_, rfl⟩
def rowsD (css : List (List Cl)) : PyData := .tuple (css.map rqD)
/-- what is asked of rows -/
structure Rw46 (css : List (List Cl)) : Prop where
  wf : ∀ cs ∈ css, ∀ c ∈ cs, c.Wf
  len : css.length ≤ 12
  each : ∀ cs ∈ css, cs.length ≤ 12
  ok : lenOk [(leastK, none)] css.flatten = true
  zk : ∀ cs ∈ css, mkZ (rqD cs) = .d (rqD cs)
theorem Rw46.g {css : List (List Cl)} (R : Rw46 css) : ∀ x ∈ css.map rqD, G46 x := fun x hx => by
  obtain ⟨cs, hc, rfl⟩ := List.mem_map.mp hx
  exact ⟨R.zk cs hc, need_no (R.wf cs hc) (R.each cs hc), run_needreq (R.wf cs hc) (R.each cs hc)⟩
theorem flat_len {css : List (List Cl)} : ∀ {B : Nat}, (∀ cs ∈ css, cs.length ≤ B) → (css.flatten).length ≤ css.length * B := by
  induction css with
  | nil => intro B _; simp
  | cons cs css ih =>
    intro B h
    have h1 := h cs (by simp)
    have h2 := ih (B := B) fun q hq => h q (by simp [hq])
    rw [List.flatten_cons, List.length_append, List.length_cons, Nat.succ_mul]
    omega
theorem Rw46.flat {css : List (List Cl)} (R : Rw46 css) : (css.flatten).length ≤ 144 := by
  have h1 := flat_len R.each
  have h2 := R.len
  have : css.length * 12 ≤ 12 * 12 := Nat.mul_le_mul_right _ h2
  omega
theorem Rw46.fwf {css : List (List Cl)} (R : Rw46 css) : ∀ c ∈ css.flatten, c.Wf := fun c hc => by
  obtain ⟨cs, h1, h2⟩ := List.mem_flatten.mp hc
  exact R.wf cs h1 c h2
theorem ne_row46 (r : List Sp1) : neD (rowD r) (.list []) = some (.bool (!r.isEmpty)) := by
  have := ne_nilL (r.map spD)
  rw [List.isEmpty_map] at this
  exact this
theorem run_open {css : List (List Cl)} (R : Rw46 css) (w : W) : m_is_open [.d (rowsD css)] w = some (.d (.bool (!(spansK css.flatten).isEmpty)), w) := by
  refine fn_ex rfl ?_
  unfold b_is_open
  have h1 := run_nrows (by rw [List.length_map]; exact R.len) R.g w
  have h2 := run_join (T := rowsD css) rfl (by have := R.flat; omega) w
  have h3 := run_spL R.fwf R.ok w
  exact ex_ret (ops (call1s (call1s (call1s (vars rfl) h1) h2) h3) rfl (ne_row46 _))
theorem core_none {css : List (List Cl)} (R : Rw46 css) (h : (spansK css.flatten).isEmpty = false) (w : W) : m_core [.d (rowsD css)] w = some (.d .none, w) := by
  have h1 := run_nrows (by rw [List.length_map]; exact R.len) R.g w
  have h2 := run_join (T := rowsD css) rfl (by have := R.flat; omega) w
  have h3 := run_spL R.fwf R.ok w
  have h4 : m_core_of [.d (rowsD css)] w = some (.d .none, w) := by
    refine fn_ex rfl ?_
    unfold b_core_of
    exact ex_hit (trus (ops (call1s (call1s (vars rfl) h2) h3) rfl ((ne_row46 _).trans (by rw [h]; rfl)))) rfl
  refine fn_ex rfl ?_
  unfold b_core
  refine ex_set (call1s (call1s (vars rfl) h1) h4) ?_
  exact ⟨_, ret_ok ((if_t (e1 := [some (.d (rowsD css)), some (.d .none)]) (w1 := w) (trus (ops (vars rfl) cst rfl))).trans rfl)⟩
theorem ne_int46 (a b : Nat) : neD (.int (a : Int)) (.int (b : Int)) = some (.bool (!decide (a = b))) := by
  rw [neD_int]
  congr 3
  exact decide_eq_decide.mpr (by omega)
abbrev cE46 (css : List (List Cl)) (x2 x3 : Option SD) : Ev := [some (.d (rowsD css)), some (.d (.list ((List.range css.length).map fun i : Nat => PyData.int (i : Int)))), x2, x3, none]
/-- none of the rows can be left out -/
theorem core_all {css : List (List Cl)} (R : Rw46 css) (h : (spansK css.flatten).isEmpty = true) (hn : ∀ i < css.length, lenOk [(leastK, none)] (((List.range css.length).filter fun j => !decide (j = i)).filterMap fun j => css[j]?).flatten = true ∧ (spansK (((List.range css.length).filter fun j => !decide (j = i)).filterMap fun j => css[j]?).flatten).isEmpty = false) (w : W) :
    m_core [.d (rowsD css)] w = some (.d (.tuple ((List.range css.length).map fun i : Nat => PyData.int (i : Int))), w) := by
  have h1 := run_nrows (by rw [List.length_map]; exact R.len) R.g w
  have h2 := run_join (T := rowsD css) rfl (by have := R.flat; omega) w
  have h3 := run_spL R.fwf R.ok w
  have hlen : lenD [rowsD css] = some (.int ((css.length : Nat) : Int)) := by
    show some (PyData.int _) = _
    rw [List.length_map]
  have h4 : m_core_of [.d (rowsD css)] w = some (.d (.list ((List.range css.length).map fun i : Nat => PyData.int (i : Int))), w) := by
    refine fn_ex rfl ?_
    unfold b_core_of
    refine ex_skip (trus (ops (call1s (call1s (vars rfl) h2) h3) rfl ((ne_row46 _).trans (by rw [h]; rfl)))) ?_
    have rg : mFz (mLRng (mB lenD (mCons (mVar 0) mNil))) [some (.d (rowsD css)), none, none, none, none] w = some (.d (.list ((List.range css.length).map fun i : Nat => PyData.int (i : Int))), [some (.d (rowsD css)), none, none, none, none], w) := by
      unfold mFz mLRng
      rw [seqE_of (b1s (vars rfl) hlen)]
      dsimp only
      rw [if_pos ⟨by omega, by have := R.len; omega⟩]
      unfold upTo
      simp
    refine ex_set rg ?_
    have body : ∀ i < css.length, ∀ x2 x3 : Option SD, ∃ x3', bF3_core_of (cE46 css (some (.d (.int (i : Int)))) x3) w = some (.nx, cE46 css (some (.d (.int (i : Int)))) x3', w) := by
      intro i hi x2 x3
      obtain ⟨hn1, hn2⟩ := hn i hi
      unfold bF3_core_of
      have F := lcm_filt (mi := mItems (mVar 1)) (g := mgName 4) (tt := tC1_core_of) (me := mVar 4) (vs := [4]) (env := cE46 css (some (.d (.int (i : Int)))) x3) (w := w) (fun j : Nat => PyData.int (j : Int)) (fun j => !decide (j = i)) (fun j => .int (j : Int)) (List.range css.length) (items_s (vars rfl) rfl) rfl rfl fun j hj => by
        refine ⟨(cE46 css (some (.d (.int (i : Int)))) x3).set 4 (some (.d (.int (j : Int)))), _, rfl, trus (ops (vars rfl) (vars rfl) (ne_int46 j i)), fun _ => ⟨_, vars rfl, rfl⟩, fun _ => rfl⟩
      refine ⟨some (.d (.list (((List.range css.length).filter fun j => !decide (j = i)).map fun j : Nat => PyData.int (j : Int)))), (seq_nx (set_ok F)).trans ?_⟩
      have hin : ∀ j ∈ (List.range css.length).filter fun j => !decide (j = i), j < css.length := fun j hj => List.mem_range.mp (List.mem_filter.mp hj).1
      have hjl : ((List.range css.length).filter fun j => !decide (j = i)).length ≤ 12 := Nat.le_trans (List.length_filter_le _ _) (by rw [List.length_range]; exact R.len)
      generalize ((List.range css.length).filter fun j => !decide (j = i)) = js at hn1 hn2 hin hjl ⊢
      have M := lcm_map (mi := mItems (mVar 3)) (g := mgName 4) (me := eC2_core_of) (vs := [4]) (env := cE46 css (some (.d (.int (i : Int)))) (some (.d (.list (js.map fun j : Nat => PyData.int (j : Int)))))) (w := w) (fun j : Nat => PyData.int (j : Int)) (fun j => rqD (css.getD j [])) js (items_s (vars rfl) rfl) rfl rfl fun j hj => by
        have hlt := hin j hj
        have ix : ixD (rowsD css) (.int (j : Int)) = some (rqD (css.getD j [])) := by
          show atI _ (j : Int) = _
          rw [atI_nat, List.getElem?_map, List.getElem?_eq_getElem hlt, List.getD_eq_getElem?_getD, List.getElem?_eq_getElem hlt]
          rfl
        exact ⟨(cE46 css (some (.d (.int (i : Int)))) (some (.d (.list (js.map fun j : Nat => PyData.int (j : Int)))))).set 4 (some (.d (.int (j : Int)))), _, rfl, ops (vars rfl) (vars rfl) ix, rfl⟩
      have eqs : (js.filterMap fun j => css[j]?) = js.map fun j => css.getD j [] := by
        clear hn1 hn2 hjl M F
        induction js with
        | nil => rfl
        | cons j js ih =>
          have hlt := hin j (by simp)
          rw [List.filterMap_cons, List.getElem?_eq_getElem hlt, List.map_cons, ← ih fun q hq => hin q (by simp [hq]), List.getD_eq_getElem?_getD, List.getElem?_eq_getElem hlt]
          rfl
      rw [eqs] at hn1 hn2
      have sub : ∀ cs ∈ js.map fun j => css.getD j [], cs ∈ css := fun cs hcs => by
        obtain ⟨j, hj, rfl⟩ := List.mem_map.mp hcs
        have hlt := hin j hj
        rw [List.getD_eq_getElem?_getD, List.getElem?_eq_getElem hlt]
        exact List.getElem_mem _
      have hfl := flat_len (css := js.map fun j => css.getD j []) (B := 12) fun cs hcs => R.each cs (sub cs hcs)
      have hf : ((js.map fun j => css.getD j []).flatten).length ≤ 144 := by
        rw [List.length_map] at hfl
        have : js.length * 12 ≤ 12 * 12 := Nat.mul_le_mul_right _ hjl
        omega
      have J := run_join (T := .list (js.map fun j => rqD (css.getD j []))) (css := js.map fun j => css.getD j []) (by rw [List.map_map]; rfl) (by omega) w
      have SP := run_spL (cs := (js.map fun j => css.getD j []).flatten) (fun c hc => by
        obtain ⟨cs, q1, q2⟩ := List.mem_flatten.mp hc
        exact R.wf cs (sub cs q1) c q2) hn1 w
      have E : eqD (rowD (spansK (js.map fun j => css.getD j []).flatten)) (.list []) = some (.bool false) := by
        have := eq_nilL ((spansK (js.map fun j => css.getD j []).flatten).map spD)
        rw [List.isEmpty_map, hn2] at this
        exact this
      exact (if_f (trus (ops (call1s (call1s M J) SP) rfl E))).trans rfl
    have loop : ∀ (ds : List Nat), (∀ i ∈ ds, i < css.length) → ∀ x2 x3 : Option SD, ∃ x2' x3', mLoop (mgName 2) bF3_core_of (ds.map fun i : Nat => PyData.int (0 + (i : Int))) (cE46 css x2 x3) w = some (.nx, cE46 css x2' x3', w) := by
      intro ds
      induction ds with
      | nil => exact fun _ x2 x3 => ⟨x2, x3, rfl⟩
      | cons i ds ih =>
        intro hd x2 x3
        obtain ⟨x3', q⟩ := body i (hd i (by simp)) x2 x3
        obtain ⟨x2'', x3'', q2⟩ := ih (fun j hj => hd j (by simp [hj])) (some (.d (.int (i : Int)))) x3'
        refine ⟨x2'', x3'', ?_⟩
        rw [List.map_cons, Int.zero_add]
        exact (loop_go (e1 := cE46 css (some (.d (.int (i : Int)))) x3) rfl q).trans q2
    obtain ⟨x2', x3', q⟩ := loop (List.range css.length) (fun i hi => List.mem_range.mp hi) none none
    have rn : mRng rng1D (mCons (mB lenD (mCons (mVar 0) mNil)) mNil) (cE46 css none none) w = some ((List.range css.length).map fun i : Nat => PyData.int (0 + (i : Int)), cE46 css none none, w) := by
      have a : mCons (mB lenD (mCons (mVar 0) mNil)) mNil (cE46 css none none) w = some ([.d (.int ((css.length : Nat) : Int))], cE46 css none none, w) := cons_ok (b1s (vars rfl) hlen) nil_ok
      have r : rng1D [.int ((css.length : Nat) : Int)] = some ((List.range css.length).map fun (i : Nat) => PyData.int (0 + i)) := by
        unfold rng1D
        dsimp only
        rw [if_pos (by have := R.len; omega), Int.toNat_natCast]
      simp only [mRng, argsD, a, dsOf, Option.map_some, r]
    exact ex_for rn q (ex_ret (vars rfl))
  refine fn_ex rfl ?_
  unfold b_core
  refine ex_set (call1s (call1s (vars rfl) h1) h4) ?_
  exact ⟨_, ret_ok ((if_f (e1 := [some (.d (rowsD css)), some (.d (.list ((List.range css.length).map fun i : Nat => PyData.int (i : Int))))]) (w1 := w) (trus (ops (vars rfl) cst rfl))).trans rfl)⟩
end Dn

set_option maxHeartbeats 4000000
namespace Dn
open PySem PySem.Spec PyProof.Rows L2 SX
open TL (numL pre joinL)
/-- a text that is a number -/
def isN (l : List Nat) : Bool := decide (l ≠ [] ∧ (∀ c ∈ l, dig c = true) ∧ l.length ≤ 24 ∧ (l = [48] ∨ l.head? ≠ some 48))
theorem digits_all {l : List Nat} (h : ∀ c ∈ l, dig c = true) : NumText.AllDigits l := fun c hc => by
  have := h c hc
  simpa [dig] using this
theorem val_lt (l : List Nat) (h : NumText.AllDigits l) : NumText.digitsVal l < 10 ^ l.length := by
  refine snoc_ind (P := fun l => NumText.AllDigits l → NumText.digitsVal l < 10 ^ l.length) (fun _ => by decide) (fun xs x ih h => ?_) l h
  have h1 := ih fun c hc => h c (List.mem_append_left _ hc)
  have h2 := h x (by simp)
  rw [NumText.digitsVal_snoc, List.length_append, List.length_singleton, Nat.pow_succ]
  omega
theorem numL_of {l : List Nat} (h : isN l = true) : ∃ n, Sm n ∧ l = numL n := by
  obtain ⟨h1, h2, h3, h4⟩ := of_decide_eq_true h
  have hd := digits_all h2
  refine ⟨NumText.digitsVal l, Nat.lt_of_lt_of_le (val_lt l hd) (Nat.pow_le_pow_right (by decide) h3), ?_⟩
  obtain ⟨c, r, rfl⟩ : ∃ c r, l = c :: r := by
    cases l with
    | nil => exact absurd rfl h1
    | cons c r => exact ⟨c, r, rfl⟩
  have e := NumText.toDigits_digitsVal r.length (c :: r) rfl hd (by
    rcases h4 with e | e
    · cases e; exact .inl rfl
    · refine .inr ⟨c, r, rfl, ?_⟩
      have := hd c List.mem_cons_self
      have hc : c ≠ 48 := fun z => e (by rw [z]; rfl)
      omega)
  show c :: r = (Nat.toDigits 10 (NumText.digitsVal (c :: r))).map Char.toNat
  rw [e, List.map_map]
  refine (List.map_id _).symm.trans (List.map_congr_left fun x hx => ?_)
  have := hd x hx
  show x = (Char.ofNat x).toNat
  rw [Char.ofNat, dif_pos (by left; omega)]
  rfl
theorem numR_inv {r : List Nat} {n k : Nat} (h : numR r = some (n, k)) : Sm n ∧ r.take k = numL n := by
  unfold numR at h
  split at h
  · cases h
  · rename_i hc
    simp only [Option.some.injEq, Prod.mk.injEq] at h
    obtain ⟨rfl, rfl⟩ := h
    have hn : isN (r.takeWhile dig) = true := by
      refine decide_eq_true ⟨fun e => hc (.inl e), fun c hc => by simpa using (List.all_eq_true.mp (List.all_takeWhile (l := r) (p := dig))) c hc, ?_, ?_⟩
      · rcases Nat.lt_or_ge 24 (r.takeWhile dig).length with z | z
        · exact absurd (.inr (.inl z)) hc
        · exact z
      · rcases Classical.em (r.takeWhile dig = [48]) with z | z
        · exact .inl z
        · exact .inr fun e => hc (.inr (.inr ⟨e, z⟩))
    obtain ⟨n, h1, h2⟩ := numL_of hn
    rw [tw_take, h2, TL.numL_val]
    exact ⟨h1, rfl⟩
theorem numR_text {r : List Nat} {n k : Nat} (h : numR r = some (n, k)) : Sm n ∧ k = (numL n).length ∧ r = numL n ++ r.drop k := by
  obtain ⟨h1, h2⟩ := numR_inv h
  obtain ⟨b1, b2⟩ := numR_bound h
  refine ⟨h1, ?_, ?_⟩
  · rw [← h2, List.length_take]; omega
  · rw [← h2, List.take_append_drop]
theorem numsR_inv : ∀ {f : Nat} {r ns : List Nat} {j : Nat}, numsR f r = some (ns, j) → ns ≠ [] ∧ (∀ n ∈ ns, Sm n) ∧ r = nsS ns ++ r.drop j
  | 0, _, _, _, h => by cases h
  | f + 1, r, ns, j, h => by
    unfold numsR at h
    split at h
    · cases h
    · rename_i n k hn
      obtain ⟨h1, h2, h3⟩ := numR_text hn
      split at h
      · rename_i hx
        split at h
        · rename_i ms i hm
          cases h
          obtain ⟨a1, a2, a3⟩ := numsR_inv hm
          refine ⟨by simp, fun m hm => ?_, ?_⟩
          · rcases List.mem_cons.mp hm with rfl | hm
            · exact h1
            · exact a2 m hm
          · obtain ⟨m, ms, rfl⟩ : ∃ m m', ms = m :: m' := by
              cases ms with
              | nil => exact absurd rfl a1
              | cons m m' => exact ⟨m, m', rfl⟩
            have hdot : r.drop k = 46 :: r.drop (k + 1) := by
              cases hq : r.drop k with
              | nil => rw [hq] at hx; cases hx
              | cons c q =>
                have hc : c = 46 := by
                  rw [hq] at hx
                  unfold nxt at hx
                  split at hx
                  · rename_i e; exact (List.cons.inj e).1
                  · cases hx
                rw [hc, ← List.drop_drop, hq]; rfl
            rw [nsS_cons, List.append_assoc, List.cons_append, show r.drop (k + 1 + i) = (r.drop (k + 1)).drop i from (List.drop_drop ..).symm, ← a3, ← hdot]
            exact h3
        · cases h
      · cases h
        exact ⟨by simp, by simpa using h1, by rw [nsS_one]; exact h3⟩
theorem pre_inv {x r : List Nat} (h : pre x r = true) : r = x ++ r.drop x.length := by
  have e : r.take x.length = x := eq_of_beq h
  conv => lhs; rw [← List.take_append_drop x.length r, e]
theorem wordR_inv : ∀ {xs : List (List Nat)} {r : List Nat} {o : Option (List Nat × Nat)} {k : Nat}, wordR xs r = some (o, k) → (∀ x n, o = some (x, n) → x ∈ xs ∧ Sm n) ∧ r = foS o ++ r.drop k
  | [], r, o, k, h => by cases h; exact ⟨nofun, rfl⟩
  | x :: xs, r, o, k, h => by
    unfold wordR at h
    split at h
    · rename_i hp
      split at h
      · cases h
      · rename_i n i hn
        cases h
        obtain ⟨h1, _, h3⟩ := numR_text hn
        refine ⟨fun y m e => by cases e; exact ⟨List.mem_cons_self, h1⟩, ?_⟩
        show r = (x ++ numL n) ++ _
        rw [List.append_assoc, ← List.drop_drop, ← h3]
        exact pre_inv hp
    · obtain ⟨h1, h2⟩ := wordR_inv h
      exact ⟨fun y m e => ⟨List.mem_cons_of_mem _ (h1 y m e).1, (h1 y m e).2⟩, h2⟩
theorem tailR_inv {r : List Nat} {fo : Option (List Nat × Nat)} {po dv : Option Nat} (h : tailR r = some (fo, po, dv)) : (∀ x n, fo = some (x, n) → x ∈ WS ∧ Sm n) ∧ (∀ n, po = some n → Sm n) ∧ (∀ n, dv = some n → Sm n) ∧ r = foS fo ++ (poS po ++ dvS dv) := by
  unfold tailR at h
  split at h
  · cases h
  rename_i f k1 e1
  split at h
  · cases h
  rename_i p k2 e2
  split at h
  · cases h
  rename_i d k3 e3
  split at h
  · rename_i hl
    cases h
    obtain ⟨a1, a2⟩ := wordR_inv e1
    obtain ⟨b1, b2⟩ := wordR_inv e2
    obtain ⟨c1, c2⟩ := wordR_inv e3
    have ps : foS p = poS (p.map Prod.snd) := by
      cases p with
      | none => rfl
      | some q =>
        obtain ⟨x, n⟩ := q
        obtain rfl := List.mem_singleton.mp (b1 x n rfl).1
        rfl
    have ds : foS d = dvS (d.map Prod.snd) := by
      cases d with
      | none => rfl
      | some q =>
        obtain ⟨x, n⟩ := q
        obtain rfl := List.mem_singleton.mp (c1 x n rfl).1
        rfl
    refine ⟨a1, fun n e => ?_, fun n e => ?_, ?_⟩
    · obtain ⟨⟨x, m⟩, q, rfl⟩ := Option.map_eq_some_iff.mp e
      exact (b1 x m q).2
    · obtain ⟨⟨x, m⟩, q, rfl⟩ := Option.map_eq_some_iff.mp e
      exact (c1 x m q).2
    · rw [← ps, ← ds]
      have z : (r.drop (k1 + k2)).drop k3 = [] := by rw [List.drop_drop]; exact List.drop_eq_nil_of_le (by omega)
      rw [z, List.append_nil] at c2
      rw [List.drop_drop, c2] at b2
      rw [← b2]
      exact a2
  · cases h
theorem restR_inv {e : Nat} (he : Sm e) {r : List Nat} {p : Pt} (h : restR e r = some p) : p.Wf ∧ p.ep = e ∧ r = nsS p.ns ++ (foS p.fo ++ (poS p.po ++ dvS p.dv)) := by
  unfold restR at h
  split at h
  · cases h
  rename_i ns j e1
  split at h
  · rename_i hl
    split at h
    · cases h
    · rename_i f q d e2
      cases h
      obtain ⟨a1, a2, a3⟩ := numsR_inv e1
      obtain ⟨b1, b2, b3, b4⟩ := tailR_inv e2
      exact ⟨⟨a1, hl, a2, he, b1, b2, b3⟩, rfl, by rw [← b4]; exact a3⟩
  · cases h
/-- what is let by is a text of its parts -/
theorem parts_inv {l : List Nat} {p : Pt} (h : partsR l = some p) : p.Wf ∧ ∃ b, l = prB b p := by
  unfold partsR at h
  split at h
  · split at h
    · cases h
    · rename_i n k hn
      split at h
      · rename_i hb
        obtain ⟨h1, h2, h3⟩ := numR_text hn
        obtain ⟨a1, a2, a3⟩ := restR_inv h1 h
        refine ⟨a1, true, ?_⟩
        have e : epS true p.ep = numL n ++ [33] := by rw [a2]; simp [epS]
        rw [prB, e, ← a3, List.append_assoc]
        have e2 : l.drop k = 33 :: l.drop (k + 1) := by
          have lt := (List.getElem?_eq_some_iff.mp hb).1
          rw [List.drop_eq_getElem_cons lt, (List.getElem?_eq_some_iff.mp hb).2]
        rw [List.singleton_append, ← e2]
        exact h3
      · cases h
  · obtain ⟨a1, a2, a3⟩ := restR_inv (show Sm 0 by unfold Sm; omega) h
    refine ⟨a1, false, ?_⟩
    rw [prB, a2, ← a3]
    rfl
end Dn

set_option maxHeartbeats 4000000
namespace Dn
open PySem PySem.Spec PyProof.Rows L2 SX
open TL (numL pre joinL)
end Dn

set_option maxHeartbeats 4000000
namespace Dn
open PySem PySem.Spec PyProof.Rows L2
noncomputable section
end
end Dn

set_option maxHeartbeats 4000000
namespace Dn
open PySem PySem.Spec PyProof.Rows L2 SX
open TL (numL pre joinL)
section
variable {t e m n u v : Option SD} {w : W}
end
end Dn

set_option maxHeartbeats 4000000
namespace Dn
open PySem PySem.Spec PyProof.Rows L2 SX
open TL (numL pre joinL)
section
variable {t e m n u v : Option SD} {w : W}
end
end Dn

set_option maxHeartbeats 4000000
namespace Dn
open PySem PySem.Spec PyProof.Rows L2 SX
open TL (numL pre joinL)
end Dn

set_option maxHeartbeats 4000000
namespace Dn
open PySem PySem.Spec PyProof.Rows L2 SX
open TL (numL pre joinL)
section
variable {l : List Nat}
theorem nk_good (hl : Sh l) {p : Pt} (h : partsR l = some p) : r_need_key [.d (.str (S l))] none = none := by
  have hp := run_parts hl none
  rw [h] at hp
  have c : mTru (mOp isD (mVar 1) (mC .none)) [some (.d (.str (S l))), some (.d (ptD p))] none = some (false, [some (.d (.str (S l))), some (.d (ptD p))], none) := trus (ops (vars rfl) cst rfl)
  refine rfn_no rfl (rseq_r (e1 := [some (.d (.str (S l))), some (.d (ptD p))]) (w1 := none) rfl (set_ok (call1s (vars rfl) hp)) (rseq_r (e1 := [some (.d (.str (S l))), some (.d (ptD p))]) (w1 := none) ?_ ?_ rfl))
  · exact (rif_f c).trans rfl
  · exact (if_f c).trans rfl
theorem nv_good (hl : Sh l) {p : Pt} (h : partsR l = some p) : r_need_version [.d (.str (S l))] none = none := by
  have hw := (parts_inv h).1
  exact rfn_no rfl (rseq_r (e1 := [some (.d (.str (S l)))]) (w1 := none) (rcall_no (args1 rfl) (nk_good hl h)) (drop_ok (call1s (vars rfl) (run_need hl hw h none))) rfl)
section
variable {p : Pt} (hl : Sh l) (h : partsR l = some p)
include hl h
end
end
end Dn

set_option maxHeartbeats 4000000
namespace Dn
open PySem PySem.Spec PyProof.Rows L2 SX
open TL (numL pre joinL)
theorem zk_rq (cs : List Cl) : mkZ (rqD cs) = .d (rqD cs) := by
  have h : nodD (rqD cs) = true := by
    show nodA (cs.map clD) = true
    induction cs with
    | nil => rfl
    | cons c cs ih =>
      rw [List.map_cons]
      show (nodD (clD c) && nodA (cs.map clD)) = true
      rw [ih]
      rfl
  unfold mkZ
  rw [if_pos h]
theorem nv46 (b : Bool) {p : Pt} (hp : p.Wf) (w : W) : m_need_version [.d (.str (S (prB b p)))] w = some (.d (.str (S (prB b p))), w) := fn_ex rfl (ex_drop (call1s (vars rfl) (run_needP b hp w)) (ex_ret (vars rfl)))
theorem run_bars {css : List (List Cl)} (R : Rw46 css) (b : Bool) {p : Pt} (hp : p.Wf) (w : W) : m_bars [.d (rowsD css), .d (.str (S (prB b p)))] w = some (.d (.tuple ((css.zipIdx.filter fun q => !memB (spansK q.1) p.key).map fun q => PyData.int (q.2 : Nat))), w) := by
  refine fn_ex rfl ?_
  unfold b_bars
  have h1 := run_nrows (by rw [List.length_map]; exact R.len) R.g w
  refine ex_drop (call1s (vars rfl) h1) ?_
  refine ex_set (call1s (call1s (vars rfl) (nv46 b hp w)) (run_keyof b hp w)) ?_
  have en : mEnum (mCons (mVar 0) mNil) [some (.d (rowsD css)), some (.d (.str (S (prB b p)))), some (.d (kyD p.key)), none, none] w = some (css.zipIdx.map fun q => .tuple [.int (q.2 : Nat), rqD q.1], [some (.d (rowsD css)), some (.d (.str (S (prB b p)))), some (.d (kyD p.key)), none, none], w) := by
    have a : mCons (mVar 0) mNil [some (.d (rowsD css)), some (.d (.str (S (prB b p)))), some (.d (kyD p.key)), none, none] w = some ([.d (rowsD css)], [some (.d (rowsD css)), some (.d (.str (S (prB b p)))), some (.d (kyD p.key)), none, none], w) := cons_ok (vars rfl) nil_ok
    have i : itemsD (rowsD css) = some (css.map rqD) := rfl
    have e : enumL (css.map rqD) = css.zipIdx.map fun q => .tuple [.int (q.2 : Nat), rqD q.1] := by
      unfold enumL
      rw [List.zipIdx_map, List.map_map]
      rfl
    simp only [mEnum, argsD, a, dsOf, Option.map_some, i, e]
  have F := lcm_filt (mi := mEnum (mCons (mVar 0) mNil)) (g := mgTup 2 (mgCons (mgName 3) (mgCons (mgName 4) mgNil))) (tt := tC1_bars) (me := mVar 3) (vs := [3, 4]) (env := [some (.d (rowsD css)), some (.d (.str (S (prB b p)))), some (.d (kyD p.key)), none, none]) (w := w) (fun q : List Cl × Nat => .tuple [.int (q.2 : Nat), rqD q.1]) (fun q => !memB (spansK q.1) p.key) (fun q => .int (q.2 : Nat)) css.zipIdx en rfl rfl fun q hq => by
    have hm : q.1 ∈ css := List.mem_of_getElem? (List.mem_zipIdx_iff_getElem?.mp hq)
    refine ⟨[some (.d (rowsD css)), some (.d (.str (S (prB b p)))), some (.d (kyD p.key)), some (.d (.int (q.2 : Nat))), some (.d (rqD q.1))], _, rfl, nots (trus (call2s (call1s (vars rfl) (run_spansof (R.wf q.1 hm) (by have := R.each q.1 hm; omega) w)) (vars rfl) (run_haskey (spansK q.1) p.key w))), fun _ => ⟨_, vars rfl, rfl⟩, fun _ => rfl⟩
  exact ex_ret (b1s F rfl)
def pt46 (n : Nat) : Pt := ⟨0, [n], none, none, none⟩
def blk46 (n : Nat) : Cl := ⟨.ne, true, false, pt46 n⟩
def lt46 : Cl := ⟨.lt, false, false, pt46 143⟩
def row46 (k : Nat) : List Cl := (List.range 12).map fun j => blk46 (12 * k + j)
def rows46 : List (List Cl) := (List.range 12).map row46
def full46 : List (List Cl) := (List.range 11).map row46 ++ [(row46 11).take 11 ++ [lt46]]
def open46 : List (List Cl) := (List.range 11).map row46 ++ [(row46 11).take 11]
theorem pt_wf46 {n : Nat} (h : n ≤ 1000) : (pt46 n).Wf ∧ (pt46 n).Small := by
  refine ⟨⟨by simp [pt46], by simp [pt46], fun m hm => ?_, by show (0 : Nat) < _; decide, fun _ _ e => (by cases e), fun _ e => (by cases e), fun _ e => (by cases e)⟩, ⟨by simp [pt46], fun m hm => ?_, by show (0 : Nat) ≤ _; omega, fun _ _ e => (by cases e), fun _ e => (by cases e), fun _ e => (by cases e)⟩⟩
  · have : m = n := by simpa [pt46] using hm
    subst this
    exact Nat.lt_of_le_of_lt h (by decide)
  · have : m = n := by simpa [pt46] using hm
    omega
theorem blk_wf {n : Nat} (h : n ≤ 1000) : (blk46 n).Wf := ⟨(pt_wf46 h).1, (pt_wf46 h).2, fun _ => ⟨.inr rfl, rfl⟩, fun _ => rfl, fun e => (by cases e)⟩
theorem lt_wf46 : lt46.Wf := ⟨(pt_wf46 (by decide)).1, (pt_wf46 (by decide)).2, fun e => (by cases e), fun _ => rfl, fun e => by cases e⟩
theorem row_wf46 {k : Nat} (h : k ≤ 12) : ∀ c ∈ row46 k, c.Wf := fun c hc => by
  obtain ⟨j, hj, rfl⟩ := List.mem_map.mp hc
  rw [List.mem_range] at hj
  exact blk_wf (by omega)
theorem full_wf : ∀ cs ∈ full46, ∀ c ∈ cs, c.Wf := fun cs hcs c hc => by
  rcases List.mem_append.mp hcs with h | h
  · obtain ⟨k, hk, rfl⟩ := List.mem_map.mp h
    rw [List.mem_range] at hk
    exact row_wf46 (by omega) c hc
  · rw [List.mem_singleton] at h
    subst h
    rcases List.mem_append.mp hc with h | h
    · exact row_wf46 (by decide) c (List.mem_of_mem_take h)
    · rw [List.mem_singleton] at h
      subst h
      exact lt_wf46
theorem open_wf : ∀ cs ∈ open46, ∀ c ∈ cs, c.Wf := fun cs hcs c hc => by
  rcases List.mem_append.mp hcs with h | h
  · obtain ⟨k, hk, rfl⟩ := List.mem_map.mp h
    rw [List.mem_range] at hk
    exact row_wf46 (by omega) c hc
  · rw [List.mem_singleton] at h
    subst h
    exact row_wf46 (by decide) c (List.mem_of_mem_take hc)
theorem full_rw : Rw46 full46 := ⟨full_wf, by decide, by decide +kernel, by decide +kernel, fun cs _ => zk_rq cs⟩
theorem open_rw : Rw46 open46 := ⟨open_wf, by decide, by decide +kernel, by decide +kernel, fun cs _ => zk_rq cs⟩
theorem full_none : (spansK full46.flatten).isEmpty = true := by decide +kernel
theorem open_some : (spansK open46.flatten).isEmpty = false := by decide +kernel
theorem full_each : ∀ i < 12, lenOk [(leastK, none)] (((List.range full46.length).filter fun j => !decide (j = i)).filterMap fun j => full46[j]?).flatten = true ∧ (spansK (((List.range full46.length).filter fun j => !decide (j = i)).filterMap fun j => full46[j]?).flatten).isEmpty = false := by
  have h : ((List.range 12).all fun i => lenOk [(leastK, none)] (((List.range full46.length).filter fun j => !decide (j = i)).filterMap fun j => full46[j]?).flatten && !(spansK (((List.range full46.length).filter fun j => !decide (j = i)).filterMap fun j => full46[j]?).flatten).isEmpty) = true := by decide +kernel
  intro i hi
  have := List.all_eq_true.mp h i (List.mem_range.mpr hi)
  rw [Bool.and_eq_true, Bool.not_eq_true'] at this
  exact this
theorem bars_1 : (full46.zipIdx.filter fun q => !memB (spansK q.1) (pt46 143).key).map (fun q => PyData.int (q.2 : Nat)) = [.int 11] := by
  have h : (full46.zipIdx.filter fun q => !memB (spansK q.1) (pt46 143).key).map Prod.snd = [11] := by decide +kernel
  have := congrArg (List.map fun k : Nat => PyData.int (k : Int)) h
  rw [List.map_map] at this
  exact this
def p75 : Pt := ⟨0, [7, 5], none, none, none⟩
theorem bars_2 : (full46.zipIdx.filter fun q => !memB (spansK q.1) p75.key).map (fun q => PyData.int (q.2 : Nat)) = [.int 0] := by
  have h : (full46.zipIdx.filter fun q => !memB (spansK q.1) p75.key).map Prod.snd = [0] := by decide +kernel
  have := congrArg (List.map fun k : Nat => PyData.int (k : Int)) h
  rw [List.map_map] at this
  exact this
end Dn

set_option maxHeartbeats 4000000
namespace Dn
open PySem PySem.Spec PyProof.Rows L2 SX
open TL (numL pre joinL)
section
variable {t u : SD} {x : Xc} {y : PyData} {w : W}
theorem all_bad (hw : w.isSome = true) (ht : IsDat t) (hu : IsDat u) (hb : r_need_rows [t] none = some (x, none)) (hf : f__law_heard (.inr x) = some y) : m__law_all_k46 [t, u] w = some (.d (.list [y, y, y]), w) := by
  refine fn_ex rfl ?_
  unfold b__law_all_k46
  refine ex_set (lst2s (lam1 hw rfl ht (bad_open ht hb) hf) (lam1 hw rfl ht (bad_core ht hb) hf)) ?_
  exact ex_ret (ops (vars rfl) (lst1s (lam2 hw rfl ht rfl hu (bad_bars u ht hb) hf)) (addD_L (by simp)))
theorem all_q {d : PyData} (hw : w.isSome = true) (hs : sdOf t = some d) (h : isTup d = false ∨ ∃ xs, d = .tuple xs ∧ 12 < xs.length) (hu : IsDat u) : m__law_all_k46 [t, u] w = some (.d (.list [.str "question", .str "question", .str "question"]), w) := all_bad hw (isDat_of hs) hu (nrows_q hs h) heard_q
end
section
variable {css : List (List Cl)} {w : W}
theorem coreof_none (R : Rw46 css) (h : (spansK css.flatten).isEmpty = false) (w : W) : m_core_of [.d (rowsD css)] w = some (.d .none, w) := by
  have h2 := run_join (T := rowsD css) rfl (by have := R.flat; omega) w
  have h3 := run_spL R.fwf R.ok w
  refine fn_ex rfl ?_
  unfold b_core_of
  exact ex_hit (trus (ops (call1s (call1s (vars rfl) h2) h3) rfl ((ne_row46 _).trans (by rw [h]; rfl)))) rfl
theorem open_no (R : Rw46 css) : r_is_open [.d (rowsD css)] none = none := by
  have hl : (css.map rqD).length ≤ 12 := by rw [List.length_map]; exact R.len
  have h2 := run_join (T := rowsD css) rfl (by have := R.flat; omega) none
  have h3 := run_spL R.fwf R.ok none
  refine rfn_no rfl ?_
  unfold rb_is_open
  refine rthen_r (rthen_r (rthen_r (rcall_no (args1 (var_d rfl)) (nrows_no hl R.g)) (call1s (var_d rfl) (run_nrows hl R.g none)) rfl) (call1s (call1s (var_d rfl) (run_nrows hl R.g none)) h2) rfl) (call1s (call1s (call1s (var_d rfl) (run_nrows hl R.g none)) h2) h3) rfl
theorem core_no (R : Rw46 css) (h : (spansK css.flatten).isEmpty = false) : r_core [.d (rowsD css)] none = none := by
  have hl : (css.map rqD).length ≤ 12 := by rw [List.length_map]; exact R.len
  refine rfn_no rfl ?_
  unfold rb_core
  exact rseq_r (rthen_r (rcall_no (args1 (var_d rfl)) (nrows_no hl R.g)) (call1s (var_d rfl) (run_nrows hl R.g none)) rfl) (set_ok (call1s (call1s (var_d rfl) (run_nrows hl R.g none)) (coreof_none R h none))) rfl
theorem bars_no (R : Rw46 css) (b : Bool) {p : Pt} (hp : p.Wf) : r_bars [.d (rowsD css), .d (.str (S (prB b p)))] none = none := by
  have hl : (css.map rqD).length ≤ 12 := by rw [List.length_map]; exact R.len
  refine rfn_no rfl ?_
  unfold rb_bars
  exact rseq_r (rcall_no (args1 (var_d rfl)) (nrows_no hl R.g)) (drop_ok (call1s (var_d rfl) (run_nrows hl R.g none))) (rseq_r (rthen_r (rcall_no (args1 (var_d rfl)) (nv_good (prB_sh hp) (parts_print b hp))) (call1s (var_d rfl) (nv46 b hp none)) rfl) (set_ok (call1s (call1s (var_d rfl) (nv46 b hp none)) (run_keyof b hp none))) rfl)
theorem do46 {t : SD} {env : Ev} {i : Nat} (h : env[i]? = some (some t)) (ht : IsDat t) : mVar i (dataOnly env) none = some (t, dataOnly env, none) := var_dt (dataOnly_at h ht) ht
/-- rows that hold together, asked with what is no version -/
theorem all_ver {u : SD} (hw : w.isSome = true) (R : Rw46 css) (h : (spansK css.flatten).isEmpty = false) (hu : IsDat u) (hb : r_need_version [u] none = some (⟨"BadVersion", none⟩, none)) : m__law_all_k46 [.d (rowsD css), u] w = some (.d (.list [.list [.bool true], .list [.none], .str "version"]), w) := by
  have hl : (css.map rqD).length ≤ 12 := by rw [List.length_map]; exact R.len
  have ro := run_open R none
  rw [h] at ro
  refine fn_ex rfl ?_
  unfold b__law_all_k46
  refine ex_set (lst2s (lam_d (z := .bool true) hw (rcall_no (args1 (do46 rfl trivial)) (open_no R)) (call1s (do46 rfl trivial) ro) (heard_val _)) (lam_d (z := .none) hw (rcall_no (args1 (do46 rfl trivial)) (core_no R h)) (call1s (do46 rfl trivial) (core_none R h none)) (heard_val _))) ?_
  exact ex_ret (ops (vars rfl) (lst1s (lam2 hw rfl trivial rfl hu (bad_barsv hl R.g hu hb) heard_v)) (addD_L (by simp)))
theorem all_told (hw : w.isSome = true) (R : Rw46 css) (h : (spansK css.flatten).isEmpty = false) {b : Bool} {p : Pt} (hp : p.Wf) {ks : List PyData} (hk : (css.zipIdx.filter fun q => !memB (spansK q.1) p.key).map (fun q => PyData.int (q.2 : Nat)) = ks) : m__law_all_k46 [.d (rowsD css), .d (.str (S (prB b p)))] w = some (.d (.list [.list [.bool true], .list [.none], .list [.tuple ks]]), w) := by
  have ro := run_open R none
  rw [h] at ro
  have rb := run_bars R b hp none
  rw [hk] at rb
  refine fn_ex rfl ?_
  unfold b__law_all_k46
  refine ex_set (lst2s (lam_d (z := .bool true) hw (rcall_no (args1 (do46 rfl trivial)) (open_no R)) (call1s (do46 rfl trivial) ro) (heard_val _)) (lam_d (z := .none) hw (rcall_no (args1 (do46 rfl trivial)) (core_no R h)) (call1s (do46 rfl trivial) (core_none R h none)) (heard_val _))) ?_
  exact ex_ret (ops (vars rfl) (lst1s (lam_d (z := .tuple ks) hw (rcall_no (args2 (do46 rfl trivial) (do46 rfl trivial)) (bars_no R b hp)) (call2s (do46 rfl trivial) (do46 rfl trivial) rb) (heard_val _))) (addD_L (by simp)))
end
theorem parts_odd {d : PyData} (hd : isStr d = false) (w : W) : m_parts_of [.d d] w = some (.d .none, w) := by
  refine fn_ex rfl ?_
  unfold b_parts_of
  have hi : ∀ env : Ev, env[0]? = some (some (.d d)) → mIs isStr (mVar 0) env w = some (.d (.bool false), env, w) := fun env h => by
    unfold mIs
    rw [seqE_of (vars h), hd]
    rfl
  exact ex_hit (nots (b := false) (trus (hi _ rfl))) cst
theorem nv_odd {d : PyData} (hd : isStr d = false) : r_need_version [.d d] none = some (⟨"BadVersion", none⟩, none) := by
  have hk : r_need_key [.d d] none = some (⟨"BadVersion", none⟩, none) := by
    refine rfn_ex rfl ?_
    unfold rb_need_key
    exact ⟨_, rseq_r rfl (set_ok (call1s (var_d rfl) (parts_odd hd none))) (rseq_l ((rif_t (e1 := [some (.d d), some (.d .none)]) (w1 := none) (trus (ops (vars rfl) cst rfl))).trans rfl))⟩
  exact rfn_ex rfl ⟨_, rseq_l (rcall_ok (args1 (var_d rfl)) hk)⟩
theorem nreq_odd {t : SD} {d : PyData} (hs : sdOf t = some d) (h : isTup d = false) : r_need_requirement [t] none = some (⟨"BadRequirement", some (.tuple [])⟩, none) := by
  refine rfn_ex rfl ?_
  unfold rb_need_requirement
  have hv : mVar 0 [some t, none, none] none = some (t, [some t, none, none], none) := var_dt rfl (isDat_of hs)
  exact ⟨_, rseq_l ((rif_t (e1 := [some t, none, none]) (w1 := none) (ors (p := true) (q := true) (nots (b := false) (trus (isl46 hv hs h))) fun q => absurd q (by simp))).trans rfl)⟩
/-- tuples of one, in one another -/
def nest46 : Nat → PyData
  | 0 => .tuple []
  | k + 1 => .tuple [nest46 k]
theorem nest_zk : ∀ k : Nat, nodD (nest46 k) = true
  | 0 => rfl
  | k + 1 => by
    show (nodD (nest46 k) && true) = true
    rw [nest_zk k]
    rfl
theorem nest_mk (k : Nat) : mkZ (nest46 k) = .d (nest46 k) := by
  unfold mkZ
  rw [if_pos (nest_zk k)]
theorem nest_isc (k : Nat) (w : W) : m_is_clause [.d (nest46 (k + 1))] w = some (.d (.bool false), w) := by
  refine fn_ex rfl ?_
  unfold b_is_clause
  generalize hX : nest46 k = X
  have hlen : lenD [nest46 (k + 1)] = some (.int 1) := rfl
  refine ex_hit (ors (p := false) (q := true) (nots (b := true) (trus (b := true) ?_)) fun _ => trus (ops (b1s (vars rfl) hlen) cst rfl)) rfl
  show some (SD.d (.bool (isTup (nest46 (k + 1)))), _, w) = _
  rfl
theorem nest_req (k : Nat) : r_need_requirement [mkZ (nest46 (k + 2))] none = some (⟨"BadRequirement", some (.tuple [.int 0])⟩, none) := by
  rw [nest_mk]
  exact need_bad (cs := []) (fun c hc => by cases hc) (odd := nest46 (k + 1)) (ds := []) (by simp) (nest_isc k none)
end Dn

set_option maxHeartbeats 4000000
namespace Dn
open PySem PySem.Spec PyProof.Rows L2 SX
open TL (numL pre joinL)
end Dn

set_option maxHeartbeats 4000000
namespace Dn
open PySem PySem.Spec PyProof.Rows L2 SX
open TL (numL pre joinL)
end Dn

set_option maxHeartbeats 4000000
namespace Dn
open PySem PySem.Spec PyProof.Rows L2 SX
open TL (numL pre joinL)
abbrev B1 : Nat := 1000000001
end Dn

set_option maxHeartbeats 4000000
namespace Dn
open PySem PySem.Spec PyProof.Rows L2 SX
open TL (numL pre joinL)
def zz (a : List Nat) (i : Nat) : Nat := a.getD i 0
end Dn

set_option maxHeartbeats 4000000
namespace Dn
open PySem PySem.Spec PyProof.Rows L2 SX
open TL (numL pre joinL)
structure Rl where
  b : Bool
  p : Pt
  wd : Bool
def Rl.txt (r : Rl) : List Nat := prB r.b r.p
end Dn

set_option maxHeartbeats 4000000
namespace Dn
open PySem PySem.Spec PyProof.Rows L2 SX
open TL (numL pre joinL)
end Dn

set_option maxHeartbeats 4000000
namespace Dn
open PySem PySem.Spec PyProof.Rows L2 SX
open TL (numL pre joinL)
end Dn

set_option maxHeartbeats 4000000
namespace Dn
open PySem PySem.Spec PyProof.Rows L2 SX
open TL (numL pre joinL)
end Dn

set_option maxHeartbeats 4000000
namespace Dn
open PySem PySem.Spec PyProof.Rows L2 SX
open TL (numL pre joinL)
end Dn

set_option maxHeartbeats 4000000
namespace Dn
open PySem PySem.Spec PyProof.Rows L2 SX
open TL (numL pre joinL)
inductive Kd where
  | lo | hi | bl | co | ng | pt
  deriving DecidableEq
def Bk (k : Ky) : Prop := bas k.2.1 = k.2.1
theorem VK.bk {k : Ky} (h : VK k) : Bk k := by
  obtain ⟨p, _, rfl⟩ := h
  exact bas_bas p.ns
end Dn

set_option maxHeartbeats 4000000
namespace Dn
open PySem PySem.Spec PyProof.Rows L2 SX
open TL (numL pre joinL)
end Dn

set_option maxHeartbeats 4000000
namespace Dn
open PySem PySem.Spec PyProof.Rows L2 SX
open TL (numL pre joinL)
section
variable {α β : Type} [DecidableEq β]
end
end Dn

set_option maxHeartbeats 4000000
namespace Dn
open PySem PySem.Spec PyProof.Rows L2 SX
open TL (numL pre joinL)
/-- good and bad keys -/
structure GB (G B : List Ky) (g0 gl : Ky) : Prop where
  g : ∀ k ∈ G, VK k
  b : ∀ k ∈ B, VK k
  m0 : g0 ∈ G
  ml : gl ∈ G
  lo : ∀ k ∈ G, ltK k g0 = false
  hi : ∀ k ∈ G, ltK gl k = false
  dj : ∀ k ∈ B, k ∉ G
end Dn

set_option maxHeartbeats 4000000
namespace Dn
open PySem PySem.Spec PyProof.Rows L2 SX
open TL (numL pre joinL)
end Dn

set_option maxHeartbeats 4000000
namespace Dn
open PySem PySem.Spec PyProof.Rows L2 SX
open TL (numL pre joinL)
theorem andV6 {ma mb : Ex} {env : Ev} {w : W} {p q : Bool} (h1 : ma env w = some (.d (.bool p), env, w)) (h2 : p = true → mb env w = some (.d (.bool q), env, w)) : mAndV ma mb env w = some (.d (.bool (p && q)), env, w) := by
  unfold mAndV
  rw [seqE_of h1]
  cases p with
  | true => exact h2 rfl
  | false => rfl
end Dn

set_option maxHeartbeats 4000000
namespace Dn
open PySem PySem.Spec PyProof.Rows L2 SX
open TL (numL pre joinL)
theorem mulD46 {b : Nat} (h : b < 12) : mulD (.int 12) (.int (b : Int)) = some (.int ((12 * b : Nat) : Int)) := by
  have k : ∀ b : Fin 12, mulD (.int 12) (.int ((b.val : Nat) : Int)) = some (.int ((12 * b.val : Nat) : Int)) := by
    intro b
    match b with
    | 0 | 1 | 2 | 3 | 4 | 5 | 6 | 7 | 8 | 9 | 10 | 11 => rfl
  exact k ⟨b, h⟩
theorem addD46 (a b : Nat) : addD (.int (a : Int)) (.int (b : Int)) = some (.int ((a + b : Nat) : Int)) := addI_nat a b
theorem txt_blk (n : Nat) : (blk46 n).txt = numL n ++ [46, 42] := by
  show prB false (pt46 n) ++ [46, 42] = _
  simp [prB, pt46, epS, nsS, foS, poS, dvS, joinL]
theorem txt_lt46 : lt46.txt = numL 143 := by
  show prB false (pt46 143) ++ [] = _
  simp [prB, pt46, epS, nsS, foS, poS, dvS, joinL]
theorem rng46 (env : Ev) (w : W) : mRng rng1D (mCons (mC (.int 12)) mNil) env w = some ((List.range 12).map fun i : Nat => PyData.int (i : Int), env, w) := rfl
theorem cell46 {k j : Nat} (hk : k < 12) (hj : j < 12) (w : W) : eC1__law_full_right [none, none, some (.d (.int (k : Int))), some (.d (.int (j : Int)))] w = some (.d (clD (blk46 (12 * k + j))), [none, none, some (.d (.int (k : Int))), some (.d (.int (j : Int)))], w) := by
  have hs : Sm (12 * k + j) := Nat.lt_of_lt_of_le (show 12 * k + j < 1000 by omega) (by decide)
  have hl := num24 hs
  have e : clD (blk46 (12 * k + j)) = .tuple [.str "!=", .str (S (numL (12 * k + j) ++ [46, 42]))] := by
    unfold clD
    rw [txt_blk]
    rfl
  have c : mC (.str ".*") = mC (.str (S [46, 42])) := rfl
  rw [e]
  unfold eC1__law_full_right
  rw [c]
  exact tup2s cst (ops (b1s (ops (ops cst (vars rfl) (mulD46 hk)) (vars rfl) (addD46 (12 * k) j)) (strD_num hs)) cst (addD_S (by unfold Sh; rw [List.length_append]; simp; omega)))
theorem row_46 {k : Nat} (hk : k < 12) (w : W) : eC2__law_full_right [none, none, some (.d (.int (k : Int))), none] w = some (.d (rqD (row46 k)), [none, none, some (.d (.int (k : Int))), none], w) := by
  unfold eC2__law_full_right
  have M := lcm_map (mi := mRng rng1D (mCons (mC (.int 12)) mNil)) (g := mgName 3) (me := eC1__law_full_right) (vs := [3]) (env := [none, none, some (.d (.int (k : Int))), none]) (w := w) (fun j : Nat => PyData.int (j : Int)) (fun j => clD (blk46 (12 * k + j))) (List.range 12) (rng46 _ _) rfl rfl fun j hj => ⟨[none, none, some (.d (.int (k : Int))), some (.d (.int (j : Int)))], _, rfl, cell46 hk (List.mem_range.mp hj) w, rfl⟩
  have e : rqD (row46 k) = .tuple ((List.range 12).map fun j => clD (blk46 (12 * k + j))) := by
    show PyData.tuple ((row46 k).map clD) = _
    unfold row46
    rw [List.map_map]
    rfl
  rw [e]
  exact b1s M rfl
theorem rows_46 (w : W) : mFz (mLc (mRng rng1D (mCons (mC (.int 12)) mNil)) (mgName 2) mYes eC2__law_full_right [2]) [none, none, none, none] w = some (.d (.list (rows46.map rqD)), [none, none, none, none], w) := by
  have M := lcm_map (mi := mRng rng1D (mCons (mC (.int 12)) mNil)) (g := mgName 2) (me := eC2__law_full_right) (vs := [2]) (env := [none, none, none, none]) (w := w) (fun j : Nat => PyData.int (j : Int)) (fun k => rqD (row46 k)) (List.range 12) (rng46 _ _) rfl rfl fun k hk => ⟨[none, none, some (.d (.int (k : Int))), none], _, rfl, row_46 (List.mem_range.mp hk) w, rfl⟩
  have e : rows46.map rqD = (List.range 12).map fun k => rqD (row46 k) := by
    unfold rows46
    rw [List.map_map]
    rfl
  rw [e]
  exact M
theorem sl46 {m : Ex} {env : Ev} {w : W} {x z : PyData} {k : Int} (h : m env w = some (.d x, env, w)) (hz : slD x none (some k) = some z) : mSl m mNo (mPart (mC (.int k))) env w = some (.d z, env, w) := by
  simp only [mSl, seqE, h, mNo, mPart, mC, hz, optE]
theorem takeL46 (xs : List PyData) (k : Nat) : slD (.list xs) none (some (k : Int)) = some (.list (xs.take k)) := by
  rw [← cutL_take]
  rfl
theorem takeT46 (xs : List PyData) (k : Nat) : slD (.tuple xs) none (some (k : Int)) = some (.tuple (xs.take k)) := by
  rw [← cutL_take]
  rfl
theorem full_D : addD (.list ((rows46.map rqD).take 11)) (.list [.tuple (((row46 11).map clD).take 11 ++ [clD lt46])]) = some (.list (full46.map rqD)) := by
  have e : full46.map rqD = (rows46.map rqD).take 11 ++ [.tuple (((row46 11).map clD).take 11 ++ [clD lt46])] := by
    rw [← List.map_take, ← List.map_take]
    show (List.map row46 (List.range 11) ++ [(row46 11).take 11 ++ [lt46]]).map rqD = _
    rw [List.map_append]
    have : rows46.take 11 = List.map row46 (List.range 11) := by
      unfold rows46
      rw [← List.map_take]
      rfl
    rw [this]
    show _ ++ [PyData.tuple (((row46 11).take 11 ++ [lt46]).map clD)] = _
    rw [List.map_append]
    rfl
  rw [e]
  exact addD_L (by rw [List.length_take]; simp; omega)
theorem open_D : addD (.tuple ((full46.map rqD).take 11)) (.tuple [.tuple (((row46 11).map clD).take 11)]) = some (rowsD open46) := by
  have e : rowsD open46 = .tuple ((full46.map rqD).take 11 ++ [.tuple (((row46 11).map clD).take 11)]) := by
    rw [← List.map_take, ← List.map_take]
    have : full46.take 11 = List.map row46 (List.range 11) := by
      unfold full46
      rw [List.take_append_of_le_length (by simp), List.take_of_length_le (by simp)]
    rw [this]
    unfold rowsD open46
    rw [List.map_append]
    rfl
  rw [e]
  exact up_tupL (by rw [List.length_take]; simp; omega)
theorem run_full (w : W) : m__law_full_right [] w = some (.d (.bool true), w) := by
  refine fn_ex rfl ?_
  unfold b__law_full_right
  refine ex_set (rows_46 w) ?_
  have i11 : ixD (.list (rows46.map rqD)) (.int 11) = some (rqD (row46 11)) := rfl
  have l1 : clD lt46 = .tuple [.str "<", .str "143"] := by
    unfold clD
    rw [txt_lt46]
    rfl
  have t1 : addD (.tuple (((row46 11).map clD).take 11)) (.tuple [clD lt46]) = some (.tuple (((row46 11).map clD).take 11 ++ [clD lt46])) := up_tupL (by rw [List.length_take]; simp; omega)
  rw [l1] at t1
  have f0 := full_D
  rw [l1] at f0
  refine ex_set (r := .d (rowsD full46)) (b1s (ops (sl46 (vars rfl) (takeL46 _ 11)) (lst1s (ops (sl46 (ops (vars rfl) cst i11) (takeT46 _ 11)) (tup1s (tup2s cst cst)) t1)) f0) rfl) ?_
  have o1 := run_open full_rw w
  rw [full_none] at o1
  have c1 := core_all full_rw full_none full_each w
  have hp75 : p75.Wf := ⟨by simp [p75], by simp [p75], fun m hm => by
    have : m = 7 ∨ m = 5 := by simpa [p75] using hm
    rcases this with rfl | rfl <;> decide, by show (0 : Nat) < _; decide, fun _ _ e => (by cases e), fun _ e => (by cases e), fun _ e => (by cases e)⟩
  have b1 := run_bars full_rw false hp75 w
  rw [bars_2] at b1
  have b2 := run_bars full_rw false (pt_wf46 (n := 143) (by decide)).1 w
  rw [bars_1] at b2
  have e75 : mC (.str "7.5") = mC (.str (S (prB false p75))) := by
    have : (S (prB false p75) : Str) = "7.5" := by decide +kernel
    rw [this]
  have e143 : mC (.str "143") = mC (.str (S (prB false (pt46 143)))) := by
    have : (S (prB false (pt46 143)) : Str) = "143" := by decide +kernel
    rw [this]
  rw [e75, e143]
  have o2 := run_open open_rw w
  rw [open_some] at o2
  refine ex_skip (ors (p := false) (q := false) (trus (ops (call1s (vars rfl) o1) cst rfl)) fun _ => ors (p := false) (q := false) (trus (ops (call1s (vars rfl) c1) rfl (by rfl))) fun _ => trus (ops (call2s (vars rfl) cst b1) (tup1s cst) rfl)) ?_
  exact ex_ret (andV6 (p := true) (q := true) (ops (call1s (ops (sl46 (vars rfl) (takeT46 _ 11)) (tup1s (sl46 (ops (vars rfl) cst i11) (takeT46 _ 11))) open_D) o2) cst rfl) fun _ => ops (call2s (vars rfl) cst b2) (tup1s cst) rfl)
end Dn

set_option maxHeartbeats 4000000
namespace Dn
open PySem PySem.Spec PyProof.Rows L2 SX
open TL (numL pre joinL)
theorem nines46 : ∀ k : Nat, NumText.digitsVal (List.replicate k 57) < 10 ^ k
  | 0 => by decide
  | k + 1 => by
    have ih := nines46 k
    rw [show List.replicate (k + 1) 57 = List.replicate k 57 ++ [57] from List.replicate_succ', NumText.digitsVal_snoc, Nat.pow_succ]
    omega
theorem text46 (k : Nat) : ((Txt.mul "9" (k : Int)).cps.toList = List.replicate k 57) ∧ (Txt.mul "9" (k : Int)).length ≤ k := by
  have e : ("9" : Str) = ⟨#[57]⟩ := rfl
  rw [e]
  exact ⟨by rw [mul_one_list, Int.toNat_natCast], len_mul_one rfl (Int.le_refl _)⟩
theorem log46 {v k : Nat} (h0 : 0 < k) (h : v < 10 ^ k) : v.log2 < 4 * k := by
  by_cases hz : v = 0
  · subst hz
    rw [Nat.log2_zero]
    omega
  · refine (Nat.log2_lt hz).mpr (Nat.lt_of_lt_of_le h ?_)
    rw [Nat.pow_mul]
    exact Nat.pow_le_pow_left (by decide) k
theorem int46 (k : Nat) (h0 : 0 < k) (hk : k ≤ 4300) : ∃ N : Int, N.natAbs.log2 < 4 * k ∧ intN [.str (Txt.mul "9" (k : Int))] = some (.int N) := by
  obtain ⟨h1, h2⟩ := text46 k
  have h := PySem.intText_digits (x := Txt.mul "9" (k : Int)) (by
    rw [h1]
    intro c hc
    have := List.eq_of_mem_replicate hc
    omega) (by
    rw [h1]
    intro e
    have := congrArg List.length e
    rw [List.length_replicate, List.length_nil] at this
    omega) (by omega)
  rw [h1] at h
  have hb := nines46 k
  generalize NumText.digitsVal (List.replicate k 57) = v at h hb
  refine ⟨(v : Int), ?_, ?_⟩
  · rw [Int.natAbs_natCast]
    exact log46 h0 hb
  · unfold intN
    dsimp only
    rw [h]
    dsimp only
    rw [if_pos (by rw [sizeLine_eq]; omega)]
theorem great46 : ∃ N : Int, ∀ (env : Ev) (w : W), mOp mulW (mB intN (mCons (mOp mulB (mC (.str "9")) (mC (.int 4000))) mNil)) (mB intN (mCons (mOp mulB (mC (.str "9")) (mC (.int 4000))) mNil)) env w = some (.d (.int N), env, w) := by
  obtain ⟨n, hn, h⟩ := int46 4000 (by omega) (by omega)
  refine ⟨n * n, fun env w => ?_⟩
  have m : mulB (.str "9") (.int 4000) = some (.str (Txt.mul "9" 4000)) := by
    unfold mulB
    dsimp only
    rw [if_pos ⟨by decide, by decide, by decide⟩]
  have a := b1s (env := env) (w := w) (ops cst cst m) h
  refine ops a a ?_
  show (if CMulW n n then some (PyData.int (n * n)) else none) = _
  rw [if_pos (by unfold CMulW; omega)]
theorem g46_nil : G46 (.tuple []) := ⟨rfl, need_no (cs := []) (fun c hc => by cases hc) (by decide), run_needreq (cs := []) (fun c hc => by cases hc) (by decide)⟩
theorem rw46_nil : Rw46 [] := ⟨fun cs h => (by cases h), by decide, fun cs h => (by cases h), rfl, fun cs h => (by cases h)⟩
section
variable {w : W}
theorem odd_rows (hw : w.isSome = true) (N : Int) : m__law_all_k46 [.d (.tuple [.tuple [], .int N]), .d (.str "1")] w = some (.d (.list [.tuple [.str "requirement", .tuple []], .tuple [.str "requirement", .tuple []], .tuple [.str "requirement", .tuple []]]), w) :=
  all_bad hw trivial trivial (nrows_at (xs := [.tuple []]) (zs := []) (bad := .int N) rfl (by simp) (fun x hx => by rw [List.mem_singleton.mp hx]; exact g46_nil) (nreq_odd (d := .int N) rfl rfl)) (heard_req _)
theorem deep_rows (hw : w.isSome = true) (k : Nat) : m__law_all_k46 [.d (nest46 (k + 3)), .d (.str "1")] w = some (.d (.list [.tuple [.str "requirement", .tuple [.int 0]], .tuple [.str "requirement", .tuple [.int 0]], .tuple [.str "requirement", .tuple [.int 0]]]), w) :=
  all_bad hw trivial trivial (nrows_at (xs := []) (zs := []) (bad := nest46 (k + 2)) rfl (by simp) (fun x hx => by cases hx) (nest_req k)) (heard_req _)
theorem loop46 {x1 x3 : Option SD} : ∀ (ds : List PyData) (k : Nat) (x2 : Option SD), ∃ x2', mLoop (mgName 2) bF1__law_strange_right_k46 ds [some (.d (nest46 k)), x1, x2, x3] w = some (.nx, [some (.d (nest46 (k + ds.length))), x1, x2', x3], w)
  | [], k, x2 => ⟨x2, rfl⟩
  | d :: ds, k, x2 => by
    obtain ⟨x2', ih⟩ := loop46 (x1 := x1) (x3 := x3) ds (k + 1) (some (.d d))
    refine ⟨x2', (loop_go (e1 := [some (.d (nest46 k)), x1, some (.d d), x3]) (e2 := [some (.d (nest46 (k + 1))), x1, some (.d d), x3]) (w2 := w) rfl ?_).trans (ih.trans ?_)⟩
    · unfold bF1__law_strange_right_k46
      exact set_ok (tup1s (vars rfl))
    · rw [List.length_cons, show k + 1 + ds.length = k + (ds.length + 1) by omega]
theorem run_strange46 (hw : w.isSome = true) : m__law_strange_right_k46 [] w = some (.d (.bool true), w) := by
  obtain ⟨N, hN⟩ := great46
  refine fn_ex rfl ?_
  unfold b__law_strange_right_k46
  refine ex_par (x := .d (nest46 0)) (y := .d (.int N)) (tup_ok (ds := []) nil_ok rfl (by simp)) (hN _ _) ?_
  obtain ⟨ds, hds, hl⟩ : ∃ ds, rng1D [.int ((2000 : Nat) : Int)] = some ds ∧ ds.length = 2000 := by
    refine ⟨_, by unfold rng1D; dsimp only; rw [if_pos ⟨by omega, by omega⟩], ?_⟩
    rw [List.length_map, List.length_range, Int.toNat_natCast]
  have rg : mRng rng1D (mCons (mC (.int 2000)) mNil) [some (.d (nest46 0)), some (.d (.int N)), none, none] w = some (ds, [some (.d (nest46 0)), some (.d (.int N)), none, none], w) := by
    have : rng1D [.int 2000] = some ds := hds
    simp only [mRng, argsD, mCons, mNil, mC, dsOf, Option.map_some, this]
  obtain ⟨x2', hL⟩ := loop46 (w := w) (x1 := some (.d (.int N))) (x3 := none) ds 0 none
  rw [hl] at hL
  refine ex_for rg hL ?_
  have d0 := deep_rows hw 1997
  generalize hX : nest46 (0 + 2000) = X
  have hX2 : nest46 (1997 + 3) = X := hX
  rw [hX2] at d0
  have hXs : isStr X = false := by
    rw [← hX]
    rfl
  refine ex_skip (ors (p := false) (q := false) (trus (ops (call2s (vars rfl) cst (all_q hw (d := .int N) rfl (.inl rfl) trivial)) (ops (lst1s cst) cst rfl) rfl)) fun _ => trus (ops (call2s (tup2s (tup_ok (ds := []) nil_ok rfl (by simp)) (vars rfl)) cst (odd_rows hw N)) (ops (lst1s (tup2s cst (tup_ok (ds := []) nil_ok rfl (by simp)))) cst rfl) rfl)) ?_
  refine ex_skip (trus (ops (call2s (vars rfl) cst d0) (ops (lst1s (tup2s cst (tup1s cst))) cst rfl) rfl)) ?_
  have body : ∀ x : PyData, isStr x = false → eC2__law_strange_right_k46 [some (.d X), some (.d (.int N)), x2', some (.d x)] w = some (.d (.str "version"), [some (.d X), some (.d (.int N)), x2', some (.d x)], w) := fun x hx => by
    unfold eC2__law_strange_right_k46
    exact ops (call2s (tup_ok (ds := []) nil_ok rfl (by simp)) (vars rfl) (all_ver (css := []) hw rw46_nil rfl trivial (nv_odd hx))) cst rfl
  have M := lcm_filtR (mi := mItems (mTup (mCons (mVar 1) (mCons (mVar 0) mNil)))) (g := mgName 3) (tt := mYes) (me := eC2__law_strange_right_k46) (vs := [3]) (env := [some (.d X), some (.d (.int N)), x2', none]) (env' := [some (.d X), some (.d (.int N)), x2', none]) (w := w) (fun x : PyData => x) (fun _ => true) (fun _ => .str "version") [.int N, X] (items_s (tup2s (vars rfl) (vars rfl)) rfl) rfl rfl fun x hx => by
    refine ⟨[some (.d X), some (.d (.int N)), x2', some (.d x)], _, rfl, rfl, fun _ => ⟨_, body x ?_, rfl⟩, fun h => by cases h⟩
    simp only [List.mem_cons, List.not_mem_nil, or_false] at hx
    rcases hx with rfl | rfl
    · rfl
    · exact hXs
  exact ex_ret (ops M (ops (lst1s cst) cst rfl) rfl)
end
end Dn

set_option maxHeartbeats 4000000
namespace Dn
open PySem PySem.Spec PyProof.Rows L2 SX
open TL (numL pre joinL)
theorem sd_mk46 (y : PyData) : sdOf (mkZ y) = some y := by
  unfold mkZ
  split <;> rfl
def odds46 : List PyData := [.none, .int 5, .str "a", .list [], .dict [], .list [.tuple []], .tuple (List.replicate 13 (.tuple [])), .bool true, .tuple (List.replicate 13 (.int 5))]
theorem odds_q : ∀ d ∈ odds46, isTup d = false ∨ ∃ xs, d = .tuple xs ∧ 12 < xs.length := by
  intro d hd
  simp only [odds46, List.mem_cons, List.not_mem_nil, or_false] at hd
  rcases hd with rfl | rfl | rfl | rfl | rfl | rfl | rfl | rfl | rfl
  · exact .inl rfl
  · exact .inl rfl
  · exact .inl rfl
  · exact .inl rfl
  · exact .inl rfl
  · exact .inl rfl
  · exact .inr ⟨_, rfl, by decide⟩
  · exact .inl rfl
  · exact .inr ⟨_, rfl, by decide⟩
abbrev two46 (a b : Str) : PyData := .tuple [.str a, .str b]
def bads46 : List PyData := [.none, .int 5, .list [], .str "", .tuple [.none], .tuple [.int 5], .tuple [.tuple [.str ">="]], .tuple [two46 ">=" "1.0.*"], .tuple [two46 "~=" "1"], .dict []]
def due46 (d : PyData) : PyData := if isTup d then .tuple [.int 0] else .tuple []
abbrev rbad46 (d : PyData) (p : PyData) : Prop := r_need_requirement [mkZ d] none = some (⟨"BadRequirement", some p⟩, none)
theorem bads_need : ∀ d ∈ bads46, rbad46 d (due46 d) := by
  intro d hd
  simp only [bads46, List.mem_cons, List.not_mem_nil, or_false] at hd
  rcases hd with rfl | rfl | rfl | rfl | rfl | rfl | rfl | rfl | rfl | rfl
  · exact nreq_odd (sd_mk46 _) rfl
  · exact nreq_odd (sd_mk46 _) rfl
  · exact nreq_odd (sd_mk46 _) rfl
  · exact nreq_odd (sd_mk46 _) rfl
  · kernel_rfl
  · kernel_rfl
  · kernel_rfl
  · kernel_rfl
  · kernel_rfl
  · exact nreq_odd (sd_mk46 _) rfl
def bents46 : List PyData := [.tuple [two46 "<" "1a1"], .tuple [two46 ">" "1.dev0"], .tuple [two46 "=" "1"], .tuple [two46 "==" "01"], .tuple [two46 ">=" "1."]]
theorem bents_need : ∀ d ∈ bents46, rbad46 d (.tuple [.int 0]) := by
  intro d hd
  simp only [bents46, List.mem_cons, List.not_mem_nil, or_false] at hd
  rcases hd with rfl | rfl | rfl | rfl | rfl
  · kernel_rfl
  · kernel_rfl
  · kernel_rfl
  · kernel_rfl
  · kernel_rfl
def worse46 : List PyData := [.int 5, .tuple [.str "==", .str "1", .str "2"], .list [.str "==", .str "1"], .tuple [.str "!=", .int 5]]
theorem worse_isc : ∀ d ∈ worse46, m_is_clause [.d d] none = some (.d (.bool false), none) ∧ nodD d = true := by
  intro d hd
  simp only [worse46, List.mem_cons, List.not_mem_nil, or_false] at hd
  rcases hd with rfl | rfl | rfl | rfl
  · exact ⟨by kernel_rfl, rfl⟩
  · exact ⟨by kernel_rfl, rfl⟩
  · exact ⟨by kernel_rfl, rfl⟩
  · exact ⟨by kernel_rfl, rfl⟩
def eq1_46 : Cl := ⟨.eq, false, false, pt46 1⟩
theorem eq1_wf : eq1_46.Wf := ⟨(pt_wf46 (by decide)).1, (pt_wf46 (by decide)).2, fun e => (by cases e), fun _ => rfl, fun e => by cases e⟩
theorem eq1_D : clD eq1_46 = two46 "==" "1" := by kernel_rfl
theorem worse_need (k : Nat) (hk : k < 3) (x : PyData) (hx : x ∈ worse46) : rbad46 (.tuple (List.replicate k (two46 "==" "1") ++ [x])) (.tuple [.int (k : Int)]) := by
  obtain ⟨h1, h2⟩ := worse_isc x hx
  have e : PyData.tuple (List.replicate k (two46 "==" "1") ++ [x]) = .tuple ((List.replicate k eq1_46).map clD ++ x :: []) := by
    rw [List.map_replicate, eq1_D]
  have hz : nodD (.tuple (List.replicate k (two46 "==" "1") ++ [x])) = true := by
    show nodA (List.replicate k (two46 "==" "1") ++ [x]) = true
    have : ∀ k : Nat, nodA (List.replicate k (two46 "==" "1") ++ [x]) = true := by
      intro k
      induction k with
      | zero =>
        show (nodD x && true) = true
        rw [h2]
        rfl
      | succ k ih =>
        rw [List.replicate_succ]
        show (true && nodA (List.replicate k (two46 "==" "1") ++ [x])) = true
        rw [ih]
        rfl
    exact this k
  have hm : mkZ (.tuple (List.replicate k (two46 "==" "1") ++ [x])) = .d (.tuple (List.replicate k (two46 "==" "1") ++ [x])) := by
    unfold mkZ
    rw [if_pos hz]
  show r_need_requirement [mkZ _] none = _
  rw [hm, e]
  have := need_bad (cs := List.replicate k eq1_46) (fun c hc => by rw [List.eq_of_mem_replicate hc]; exact eq1_wf) (odd := x) (ds := []) (by rw [List.length_replicate, List.length_nil]; omega) h1
  rw [List.length_replicate] at this
  exact this
def nos46 : List PyData := [.none, .int 5, .str "", .str "1.", .str "v1", .str "1.0.*", .str "01", .list [], .str "1..2", .str "1a", .str "1.post", .str "1!", .bool true]
theorem nos_need : ∀ d ∈ nos46, r_need_version [.d d] none = some (⟨"BadVersion", none⟩, none) := by
  intro d hd
  simp only [nos46, List.mem_cons, List.not_mem_nil, or_false] at hd
  rcases hd with rfl | rfl | rfl | rfl | rfl | rfl | rfl | rfl | rfl | rfl | rfl | rfl | rfl
  · exact nv_odd rfl
  · exact nv_odd rfl
  · kernel_rfl
  · kernel_rfl
  · kernel_rfl
  · kernel_rfl
  · kernel_rfl
  · exact nv_odd rfl
  · kernel_rfl
  · kernel_rfl
  · kernel_rfl
  · kernel_rfl
  · exact nv_odd rfl
def p14_46 : Pt := ⟨0, [1, 4], none, none, none⟩
def good46 : List Cl := [⟨.ge, false, false, pt46 1⟩, ⟨.ne, true, false, p14_46⟩]
theorem pts_wf46 {ns : List Nat} (h0 : ns ≠ []) (hl : ns.length ≤ 8) (h : ∀ n ∈ ns, n ≤ 1000) : (⟨0, ns, none, none, none⟩ : Pt).Wf ∧ (⟨0, ns, none, none, none⟩ : Pt).Small :=
  ⟨⟨h0, Nat.le_trans hl (by decide), fun n hn => Nat.lt_of_le_of_lt (h n hn) (by decide), by show (0 : Nat) < _; decide, fun _ _ e => (by cases e), fun _ e => (by cases e), fun _ e => (by cases e)⟩, ⟨hl, fun n hn => Nat.le_trans (h n hn) (by decide), Nat.zero_le _, fun _ _ e => (by cases e), fun _ e => (by cases e), fun _ e => (by cases e)⟩⟩
theorem p14_wf : p14_46.Wf ∧ p14_46.Small := pts_wf46 (by decide) (by decide) (by decide)
theorem good_wf46 : ∀ c ∈ good46, c.Wf := by
  intro c hc
  simp only [good46, List.mem_cons, List.not_mem_nil, or_false] at hc
  rcases hc with rfl | rfl
  · exact ⟨(pt_wf46 (by decide)).1, (pt_wf46 (by decide)).2, fun e => (by cases e), fun e => (by rcases e with e | e <;> cases e), fun e => by cases e⟩
  · exact ⟨p14_wf.1, p14_wf.2, fun _ => ⟨.inr rfl, rfl⟩, fun _ => rfl, fun e => by cases e⟩
abbrev gd46 : PyData := .tuple [two46 ">=" "1", two46 "!=" "1.4.*"]
theorem good_D46 : rqD good46 = gd46 := by kernel_rfl
theorem g46_good : G46 gd46 := by
  rw [← good_D46]
  exact ⟨zk_rq _, need_no good_wf46 (by decide), run_needreq good_wf46 (by decide)⟩
def many46 (k : Nat) : List (List Cl) := List.replicate k good46
theorem many_D46 (k : Nat) : rowsD (many46 k) = .tuple (List.replicate k gd46) := by
  unfold rowsD many46
  rw [List.map_replicate, good_D46]
theorem many_rw {k : Nat} (hk : k ≤ 12) (hl : lenOk [(leastK, none)] (many46 k).flatten = true) : Rw46 (many46 k) := ⟨fun cs hc c h => good_wf46 c (by rw [List.eq_of_mem_replicate hc] at h; exact h), by unfold many46; rw [List.length_replicate]; exact hk, fun cs hc => by rw [List.eq_of_mem_replicate hc]; decide, hl, fun cs _ => zk_rq cs⟩
theorem rw2_46 : Rw46 (many46 2) := many_rw (by decide) (by decide +kernel)
theorem rw12_46 : Rw46 (many46 12) := many_rw (by decide) (by decide +kernel)
theorem some2_46 : (spansK (many46 2).flatten).isEmpty = false := by decide +kernel
theorem some12_46 : (spansK (many46 12).flatten).isEmpty = false := by decide +kernel
def p142_46 : Pt := ⟨0, [1, 4, 2], none, none, none⟩
theorem p142_wf : p142_46.Wf := (pts_wf46 (by decide) (by decide) (by decide)).1
theorem bars12_46 : ((many46 12).zipIdx.filter fun q => !memB (spansK q.1) p142_46.key).map (fun q => PyData.int (q.2 : Nat)) = upTo 12 := by
  have h : ((many46 12).zipIdx.filter fun q => !memB (spansK q.1) p142_46.key).map Prod.snd = List.range 12 := by decide +kernel
  have := congrArg (List.map fun k : Nat => PyData.int (k : Int)) h
  rw [List.map_map] at this
  exact this
def three46 (p : PyData) : PyData := .list [.tuple [.str "requirement", p], .tuple [.str "requirement", p], .tuple [.str "requirement", p]]
section
variable {w : W}
theorem all_one46 (hw : w.isSome = true) {at' : Nat} (ha : at' < 5) {one p : PyData} (hb : rbad46 one p) {no : PyData} : m__law_all_k46 [mkZ (.tuple (List.replicate at' gd46 ++ [one, .none])), .d no] w = some (.d (three46 p), w) :=
  all_bad hw (isDat_mk _) trivial (nrows_at (xs := List.replicate at' gd46) (zs := [.none]) (bad := one) (sd_mk46 _) (by rw [List.length_replicate]; simp; omega) (fun x hx => by rw [List.eq_of_mem_replicate hx]; exact g46_good) hb) (heard_req p)
theorem rep46 {p : PyData} (h : p = .tuple [] ∨ ∃ k : Nat, k < 3 ∧ p = .tuple [.int (k : Int)]) : reprD [three46 p] = some (.str (PyData.shown (three46 p))) := by
  rcases h with rfl | ⟨k, hk, rfl⟩
  · kernel_rfl
  · match k, hk with
    | 0, _ => kernel_rfl
    | 1, _ => kernel_rfl
    | 2, _ => kernel_rfl
theorem zk46 {p : PyData} (h : p = .tuple [] ∨ ∃ k : Nat, k < 3 ∧ p = .tuple [.int (k : Int)]) : mkZ p = .d p := by
  rcases h with rfl | ⟨k, hk, rfl⟩ <;> rfl
theorem tell2_46 (hw : w.isSome = true) {no : PyData} (hn : no ∈ nos46) : m__law_all_k46 [.d (.tuple [gd46, gd46]), .d no] w = some (.d (.list [.list [.bool true], .list [.none], .str "version"]), w) := by
  have := all_ver (u := .d no) hw rw2_46 some2_46 trivial (nos_need no hn)
  rw [many_D46] at this
  exact this
theorem tell12_46 (hw : w.isSome = true) : m__law_all_k46 [.d (.tuple (List.replicate 12 gd46)), .d (.str "1.4.2")] w = some (.d (.list [.list [.bool true], .list [.none], .list [.tuple (upTo 12)]]), w) := by
  have := all_told (b := false) hw rw12_46 some12_46 p142_wf bars12_46
  rw [many_D46] at this
  have e : (S (prB false p142_46) : Str) = "1.4.2" := by decide +kernel
  rw [e] at this
  exact this
theorem tell13_46 (hw : w.isSome = true) : m__law_all_k46 [.d (.tuple [.tuple (List.replicate 13 (two46 "!=" "1"))]), .d (.str "1")] w = some (.d (three46 (.tuple [])), w) :=
  all_bad hw trivial trivial (nrows_at (xs := []) (zs := []) (bad := .tuple (List.replicate 13 (two46 "!=" "1"))) rfl (by decide) (fun x hx => by cases hx) (by kernel_rfl)) (heard_req _)
end
end Dn

set_option maxHeartbeats 4000000
namespace Dn
open PySem PySem.Spec PyProof.Rows L2 SX
open TL (numL pre joinL)
section
variable {env : Ev} {w w1 : W} {n : Nat} {s : DS} {M : Ex} {xs : List PyData} {t : SD}
theorem draw_L46 (hst : env[1]? = some (some .st)) (hM : ∀ w, M env w = some (.d (.list xs), env, w)) (h0 : xs ≠ []) (hl : xs.length ≤ 1000) (hs : Gd (n + 1) s) : ∃ x s', mCall m__law_of (mCons (mVar 1) (mCons M mNil)) env (some s) = some (.d x, env, some s') ∧ x ∈ xs ∧ Gd n s' :=
  he_call1 (i := 1) (j := 0) (k := 1) (P := (· = .list xs)) hst (.pure hM rfl) (fun x hx => by subst hx; exact hf_of_list h0 (by omega)) n s (hs.mono (by omega))
theorem draw_K46 (hst : env[1]? = some (some .st)) (many : Nat) (h1 : 0 < many) (h2 : many < 1073741824) (hs : Gd (n + 1) s) : ∃ k s', mCall m__law_draw (mCons (mVar 1) (mCons (mC (.int (many : Int))) mNil)) env (some s) = some (.d (.int ((k : Nat) : Int)), env, some s') ∧ k < many ∧ Gd n s' := by
  obtain ⟨x, s', q1, ⟨k, rfl, q2⟩, q3⟩ := he_draw (i := 1) hst many h1 h2 n s hs
  exact ⟨k, s', q1, q2, q3⟩
theorem ixl46 {ma mb : Ex} {x : SD} {k : Nat} {z : PyData} (h1 : ma env w = some (x, env, w)) (hx : sdOf x = some (.list xs)) (h2 : mb env w = some (.d (.int (k : Int)), env, w1)) (hz : xs[k]? = some z) : mIxL ma mb env w = some (mkZ z, env, w1) := by
  unfold mIxL seqL seqE
  rw [h1]
  dsimp only
  rw [hx]
  dsimp only
  rw [h2]
  dsimp only
  rw [atI_nat, hz]
  rfl
theorem of_Z46 (h0 : xs ≠ []) (hl : xs.length ≤ 1000) (hd : IsDat t) (ht : sdOf t = some (.list xs)) (hs : Gd (n + 1) s) : ∃ x s', m__law_ofZ [.st, t] (some s) = some (mkZ x, some s') ∧ x ∈ xs ∧ Gd n s' := by
  have hp : 0 < xs.length := List.length_pos_iff.mpr h0
  obtain ⟨k, s1, d1, hk, g1⟩ := drawOk n s hs xs.length hp (by omega)
  obtain ⟨x, hxk⟩ : ∃ x, xs[k]? = some x := ⟨_, List.getElem?_eq_getElem (by omega)⟩
  refine ⟨x, s1, fn_ex rfl ?_, List.mem_of_getElem? hxk, g1⟩
  unfold b__law_ofZ
  have v1 : mVar 1 [some .st, some t] (some s) = some (t, [some .st, some t], some s) := var_dt rfl hd
  have hlen : mLenL (mVar 1) [some .st, some t] (some s) = some (.d (.int (xs.length : Nat)), [some .st, some t], some s) := by
    unfold mLenL seqL
    rw [v1]
    dsimp only
    rw [ht]
  have dr : mCall m__law_draw (mCons (mVar 0) (mCons (mLenL (mVar 1)) mNil)) [some .st, some t] (some s) = some (.d (.int (k : Int)), [some .st, some t], some s1) := by
    have v0 : mVar 0 [some .st, some t] (some s) = some (.st, [some .st, some t], some s) := rfl
    simp only [mCall, mCons, mNil, v0, hlen, d1]
  exact ⟨_, ret_ok (ixl46 v1 ht dr hxk)⟩
theorem draw_Z46 (hst : env[1]? = some (some .st)) (hM : ∀ w, M env w = some (t, env, w)) (h0 : xs ≠ []) (hl : xs.length ≤ 1000) (hd : IsDat t) (ht : sdOf t = some (.list xs)) (hs : Gd (n + 1) s) : ∃ x s', mCall m__law_ofZ (mCons (mVar 1) (mCons M mNil)) env (some s) = some (mkZ x, env, some s') ∧ x ∈ xs ∧ Gd n s' := by
  obtain ⟨x, s', q1, q2, q3⟩ := of_Z46 h0 hl hd ht hs
  refine ⟨x, s', ?_, q2, q3⟩
  have v1 : mVar 1 env (some s) = some (.st, env, some s) := by simp only [mVar, hst]
  simp only [mCall, mCons, mNil, v1, hM, q1]
theorem tup2l46 {a b : Ex} {y z : PyData} {t u : SD} (h1 : a env w = some (t, env, w)) (ht : sdOf t = some y) (h2 : b env w = some (u, env, w)) (hu : sdOf u = some z) : mTupL (mCons a (mCons b mNil)) env w = some (mkZ (.tuple [y, z]), env, w) := by
  unfold mTupL argsL
  rw [args2 h1 h2]
  simp only [sdsOf, ht, hu, List.length_cons, List.length_nil, Nat.reduceAdd, Nat.reduceLeDiff, if_true]
theorem tup3l46 {a b c : Ex} {x y z : PyData} {t u v : SD} (h1 : a env w = some (t, env, w)) (ht : sdOf t = some x) (h2 : b env w = some (u, env, w)) (hu : sdOf u = some y) (h3 : c env w = some (v, env, w)) (hv : sdOf v = some z) : mTupL (mCons a (mCons b (mCons c mNil))) env w = some (mkZ (.tuple [x, y, z]), env, w) := by
  unfold mTupL argsL
  have h : mCons a (mCons b (mCons c mNil)) env w = some ([t, u, v], env, w) := cons_ok h1 (cons_ok h2 (cons_ok h3 nil_ok))
  rw [h]
  simp only [sdsOf, ht, hu, hv, List.length_cons, List.length_nil, Nat.reduceAdd, Nat.reduceLeDiff, if_true]
theorem lst1l46 {a : Ex} {y : PyData} {t : SD} (h1 : a env w = some (t, env, w)) (ht : sdOf t = some y) : mLstL (mCons a mNil) env w = some (mkZ (.list [y]), env, w) := by
  unfold mLstL argsL
  rw [args1 h1]
  simp only [sdsOf, ht, List.length_cons, List.length_nil, Nat.reduceAdd, Nat.reduceLeDiff, if_true]
theorem addt46 {a b : Ex} {ys : List PyData} {u : SD} (h1 : a env w = some (t, env, w)) (ht : sdOf t = some (.tuple xs)) (h2 : b env w = some (u, env, w)) (hu : sdOf u = some (.tuple ys)) (hl : xs.length + ys.length ≤ 1000) : mAddT a b env w = some (mkZ (.tuple (xs ++ ys)), env, w) := by
  unfold mAddT seqL
  rw [h1]
  dsimp only
  rw [ht]
  dsimp only
  rw [h2]
  dsimp only
  rw [hu]
  dsimp only
  rw [if_pos (by rw [sizeLine_eq]; omega)]
theorem mulE46 (x : PyData) {k : Nat} (hk : k ≤ 20) : mulE (.tuple [x]) (.int (k : Int)) = some (.tuple (List.replicate k x)) := by
  have e : ∀ k : Nat, (List.replicate k [x]).flatten = List.replicate k x := by
    intro k
    induction k with
    | zero => rfl
    | succ k ih =>
      rw [List.replicate_succ, List.flatten_cons, ih]
      rfl
  show (if -1000 ≤ (k : Int) ∧ (k : Int) ≤ 1000 ∧ [x].length ≤ 1000 then some (PyData.tuple (List.replicate (k : Int).toNat [x]).flatten) else none) = _
  rw [if_pos ⟨by omega, by omega, by simp⟩, Int.toNat_natCast, e]
end
abbrev E46 (a tu od bd be wo go no at' on du : Option SD) : Ev := [a, some .st, tu, od, bd, be, wo, go, no, at', on, du]
theorem pair46 {a tu od bd be wo : Option SD} {at' : Nat} (ha : at' < 5) {one p no : PyData} (hb : rbad46 one p) (hp : p = .tuple [] ∨ ∃ k : Nat, k < 3 ∧ p = .tuple [.int (k : Int)]) {w : W} (hw : w.isSome = true) :
    bF1_law_k46 (E46 a tu od bd be wo (some (.d gd46)) (some (.d no)) (some (.d (.int (at' : Int)))) (some (mkZ one)) (some (.d p))) w = some (.nx, E46 a tu od bd be wo (some (.d gd46)) (some (.d no)) (some (.d (.int (at' : Int)))) (some (mkZ one)) (some (.d p)), w) := by
  unfold bF1_law_k46
  have h1 := addt46 (env := E46 a tu od bd be wo (some (.d gd46)) (some (.d no)) (some (.d (.int (at' : Int)))) (some (mkZ one)) (some (.d p))) (w := w) (ops (tup1s (vars (i := 7) rfl)) (vars (i := 9) rfl) (mulE46 gd46 (k := at') (by omega))) rfl (tup2l46 (var_dt (i := 10) rfl (isDat_mk one)) (sd_mk46 _) (cst (x := .none)) rfl) (sd_mk46 _) (by rw [List.length_replicate]; simp; omega)
  have z : mkZ (.list [.tuple [.str "requirement", p]]) = .d (.list [.tuple [.str "requirement", p]]) := by
    rcases hp with rfl | ⟨k, hk, rfl⟩ <;> rfl
  have z1 : mkZ (.tuple [.str "requirement", p]) = .d (.tuple [.str "requirement", p]) := by
    rcases hp with rfl | ⟨k, hk, rfl⟩ <;> rfl
  have h2 := lst1l46 (env := E46 a tu od bd be wo (some (.d gd46)) (some (.d no)) (some (.d (.int (at' : Int)))) (some (mkZ one)) (some (.d p))) (w := w) (tup2l46 (cst (x := .str "requirement")) rfl (vars (i := 11) rfl) rfl) (sd_mk46 _)
  rw [z] at h2
  have m : mulD (.list [.tuple [.str "requirement", p]]) (.int 3) = some (three46 p) := rfl
  exact (if_f (trus (ops (b1s (call2s h1 (vars rfl) (all_one46 hw ha hb)) (rep46 hp)) (b1s (ops h2 cst m) (rep46 hp)) (ne_str_self _)))).trans rfl
abbrev g46 : Gx := mgTup 2 (mgCons (mgNameL 10) (mgCons (mgNameL 11) mgNil))
theorem step46 {a tu od bd be wo on du : Option SD} {at' : Nat} (ha : at' < 5) {one p no : PyData} (hb : rbad46 one p) (hp : p = .tuple [] ∨ ∃ k : Nat, k < 3 ∧ p = .tuple [.int (k : Int)]) {w : W} (hw : w.isSome = true) (ds : List PyData) :
    mLoop g46 bF1_law_k46 (.tuple [one, p] :: ds) (E46 a tu od bd be wo (some (.d gd46)) (some (.d no)) (some (.d (.int (at' : Int)))) on du) w = mLoop g46 bF1_law_k46 ds (E46 a tu od bd be wo (some (.d gd46)) (some (.d no)) (some (.d (.int (at' : Int)))) (some (mkZ one)) (some (.d p))) w := by
  have hz := zk46 hp
  refine loop_go (e1 := E46 a tu od bd be wo (some (.d gd46)) (some (.d no)) (some (.d (.int (at' : Int)))) (some (mkZ one)) (some (.d p))) ?_ (pair46 ha hb hp hw)
  rw [← hz]
  rfl
theorem due_46 (bad : PyData) : due46 bad = .tuple [] ∨ ∃ k : Nat, k < 3 ∧ due46 bad = .tuple [.int (k : Int)] := by
  unfold due46
  cases isTup bad with
  | true => exact .inr ⟨0, by decide, rfl⟩
  | false => exact .inl rfl
theorem tri46 {a tu od on du no : Option SD} {bad bent x : PyData} {k at' : Nat} {w : W} : mItemsL (mTupL (mCons (mTupL (mCons (mVar 4) (mCons (mIf (mNot (mTru (mIsL isTup (mVar 4)))) (mTup mNil) (mTup (mCons (mC (.int 0)) mNil))) mNil))) (mCons (mTup (mCons (mVar 5) (mCons (mTup (mCons (mC (.int 0)) mNil)) mNil))) (mCons (mTup (mCons (mVar 6) (mCons (mTup (mCons (mOp subI (mB lenD (mCons (mVar 6) mNil)) (mC (.int 1))) mNil)) mNil))) mNil)))) (E46 a tu od (some (mkZ bad)) (some (.d bent)) (some (.d (.tuple (List.replicate k (two46 "==" "1") ++ [x])))) (some (.d gd46)) no (some (.d (.int (at' : Int)))) on du) w =
    some ([.tuple [bad, due46 bad], .tuple [bent, .tuple [.int 0]], .tuple [.tuple (List.replicate k (two46 "==" "1") ++ [x]), .tuple [.int (k : Int)]]], E46 a tu od (some (mkZ bad)) (some (.d bent)) (some (.d (.tuple (List.replicate k (two46 "==" "1") ++ [x])))) (some (.d gd46)) no (some (.d (.int (at' : Int)))) on du, w) := by
  have hlen : lenD [.tuple (List.replicate k (two46 "==" "1") ++ [x])] = some (.int ((k + 1 : Nat) : Int)) := by
    show some (PyData.int _) = _
    rw [List.length_append, List.length_replicate]
    rfl
  have hsub : subI (.int ((k + 1 : Nat) : Int)) (.int 1) = some (.int (k : Int)) := by
    show some (PyData.int (((k + 1 : Nat) : Int) - 1)) = _
    congr 2
    omega
  generalize hE : E46 a tu od (some (mkZ bad)) (some (.d bent)) (some (.d (.tuple (List.replicate k (two46 "==" "1") ++ [x])))) (some (.d gd46)) no (some (.d (.int (at' : Int)))) on du = E
  have v4 : mVar 4 E w = some (mkZ bad, E, w) := by
    subst hE
    exact var_dt rfl (isDat_mk bad)
  have v5 : mVar 5 E w = some (.d bent, E, w) := by
    subst hE
    exact vars rfl
  have v6 : mVar 6 E w = some (.d (.tuple (List.replicate k (two46 "==" "1") ++ [x])), E, w) := by
    subst hE
    exact vars rfl
  have hi : mIf (mNot (mTru (mIsL isTup (mVar 4)))) (mTup mNil) (mTup (mCons (mC (.int 0)) mNil)) E w = some (.d (due46 bad), E, w) := by
    unfold due46
    have q := nots (trus (isl46 (f := isTup) (b := isTup bad) v4 (sd_mk46 bad) rfl))
    cases h : isTup bad with
    | true =>
      rw [h] at q
      exact (if_f q).trans (tup1s cst)
    | false =>
      rw [h] at q
      exact (if_t q).trans (tup_ok (ds := []) nil_ok rfl (by simp))
  have t3 := tup3l46 (tup2l46 v4 (sd_mk46 bad) hi rfl) (sd_mk46 _) (tup2s v5 (tup1s (cst (x := .int 0)))) rfl (tup2s v6 (tup1s (ops (b1s v6 hlen) cst hsub))) rfl
  exact itl46 t3 (sd_mk46 _)
theorem turn46 {a : Option SD} {tu od bd be wo go no at' on du : Option SD} : HN bF2_law_k46 (E46 a tu od bd be wo go no at' on du) 12 (fun e => ∃ tu od bd be wo go no at' on du, e = E46 a tu od bd be wo go no at' on du) := fun n s hs => by
  have M1 : ∀ (env : Ev) (w : W), mLstL (mCons (mC .none) (mCons (mC (.int 5)) (mCons (mC (.str "a")) (mCons (mFz (mLst mNil)) (mCons mDct (mCons (mFz (mLst (mCons (mTup mNil) mNil))) (mCons (mOp mulE (mTup (mCons (mTup mNil) mNil)) (mC (.int 13))) (mCons (mC (.bool true)) (mCons (mOp mulE (mTup (mCons (mC (.int 5)) mNil)) (mC (.int 13))) mNil))))))))) env w = some (mkZ (.list odds46), env, w) := fun env w => by kernel_rfl
  have M2 : ∀ (env : Ev) (w : W), mLstL (mCons (mC .none) (mCons (mC (.int 5)) (mCons (mFz (mLst mNil)) (mCons (mC (.str "")) (mCons (mTup (mCons (mC .none) mNil)) (mCons (mTup (mCons (mC (.int 5)) mNil)) (mCons (mTup (mCons (mTup (mCons (mC (.str ">=")) mNil)) mNil)) (mCons (mTup (mCons (mTup (mCons (mC (.str ">=")) (mCons (mC (.str "1.0.*")) mNil))) mNil)) (mCons (mTup (mCons (mTup (mCons (mC (.str "~=")) (mCons (mC (.str "1")) mNil))) mNil)) (mCons mDct mNil)))))))))) env w = some (mkZ (.list bads46), env, w) := fun env w => by kernel_rfl
  have M3 : ∀ (env : Ev) (w : W), (mFz (mLst (mCons (mTup (mCons (mTup (mCons (mC (.str "<")) (mCons (mC (.str "1a1")) mNil))) mNil)) (mCons (mTup (mCons (mTup (mCons (mC (.str ">")) (mCons (mC (.str "1.dev0")) mNil))) mNil)) (mCons (mTup (mCons (mTup (mCons (mC (.str "=")) (mCons (mC (.str "1")) mNil))) mNil)) (mCons (mTup (mCons (mTup (mCons (mC (.str "==")) (mCons (mC (.str "01")) mNil))) mNil)) (mCons (mTup (mCons (mTup (mCons (mC (.str ">=")) (mCons (mC (.str "1.")) mNil))) mNil)) mNil))))))) env w = some (.d (.list bents46), env, w) := fun env w => by kernel_rfl
  have M4 : ∀ (env : Ev) (w : W), (mFz (mLst (mCons (mC (.int 5)) (mCons (mTup (mCons (mC (.str "==")) (mCons (mC (.str "1")) (mCons (mC (.str "2")) mNil)))) (mCons (mFz (mLst (mCons (mC (.str "==")) (mCons (mC (.str "1")) mNil)))) (mCons (mTup (mCons (mC (.str "!=")) (mCons (mC (.int 5)) mNil))) mNil)))))) env w = some (.d (.list worse46), env, w) := fun env w => by kernel_rfl
  have M5 : ∀ (env : Ev) (w : W), (mFz (mLst (mCons (mC .none) (mCons (mC (.int 5)) (mCons (mC (.str "")) (mCons (mC (.str "1.")) (mCons (mC (.str "v1")) (mCons (mC (.str "1.0.*")) (mCons (mC (.str "01")) (mCons (mFz (mLst mNil)) (mCons (mC (.str "1..2")) (mCons (mC (.str "1a")) (mCons (mC (.str "1.post")) (mCons (mC (.str "1!")) (mCons (mC (.bool true)) mNil))))))))))))))) env w = some (.d (.list nos46), env, w) := fun env w => by kernel_rfl
  obtain ⟨odd, s1, d1, i1, g1⟩ := draw_Z46 (env := E46 a tu od bd be wo go no at' on du) (n := n + 11) rfl (M1 _) (by simp [odds46]) (by decide) (isDat_mk _) (sd_mk46 _) hs
  obtain ⟨bad, s2, d2, i2, g2⟩ := draw_Z46 (env := E46 a tu (some (mkZ odd)) bd be wo go no at' on du) (n := n + 10) rfl (M2 _) (by simp [bads46]) (by decide) (isDat_mk _) (sd_mk46 _) g1
  obtain ⟨bent, s3, d3, i3, g3⟩ := draw_L46 (env := E46 a tu (some (mkZ odd)) (some (mkZ bad)) be wo go no at' on du) (n := n + 9) rfl (M3 _) (by simp [bents46]) (by decide) g2
  obtain ⟨k, s4, d4, hk, g4⟩ := draw_K46 (env := E46 a tu (some (mkZ odd)) (some (mkZ bad)) (some (.d bent)) wo go no at' on du) (n := n + 8) rfl 3 (by decide) (by decide) g3
  obtain ⟨x, s5, d5, i5, g5⟩ := draw_L46 (env := E46 a tu (some (mkZ odd)) (some (mkZ bad)) (some (.d bent)) wo go no at' on du) (n := n + 7) rfl (M4 _) (by simp [worse46]) (by decide) g4
  generalize hW : PyData.tuple (List.replicate k (two46 "==" "1") ++ [x]) = Wd
  have hWd : (mOp addD (mOp mulE (mTup (mCons (mTup (mCons (mC (.str "==")) (mCons (mC (.str "1")) mNil))) mNil)) (mCall m__law_draw (mCons (mVar 1) (mCons (mC (.int 3)) mNil)))) (mTup (mCons (mCall m__law_of (mCons (mVar 1) (mCons (mFz (mLst (mCons (mC (.int 5)) (mCons (mTup (mCons (mC (.str "==")) (mCons (mC (.str "1")) (mCons (mC (.str "2")) mNil)))) (mCons (mFz (mLst (mCons (mC (.str "==")) (mCons (mC (.str "1")) mNil)))) (mCons (mTup (mCons (mC (.str "!=")) (mCons (mC (.int 5)) mNil))) mNil)))))) mNil))) mNil))) (E46 a tu (some (mkZ odd)) (some (mkZ bad)) (some (.d bent)) wo go no at' on du) (some s3) = some (.d Wd, E46 a tu (some (mkZ odd)) (some (mkZ bad)) (some (.d bent)) wo go no at' on du, some s5) := by
    have a1 := tup_ok (env := E46 a tu (some (mkZ odd)) (some (mkZ bad)) (some (.d bent)) wo go no at' on du) (w := some s3) (ds := [two46 "==" "1"]) (cons_ok (tup2s (cst (x := .str "==")) (cst (x := .str "1"))) nil_ok) rfl (by decide)
    have a2 := op_ok a1 d4 (mulE46 (two46 "==" "1") (k := k) (by omega))
    have a3 := tup_ok (ds := [x]) (cons_ok d5 nil_ok) rfl (by simp)
    have a4 : addD (.tuple (List.replicate k (two46 "==" "1"))) (.tuple [x]) = some Wd := by
      rw [← hW]
      exact up_tupL (by rw [List.length_replicate]; simp; omega)
    exact op_ok a2 a3 a4
  obtain ⟨nv, s6, d6, i6, g6⟩ := draw_L46 (env := E46 a tu (some (mkZ odd)) (some (mkZ bad)) (some (.d bent)) (some (.d Wd)) (some (.d gd46)) no at' on du) (n := n + 6) rfl (M5 _) (by simp [nos46]) (by decide) g5
  obtain ⟨at2, s7, d7, ha, g7⟩ := draw_K46 (env := E46 a tu (some (mkZ odd)) (some (mkZ bad)) (some (.d bent)) (some (.d Wd)) (some (.d gd46)) (some (.d nv)) at' on du) (n := n + 5) rfl 5 (by decide) (by decide) g6
  have hw6 : (some s6 : W).isSome = true := rfl
  have hw7 : (some s7 : W).isSome = true := rfl
  suffices hT : ∃ e, bF2_law_k46 (E46 a tu od bd be wo go no at' on du) (some s) = some (.nx, e, some s7) ∧ ∃ tu od bd be wo go no at' on du, e = E46 a tu od bd be wo go no at' on du by
    obtain ⟨e, q1, q2⟩ := hT
    exact ⟨e, s7, q1, q2, g7.mono (by omega)⟩
  unfold bF2_law_k46
  refine ⟨E46 a tu (some (mkZ odd)) (some (mkZ bad)) (some (.d bent)) (some (.d Wd)) (some (.d gd46)) (some (.d nv)) (some (.d (.int (at2 : Int)))) (some (mkZ Wd)) (some (.d (.tuple [.int (k : Int)]))), ?_, ⟨_, _, _, _, _, _, _, _, _, _, rfl⟩⟩
  refine (seq_nx (set_ok d1)).trans ((seq_nx (set_ok d2)).trans ((seq_nx (set_ok d3)).trans ((seq_nx (set_ok hWd)).trans ((seq_nx (set_ok (r := .d gd46) (tup2s (tup2s cst cst) (tup2s cst cst)))).trans ((seq_nx (set_ok d6)).trans ?_)))))
  have q3 : mulD (.list [.str "question"]) (.int 3) = some (.list [.str "question", .str "question", .str "question"]) := rfl
  have n3 : neD (.list [.str "question", .str "question", .str "question"]) (.list [.str "question", .str "question", .str "question"]) = some (.bool false) := by kernel_rfl
  have n4 : neD (.str "version") (.str "version") = some (.bool false) := by kernel_rfl
  refine (seq_nx (e1 := E46 a tu (some (mkZ odd)) (some (mkZ bad)) (some (.d bent)) (some (.d Wd)) (some (.d gd46)) (some (.d nv)) at' on du) (w1 := some s6) ((if_f (ors (p := false) (q := false) (trus (ops (call2s (var_dt (i := 3) rfl (isDat_mk odd)) (vars rfl) (all_q hw6 (sd_mk46 odd) (odds_q odd i1) trivial)) (ops (lst1s cst) cst q3) n3)) fun _ => trus (ops (ops (call2s (tup2s (vars rfl) (vars rfl)) (vars rfl) (tell2_46 hw6 i6)) cst rfl) cst n4))).trans rfl)).trans ?_
  refine (seq_nx (set_ok d7)).trans ?_
  subst hW
  refine (seq_nx (e1 := E46 a tu (some (mkZ odd)) (some (mkZ bad)) (some (.d bent)) (some (.d (.tuple (List.replicate k (two46 "==" "1") ++ [x])))) (some (.d gd46)) (some (.d nv)) (some (.d (.int (at2 : Int)))) (some (mkZ (.tuple (List.replicate k (two46 "==" "1") ++ [x])))) (some (.d (.tuple [.int (k : Int)])))) (w1 := some s7) ((for_ok tri46).trans ((step46 ha (bads_need bad i2) (due_46 bad) hw7 _).trans ((step46 ha (bents_need bent i3) (.inr ⟨0, by decide, rfl⟩) hw7 _).trans ((step46 ha (worse_need k hk x i5) (.inr ⟨k, hk, rfl⟩) hw7 _).trans rfl))))).trans ?_
  have m13 := mulE46 (two46 "!=" "1") (k := 13) (by omega)
  have n13 : neD (.tuple [.str "requirement", .tuple []]) (.tuple [.str "requirement", .tuple []]) = some (.bool false) := by kernel_rfl
  refine (seq_nx (e1 := E46 a tu (some (mkZ odd)) (some (mkZ bad)) (some (.d bent)) (some (.d (.tuple (List.replicate k (two46 "==" "1") ++ [x])))) (some (.d gd46)) (some (.d nv)) (some (.d (.int (at2 : Int)))) (some (mkZ (.tuple (List.replicate k (two46 "==" "1") ++ [x])))) (some (.d (.tuple [.int (k : Int)])))) (w1 := some s7) ((if_f (trus (ops (ops (call2s (tup1s (ops (tup1s (tup2s cst cst)) cst m13)) cst (tell13_46 hw7)) cst rfl) (tup2s cst (tup_ok (ds := []) nil_ok rfl (by simp))) n13))).trans rfl)).trans ?_
  have m12 := mulE46 gd46 (k := 12) (by omega)
  have r12 : reprD [.list [.list [.bool true], .list [.none], .list [.tuple (upTo 12)]]] = some (.str (PyData.shown (.list [.list [.bool true], .list [.none], .list [.tuple (upTo 12)]]))) := by kernel_rfl
  exact (if_f (trus (ops (b1s (call2s (ops (tup1s (vars rfl)) cst m12) cst (tell12_46 hw7)) r12) (b1s (lst_ok (ds := [.list [.bool true], .list [.none], .list [.tuple (upTo 12)]]) (cons_ok (lst1s cst) (cons_ok (lst1s cst) (cons_ok (lst1s rfl) nil_ok))) rfl (by simp)) r12) (ne_str_self _)))).trans rfl
theorem rng46k (k : Nat) (hk : k ≤ 1000) : rng1D [.int (k : Int)] = some ((List.range k).map fun (i : Nat) => PyData.int (0 + i)) := by
  unfold rng1D
  dsimp only
  rw [if_pos ⟨by omega, by omega⟩, Int.toNat_natCast]
theorem call0_46 {mf : Fx} {env : Ev} {w : W} {r : SD} (h : mf [] w = some (r, w)) : mCall mf mNil env w = some (r, env, w) := by simp only [mCall, mNil, h]
theorem law_math : ∀ ns : List Int, ns.length ≤ 63 → ∃ env' w', b_law_k46 (env0 ns.length 12 1) (some (beginDS ns)) = some (.rt (.d (.bool true)), env', w') := by
  intro ns hns
  have hg := gd_begin ns hns
  have he0 : env0 ns.length 12 1 = E46 (some (.scr ns.length)) none none none none none none none none none none := rfl
  rw [he0]
  refine HR.law (k := 1000) ?_ (hg.mono (by decide))
  generalize ns.length = L at hns ⊢
  obtain ⟨k, hk, e⟩ : ∃ k : Nat, k ≤ 6 ∧ min2D [.int 6, .int (L : Int)] = some (.int (k : Int)) := by
    by_cases h : (L : Int) < 6
    · exact ⟨L, by omega, by simp [min2D, h]⟩
    · exact ⟨6, by omega, by simp [min2D, h]⟩
  have e2 : addD (.int 2) (.int (k : Int)) = some (.int ((2 + k : Nat) : Int)) := by
    rw [show ((2 + k : Nat) : Int) = 2 + (k : Int) by omega]; rfl
  have e3 := rng46k (2 + k) (by omega)
  unfold b_law_k46
  refine hr_seq (j := 0) (k := 1000) (I := fun e => e = E46 (some (.scr L)) none none none none none none none none none none) (fun n s hs => ⟨_, s, (if_f (ors (p := false) (q := false) (nots (b := true) (trus (call0_46 (run_full (some s))))) fun _ => nots (b := true) (trus (call0_46 (run_strange46 (w := some s) rfl))))).trans rfl, rfl, hs⟩) fun e he => ?_
  subst he
  refine hr_seq (j := 900) (k := 100) (I := fun e => ∃ tu od bd be wo go no at' on du, e = E46 (some (.scr L)) tu od bd be wo go no at' on du) (HN.mono (hn_for (j := 0) (k := 12) (N := 8) (A := fun _ => True) (.pure (x := (List.range (2 + k)).map fun (i : Nat) => PyData.int (0 + i)) (fun w => by push_cast [e, e2, e3]) ⟨by rw [List.length_map, List.length_range]; omega, fun _ _ => trivial⟩) ⟨_, _, _, _, _, _, _, _, _, _, rfl⟩ fun e d he _ => ?_) (by decide) fun _ h => h) fun e he => ?_
  · obtain ⟨tu, od, bd, be, wo, go, no, at', on, du, rfl⟩ := he
    exact ⟨_, rfl, turn46⟩
  · obtain ⟨tu, od, bd, be, wo, go, no, at', on, du, rfl⟩ := he
    exact hr_ret (.pure (fun w => cst) rfl)
end Dn

set_option maxHeartbeats 4000000
namespace Dn
open PySem PySem.Spec PyProof.Rows L2
structure Facts (K : PySem.W.Frag) (mg : Str → Option Value) : Prop where
  b_any : mg "any" = none
  b_enumerate : mg "enumerate" = none
  b_int : mg "int" = none
  b_isinstance : mg "isinstance" = none
  b_len : mg "len" = none
  b_list : mg "list" = none
  b_max : mg "max" = none
  b_min : mg "min" = none
  b_range : mg "range" = none
  b_repr : mg "repr" = none
  b_str : mg "str" = none
  b_tuple : mg "tuple" = none
  c_AFTER_ALL : GCon K mg "AFTER_ALL" (.tuple [(.int 4)])
  c_DEV : ∃ t, mg "DEV" = some (.str ".dev" t)
  c_FIGURES : ∃ t, mg "FIGURES" = some (.str "0123456789" t)
  c_FIRST : GCon K mg "FIRST" (.tuple [(.int 0), (.int 0)])
  c_LEAST : GCon K mg "LEAST" (.tuple [(.int 0), (.tuple []), (.tuple [(.int 0), (.int 0)])])
  c_MOST_CLAUSES : ∃ t, mg "MOST_CLAUSES" = some (.int 12 t)
  c_MOST_FIGURES : ∃ t, mg "MOST_FIGURES" = some (.int 24 t)
  c_MOST_NUMBER : ∃ t, mg "MOST_NUMBER" = some (.int 1000000000 t)
  c_MOST_NUMBERS_requirements : ∃ t, mg "MOST_NUMBERS_requirements" = some (.int 8 t)
  c_MOST_NUMBERS_versions : ∃ t, mg "MOST_NUMBERS_versions" = some (.int 60 t)
  c_MOST_ROWS : ∃ t, mg "MOST_ROWS" = some (.int 12 t)
  c_POST : ∃ t, mg "POST" = some (.str ".post" t)
  c_SIGNS : GTup K mg "SIGNS" ["==", "!=", "<=", ">=", "<", ">", "~="]
  c_STAR : ∃ t, mg "STAR" = some (.str ".*" t)
  c_WORDS : GTup K mg "WORDS" ["a", "b", "rc"]
  d_number_at : ∃ f fd, FunD K "number_at" "number_at" (defArgs (top 15)) (defBody (top 15)) (defScope (top 15)) [] [] f fd ∧ mg "number_at" = some (.ref f)
  d_numbers_at : ∃ f fd, FunD K "numbers_at" "numbers_at" (defArgs (top 16)) (defBody (top 16)) (defScope (top 16)) [] [] f fd ∧ mg "numbers_at" = some (.ref f)
  d_word_at : ∃ f fd, FunD K "word_at" "word_at" (defArgs (top 17)) (defBody (top 17)) (defScope (top 17)) [] [] f fd ∧ mg "word_at" = some (.ref f)
  d_tail_at : ∃ f fd, FunD K "tail_at" "tail_at" (defArgs (top 18)) (defBody (top 18)) (defScope (top 18)) [] [] f fd ∧ mg "tail_at" = some (.ref f)
  d_parts_of : ∃ f fd, FunD K "parts_of" "parts_of" (defArgs (top 19)) (defBody (top 19)) (defScope (top 19)) [] [] f fd ∧ mg "parts_of" = some (.ref f)
  d_based : ∃ f fd, FunD K "based" "based" (defArgs (top 20)) (defBody (top 20)) (defScope (top 20)) [] [] f fd ∧ mg "based" = some (.ref f)
  d_tail_of : ∃ f fd, FunD K "tail_of" "tail_of" (defArgs (top 21)) (defBody (top 21)) (defScope (top 21)) [] [] f fd ∧ mg "tail_of" = some (.ref f)
  d_split_tail : ∃ f fd, FunD K "split_tail" "split_tail" (defArgs (top 22)) (defBody (top 22)) (defScope (top 22)) [] [] f fd ∧ mg "split_tail" = some (.ref f)
  d_key_from : ∃ f fd, FunD K "key_from" "key_from" (defArgs (top 23)) (defBody (top 23)) (defScope (top 23)) [] [] f fd ∧ mg "key_from" = some (.ref f)
  d_key_of : ∃ f fd, FunD K "key_of" "key_of" (defArgs (top 24)) (defBody (top 24)) (defScope (top 24)) [] [] f fd ∧ mg "key_of" = some (.ref f)
  d_numbers_of : ∃ f fd, FunD K "numbers_of" "numbers_of" (defArgs (top 25)) (defBody (top 25)) (defScope (top 25)) [] [] f fd ∧ mg "numbers_of" = some (.ref f)
  d_following_key : ∃ f fd, FunD K "following_key" "following_key" (defArgs (top 26)) (defBody (top 26)) (defScope (top 26)) [] [] f fd ∧ mg "following_key" = some (.ref f)
  d_is_plain : ∃ f fd, FunD K "is_plain" "is_plain" (defArgs (top 27)) (defBody (top 27)) (defScope (top 27)) [] [] f fd ∧ mg "is_plain" = some (.ref f)
  d_need_key : ∃ f fd, FunD K "need_key" "need_key" (defArgs (top 28)) (defBody (top 28)) (defScope (top 28)) [] [] f fd ∧ mg "need_key" = some (.ref f)
  d_need_version : ∃ f fd, FunD K "need_version" "need_version" (defArgs (top 29)) (defBody (top 29)) (defScope (top 29)) [] [] f fd ∧ mg "need_version" = some (.ref f)
  d_is_small : ∃ f fd, FunD K "is_small" "is_small" (defArgs (top 36)) (defBody (top 36)) (defScope (top 36)) [] [] f fd ∧ mg "is_small" = some (.ref f)
  d_is_clause : ∃ f fd, FunD K "is_clause" "is_clause" (defArgs (top 37)) (defBody (top 37)) (defScope (top 37)) [] [] f fd ∧ mg "is_clause" = some (.ref f)
  d_need_requirement : ∃ f fd, FunD K "need_requirement" "need_requirement" (defArgs (top 38)) (defBody (top 38)) (defScope (top 38)) [] [] f fd ∧ mg "need_requirement" = some (.ref f)
  d_numbers_cuts : ∃ f fd, FunD K "numbers_cuts" "numbers_cuts" (defArgs (top 43)) (defBody (top 43)) (defScope (top 43)) [] [] f fd ∧ mg "numbers_cuts" = some (.ref f)
  d_block_cuts : ∃ f fd, FunD K "block_cuts" "block_cuts" (defArgs (top 44)) (defBody (top 44)) (defScope (top 44)) [] [] f fd ∧ mg "block_cuts" = some (.ref f)
  d_outside : ∃ f fd, FunD K "outside" "outside" (defArgs (top 45)) (defBody (top 45)) (defScope (top 45)) [] [] f fd ∧ mg "outside" = some (.ref f)
  d_bounded_spans : ∃ f fd, FunD K "bounded_spans" "bounded_spans" (defArgs (top 46)) (defBody (top 46)) (defScope (top 46)) [] [] f fd ∧ mg "bounded_spans" = some (.ref f)
  d_clause_spans : ∃ f fd, FunD K "clause_spans" "clause_spans" (defArgs (top 47)) (defBody (top 47)) (defScope (top 47)) [] [] f fd ∧ mg "clause_spans" = some (.ref f)
  d_lesser_end : ∃ f fd, FunD K "lesser_end" "lesser_end" (defArgs (top 48)) (defBody (top 48)) (defScope (top 48)) [] [] f fd ∧ mg "lesser_end" = some (.ref f)
  d_meet : ∃ f fd, FunD K "meet" "meet" (defArgs (top 49)) (defBody (top 49)) (defScope (top 49)) [] [] f fd ∧ mg "meet" = some (.ref f)
  d_spans_of : ∃ f fd, FunD K "spans_of" "spans_of" (defArgs (top 50)) (defBody (top 50)) (defScope (top 50)) [] [] f fd ∧ mg "spans_of" = some (.ref f)
  d_has_key : ∃ f fd, FunD K "has_key" "has_key" (defArgs (top 51)) (defBody (top 51)) (defScope (top 51)) [] [] f fd ∧ mg "has_key" = some (.ref f)
  d_need_rows : ∃ f fd, FunD K "need_rows" "need_rows" (defArgs (top 54)) (defBody (top 54)) (defScope (top 54)) [] [] f fd ∧ mg "need_rows" = some (.ref f)
  d_joined : ∃ f fd, FunD K "joined" "joined" (defArgs (top 55)) (defBody (top 55)) (defScope (top 55)) [] [] f fd ∧ mg "joined" = some (.ref f)
  d_core_of : ∃ f fd, FunD K "core_of" "core_of" (defArgs (top 56)) (defBody (top 56)) (defScope (top 56)) [] [] f fd ∧ mg "core_of" = some (.ref f)
  d_is_open : ∃ f fd, FunD K "is_open" "is_open" (defArgs (top 57)) (defBody (top 57)) (defScope (top 57)) [] [] f fd ∧ mg "is_open" = some (.ref f)
  d_core : ∃ f fd, FunD K "core" "core" (defArgs (top 58)) (defBody (top 58)) (defScope (top 58)) [] [] f fd ∧ mg "core" = some (.ref f)
  d_bars : ∃ f fd, FunD K "bars" "bars" (defArgs (top 59)) (defBody (top 59)) (defScope (top 59)) [] [] f fd ∧ mg "bars" = some (.ref f)
  d__law_mixed : ∃ f fd, FunD K "_law_mixed" "_law_mixed" (defArgs (top 61)) (defBody (top 61)) (defScope (top 61)) [] [] f fd ∧ mg "_law_mixed" = some (.ref f)
  d__law_begin : ∃ f fd, FunD K "_law_begin" "_law_begin" (defArgs (top 62)) (defBody (top 62)) (defScope (top 62)) [] [] f fd ∧ mg "_law_begin" = some (.ref f)
  d__law_draw : ∃ f fd, FunD K "_law_draw" "_law_draw" (defArgs (top 63)) (defBody (top 63)) (defScope (top 63)) [] [] f fd ∧ mg "_law_draw" = some (.ref f)
  d__law_of : ∃ f fd, FunD K "_law_of" "_law_of" (defArgs (top 64)) (defBody (top 64)) (defScope (top 64)) [] [] f fd ∧ mg "_law_of" = some (.ref f)
  d__law_heard : ∃ f fd, FunD K "_law_heard" "_law_heard" (defArgs (top 65)) (defBody (top 65)) (defScope (top 65)) [] [] f fd ∧ mg "_law_heard" = some (.ref f)
  d__law_all : ∃ f fd, FunD K "_law_all" "_law_all" (defArgs (top 66)) (defBody (top 66)) (defScope (top 66)) [] [] f fd ∧ mg "_law_all" = some (.ref f)
  d__law_full_right : ∃ f fd, FunD K "_law_full_right" "_law_full_right" (defArgs (top 67)) (defBody (top 67)) (defScope (top 67)) [] [] f fd ∧ mg "_law_full_right" = some (.ref f)
  d__law_strange_right : ∃ f fd, FunD K "_law_strange_right" "_law_strange_right" (defArgs (top 68)) (defBody (top 68)) (defScope (top 68)) [] [] f fd ∧ mg "_law_strange_right" = some (.ref f)
  d_law : ∃ f fd, FunD K "law" "law" (defArgs (top 69)) (defBody (top 69)) (defScope (top 69)) [] [] f fd ∧ mg "law" = some (.ref f)
  xs : XFs K mg [("PickError" : Str), ("BadVersion" : Str), ("BadRequirement" : Str), ("BadReleases" : Str), ("BadText" : Str), ("BadQuestion" : Str)]
  xt__law_heard : ∀ c ∈ [("PickError" : Str), ("BadVersion" : Str), ("BadRequirement" : Str), ("BadReleases" : Str), ("BadText" : Str), ("BadQuestion" : Str)], PySem.W.exmAny K (.ref (He.ga K c)) [.ref (He.ga K "PickError"), .ref (He.ga K "Missing")] = some true
  dg : digB K = true
  xm_Missing : mg "Missing" = some (.ref (He.ga K "Missing")) ∧ ∀ n ∈ [("PickError" : Str), ("BadVersion" : Str), ("BadRequirement" : Str), ("BadReleases" : Str), ("BadText" : Str), ("BadQuestion" : Str)], PySem.W.kitOne K (.ref (He.ga K n)) (.ref (He.ga K "Missing")) = some false
  x0_BadQuestion : X0 K mg "BadQuestion"
  x0_BadVersion : X0 K mg "BadVersion"
  o_BadRequirement : X1 K mg "BadRequirement"
  n_BadRequirement : ∃ fd, FunD K "__init__" "BadRequirement.__init__" (defArgs (clsMeth (top 3) 0)) (defBody (clsMeth (top 3) 0)) (defScope (clsMeth (top 3) 0)) [] [] (He.ma K (He.ga K "BadRequirement") "__init__") fd
structure FactsL (K : PySem.W.Frag) (mg : Str → Option Value) (base : Heap) : Prop where
  l__law_all : LamFs K mg base "_law_all" (lamQof "_law_all")
section
variable {P : Program} {w : World} {K : PySem.W.Frag} {mg : Str → Option Value} {base : Heap}
theorem sc__law_mixed0 : FnScope [("cell" : Str), ("k" : Str)] [("cell" : Str), ("k" : Str)] (defScope (top 61)) := ⟨rfl, rfl, rfl, by decide +kernel, rfl, by decide +kernel, by decide +kernel⟩
theorem mixed_ok (T : Facts K mg) : ∃ f fd, FnOk P w K mg base CX0 1 f fd [("cell" : Str), ("k" : Str)] spMixed ∧ mg "_law_mixed" = some (.ref f) ∧ PySem.W.keepIn K (.ref f) = true ∧ Binds K fd [("cell" : Str), ("k" : Str)] [] := by
  obtain ⟨f, fd, F, hf⟩ := T.d__law_mixed
  refine ⟨f, fd, ?_, hf, F.kp, F.bindsN fun _ _ _ _ _ _ us hl => match us, hl with | [_, _], _ => rfl⟩
  refine F.ok (k := 0) sc__law_mixed0 (fun vs H Q E h => ?_) (fun cdv A outer s H vs Q E hr h => ⟨_, PSs.nox (pss_cons (ps_set (i := 0) sc__law_mixed0.nd rfl (Or.inl rfl) (pe_op op_mod (pe_callTy call_int1 rfl T.b_int (by decide +kernel) (pa_cons (pv 0) pa_nil)) pe_int))
      (pss_one (ps_ret (pe_op op_mod (pe_op op_mul (pe_op op_mod (pe_op op_add (pe_op op_add (pe_op op_mul (pv 0) (pe_op op_add pe_int (pe_op op_mul (pe_op op_mul pe_int (pv 1)) (pv 1)))) (pe_op op_mul pe_int (pv 1))) pe_int) pe_int) pe_int) pe_int)))), ?_⟩)
  · obtain ⟨c, k, rfl, _⟩ := h
    rfl
  · obtain ⟨c, k, rfl, h0, h1, q⟩ := h
    have c0 : 0 ≤ c % 2147483647 := Int.emod_nonneg _ (by decide)
    have c1 : c % 2147483647 < 2147483647 := Int.emod_lt_of_pos _ (by decide)
    have e0 : 0 ≤ ((c % 2147483647) * (48271 + 2 * k * k) + 69621 * k + 11) % 2147483647 := Int.emod_nonneg _ (by decide)
    have e1 : ((c % 2147483647) * (48271 + 2 * k * k) + 69621 * k + 11) % 2147483647 < 2147483647 := Int.emod_lt_of_pos _ (by decide)
    refine ⟨_, rfl, .inl ⟨c, rfl, _, _, rfl, rfl, (by show (0 : Int) < 2147483647; decide), ?_⟩⟩
    refine ⟨_, rfl, _, rfl, _, _, rfl, rfl, .inl (by decide), _, rfl, _, _, rfl, rfl, .inr ⟨by omega, by omega⟩, _, _, rfl, rfl, _, _, rfl, rfl, .inl ⟨by omega, by omega⟩, _, rfl, _, _, rfl, rfl, .inl (by decide), _, _, rfl, rfl, _, _, rfl, rfl, _, _, rfl, rfl, (by show (0 : Int) < 2147483647; decide), _, _, rfl, rfl, .inr (by decide), _, _, rfl, rfl, (by show (0 : Int) < 2147483629; decide), q⟩
theorem sc__law_draw : FnScope [("state" : Str), ("many" : Str), ("at" : Str), ("place" : Str), ("left" : Str), ("number" : Str)] [("state" : Str), ("many" : Str)] (defScope (top 63)) := ⟨rfl, rfl, rfl, by decide +kernel, rfl, by decide +kernel, by decide +kernel⟩
theorem F__law_draw (T : Facts K mg) : Fn P w K mg base 2 "_law_draw" m__law_draw := by
  obtain ⟨fm, fdm, GM, hm, kpM, bM⟩ := mixed_ok (P := P) (w := w) (base := base) T
  obtain ⟨f, fd, F, hf⟩ := T.d__law_draw
  refine ⟨f, fd, [("state" : Str), ("many" : Str)], ?_, hf, F.kp, F.bindsN fun _ _ _ _ _ _ us hl => match us, hl with | [_, _], _ => rfl⟩
  refine F.ok (k := 1) sc__law_draw (fun vs H Q E h => ?_) (fun cdv A outer s H vs Q E hr h => ⟨_, PSs.nox (
      pss_cons (ps_set (i := 2) sc__law_draw.nd rfl (Or.inl rfl) (pe_dget (hu_of hr) (pv 0) pe_str (fun _ _ => rfl)))
      (pss_cons (ps_dput (hu_of hr) (pv 0) pe_str (pe_op op_add (pv 2) pe_int) rfl)
      (pss_cons (ps_set (i := 3) sc__law_draw.nd rfl (Or.inl rfl) (pe_op op_mod (pe_callTy call_int1 rfl T.b_int (by decide +kernel) (pa_cons (pv 2) pa_nil)) (pe_callB call_len_seq rfl T.b_len PySem.boot_len (pa_cons (pe_dget (hu_of hr) (pv 0) pe_str (fun _ _ => rfl)) pa_nil))))
      (pss_cons (ps_set (i := 4) sc__law_draw.nd rfl (Or.inl rfl) (pe_ix ix_list (pe_dget (hu_of hr) (pv 0) pe_str (fun _ _ => rfl)) (pv 3) (fun _ _ => rfl)))
      (pss_cons (ps_if (pt_cmpR op_gt (pv 4) pe_int (nomark _)) (pss_cons (ps_asg (pe_op op_fdiv (pv 4) (pv 1)) (pg_sub (pe_dget (hu_of hr) (pv 0) pe_str (fun _ _ => rfl)) (pv 3) set_list)) (pss_one (ps_ret (pe_op op_mod (pe_callTy call_int1 rfl T.b_int (by decide +kernel) (pa_cons (pv 4) pa_nil)) (pv 1))))) pss_nil)
      (pss_cons (ps_set (i := 5) sc__law_draw.nd rfl (Or.inl rfl) (pe_call GM hr rfl hm kpM bM .nil pass0 (pa_cons (pe_call GM hr rfl hm kpM bM .nil pass0 (pa_cons (pe_ix ix_list (pe_dget (hu_of hr) (pv 0) pe_str (fun _ _ => rfl)) (pv 3) (fun _ _ => rfl)) (pa_cons (pv 2) pa_nil))) (pa_cons (pe_op op_add pe_int (pv 2)) pa_nil))))
      (pss_one (ps_ret (pe_op op_mod (pe_op op_fdiv (pe_callTy call_int1 rfl T.b_int (by decide +kernel) (pa_cons (pe_op op_add (pe_op op_mul (pv 5) pe_int) (pe_call GM hr rfl hm kpM bM .nil pass0 (pa_cons (pv 5) (pa_cons (pe_op op_add pe_int (pv 2)) pa_nil)))) pa_nil)) pe_int) (pv 1)))))))))), ?_⟩)
  · obtain ⟨G, ad, w, as, r, w', _, _, _, a, hm, _⟩ := h
    have hl : as.length = 2 := by
      unfold m__law_draw at hm
      split at hm
      · rfl
      · cases hm
    rw [← a.length]; exact hl
  · obtain ⟨G, ad, w, as, r, w', sg, st, tb, a, hm, k⟩ := h
    unfold m__law_draw at hm
    split at hm
    · rename_i many sd
      split at hm
      · rename_i hc
        cases hm
        obtain ⟨ok, m1, m2⟩ := hc
        have S := st sd rfl
        cases a with
        | cons a1 ar =>
        cases ar with
        | cons a2 ar =>
        cases ar
        obtain ⟨_, rfl⟩ := a1
        cases a2
        have hlt := DS.at_lt ok
        have hl : (0 : Int) < sd.cells.length := by have := List.length_pos_iff.mpr ok.ne; omega
        have p0 := ok.p0
        have p1 := ok.p1
        have nsl : ad.sa ≠ ad.la := ne_of S.sa S.la (by intro z; cases z)
        have nsc : ad.sa ≠ ad.ca := ne_of S.sa S.ca (by intro z; cases z)
        have pe : sd.pos % ((sd.cells.length : Nat) : Int) = ((sd.at_ : Nat) : Int) := by
          have h1 := Int.emod_nonneg sd.pos (show (sd.cells.length : Int) ≠ 0 by omega)
          unfold DS.at_
          omega
        -- at = state['at']; state['at'] = at + 1
        refine ⟨_, rfl, ad.sa, .int sd.pos, rfl, (by have := DGet.k (k := kAt) S.sa; rw [valAt] at this; exact this), ?_⟩
        refine ⟨_, rfl, _, _, rfl, rfl, _, rfl, ad.sa, _, rfl, DPut.k (k := kAt) S.sa (by show 4 < sizeLine; decide), ?_⟩
        rw [putAt]
        have hsa : (upd H ad.sa (.dK [(kCells, .ref ad.ca), (kLefts, .ref ad.la), (kAt, .int (sd.pos + 1)), (kRoom, .int sd.room)])) ad.sa = some (.dK [(kCells, .ref ad.ca), (kLefts, .ref ad.la), (kAt, .int (sd.pos + 1)), (kRoom, .int sd.room)]) := upd_same
        have hla : (upd H ad.sa (.dK [(kCells, .ref ad.ca), (kLefts, .ref ad.la), (kAt, .int (sd.pos + 1)), (kRoom, .int sd.room)])) ad.la = some (.lst (sd.lefts.map V.int)) := by rw [upd_ne nsl.symm]; exact S.la
        have hca : (upd H ad.sa (.dK [(kCells, .ref ad.ca), (kLefts, .ref ad.la), (kAt, .int (sd.pos + 1)), (kRoom, .int sd.room)])) ad.ca = some (.lst (sd.cells.map V.int)) := by rw [upd_ne nsc.symm]; exact S.ca
        -- place, left
        refine ⟨_, rfl, .inl ⟨sd.pos, rfl, _, rfl, ad.sa, .ref ad.ca, rfl, (by have := DGet.k (k := kCells) hsa; rw [valCells] at this; exact this), ad.ca, _, rfl, .inl (SqL.of hca), _, _, rfl, rfl, (by rw [List.length_map]; exact hl), ?_⟩⟩
        have pe' : sd.pos % (((sd.cells.map V.int).length : Nat) : Int) = ((sd.at_ : Nat) : Int) := by rw [List.length_map]; exact pe
        have hll : sd.at_ < sd.lefts.length := by rw [ok.ln]; exact hlt
        refine ⟨_, rfl, ad.sa, .ref ad.la, rfl, (by have := DGet.k (k := kLefts) hsa; rw [valLefts] at this; exact this), _, rfl, ad.la, _, _, .int sd.left, rfl, rfl, SqL.of hla, atI_int hll pe', ?_⟩
        refine ⟨_, rfl, _, _, rfl, rfl, _, rfl, ?_⟩
        have gh' : ∀ (H1 : Hp), (∀ b o, H b = some o → b ≠ ad.sa → b ≠ ad.la → H1 b = some o) → Same G H1 := fun H1 kp b o e =>
          kp b o (sg b o e) (fun z => by rw [z, S.gs] at e; cases e) (fun z => by rw [z, S.gl] at e; cases e)
        refine ite2 (fun hpos => ?_) (fun hneg => ?_)
        · -- the digits of a great cell
          have hp : 0 < sd.left := of_decide_eq_true hpos
          refine ⟨_, rfl, _, rfl, _, _, rfl, rfl, ⟨m1, m2⟩, _, rfl, ad.sa, .ref ad.la, rfl, (by have := DGet.k (k := kLefts) hsa; rw [valLefts] at this; exact this), _, rfl, ad.la, _, _, sd.at_, rfl, rfl, hla, (by rw [pe', List.length_map]; unfold ixN; rw [if_pos (by omega), if_pos (by omega)]; rfl), ?_⟩
          refine ⟨_, rfl, .inl ⟨sd.left, rfl, _, rfl, _, _, rfl, rfl, m1, ?_⟩⟩
          have ev : sd.val many = sd.left % many := by unfold DS.val; rw [if_pos hp]
          have en : sd.next many = { sd with lefts := sd.lefts.set sd.at_ (sd.left / many), pos := sd.pos + 1 } := by unfold DS.next; rw [if_pos hp]
          rw [ev, en] at k
          refine k _ G _ (Same.refl G) (gh' _ fun b o e h1 h2 => by rw [upd_ne h2, upd_ne h1]; exact e) (fun b o e nm => ?_) (fun _ _ _ => rfl) rfl (fun s e => ?_) ((tb.hobj S.sa (fun _ z => by cases z) (fun _ z => by cases z)).hobj hla (fun _ z => by cases z) (fun _ z => by cases z)) (.int _)
          · rw [upd_ne (fun z => nm (.inl ⟨rfl, .inr z⟩)), upd_ne (fun z => nm (.inl ⟨rfl, .inl z⟩))]; exact e
          · cases e
            refine ⟨by rw [upd_ne nsl]; exact hsa, by rw [upd_same, List.map_set], by rw [upd_ne S.ne]; exact hca, S.gs, S.gl, S.gc, S.ne, S.tk⟩
        · have hp : ¬ 0 < sd.left := fun z => hneg (decide_eq_true z)
          have n0 := mixed_nn (mixed sd.cell sd.pos) (40 + sd.pos)
          have n1 := mixed_lt (mixed sd.cell sd.pos) (40 + sd.pos)
          refine ⟨_, rfl, ad.sa, .ref ad.ca, rfl, (by have := DGet.k (k := kCells) hsa; rw [valCells] at this; exact this), _, rfl, ad.ca, _, _, .int sd.cell, rfl, rfl, SqL.of hca, atI_int hlt pe', _, rfl, sd.cell, sd.pos, rfl, p0, by omega, _, rfl, _, _, rfl, rfl, mixed sd.cell sd.pos, 40 + sd.pos, rfl, by omega, by omega, ?_⟩
          refine ⟨_, rfl, _, _, rfl, rfl, .inr (by decide), _, rfl, _, rfl, _, _, rfl, rfl, mixed (mixed sd.cell sd.pos) (40 + sd.pos), 7 + sd.pos, rfl, by omega, by omega, _, _, rfl, rfl, .inl ⟨_, rfl, _, _, rfl, rfl, ⟨by decide, by decide⟩, _, rfl, _, _, rfl, rfl, m1, ?_⟩⟩
          have ev : sd.val many = (sd.num * 2147483647 + mixed sd.num (7 + sd.pos)) / 64 % many := by unfold DS.val; rw [if_neg hp]
          have en : sd.next many = { sd with pos := sd.pos + 1 } := by unfold DS.next; rw [if_neg hp]
          rw [ev, en] at k
          refine k _ G _ (Same.refl G) (gh' _ fun b o e h1 h2 => by rw [upd_ne h1]; exact e) (fun b o e nm => ?_) (fun _ _ _ => rfl) rfl (fun s e => ?_) (tb.hobj S.sa (fun _ z => by cases z) (fun _ z => by cases z)) (.int _)
          · rw [upd_ne (fun z => nm (.inl ⟨rfl, .inl z⟩))]; exact e
          · cases e
            exact ⟨hsa, hla, hca, S.gs, S.gl, S.gc, S.ne, S.tk⟩
      · cases hm
    · cases hm
theorem sc__law_begin : FnScope [("script" : Str), ("cells" : Str), ("cell" : Str)] [("script" : Str)] (defScope (top 62)) := ⟨rfl, rfl, rfl, by decide +kernel, rfl, by decide +kernel, by decide +kernel⟩
theorem begin_row (T : Facts K mg) : ∃ f fd, FnOk P w K mg base CX0 1 f fd [("script" : Str)] (spBegin K) ∧ mg "_law_begin" = some (.ref f) ∧ PySem.W.keepIn K (.ref f) = true ∧ Binds K fd [("script" : Str)] [] := by
  obtain ⟨f, fd, F, hf⟩ := T.d__law_begin
  refine ⟨f, fd, ?_, hf, F.kp, F.bindsN fun _ _ _ _ _ _ us hl => match us, hl with | [_], _ => rfl⟩
  refine F.ok (k := 0) sc__law_begin (fun vs H Q E h => ?_) (fun cdv A outer s H vs Q E hr h => ⟨_, PSs.nox (
      pss_cons (ps_set (i := 1) sc__law_begin.nd rfl (Or.inl rfl) (pe_ifExp (pt_cmpR (op_neP hr.units) (pv 0) (pe_lst pa_nil) (nomark _)) (pe_callTy call_list_of rfl T.b_list (by decide +kernel) (pa_cons (pv 0) pa_nil)) (pe_lst (pa_cons pe_int pa_nil))))
      (pss_one (ps_ret (pe_disp (pps_cons pe_str (pv 1) (pps_cons pe_str (pe_lc (own := [("cell", 2)]) (g := gName 2) (tt := tYes) rfl sc__law_begin.nd (pi_list (pv 1)) (blkOk_by (N := [("script" : Str), ("cells" : Str), ("cell" : Str)]) (sc := defScope (top 62)) (own := [("cell", 2)]) (by decide +kernel)) (fun _ _ _ _ _ => pg_name (i := 2) sc__law_begin.nd rfl (Or.inl rfl)) (fun _ _ _ _ _ => pts_nil)
          (fun _ _ _ _ _ => pe_ifExp (pt_cmpR op_ge (pv 2) (pe_op op_pow pe_int pe_int) (nomark _)) (pv 2) pe_int)) (pps_cons pe_str pe_int (pps_cons pe_str pe_int pps_nil)))) (by rfl) (by rfl) (fun z => by cases z) (by decide))))), ?_⟩)
  · obtain ⟨a, ns, rfl, _⟩ := h
    rfl
  · obtain ⟨a, ns, rfl, hS, hlen, k⟩ := h
    -- the rest, once the cells stand at c
    have rest : ∀ (c : Addr) (H1 : Hp), Same H H1 → H c = none → H1 c = some (.lst ((beginCells ns).map V.int)) →
        tRet (tDisp [(tC (.str "cells"), tVar 1), (tC (.str "lefts"), tLc (iList K (tVar 1)) (gName 2) tYes (tIf (tTest (tOp (rI0 fun i j => .bl (decide (j ≤ i))) (tVar 2) (tOp (rI CPow fun i j => .int (i ^ j.toNat)) (tC (.int 10)) (tC (.int 18))))) (tVar 2) (tC (.int 0))) [2]), (tC (.str "at"), tC (.int 0)), (tC (.str "room"), tC (.int 0))])
          { nx := fun _ H' => Q .non H', rt := Q } [some (.ref a), some (.ref c), none] H1 := by
      intro c H1 s1 hc0 hc
      intro p hp
      have npc : p ≠ c := fun z => by rw [z, hc] at hp; cases hp
      have hc2 : (upd H1 p (.dK [])) c = some (.lst ((beginCells ns).map V.int)) := by rw [upd_ne npc.symm]; exact hc
      refine ⟨_, rfl, _, rfl, c, rfl, ⟨_, SqL.of hc2⟩, fun D hD => ?_⟩
      have nDp : D ≠ p := fun z => by rw [z, upd_same] at hD; cases hD
      have nDc : D ≠ c := fun z => by rw [z, hc2] at hD; cases hD
      have hD1 : H1 D = none := by rw [upd_ne nDp] at hD; exact hD
      refine lc_list (K := K) (a := c) (xs := (beginCells ns).map V.int) (fun i H2 => H2 = upd (upd H1 p (.dK [])) D (.lst ((((beginCells ns).take i).map fun c => if 1000000000000000000 ≤ c then c else 0).map V.int))) ?_ ?_ ?_ ?_
      · simp
      · rintro i H2 _ rfl
        exact SqL.of (by rw [upd_ne nDc.symm]; exact hc2)
      · rintro i x H2 hx rfl
        have hi : i < (beginCells ns).length := by
          have := (List.getElem?_eq_some_iff.mp hx).1
          rwa [List.length_map] at this
        rw [List.getElem?_map, List.getElem?_eq_getElem hi] at hx
        cases hx
        refine ⟨rfl, ?_⟩
        dsimp only [tYes]
        rw [if_pos rfl]
        refine ⟨_, rfl, _, _, rfl, rfl, ⟨by decide, by decide, by decide⟩, _, _, rfl, rfl, _, rfl, ?_⟩
        have hz : (((beginCells ns).take i).map fun c => if 1000000000000000000 ≤ c then c else 0).length < sizeLine := by
          have e : (beginCells ns).length ≤ 64 := by
            unfold beginCells
            split
            · simp
            · omega
          rw [List.length_map, List.length_take, sizeLine_eq]
          omega
        have fin : ∀ y : Int, y = (if 1000000000000000000 ≤ (beginCells ns)[i] then (beginCells ns)[i] else 0) → upd (upd (upd H1 p (.dK [])) D (.lst ((((beginCells ns).take i).map fun c => if 1000000000000000000 ≤ c then c else 0).map V.int))) D (.lst ((((beginCells ns).take i).map fun c => if 1000000000000000000 ≤ c then c else 0).map V.int ++ [.int y])) = upd (upd H1 p (.dK [])) D (.lst ((((beginCells ns).take (i + 1)).map fun c => if 1000000000000000000 ≤ c then c else 0).map V.int)) := fun y e => by
          rw [upd_upd, List.take_succ_eq_append_getElem hi, e, List.map_append, List.map_append]
          rfl
        refine ite2 (fun hb => ?_) (fun hb => ?_)
        · have hb' : (10 : Int) ^ (18 : Int).toNat ≤ (beginCells ns)[i] := of_decide_eq_true hb
          have e18 : (10 : Int) ^ (18 : Int).toNat = 1000000000000000000 := by decide
          rw [e18] at hb'
          exact ⟨_, rfl, _, upd_same, by rw [List.length_map]; exact hz, fin _ (by rw [if_pos hb'])⟩
        · have hb' : ¬ (10 : Int) ^ (18 : Int).toNat ≤ (beginCells ns)[i] := fun z => hb (decide_eq_true z)
          have e18 : (10 : Int) ^ (18 : Int).toNat = 1000000000000000000 := by decide
          rw [e18] at hb'
          exact ⟨_, upd_same, by rw [List.length_map]; exact hz, fin _ (by rw [if_neg hb'])⟩
      · rintro H2 rfl
        refine ⟨?_, [(kCells, .ref c), (kLefts, .ref D), (kAt, .int 0), (kRoom, .int 0)], rfl, by show 4 ≤ 15; decide, ?_⟩
        · rw [upd_ne nDp.symm, upd_same]
        · rw [merge4]
          refine k ⟨p, c, D, []⟩ _ (fun b o e => ?_) (s1.free hp) hc0 (s1.free hD1) nDc.symm upd_same ?_ ?_
          · rw [upd_ne (ne_of_none e (s1.free hp)), upd_ne (ne_of_none e (s1.free hD1)), upd_ne (ne_of_none e (s1.free hp))]
            exact s1 b o e
          · show upd (upd _ D _) p _ D = _
            rw [upd_ne nDp, upd_same, List.length_map, List.take_length]
            rfl
          · show upd (upd _ D _) p _ c = _
            rw [upd_ne npc.symm, upd_ne nDc.symm, upd_ne npc.symm]
            exact hc
    refine ⟨_, rfl, (by show 0 ≤ sizeLine; decide), fun e he => ?_⟩
    have se : Same H (upd H e (.lst [])) := same_upd he
    refine ⟨.list (ns.map .int), .list [], .lst (se.seq hS) (dpAll_ints ns), .lst (SqL.of upd_same) .nil, by simpa [PyData.plain] using plain_ints ns, by simp [PyData.plain, PyData.plainAll], by rfl, _, rfl, ?_⟩
    by_cases hns : ns = []
    · subst hns
      refine iteF ?_
      refine ⟨(by show 1 ≤ sizeLine; decide), fun c hc => ?_⟩
      have hce : c ≠ e := fun z => by rw [z, upd_same] at hc; cases hc
      exact rest c _ (se.trans (same_upd hc)) (se.free hc) (by rw [upd_same]; rfl)
    · have ev : (!PyData.eqv (.list (ns.map .int)) (.list [])) = true := by
        cases ns with
        | nil => exact absurd rfl hns
        | cons n r => simp [PyData.eqv, PyData.eqvAll]
      rw [ev]
      refine iteT ?_
      refine ⟨_, rfl, a, _, rfl, .inl (se.seq hS), fun c hc => ?_⟩
      exact rest c _ (se.trans (same_upd hc)) (se.free hc) (by rw [upd_same]; unfold beginCells; rw [if_neg hns])
theorem sc_number_at : FnScope [("text" : Str), ("at" : Str), ("behind" : Str), ("figures" : Str)] [("text" : Str), ("at" : Str)] (defScope (top 15)) := ⟨rfl, rfl, rfl, by decide +kernel, rfl, by decide +kernel, by decide +kernel⟩
theorem F_number_at (T : Facts K mg) : Fn P w K mg base 1 "number_at" m_number_at := by
  obtain ⟨f, fd, F, hf⟩ := T.d_number_at
  show Fn P w K mg base 1 "number_at" (mFn 2 4 b_number_at)
  refine ⟨f, fd, [("text" : Str), ("at" : Str)], fn_ok (k := 0) (m := b_number_at) rfl rfl F sc_number_at fun cdv A outer s H E hr => ?_, hf, F.kp, F.bindsN fun _ _ _ _ _ _ us hl => match us, hl with | [_, _], _ => rfl⟩
  have hu := hr.units
  exact (dss_cons (ds_set (ps_set (i := 2) sc_number_at.nd rfl (by first | exact Or.inl rfl | exact Or.inr rfl) (de_var (pv 1))))
 (dss_cons (ds_while (n := fuel) (ps_while PassesOwn.never (DW.dt (dw_and (dt_cmp (od_ne hu) (de_sl (de_var (pv 0)) (dpo_some (de_var (pv 2))) (dpo_some (de_op od_add (de_var (pv 2)) de_int))) de_str (nomark _)) (dw_and1 (dt_cmp (od_in hu) (de_ix (de_var (pv 0)) (de_var (pv 2))) (de_gstr T.c_FIGURES) rfl)))) (dss_one (ds_aug oi_addI (ps_aug (i := 2) sc_number_at.nd rfl (by first | exact Or.inl rfl | exact Or.inr rfl) de_int op_sem)))))
 (dss_cons (ds_set (ps_set (i := 3) sc_number_at.nd rfl (by first | exact Or.inl rfl | exact Or.inr rfl) (de_sl (de_var (pv 0)) (dpo_some (de_var (pv 1))) (dpo_some (de_var (pv 2))))))
 (dss_cons (ds_if (ps_if (DW.dt (dw_or (dt_cmp (od_eq hu) (de_var (pv 3)) de_str (nomark _)) (dw_or (dt_cmp od_gtI (de_callB cd_len T.b_len (by decide +kernel) (da_cons (de_var (pv 3)) da_nil)) (de_gint T.c_MOST_FIGURES) (nomark _)) (dw_or1 (DW.dt (dw_and (dt_cmp (od_eq hu) (de_ix (de_var (pv 3)) de_int) de_str (nomark _)) (dw_and1 (dt_cmp (od_ne hu) (de_var (pv 3)) de_str (nomark _))))))))) (dss_one (ds_ret (ps_ret de_non))) dss_nil))
 (dss_one (ds_ret (ps_ret (de_tup (pe_tup (da_cons (de_callTy cd_int T.b_int (by decide +kernel) (da_cons (de_var (pv 3)) da_nil)) (da_cons (de_var (pv 2)) da_nil)))))))))))
theorem sc_numbers_at : FnScope [("text" : Str), ("at" : Str), ("found" : Str), ("place" : Str), ("told" : Str)] [("text" : Str), ("at" : Str)] (defScope (top 16)) := ⟨rfl, rfl, rfl, by decide +kernel, rfl, by decide +kernel, by decide +kernel⟩
theorem F_numbers_at (T : Facts K mg) : Fn P w K mg base 2 "numbers_at" m_numbers_at := by
  have F_number_at := F_number_at (P := P) (w := w) (base := base) T
  obtain ⟨f, fd, F, hf⟩ := T.d_numbers_at
  show Fn P w K mg base 2 "numbers_at" (mFn 2 5 b_numbers_at)
  refine ⟨f, fd, [("text" : Str), ("at" : Str)], fn_ok (k := 1) (m := b_numbers_at) rfl rfl F sc_numbers_at fun cdv A outer s H E hr => ?_, hf, F.kp, F.bindsN fun _ _ _ _ _ _ us hl => match us, hl with | [_, _], _ => rfl⟩
  have hu := hr.units
  exact (dss_cons (ds_parO (ps_par (i := 2) (j := 3) rfl sc_numbers_at.nd rfl rfl (by decide) rfl rfl (pa_cons (do_lst (pe_lst da_nil)) (pa_cons (de_var (pv 1)) pa_nil)) rfl))
 (dss_one (ds_while (n := fuel) (ps_while PassesOwn.never (dt_val de_bl) (dss_cons (ds_set (ps_set (i := 4) sc_numbers_at.nd rfl (by first | exact Or.inl rfl | exact Or.inr rfl) (de_call F_number_at hr (by decide) (da_cons (de_var (pv 0)) (da_cons (de_var (pv 3)) da_nil)))))
 (dss_cons (ds_if (ps_if (dt_cmp od_is (de_var (pv 4)) de_non (nomark _)) (dss_one (ds_ret (ps_ret de_non))) dss_nil))
 (dss_cons (ds_append (ps_expr (pe_bm PySem.F.plainAttrs_list PySem.F.slot_list_append PySem.F.type_list_append mt_append (pv 2) (pa_cons (de_ix (de_var (pv 4)) de_int) pa_nil))))
 (dss_cons (ds_set (ps_set (i := 3) sc_numbers_at.nd rfl (by first | exact Or.inl rfl | exact Or.inr rfl) (de_ix (de_var (pv 4)) de_int)))
 (dss_cons (ds_if (ps_if (DW.dt (dw_or (dt_cmp (od_ne hu) (de_sl (de_var (pv 0)) (dpo_some (de_var (pv 3))) (dpo_some (de_op od_add (de_var (pv 3)) de_int))) de_str (nomark _)) (dw_or1 (dt_cmp (od_notIn hu) (de_sl (de_var (pv 0)) (dpo_some (de_op od_add (de_var (pv 3)) de_int)) (dpo_some (de_op od_add (de_var (pv 3)) de_int))) (de_callTy (cd_tupStr rfl) T.b_tuple (by decide +kernel) (da_cons (de_gstr T.c_FIGURES) da_nil)) rfl)))) (dss_one (ds_ret (ps_ret (de_if (dt_cmp od_leI (de_pklen T.b_len (pv 2)) (de_gint T.c_MOST_NUMBERS_versions) (nomark _)) (de_tup (pe_tup (da_cons (de_callTy cd_tuple T.b_tuple (by decide +kernel) (da_cons (de_var (pv 2)) da_nil)) (da_cons (de_var (pv 3)) da_nil)))) de_non)))) dss_nil))
 (dss_one (ds_aug oi_addI (ps_aug (i := 3) sc_numbers_at.nd rfl (by first | exact Or.inl rfl | exact Or.inr rfl) de_int op_sem))))))))))))
theorem sc_word_at : FnScope [("text" : Str), ("at" : Str), ("words" : Str), ("word" : Str), ("told" : Str)] [("text" : Str), ("at" : Str), ("words" : Str)] (defScope (top 17)) := ⟨rfl, rfl, rfl, by decide +kernel, rfl, by decide +kernel, by decide +kernel⟩
theorem F_word_at (T : Facts K mg) : Fn P w K mg base 2 "word_at" m_word_at := by
  have F_number_at := F_number_at (P := P) (w := w) (base := base) T
  obtain ⟨f, fd, F, hf⟩ := T.d_word_at
  show Fn P w K mg base 2 "word_at" (mFn 3 5 b_word_at)
  refine ⟨f, fd, [("text" : Str), ("at" : Str), ("words" : Str)], fn_ok (k := 1) (m := b_word_at) rfl rfl F sc_word_at fun cdv A outer s H E hr => ?_, hf, F.kp, F.bindsN fun _ _ _ _ _ _ us hl => match us, hl with | [_, _, _], _ => rfl⟩
  have hu := hr.units
  exact (dss_cons (ds_for (vs := [3]) (ps_for PassesOwn.never rfl (di_seq (de_var (pv 2))) (dg_name (pg_name (i := 3) sc_word_at.nd rfl (by first | exact Or.inl rfl | exact Or.inr rfl))) (dss_one (ds_if (ps_if (dt_val (de_mtS PySem.F.slot_str_startswith PySem.F.type_str_startswith md_starts2 (de_var (pv 0)) (da_cons (de_var (pv 3)) (da_cons (de_var (pv 1)) da_nil)))) (dss_cons (ds_set (ps_set (i := 4) sc_word_at.nd rfl (by first | exact Or.inl rfl | exact Or.inr rfl) (de_call F_number_at hr (by decide) (da_cons (de_var (pv 0)) (da_cons (de_op od_add (de_var (pv 1)) (de_callB cd_len T.b_len (by decide +kernel) (da_cons (de_var (pv 3)) da_nil))) da_nil)))))
 (dss_one (ds_ret (ps_ret (de_if (dt_cmp od_is (de_var (pv 4)) de_non (nomark _)) de_non (de_tup (pe_tup (da_cons (de_tup (pe_tup (da_cons (de_var (pv 3)) (da_cons (de_ix (de_var (pv 4)) de_int) da_nil)))) (da_cons (de_ix (de_var (pv 4)) de_int) da_nil))))))))) dss_nil)))))
 (dss_one (ds_ret (ps_ret (de_tup (pe_tup (da_cons de_non (da_cons (de_var (pv 1)) da_nil))))))))
theorem sc_tail_at : FnScope [("text" : Str), ("at" : Str), ("found" : Str), ("place" : Str), ("words" : Str), ("told" : Str), ("ahead" : Str), ("post" : Str), ("dev" : Str)] [("text" : Str), ("at" : Str)] (defScope (top 18)) := ⟨rfl, rfl, rfl, by decide +kernel, rfl, by decide +kernel, by decide +kernel⟩
theorem F_tail_at (T : Facts K mg) : Fn P w K mg base 3 "tail_at" m_tail_at := by
  have F_word_at := F_word_at (P := P) (w := w) (base := base) T
  obtain ⟨f, fd, F, hf⟩ := T.d_tail_at
  show Fn P w K mg base 3 "tail_at" (mFn 2 9 b_tail_at)
  refine ⟨f, fd, [("text" : Str), ("at" : Str)], fn_ok (k := 2) (m := b_tail_at) rfl rfl F sc_tail_at fun cdv A outer s H E hr => ?_, hf, F.kp, F.bindsN fun _ _ _ _ _ _ us hl => match us, hl with | [_, _], _ => rfl⟩
  have hu := hr.units
  exact (dss_cons (ds_parO (ps_par (i := 2) (j := 3) rfl sc_tail_at.nd rfl rfl (by decide) rfl rfl (pa_cons (do_lst (pe_lst da_nil)) (pa_cons (de_var (pv 1)) pa_nil)) rfl))
 (dss_cons (ds_for (vs := [4]) (ps_for PassesOwn.never rfl (di_seq (de_tup (pe_tup (da_cons (de_gtup T.c_WORDS) (da_cons (de_tup (pe_tup (da_cons (de_gstr T.c_POST) da_nil))) (da_cons (de_tup (pe_tup (da_cons (de_gstr T.c_DEV) da_nil))) da_nil)))))) (dg_name (pg_name (i := 4) sc_tail_at.nd rfl (by first | exact Or.inl rfl | exact Or.inr rfl))) (dss_cons (ds_set (ps_set (i := 5) sc_tail_at.nd rfl (by first | exact Or.inl rfl | exact Or.inr rfl) (de_call F_word_at hr (by decide) (da_cons (de_var (pv 0)) (da_cons (de_var (pv 3)) (da_cons (de_var (pv 4)) da_nil))))))
 (dss_cons (ds_if (ps_if (dt_cmp od_is (de_var (pv 5)) de_non (nomark _)) (dss_one (ds_ret (ps_ret de_non))) dss_nil))
 (dss_cons (ds_append (ps_expr (pe_bm PySem.F.plainAttrs_list PySem.F.slot_list_append PySem.F.type_list_append mt_append (pv 2) (pa_cons (de_ix (de_var (pv 5)) de_int) pa_nil))))
 (dss_one (ds_set (ps_set (i := 3) sc_tail_at.nd rfl (by first | exact Or.inl rfl | exact Or.inr rfl) (de_ix (de_var (pv 5)) de_int)))))))))
 (dss_cons (ds_if (ps_if (dt_cmp (od_ne hu) (de_var (pv 3)) (de_callB cd_len T.b_len (by decide +kernel) (da_cons (de_var (pv 0)) da_nil)) (nomark _)) (dss_one (ds_ret (ps_ret de_non))) dss_nil))
 (dss_cons (ds_asg (vs := [6, 7, 8]) (ps_asg (de_var (pv 2)) (dg_unl (pg_unl rfl (dgs_cons (dg_name (pg_name (i := 6) sc_tail_at.nd rfl (by first | exact Or.inl rfl | exact Or.inr rfl))) (dgs_cons (dg_name (pg_name (i := 7) sc_tail_at.nd rfl (by first | exact Or.inl rfl | exact Or.inr rfl))) (dgs_cons (dg_name (pg_name (i := 8) sc_tail_at.nd rfl (by first | exact Or.inl rfl | exact Or.inr rfl))) dgs_nil)))))))
 (dss_one (ds_ret (ps_ret (de_tup (pe_tup (da_cons (de_var (pv 6)) (da_cons (de_if (dt_cmp od_is (de_var (pv 7)) de_non (nomark _)) de_non (de_ix (de_var (pv 7)) de_int)) (da_cons (de_if (dt_cmp od_is (de_var (pv 8)) de_non (nomark _)) de_non (de_ix (de_var (pv 8)) de_int)) da_nil))))))))))))
theorem sc_parts_of : FnScope [("thing" : Str), ("epoch" : Str), ("at" : Str), ("told" : Str), ("found" : Str), ("tail" : Str)] [("thing" : Str)] (defScope (top 19)) := ⟨rfl, rfl, rfl, by decide +kernel, rfl, by decide +kernel, by decide +kernel⟩
theorem F_parts_of (T : Facts K mg) : Fn P w K mg base 4 "parts_of" m_parts_of := by
  have F_number_at := F_number_at (P := P) (w := w) (base := base) T
  have F_numbers_at := F_numbers_at (P := P) (w := w) (base := base) T
  have F_tail_at := F_tail_at (P := P) (w := w) (base := base) T
  obtain ⟨f, fd, F, hf⟩ := T.d_parts_of
  show Fn P w K mg base 4 "parts_of" (mFn 1 6 b_parts_of)
  refine ⟨f, fd, [("thing" : Str)], fn_ok (k := 3) (m := b_parts_of) rfl rfl F sc_parts_of fun cdv A outer s H E hr => ?_, hf, F.kp, F.bindsN fun _ _ _ _ _ _ us hl => match us, hl with | [_], _ => rfl⟩
  have hu := hr.units
  exact (dss_cons (ds_if (ps_if (dt_not (dt_val (de_is (de_var (pv 0)) kit_str T.b_isinstance T.b_str (by decide +kernel)))) (dss_one (ds_ret (ps_ret de_non))) dss_nil))
 (dss_cons (ds_asg (vs := [1, 2]) (ps_asg (de_tup (pe_tup (da_cons de_int (da_cons de_int da_nil)))) (dg_tup (pg_tup rfl (dgs_cons (dg_name (pg_name (i := 1) sc_parts_of.nd rfl (by first | exact Or.inl rfl | exact Or.inr rfl))) (dgs_cons (dg_name (pg_name (i := 2) sc_parts_of.nd rfl (by first | exact Or.inl rfl | exact Or.inr rfl))) dgs_nil))))))
 (dss_cons (ds_if (ps_if (dt_cmp (od_in hu) de_str (de_var (pv 0)) rfl) (dss_cons (ds_set (ps_set (i := 3) sc_parts_of.nd rfl (by first | exact Or.inl rfl | exact Or.inr rfl) (de_call F_number_at hr (by decide) (da_cons (de_var (pv 0)) (da_cons de_int da_nil)))))
 (dss_cons (ds_if (ps_if (DW.dt (dw_or (dt_cmp od_is (de_var (pv 3)) de_non (nomark _)) (dw_or1 (dt_cmp (od_ne hu) (de_ix (de_var (pv 0)) (de_ix (de_var (pv 3)) de_int)) de_str (nomark _))))) (dss_one (ds_ret (ps_ret de_non))) dss_nil))
 (dss_one (ds_par (ps_par (i := 1) (j := 2) rfl sc_parts_of.nd rfl rfl (by decide) rfl rfl (da_cons (de_ix (de_var (pv 3)) de_int) (da_cons (de_op od_add (de_ix (de_var (pv 3)) de_int) de_int) da_nil)) rfl))))) dss_nil))
 (dss_cons (ds_set (ps_set (i := 4) sc_parts_of.nd rfl (by first | exact Or.inl rfl | exact Or.inr rfl) (de_call F_numbers_at hr (by decide) (da_cons (de_var (pv 0)) (da_cons (de_var (pv 2)) da_nil)))))
 (dss_cons (ds_if (ps_if (dt_cmp od_is (de_var (pv 4)) de_non (nomark _)) (dss_one (ds_ret (ps_ret de_non))) dss_nil))
 (dss_cons (ds_set (ps_set (i := 5) sc_parts_of.nd rfl (by first | exact Or.inl rfl | exact Or.inr rfl) (de_call F_tail_at hr (by decide) (da_cons (de_var (pv 0)) (da_cons (de_ix (de_var (pv 4)) de_int) da_nil)))))
 (dss_one (ds_ret (ps_ret (de_if (dt_cmp od_is (de_var (pv 5)) de_non (nomark _)) de_non (de_tup (pe_tup (da_cons (de_var (pv 1)) (da_cons (de_ix (de_var (pv 4)) de_int) (da_star (de_var (pv 5)) da_nil)))))))))))))))
theorem sc_based : FnScope [("numbers" : Str), ("many" : Str)] [("numbers" : Str)] (defScope (top 20)) := ⟨rfl, rfl, rfl, by decide +kernel, rfl, by decide +kernel, by decide +kernel⟩
theorem F_based (T : Facts K mg) : Fn P w K mg base 1 "based" m_based := by
  obtain ⟨f, fd, F, hf⟩ := T.d_based
  show Fn P w K mg base 1 "based" (mFn 1 2 b_based)
  refine ⟨f, fd, [("numbers" : Str)], fn_ok (k := 0) (m := b_based) rfl rfl F sc_based fun cdv A outer s H E hr => ?_, hf, F.kp, F.bindsN fun _ _ _ _ _ _ us hl => match us, hl with | [_], _ => rfl⟩
  have hu := hr.units
  exact (dss_cons (ds_set (ps_set (i := 1) sc_based.nd rfl (by first | exact Or.inl rfl | exact Or.inr rfl) (de_callB cd_len T.b_len (by decide +kernel) (da_cons (de_var (pv 0)) da_nil))))
 (dss_cons (ds_while (n := fuel) (ps_while PassesOwn.never (DW.dt (dw_and (dt_cmp od_gtI (de_var (pv 1)) de_int (nomark _)) (dw_and1 (dt_cmp (od_eq hu) (de_ix (de_var (pv 0)) (de_op od_sub (de_var (pv 1)) de_int)) de_int (nomark _))))) (dss_one (ds_aug oi_sub (ps_aug (i := 1) sc_based.nd rfl (by first | exact Or.inl rfl | exact Or.inr rfl) de_int op_sem)))))
 (dss_one (ds_ret (ps_ret (de_sl (de_var (pv 0)) dpo_none (dpo_some (de_var (pv 1)))))))))
theorem sc_tail_of : FnScope [("ahead" : Str), ("post" : Str), ("dev" : Str), ("own" : Str), ("head" : Str)] [("ahead" : Str), ("post" : Str), ("dev" : Str)] (defScope (top 21)) := ⟨rfl, rfl, rfl, by decide +kernel, rfl, by decide +kernel, by decide +kernel⟩
theorem F_tail_of (T : Facts K mg) : Fn P w K mg base 1 "tail_of" m_tail_of := by
  obtain ⟨f, fd, F, hf⟩ := T.d_tail_of
  show Fn P w K mg base 1 "tail_of" (mFn 3 5 b_tail_of)
  refine ⟨f, fd, [("ahead" : Str), ("post" : Str), ("dev" : Str)], fn_ok (k := 0) (m := b_tail_of) rfl rfl F sc_tail_of fun cdv A outer s H E hr => ?_, hf, F.kp, F.bindsN fun _ _ _ _ _ _ us hl => match us, hl with | [_, _, _], _ => rfl⟩
  have hu := hr.units
  exact (dss_cons (ds_set (ps_set (i := 3) sc_tail_of.nd rfl (by first | exact Or.inl rfl | exact Or.inr rfl) (de_if (dt_cmp od_is (de_var (pv 2)) de_non (nomark _)) (de_tup (pe_tup (da_cons de_int da_nil))) (de_tup (pe_tup (da_cons de_int (da_cons (de_var (pv 2)) da_nil)))))))
 (dss_cons (ds_if (ps_if (dt_cmp od_isNot (de_var (pv 0)) de_non (nomark _)) (dss_cons (ds_set (ps_set (i := 4) sc_tail_of.nd rfl (by first | exact Or.inl rfl | exact Or.inr rfl) (de_tup (pe_tup (da_cons de_int (da_cons (de_gidx T.c_WORDS (da_cons (de_ix (de_var (pv 0)) de_int) da_nil)) (da_cons (de_ix (de_var (pv 0)) de_int) da_nil)))))))
 (dss_one (ds_ret (ps_ret (de_if (dt_cmp od_is (de_var (pv 1)) de_non (nomark _)) (de_op od_add (de_var (pv 4)) (de_var (pv 3))) (de_op od_add (de_op od_add (de_var (pv 4)) (de_tup (pe_tup (da_cons de_int (da_cons (de_var (pv 1)) da_nil))))) (de_var (pv 3)))))))) dss_nil))
 (dss_cons (ds_if (ps_if (dt_cmp od_isNot (de_var (pv 1)) de_non (nomark _)) (dss_one (ds_ret (ps_ret (de_op od_add (de_tup (pe_tup (da_cons de_int (da_cons (de_var (pv 1)) da_nil)))) (de_var (pv 3)))))) dss_nil))
 (dss_one (ds_ret (ps_ret (de_if (dt_cmp od_is (de_var (pv 2)) de_non (nomark _)) (de_tup (pe_tup (da_cons de_int da_nil))) (de_var (pv 3)))))))))
theorem sc_split_tail : FnScope [("tail" : Str), ("ahead" : Str), ("post" : Str), ("rest" : Str)] [("tail" : Str)] (defScope (top 22)) := ⟨rfl, rfl, rfl, by decide +kernel, rfl, by decide +kernel, by decide +kernel⟩
theorem F_split_tail (T : Facts K mg) : Fn P w K mg base 1 "split_tail" m_split_tail := by
  obtain ⟨f, fd, F, hf⟩ := T.d_split_tail
  show Fn P w K mg base 1 "split_tail" (mFn 1 4 b_split_tail)
  refine ⟨f, fd, [("tail" : Str)], fn_ok (k := 0) (m := b_split_tail) rfl rfl F sc_split_tail fun cdv A outer s H E hr => ?_, hf, F.kp, F.bindsN fun _ _ _ _ _ _ us hl => match us, hl with | [_], _ => rfl⟩
  have hu := hr.units
  exact (dss_cons (ds_par3 (ps_par3 (i := 1) (j := 2) (l := 3) rfl sc_split_tail.nd rfl rfl rfl (by decide) (by decide) (by decide) rfl rfl rfl (da_cons de_non (da_cons de_non (da_cons (de_var (pv 0)) da_nil))) rfl))
 (dss_cons (ds_if (ps_if (dt_cmp (od_eq hu) (de_var (pv 0)) (de_tup (pe_tup (da_cons de_int da_nil))) (nomark _)) (dss_one (ds_ret (ps_ret (de_tup (pe_tup (da_cons de_non (da_cons de_non (da_cons de_non da_nil)))))))) dss_nil))
 (dss_cons (ds_if (ps_if (dt_cmp (od_eq hu) (de_ix (de_var (pv 0)) de_int) de_int (nomark _)) (dss_one (ds_par (ps_par (i := 1) (j := 3) rfl sc_split_tail.nd rfl rfl (by decide) rfl rfl (da_cons (de_tup (pe_tup (da_cons (de_ix (de_gtup T.c_WORDS) (de_ix (de_var (pv 0)) de_int)) (da_cons (de_ix (de_var (pv 0)) de_int) da_nil)))) (da_cons (de_sl (de_var (pv 0)) (dpo_some de_int) dpo_none) da_nil)) rfl))) dss_nil))
 (dss_cons (ds_if (ps_if (dt_cmp (od_in hu) (de_ix (de_var (pv 3)) de_int) (de_tup (pe_tup (da_cons de_int (da_cons de_int da_nil)))) rfl) (dss_one (ds_par (ps_par (i := 2) (j := 3) rfl sc_split_tail.nd rfl rfl (by decide) rfl rfl (da_cons (de_ix (de_var (pv 3)) de_int) (da_cons (de_sl (de_var (pv 3)) (dpo_some de_int) dpo_none) da_nil)) rfl))) dss_nil))
 (dss_one (ds_ret (ps_ret (de_tup (pe_tup (da_cons (de_var (pv 1)) (da_cons (de_var (pv 2)) (da_cons (de_if (dt_cmp (od_eq hu) (de_ix (de_var (pv 3)) de_int) de_int (nomark _)) de_non (de_ix (de_var (pv 3)) de_int)) da_nil))))))))))))
theorem sc_key_from : FnScope [("parts" : Str), ("epoch" : Str), ("numbers" : Str), ("ahead" : Str), ("post" : Str), ("dev" : Str)] [("parts" : Str)] (defScope (top 23)) := ⟨rfl, rfl, rfl, by decide +kernel, rfl, by decide +kernel, by decide +kernel⟩
theorem F_key_from (T : Facts K mg) : Fn P w K mg base 2 "key_from" m_key_from := by
  have F_based := F_based (P := P) (w := w) (base := base) T
  have F_tail_of := F_tail_of (P := P) (w := w) (base := base) T
  obtain ⟨f, fd, F, hf⟩ := T.d_key_from
  show Fn P w K mg base 2 "key_from" (mFn 1 6 b_key_from)
  refine ⟨f, fd, [("parts" : Str)], fn_ok (k := 1) (m := b_key_from) rfl rfl F sc_key_from fun cdv A outer s H E hr => ?_, hf, F.kp, F.bindsN fun _ _ _ _ _ _ us hl => match us, hl with | [_], _ => rfl⟩
  have hu := hr.units
  exact (dss_cons (ds_asg (vs := [1, 2, 3, 4, 5]) (ps_asg (de_var (pv 0)) (dg_tup (pg_tup rfl (dgs_cons (dg_name (pg_name (i := 1) sc_key_from.nd rfl (by first | exact Or.inl rfl | exact Or.inr rfl))) (dgs_cons (dg_name (pg_name (i := 2) sc_key_from.nd rfl (by first | exact Or.inl rfl | exact Or.inr rfl))) (dgs_cons (dg_name (pg_name (i := 3) sc_key_from.nd rfl (by first | exact Or.inl rfl | exact Or.inr rfl))) (dgs_cons (dg_name (pg_name (i := 4) sc_key_from.nd rfl (by first | exact Or.inl rfl | exact Or.inr rfl))) (dgs_cons (dg_name (pg_name (i := 5) sc_key_from.nd rfl (by first | exact Or.inl rfl | exact Or.inr rfl))) dgs_nil)))))))))
 (dss_one (ds_ret (ps_ret (de_tup (pe_tup (da_cons (de_var (pv 1)) (da_cons (de_call F_based hr (by decide) (da_cons (de_var (pv 2)) da_nil)) (da_cons (de_call F_tail_of hr (by decide) (da_cons (de_var (pv 3)) (da_cons (de_var (pv 4)) (da_cons (de_var (pv 5)) da_nil)))) da_nil)))))))))
theorem sc_key_of : FnScope [("version" : Str)] [("version" : Str)] (defScope (top 24)) := ⟨rfl, rfl, rfl, by decide +kernel, rfl, by decide +kernel, by decide +kernel⟩
theorem F_key_of (T : Facts K mg) : Fn P w K mg base 5 "key_of" m_key_of := by
  have F_key_from := F_key_from (P := P) (w := w) (base := base) T
  have F_parts_of := F_parts_of (P := P) (w := w) (base := base) T
  obtain ⟨f, fd, F, hf⟩ := T.d_key_of
  show Fn P w K mg base 5 "key_of" (mFn 1 1 b_key_of)
  refine ⟨f, fd, [("version" : Str)], fn_ok (k := 4) (m := b_key_of) rfl rfl F sc_key_of fun cdv A outer s H E hr => ?_, hf, F.kp, F.bindsN fun _ _ _ _ _ _ us hl => match us, hl with | [_], _ => rfl⟩
  have hu := hr.units
  exact (dss_one (ds_ret (ps_ret (de_call F_key_from hr (by decide) (da_cons (de_call F_parts_of hr (by decide) (da_cons (de_var (pv 0)) da_nil)) da_nil)))))
theorem sc_numbers_of : FnScope [("version" : Str), ("parts" : Str)] [("version" : Str)] (defScope (top 25)) := ⟨rfl, rfl, rfl, by decide +kernel, rfl, by decide +kernel, by decide +kernel⟩
theorem F_numbers_of (T : Facts K mg) : Fn P w K mg base 5 "numbers_of" m_numbers_of := by
  have F_parts_of := F_parts_of (P := P) (w := w) (base := base) T
  obtain ⟨f, fd, F, hf⟩ := T.d_numbers_of
  show Fn P w K mg base 5 "numbers_of" (mFn 1 2 b_numbers_of)
  refine ⟨f, fd, [("version" : Str)], fn_ok (k := 4) (m := b_numbers_of) rfl rfl F sc_numbers_of fun cdv A outer s H E hr => ?_, hf, F.kp, F.bindsN fun _ _ _ _ _ _ us hl => match us, hl with | [_], _ => rfl⟩
  have hu := hr.units
  exact (dss_cons (ds_set (ps_set (i := 1) sc_numbers_of.nd rfl (by first | exact Or.inl rfl | exact Or.inr rfl) (de_call F_parts_of hr (by decide) (da_cons (de_var (pv 0)) da_nil))))
 (dss_one (ds_ret (ps_ret (de_tup (pe_tup (da_cons (de_ix (de_var (pv 1)) de_int) (da_cons (de_ix (de_var (pv 1)) de_int) da_nil))))))))
theorem sc_following_key : FnScope [("key" : Str), ("epoch" : Str), ("base" : Str), ("tail" : Str), ("ahead" : Str), ("post" : Str), ("dev" : Str)] [("key" : Str)] (defScope (top 26)) := ⟨rfl, rfl, rfl, by decide +kernel, rfl, by decide +kernel, by decide +kernel⟩
theorem F_following_key (T : Facts K mg) : Fn P w K mg base 2 "following_key" m_following_key := by
  have F_split_tail := F_split_tail (P := P) (w := w) (base := base) T
  have F_tail_of := F_tail_of (P := P) (w := w) (base := base) T
  obtain ⟨f, fd, F, hf⟩ := T.d_following_key
  show Fn P w K mg base 2 "following_key" (mFn 1 7 b_following_key)
  refine ⟨f, fd, [("key" : Str)], fn_ok (k := 1) (m := b_following_key) rfl rfl F sc_following_key fun cdv A outer s H E hr => ?_, hf, F.kp, F.bindsN fun _ _ _ _ _ _ us hl => match us, hl with | [_], _ => rfl⟩
  have hu := hr.units
  exact (dss_cons (ds_asg (vs := [1, 2, 3]) (ps_asg (de_var (pv 0)) (dg_tup (pg_tup rfl (dgs_cons (dg_name (pg_name (i := 1) sc_following_key.nd rfl (by first | exact Or.inl rfl | exact Or.inr rfl))) (dgs_cons (dg_name (pg_name (i := 2) sc_following_key.nd rfl (by first | exact Or.inl rfl | exact Or.inr rfl))) (dgs_cons (dg_name (pg_name (i := 3) sc_following_key.nd rfl (by first | exact Or.inl rfl | exact Or.inr rfl))) dgs_nil)))))))
 (dss_cons (ds_asg (vs := [4, 5, 6]) (ps_asg (de_call F_split_tail hr (by decide) (da_cons (de_var (pv 3)) da_nil)) (dg_tup (pg_tup rfl (dgs_cons (dg_name (pg_name (i := 4) sc_following_key.nd rfl (by first | exact Or.inl rfl | exact Or.inr rfl))) (dgs_cons (dg_name (pg_name (i := 5) sc_following_key.nd rfl (by first | exact Or.inl rfl | exact Or.inr rfl))) (dgs_cons (dg_name (pg_name (i := 6) sc_following_key.nd rfl (by first | exact Or.inl rfl | exact Or.inr rfl))) dgs_nil)))))))
 (dss_cons (ds_if (ps_if (dt_cmp od_isNot (de_var (pv 6)) de_non (nomark _)) (dss_one (ds_ret (ps_ret (de_tup (pe_tup (da_cons (de_var (pv 1)) (da_cons (de_var (pv 2)) (da_cons (de_call F_tail_of hr (by decide) (da_cons (de_var (pv 4)) (da_cons (de_var (pv 5)) (da_cons (de_op od_add (de_var (pv 6)) de_int) da_nil)))) da_nil)))))))) dss_nil))
 (dss_one (ds_ret (ps_ret (de_tup (pe_tup (da_cons (de_var (pv 1)) (da_cons (de_var (pv 2)) (da_cons (de_call F_tail_of hr (by decide) (da_cons (de_var (pv 4)) (da_cons (de_if (dt_cmp od_is (de_var (pv 5)) de_non (nomark _)) de_int (de_op od_add (de_var (pv 5)) de_int)) (da_cons de_int da_nil)))) da_nil)))))))))))
theorem sc_is_plain : FnScope [("parts" : Str)] [("parts" : Str)] (defScope (top 27)) := ⟨rfl, rfl, rfl, by decide +kernel, rfl, by decide +kernel, by decide +kernel⟩
theorem F_is_plain (T : Facts K mg) : Fn P w K mg base 1 "is_plain" m_is_plain := by
  obtain ⟨f, fd, F, hf⟩ := T.d_is_plain
  show Fn P w K mg base 1 "is_plain" (mFn 1 1 b_is_plain)
  refine ⟨f, fd, [("parts" : Str)], fn_ok (k := 0) (m := b_is_plain) rfl rfl F sc_is_plain fun cdv A outer s H E hr => ?_, hf, F.kp, F.bindsN fun _ _ _ _ _ _ us hl => match us, hl with | [_], _ => rfl⟩
  have hu := hr.units
  exact (dss_one (ds_ret (ps_ret (de_cmp (od_eq hu) (de_sl (de_var (pv 0)) (dpo_some de_int) dpo_none) (de_tup (pe_tup (da_cons de_non (da_cons de_non (da_cons de_non da_nil))))) (nomark _)))))
theorem sc_need_key : FnScope [("thing" : Str), ("parts" : Str)] [("thing" : Str)] (defScope (top 28)) := ⟨rfl, rfl, rfl, by decide +kernel, rfl, by decide +kernel, by decide +kernel⟩
theorem F_need_key (T : Facts K mg) : Fn P w K mg base 5 "need_key" m_need_key := by
  have F_key_from := F_key_from (P := P) (w := w) (base := base) T
  have F_parts_of := F_parts_of (P := P) (w := w) (base := base) T
  obtain ⟨f, fd, F, hf⟩ := T.d_need_key
  show Fn P w K mg base 5 "need_key" (mFn 1 2 b_need_key)
  refine ⟨f, fd, [("thing" : Str)], fn_ok (k := 4) (m := b_need_key) rfl rfl F sc_need_key fun cdv A outer s H E hr => ?_, hf, F.kp, F.bindsN fun _ _ _ _ _ _ us hl => match us, hl with | [_], _ => rfl⟩
  have hu := hr.units
  exact (dss_cons (ds_set (ps_set (i := 1) sc_need_key.nd rfl (by first | exact Or.inl rfl | exact Or.inr rfl) (de_call F_parts_of hr (by decide) (da_cons (de_var (pv 0)) da_nil))))
 (dss_cons (ds_if (ps_if (dt_cmp od_is (de_var (pv 1)) de_non (nomark _)) (dss_one ds_fail) dss_nil))
 (dss_one (ds_ret (ps_ret (de_call F_key_from hr (by decide) (da_cons (de_var (pv 1)) da_nil)))))))
theorem sc_need_version : FnScope [("thing" : Str)] [("thing" : Str)] (defScope (top 29)) := ⟨rfl, rfl, rfl, by decide +kernel, rfl, by decide +kernel, by decide +kernel⟩
theorem F_need_version (T : Facts K mg) : Fn P w K mg base 6 "need_version" m_need_version := by
  have F_need_key := F_need_key (P := P) (w := w) (base := base) T
  obtain ⟨f, fd, F, hf⟩ := T.d_need_version
  show Fn P w K mg base 6 "need_version" (mFn 1 1 b_need_version)
  refine ⟨f, fd, [("thing" : Str)], fn_ok (k := 5) (m := b_need_version) rfl rfl F sc_need_version fun cdv A outer s H E hr => ?_, hf, F.kp, F.bindsN fun _ _ _ _ _ _ us hl => match us, hl with | [_], _ => rfl⟩
  have hu := hr.units
  exact (dss_cons (ds_expr (ps_expr (de_call F_need_key hr (by decide) (da_cons (de_var (pv 0)) da_nil))))
 (dss_one (ds_ret (ps_ret (de_var (pv 0))))))
theorem sc_is_small : FnScope [("parts" : Str), ("epoch" : Str), ("numbers" : Str), ("ahead" : Str), ("post" : Str), ("dev" : Str), ("some" : Str)] [("parts" : Str)] (defScope (top 36)) := ⟨rfl, rfl, rfl, by decide +kernel, rfl, by decide +kernel, by decide +kernel⟩
theorem F_is_small (T : Facts K mg) : Fn P w K mg base 1 "is_small" m_is_small := by
  obtain ⟨f, fd, F, hf⟩ := T.d_is_small
  show Fn P w K mg base 1 "is_small" (mFn 1 7 b_is_small)
  refine ⟨f, fd, [("parts" : Str)], fn_ok (k := 0) (m := b_is_small) rfl rfl F sc_is_small fun cdv A outer s H E hr => ?_, hf, F.kp, F.bindsN fun _ _ _ _ _ _ us hl => match us, hl with | [_], _ => rfl⟩
  have hu := hr.units
  exact (dss_cons (ds_asg (vs := [1, 2, 3, 4, 5]) (ps_asg (de_var (pv 0)) (dg_tup (pg_tup rfl (dgs_cons (dg_name (pg_name (i := 1) sc_is_small.nd rfl (by first | exact Or.inl rfl | exact Or.inr rfl))) (dgs_cons (dg_name (pg_name (i := 2) sc_is_small.nd rfl (by first | exact Or.inl rfl | exact Or.inr rfl))) (dgs_cons (dg_name (pg_name (i := 3) sc_is_small.nd rfl (by first | exact Or.inl rfl | exact Or.inr rfl))) (dgs_cons (dg_name (pg_name (i := 4) sc_is_small.nd rfl (by first | exact Or.inl rfl | exact Or.inr rfl))) (dgs_cons (dg_name (pg_name (i := 5) sc_is_small.nd rfl (by first | exact Or.inl rfl | exact Or.inr rfl))) dgs_nil)))))))))
 (dss_cons (ds_set (ps_set (i := 6) sc_is_small.nd rfl (by first | exact Or.inl rfl | exact Or.inr rfl) (DO.de (do_lst (pe_lst (da_cons (de_var (pv 1)) (da_star (de_var (pv 2)) (da_cons (de_if (dt_cmp od_is (de_var (pv 3)) de_non (nomark _)) de_int (de_ix (de_var (pv 3)) de_int)) (da_cons (de_if (dt_cmp od_is (de_var (pv 4)) de_non (nomark _)) de_int (de_var (pv 4))) (da_cons (de_if (dt_cmp od_is (de_var (pv 5)) de_non (nomark _)) de_int (de_var (pv 5))) da_nil))))))))))
 (dss_one (ds_ret (ps_ret (de_and (de_cmp od_leI (de_callB cd_len T.b_len (by decide +kernel) (da_cons (de_var (pv 2)) da_nil)) (de_gint T.c_MOST_NUMBERS_requirements) (nomark _)) (de_one (de_cmp od_leI (de_callB (cd_maxL hu rfl) T.b_max (by decide +kernel) (da_cons (de_var (pv 6)) da_nil)) (de_gint T.c_MOST_NUMBER) (nomark _)))))))))
theorem sc_is_clause : FnScope [("thing" : Str), ("sign" : Str), ("text" : Str), ("is_block" : Str), ("parts" : Str)] [("thing" : Str)] (defScope (top 37)) := ⟨rfl, rfl, rfl, by decide +kernel, rfl, by decide +kernel, by decide +kernel⟩
theorem F_is_clause (T : Facts K mg) : Fn P w K mg base 5 "is_clause" m_is_clause := by
  have F_is_plain := F_is_plain (P := P) (w := w) (base := base) T
  have F_is_small := F_is_small (P := P) (w := w) (base := base) T
  have F_parts_of := F_parts_of (P := P) (w := w) (base := base) T
  obtain ⟨f, fd, F, hf⟩ := T.d_is_clause
  show Fn P w K mg base 5 "is_clause" (mFn 1 5 b_is_clause)
  refine ⟨f, fd, [("thing" : Str)], fn_ok (k := 4) (m := b_is_clause) rfl rfl F sc_is_clause fun cdv A outer s H E hr => ?_, hf, F.kp, F.bindsN fun _ _ _ _ _ _ us hl => match us, hl with | [_], _ => rfl⟩
  have hu := hr.units
  exact (dss_cons (ds_if (ps_if (DW.dt (dw_or (dt_not (dt_val (de_is (de_var (pv 0)) kit_tup T.b_isinstance T.b_tuple (by decide +kernel)))) (dw_or1 (dt_cmp (od_ne hu) (de_callB cd_len T.b_len (by decide +kernel) (da_cons (de_var (pv 0)) da_nil)) de_int (nomark _))))) (dss_one (ds_ret (ps_ret de_bl))) dss_nil))
 (dss_cons (ds_asg (vs := [1, 2]) (ps_asg (de_var (pv 0)) (dg_tup (pg_tup rfl (dgs_cons (dg_name (pg_name (i := 1) sc_is_clause.nd rfl (by first | exact Or.inl rfl | exact Or.inr rfl))) (dgs_cons (dg_name (pg_name (i := 2) sc_is_clause.nd rfl (by first | exact Or.inl rfl | exact Or.inr rfl))) dgs_nil))))))
 (dss_cons (ds_if (ps_if (DW.dt (dw_or (dt_not (dt_val (de_is (de_var (pv 1)) kit_str T.b_isinstance T.b_str (by decide +kernel)))) (dw_or (dt_cmp (od_notIn hu) (de_var (pv 1)) (de_gtup T.c_SIGNS) rfl) (dw_or1 (dt_not (dt_val (de_is (de_var (pv 2)) kit_str T.b_isinstance T.b_str (by decide +kernel)))))))) (dss_one (ds_ret (ps_ret de_bl))) dss_nil))
 (dss_cons (ds_set (ps_set (i := 3) sc_is_clause.nd rfl (by first | exact Or.inl rfl | exact Or.inr rfl) (de_and (de_cmp (od_in hu) (de_var (pv 1)) (de_tup (pe_tup (da_cons de_str (da_cons de_str da_nil)))) rfl) (de_one (de_mtS PySem.F.slot_str_endswith PySem.F.type_str_endswith md_ends (de_var (pv 2)) (da_cons (de_gstr T.c_STAR) da_nil))))))
 (dss_cons (ds_set (ps_set (i := 4) sc_is_clause.nd rfl (by first | exact Or.inl rfl | exact Or.inr rfl) (de_call F_parts_of hr (by decide) (da_cons (de_if (dt_val (de_var (pv 3))) (de_sl (de_var (pv 2)) dpo_none (dpo_some (de_neg (de_callB cd_len T.b_len (by decide +kernel) (da_cons (de_gstr T.c_STAR) da_nil))))) (de_var (pv 2))) da_nil))))
 (dss_cons (ds_if (ps_if (DW.dt (dw_or (dt_cmp od_is (de_var (pv 4)) de_non (nomark _)) (dw_or1 (dt_not (dt_val (de_call F_is_small hr (by decide) (da_cons (de_var (pv 4)) da_nil))))))) (dss_one (ds_ret (ps_ret de_bl))) dss_nil))
 (dss_cons (ds_if (ps_if (DW.dt (dw_or (dt_val (de_var (pv 3))) (dw_or1 (dt_cmp (od_in hu) (de_var (pv 1)) (de_tup (pe_tup (da_cons de_str (da_cons de_str da_nil)))) rfl)))) (dss_one (ds_ret (ps_ret (de_call F_is_plain hr (by decide) (da_cons (de_var (pv 4)) da_nil))))) dss_nil))
 (dss_one (ds_ret (ps_ret (de_or (de_cmp (od_ne hu) (de_var (pv 1)) de_str (nomark _)) (de_one (de_cmp od_gtI (de_callB cd_len T.b_len (by decide +kernel) (da_cons (de_ix (de_var (pv 4)) de_int) da_nil)) de_int (nomark _))))))))))))))
theorem sc_need_requirement : FnScope [("thing" : Str), ("number" : Str), ("clause" : Str)] [("thing" : Str)] (defScope (top 38)) := ⟨rfl, rfl, rfl, by decide +kernel, rfl, by decide +kernel, by decide +kernel⟩
theorem F_need_requirement (T : Facts K mg) : Fn P w K mg base 6 "need_requirement" m_need_requirement := by
  have F_is_clause := F_is_clause (P := P) (w := w) (base := base) T
  obtain ⟨f, fd, F, hf⟩ := T.d_need_requirement
  show Fn P w K mg base 6 "need_requirement" (mFn 1 3 b_need_requirement)
  refine ⟨f, fd, [("thing" : Str)], fn_ok (k := 5) (m := b_need_requirement) rfl rfl F sc_need_requirement fun cdv A outer s H E hr => ?_, hf, F.kp, F.bindsN fun _ _ _ _ _ _ us hl => match us, hl with | [_], _ => rfl⟩
  have hu := hr.units
  exact (dss_cons (ds_if (ps_if (DW.dt (dw_or (dt_not (dt_val (de_is (de_var (pv 0)) kit_tup T.b_isinstance T.b_tuple (by decide +kernel)))) (dw_or1 (dt_cmp od_gtI (de_callB cd_len T.b_len (by decide +kernel) (da_cons (de_var (pv 0)) da_nil)) (de_gint T.c_MOST_CLAUSES) (nomark _))))) (dss_one ds_fail) dss_nil))
 (dss_cons (ds_for (vs := [1, 2]) (ps_for PassesOwn.never rfl (di_enum T.b_enumerate (da_cons (de_var (pv 0)) da_nil)) (dg_tup (pg_tup rfl (dgs_cons (dg_name (pg_name (i := 1) sc_need_requirement.nd rfl (by first | exact Or.inl rfl | exact Or.inr rfl))) (dgs_cons (dg_name (pg_name (i := 2) sc_need_requirement.nd rfl (by first | exact Or.inl rfl | exact Or.inr rfl))) dgs_nil)))) (dss_one (ds_if (ps_if (dt_not (dt_val (de_call F_is_clause hr (by decide) (da_cons (de_var (pv 2)) da_nil)))) (dss_one ds_fail) dss_nil)))))
 (dss_one (ds_ret (ps_ret (de_var (pv 0)))))))
theorem sc_numbers_cuts : FnScope [("epoch" : Str), ("numbers" : Str), ("more" : Str)] [("epoch" : Str), ("numbers" : Str)] (defScope (top 43)) := ⟨rfl, rfl, rfl, by decide +kernel, rfl, by decide +kernel, by decide +kernel⟩
theorem F_numbers_cuts (T : Facts K mg) : Fn P w K mg base 2 "numbers_cuts" m_numbers_cuts := by
  have F_based := F_based (P := P) (w := w) (base := base) T
  obtain ⟨f, fd, F, hf⟩ := T.d_numbers_cuts
  show Fn P w K mg base 2 "numbers_cuts" (mFn 2 3 b_numbers_cuts)
  refine ⟨f, fd, [("epoch" : Str), ("numbers" : Str)], fn_ok (k := 1) (m := b_numbers_cuts) rfl rfl F sc_numbers_cuts fun cdv A outer s H E hr => ?_, hf, F.kp, F.bindsN fun _ _ _ _ _ _ us hl => match us, hl with | [_, _], _ => rfl⟩
  have hu := hr.units
  exact (dss_cons (ds_set (ps_set (i := 2) sc_numbers_cuts.nd rfl (by first | exact Or.inl rfl | exact Or.inr rfl) (de_op od_add (de_sl (de_var (pv 1)) dpo_none (dpo_some (de_neg de_int))) (de_tup (pe_tup (da_cons (de_op od_add (de_ix (de_var (pv 1)) (de_neg de_int)) de_int) da_nil))))))
 (dss_one (ds_ret (ps_ret (de_tup (pe_tup (da_cons (de_tup (pe_tup (da_cons (de_var (pv 0)) (da_cons (de_call F_based hr (by decide) (da_cons (de_var (pv 1)) da_nil)) (da_cons (de_gcon T.c_FIRST) da_nil))))) (da_cons (de_tup (pe_tup (da_cons (de_var (pv 0)) (da_cons (de_call F_based hr (by decide) (da_cons (de_var (pv 2)) da_nil)) (da_cons (de_gcon T.c_FIRST) da_nil))))) da_nil))))))))
theorem sc_block_cuts : FnScope [("text" : Str), ("epoch" : Str), ("numbers" : Str)] [("text" : Str)] (defScope (top 44)) := ⟨rfl, rfl, rfl, by decide +kernel, rfl, by decide +kernel, by decide +kernel⟩
theorem F_block_cuts (T : Facts K mg) : Fn P w K mg base 6 "block_cuts" m_block_cuts := by
  have F_numbers_cuts := F_numbers_cuts (P := P) (w := w) (base := base) T
  have F_numbers_of := F_numbers_of (P := P) (w := w) (base := base) T
  obtain ⟨f, fd, F, hf⟩ := T.d_block_cuts
  show Fn P w K mg base 6 "block_cuts" (mFn 1 3 b_block_cuts)
  refine ⟨f, fd, [("text" : Str)], fn_ok (k := 5) (m := b_block_cuts) rfl rfl F sc_block_cuts fun cdv A outer s H E hr => ?_, hf, F.kp, F.bindsN fun _ _ _ _ _ _ us hl => match us, hl with | [_], _ => rfl⟩
  have hu := hr.units
  exact (dss_cons (ds_asg (vs := [1, 2]) (ps_asg (de_call F_numbers_of hr (by decide) (da_cons (de_sl (de_var (pv 0)) dpo_none (dpo_some (de_neg (de_callB cd_len T.b_len (by decide +kernel) (da_cons (de_gstr T.c_STAR) da_nil))))) da_nil)) (dg_tup (pg_tup rfl (dgs_cons (dg_name (pg_name (i := 1) sc_block_cuts.nd rfl (by first | exact Or.inl rfl | exact Or.inr rfl))) (dgs_cons (dg_name (pg_name (i := 2) sc_block_cuts.nd rfl (by first | exact Or.inl rfl | exact Or.inr rfl))) dgs_nil))))))
 (dss_one (ds_ret (ps_ret (de_call F_numbers_cuts hr (by decide) (da_cons (de_var (pv 1)) (da_cons (de_var (pv 2)) da_nil)))))))
theorem sc_outside : FnScope [("low" : Str), ("high" : Str), ("ahead" : Str)] [("low" : Str), ("high" : Str)] (defScope (top 45)) := ⟨rfl, rfl, rfl, by decide +kernel, rfl, by decide +kernel, by decide +kernel⟩
theorem F_outside (T : Facts K mg) : Fn P w K mg base 1 "outside" m_outside := by
  obtain ⟨f, fd, F, hf⟩ := T.d_outside
  show Fn P w K mg base 1 "outside" (mFn 2 3 b_outside)
  refine ⟨f, fd, [("low" : Str), ("high" : Str)], fn_ok (k := 0) (m := b_outside) rfl rfl F sc_outside fun cdv A outer s H E hr => ?_, hf, F.kp, F.bindsN fun _ _ _ _ _ _ us hl => match us, hl with | [_, _], _ => rfl⟩
  have hu := hr.units
  exact (dss_cons (ds_set (ps_set (i := 2) sc_outside.nd rfl (by first | exact Or.inl rfl | exact Or.inr rfl) (de_if (dt_cmp (od_lt hu) (de_gcon T.c_LEAST) (de_var (pv 0)) (nomark _)) (DO.de (do_lst (pe_lst (da_cons (de_tup (pe_tup (da_cons (de_gcon T.c_LEAST) (da_cons (de_var (pv 0)) da_nil)))) da_nil)))) (DO.de (do_lst (pe_lst da_nil))))))
 (dss_one (ds_ret (ps_ret (de_op od_add (de_var (pv 2)) (DO.de (do_lst (pe_lst (da_cons (de_tup (pe_tup (da_cons (de_var (pv 1)) (da_cons de_non da_nil)))) da_nil)))))))))
theorem sc_bounded_spans : FnScope [("sign" : Str), ("key" : Str), ("epoch" : Str), ("base" : Str), ("tail" : Str)] [("sign" : Str), ("key" : Str)] (defScope (top 46)) := ⟨rfl, rfl, rfl, by decide +kernel, rfl, by decide +kernel, by decide +kernel⟩
theorem F_bounded_spans (T : Facts K mg) : Fn P w K mg base 1 "bounded_spans" m_bounded_spans := by
  obtain ⟨f, fd, F, hf⟩ := T.d_bounded_spans
  show Fn P w K mg base 1 "bounded_spans" (mFn 2 5 b_bounded_spans)
  refine ⟨f, fd, [("sign" : Str), ("key" : Str)], fn_ok (k := 0) (m := b_bounded_spans) rfl rfl F sc_bounded_spans fun cdv A outer s H E hr => ?_, hf, F.kp, F.bindsN fun _ _ _ _ _ _ us hl => match us, hl with | [_, _], _ => rfl⟩
  have hu := hr.units
  exact (dss_cons (ds_asg (vs := [2, 3, 4]) (ps_asg (de_var (pv 1)) (dg_tup (pg_tup rfl (dgs_cons (dg_name (pg_name (i := 2) sc_bounded_spans.nd rfl (by first | exact Or.inl rfl | exact Or.inr rfl))) (dgs_cons (dg_name (pg_name (i := 3) sc_bounded_spans.nd rfl (by first | exact Or.inl rfl | exact Or.inr rfl))) (dgs_cons (dg_name (pg_name (i := 4) sc_bounded_spans.nd rfl (by first | exact Or.inl rfl | exact Or.inr rfl))) dgs_nil)))))))
 (dss_cons (ds_if (ps_if (dt_cmp (od_eq hu) (de_var (pv 0)) de_str (nomark _)) (dss_one (ds_ret (ps_ret (DO.de (do_lst (pe_lst (da_cons (de_tup (pe_tup (da_cons (de_tup (pe_tup (da_cons (de_var (pv 2)) (da_cons (de_var (pv 3)) (da_cons (de_gcon T.c_AFTER_ALL) da_nil))))) (da_cons de_non da_nil)))) da_nil))))))) dss_nil))
 (dss_one (ds_ret (ps_ret (de_if (dt_cmp (od_lt hu) (de_gcon T.c_LEAST) (de_tup (pe_tup (da_cons (de_var (pv 2)) (da_cons (de_var (pv 3)) (da_cons (de_gcon T.c_FIRST) da_nil))))) (nomark _)) (DO.de (do_lst (pe_lst (da_cons (de_tup (pe_tup (da_cons (de_gcon T.c_LEAST) (da_cons (de_tup (pe_tup (da_cons (de_var (pv 2)) (da_cons (de_var (pv 3)) (da_cons (de_gcon T.c_FIRST) da_nil))))) da_nil)))) da_nil)))) (DO.de (do_lst (pe_lst da_nil)))))))))
theorem sc_clause_spans : FnScope [("clause" : Str), ("sign" : Str), ("text" : Str), ("low" : Str), ("high" : Str), ("key" : Str), ("epoch" : Str), ("numbers" : Str), ("behind" : Str)] [("clause" : Str)] (defScope (top 47)) := ⟨rfl, rfl, rfl, by decide +kernel, rfl, by decide +kernel, by decide +kernel⟩
theorem F_clause_spans (T : Facts K mg) : Fn P w K mg base 7 "clause_spans" m_clause_spans := by
  have F_block_cuts := F_block_cuts (P := P) (w := w) (base := base) T
  have F_bounded_spans := F_bounded_spans (P := P) (w := w) (base := base) T
  have F_following_key := F_following_key (P := P) (w := w) (base := base) T
  have F_key_of := F_key_of (P := P) (w := w) (base := base) T
  have F_numbers_cuts := F_numbers_cuts (P := P) (w := w) (base := base) T
  have F_numbers_of := F_numbers_of (P := P) (w := w) (base := base) T
  have F_outside := F_outside (P := P) (w := w) (base := base) T
  obtain ⟨f, fd, F, hf⟩ := T.d_clause_spans
  show Fn P w K mg base 7 "clause_spans" (mFn 1 9 b_clause_spans)
  refine ⟨f, fd, [("clause" : Str)], fn_ok (k := 6) (m := b_clause_spans) rfl rfl F sc_clause_spans fun cdv A outer s H E hr => ?_, hf, F.kp, F.bindsN fun _ _ _ _ _ _ us hl => match us, hl with | [_], _ => rfl⟩
  have hu := hr.units
  exact (dss_cons (ds_asg (vs := [1, 2]) (ps_asg (de_var (pv 0)) (dg_tup (pg_tup rfl (dgs_cons (dg_name (pg_name (i := 1) sc_clause_spans.nd rfl (by first | exact Or.inl rfl | exact Or.inr rfl))) (dgs_cons (dg_name (pg_name (i := 2) sc_clause_spans.nd rfl (by first | exact Or.inl rfl | exact Or.inr rfl))) dgs_nil))))))
 (dss_cons (ds_if (ps_if (dt_val (de_mtS PySem.F.slot_str_endswith PySem.F.type_str_endswith md_ends (de_var (pv 2)) (da_cons (de_gstr T.c_STAR) da_nil))) (dss_cons (ds_asg (vs := [3, 4]) (ps_asg (de_call F_block_cuts hr (by decide) (da_cons (de_var (pv 2)) da_nil)) (dg_tup (pg_tup rfl (dgs_cons (dg_name (pg_name (i := 3) sc_clause_spans.nd rfl (by first | exact Or.inl rfl | exact Or.inr rfl))) (dgs_cons (dg_name (pg_name (i := 4) sc_clause_spans.nd rfl (by first | exact Or.inl rfl | exact Or.inr rfl))) dgs_nil))))))
 (dss_one (ds_ret (ps_ret (de_if (dt_cmp (od_eq hu) (de_var (pv 1)) de_str (nomark _)) (DO.de (do_lst (pe_lst (da_cons (de_tup (pe_tup (da_cons (de_var (pv 3)) (da_cons (de_var (pv 4)) da_nil)))) da_nil)))) (de_call F_outside hr (by decide) (da_cons (de_var (pv 3)) (da_cons (de_var (pv 4)) da_nil)))))))) dss_nil))
 (dss_cons (ds_set (ps_set (i := 5) sc_clause_spans.nd rfl (by first | exact Or.inl rfl | exact Or.inr rfl) (de_call F_key_of hr (by decide) (da_cons (de_var (pv 2)) da_nil))))
 (dss_cons (ds_if (ps_if (dt_cmp (od_in hu) (de_var (pv 1)) (de_tup (pe_tup (da_cons de_str (da_cons de_str da_nil)))) rfl) (dss_one (ds_ret (ps_ret (de_call F_bounded_spans hr (by decide) (da_cons (de_var (pv 1)) (da_cons (de_var (pv 5)) da_nil)))))) dss_nil))
 (dss_cons (ds_if (ps_if (dt_cmp (od_eq hu) (de_var (pv 1)) de_str (nomark _)) (dss_one (ds_ret (ps_ret (DO.de (do_lst (pe_lst (da_cons (de_tup (pe_tup (da_cons (de_var (pv 5)) (da_cons de_non da_nil)))) da_nil))))))) dss_nil))
 (dss_cons (ds_if (ps_if (dt_cmp (od_eq hu) (de_var (pv 1)) de_str (nomark _)) (dss_cons (ds_asg (vs := [6, 7]) (ps_asg (de_call F_numbers_of hr (by decide) (da_cons (de_var (pv 2)) da_nil)) (dg_tup (pg_tup rfl (dgs_cons (dg_name (pg_name (i := 6) sc_clause_spans.nd rfl (by first | exact Or.inl rfl | exact Or.inr rfl))) (dgs_cons (dg_name (pg_name (i := 7) sc_clause_spans.nd rfl (by first | exact Or.inl rfl | exact Or.inr rfl))) dgs_nil))))))
 (dss_one (ds_ret (ps_ret (DO.de (do_lst (pe_lst (da_cons (de_tup (pe_tup (da_cons (de_var (pv 5)) (da_cons (de_ix (de_call F_numbers_cuts hr (by decide) (da_cons (de_var (pv 6)) (da_cons (de_sl (de_var (pv 7)) dpo_none (dpo_some (de_neg de_int))) da_nil))) de_int) da_nil)))) da_nil)))))))) dss_nil))
 (dss_cons (ds_set (ps_set (i := 8) sc_clause_spans.nd rfl (by first | exact Or.inl rfl | exact Or.inr rfl) (de_call F_following_key hr (by decide) (da_cons (de_var (pv 5)) da_nil))))
 (dss_cons (ds_if (ps_if (dt_cmp (od_eq hu) (de_var (pv 1)) de_str (nomark _)) (dss_one (ds_ret (ps_ret (de_call F_outside hr (by decide) (da_cons (de_var (pv 5)) (da_cons (de_var (pv 8)) da_nil)))))) dss_nil))
 (dss_one (ds_ret (ps_ret (DO.de (do_lst (pe_lst (da_cons (de_tup (pe_tup (da_cons (de_if (dt_cmp (od_eq hu) (de_var (pv 1)) de_str (nomark _)) (de_var (pv 5)) (de_gcon T.c_LEAST)) (da_cons (de_var (pv 8)) da_nil)))) da_nil)))))))))))))))
theorem sc_lesser_end : FnScope [("one" : Str), ("other" : Str)] [("one" : Str), ("other" : Str)] (defScope (top 48)) := ⟨rfl, rfl, rfl, by decide +kernel, rfl, by decide +kernel, by decide +kernel⟩
theorem F_lesser_end (T : Facts K mg) : Fn P w K mg base 1 "lesser_end" m_lesser_end := by
  obtain ⟨f, fd, F, hf⟩ := T.d_lesser_end
  show Fn P w K mg base 1 "lesser_end" (mFn 2 2 b_lesser_end)
  refine ⟨f, fd, [("one" : Str), ("other" : Str)], fn_ok (k := 0) (m := b_lesser_end) rfl rfl F sc_lesser_end fun cdv A outer s H E hr => ?_, hf, F.kp, F.bindsN fun _ _ _ _ _ _ us hl => match us, hl with | [_, _], _ => rfl⟩
  have hu := hr.units
  exact (dss_cons (ds_if (ps_if (DW.dt (dw_or (dt_cmp od_is (de_var (pv 0)) de_non (nomark _)) (dw_or1 (dt_cmp od_is (de_var (pv 1)) de_non (nomark _))))) (dss_one (ds_ret (ps_ret (de_if (dt_cmp od_is (de_var (pv 0)) de_non (nomark _)) (de_var (pv 1)) (de_var (pv 0)))))) dss_nil))
 (dss_one (ds_ret (ps_ret (de_callB (cd_min2E hu rfl) T.b_min (by decide +kernel) (da_cons (de_var (pv 0)) (da_cons (de_var (pv 1)) da_nil)))))))
theorem sc_meet : FnScope [("one" : Str), ("other" : Str), ("found" : Str), ("low" : Str), ("high" : Str), ("start" : Str), ("end" : Str), ("first" : Str), ("last" : Str)] [("one" : Str), ("other" : Str)] (defScope (top 49)) := ⟨rfl, rfl, rfl, by decide +kernel, rfl, by decide +kernel, by decide +kernel⟩
theorem F_meet (T : Facts K mg) : Fn P w K mg base 2 "meet" m_meet := by
  have F_lesser_end := F_lesser_end (P := P) (w := w) (base := base) T
  obtain ⟨f, fd, F, hf⟩ := T.d_meet
  show Fn P w K mg base 2 "meet" (mFn 2 9 b_meet)
  refine ⟨f, fd, [("one" : Str), ("other" : Str)], fn_ok (k := 1) (m := b_meet) rfl rfl F sc_meet fun cdv A outer s H E hr => ?_, hf, F.kp, F.bindsN fun _ _ _ _ _ _ us hl => match us, hl with | [_, _], _ => rfl⟩
  have hu := hr.units
  exact (dss_cons (ds_setO (ps_set (i := 2) sc_meet.nd rfl (by first | exact Or.inl rfl | exact Or.inr rfl) (do_lst (pe_lst da_nil))))
 (dss_cons (ds_for (vs := [3, 4]) (ps_for PassesOwn.never rfl (di_seq (de_var (pv 0))) (dg_tup (pg_tup rfl (dgs_cons (dg_name (pg_name (i := 3) sc_meet.nd rfl (by first | exact Or.inl rfl | exact Or.inr rfl))) (dgs_cons (dg_name (pg_name (i := 4) sc_meet.nd rfl (by first | exact Or.inl rfl | exact Or.inr rfl))) dgs_nil)))) (dss_one (ds_for (vs := [5, 6]) (ps_for PassesOwn.never rfl (di_seq (de_var (pv 1))) (dg_tup (pg_tup rfl (dgs_cons (dg_name (pg_name (i := 5) sc_meet.nd rfl (by first | exact Or.inl rfl | exact Or.inr rfl))) (dgs_cons (dg_name (pg_name (i := 6) sc_meet.nd rfl (by first | exact Or.inl rfl | exact Or.inr rfl))) dgs_nil)))) (dss_cons (ds_par (ps_par (i := 7) (j := 8) rfl sc_meet.nd rfl rfl (by decide) rfl rfl (da_cons (de_callB (cd_max2E hu rfl) T.b_max (by decide +kernel) (da_cons (de_var (pv 3)) (da_cons (de_var (pv 5)) da_nil))) (da_cons (de_call F_lesser_end hr (by decide) (da_cons (de_var (pv 4)) (da_cons (de_var (pv 6)) da_nil))) da_nil)) rfl))
 (dss_one (ds_if (ps_if (DW.dt (dw_or (dt_cmp od_is (de_var (pv 8)) de_non (nomark _)) (dw_or1 (dt_cmp (od_lt hu) (de_var (pv 7)) (de_var (pv 8)) (nomark _))))) (dss_one (ds_append (ps_expr (pe_bm PySem.F.plainAttrs_list PySem.F.slot_list_append PySem.F.type_list_append mt_append (pv 2) (pa_cons (de_tup (pe_tup (da_cons (de_var (pv 7)) (da_cons (de_var (pv 8)) da_nil)))) pa_nil))))) dss_nil)))))))))
 (dss_one (ds_ret (ps_ret (de_var (pv 2)))))))
theorem sc_spans_of : FnScope [("requirement" : Str), ("found" : Str), ("clause" : Str)] [("requirement" : Str)] (defScope (top 50)) := ⟨rfl, rfl, rfl, by decide +kernel, rfl, by decide +kernel, by decide +kernel⟩
theorem F_spans_of (T : Facts K mg) : Fn P w K mg base 8 "spans_of" m_spans_of := by
  have F_clause_spans := F_clause_spans (P := P) (w := w) (base := base) T
  have F_meet := F_meet (P := P) (w := w) (base := base) T
  obtain ⟨f, fd, F, hf⟩ := T.d_spans_of
  show Fn P w K mg base 8 "spans_of" (mFn 1 3 b_spans_of)
  refine ⟨f, fd, [("requirement" : Str)], fn_ok (k := 7) (m := b_spans_of) rfl rfl F sc_spans_of fun cdv A outer s H E hr => ?_, hf, F.kp, F.bindsN fun _ _ _ _ _ _ us hl => match us, hl with | [_], _ => rfl⟩
  have hu := hr.units
  exact (dss_cons (ds_set (ps_set (i := 1) sc_spans_of.nd rfl (by first | exact Or.inl rfl | exact Or.inr rfl) (DO.de (do_lst (pe_lst (da_cons (de_tup (pe_tup (da_cons (de_gcon T.c_LEAST) (da_cons de_non da_nil)))) da_nil))))))
 (dss_cons (ds_for (vs := [2]) (ps_for PassesOwn.never rfl (di_seq (de_var (pv 0))) (dg_name (pg_name (i := 2) sc_spans_of.nd rfl (by first | exact Or.inl rfl | exact Or.inr rfl))) (dss_one (ds_set (ps_set (i := 1) sc_spans_of.nd rfl (by first | exact Or.inl rfl | exact Or.inr rfl) (de_call F_meet hr (by decide) (da_cons (de_var (pv 1)) (da_cons (de_call F_clause_spans hr (by decide) (da_cons (de_var (pv 2)) da_nil)) da_nil))))))))
 (dss_one (ds_ret (ps_ret (de_var (pv 1)))))))
theorem sc_has_key : FnScope [("spans" : Str), ("key" : Str), ("low" : Str), ("high" : Str)] [("spans" : Str), ("key" : Str)] (defScope (top 51)) := ⟨rfl, rfl, rfl, by decide +kernel, rfl, by decide +kernel, by decide +kernel⟩
theorem F_has_key (T : Facts K mg) : Fn P w K mg base 1 "has_key" m_has_key := by
  obtain ⟨f, fd, F, hf⟩ := T.d_has_key
  show Fn P w K mg base 1 "has_key" (mFn 2 4 b_has_key)
  refine ⟨f, fd, [("spans" : Str), ("key" : Str)], fn_ok (k := 0) (m := b_has_key) rfl rfl F sc_has_key fun cdv A outer s H E hr => ?_, hf, F.kp, F.bindsN fun _ _ _ _ _ _ us hl => match us, hl with | [_, _], _ => rfl⟩
  have hu := hr.units
  exact (dss_one (ds_ret (ps_ret (de_callB (cd_any rfl) T.b_any (by decide +kernel) (da_cons (DO.de (do_lc (pe_lc (own := [("low", 2), ("high", 3)]) rfl sc_has_key.nd (di_seq (de_var (pv 0))) (blkOk_by (N := ["spans", "key", "low", "high"]) (sc := defScope (top 51)) (own := [("low", 2), ("high", 3)]) (by decide +kernel)) (fun _ _ _ _ _ => (dg_tup (pg_tup rfl (dgs_cons (dg_name (pg_name (i := 2) sc_has_key.nd rfl (by first | exact Or.inl rfl | exact Or.inr rfl))) (dgs_cons (dg_name (pg_name (i := 3) sc_has_key.nd rfl (by first | exact Or.inl rfl | exact Or.inr rfl))) dgs_nil))))) (fun _ _ _ _ _ => dts_nil) (fun _ _ _ _ _ => (de_and (de_cmp (od_le hu) (de_var (pv 2)) (de_var (pv 1)) (nomark _)) (de_one (de_or (de_cmp od_is (de_var (pv 3)) de_non (nomark _)) (de_one (de_cmp (od_lt hu) (de_var (pv 1)) (de_var (pv 3)) (nomark _)))))))))) da_nil)))))
theorem sc_need_rows : FnScope [("thing" : Str), ("requirement" : Str)] [("thing" : Str)] (defScope (top 54)) := ⟨rfl, rfl, rfl, by decide +kernel, rfl, by decide +kernel, by decide +kernel⟩
theorem F_need_rows (T : Facts K mg) : Fn P w K mg base 7 "need_rows" m_need_rows := by
  have F_need_requirement := F_need_requirement (P := P) (w := w) (base := base) T
  obtain ⟨f, fd, F, hf⟩ := T.d_need_rows
  show Fn P w K mg base 7 "need_rows" (mFn 1 2 b_need_rows)
  refine ⟨f, fd, [("thing" : Str)], fn_ok (k := 6) (m := b_need_rows) rfl rfl F sc_need_rows fun cdv A outer s H E hr => ?_, hf, F.kp, F.bindsN fun _ _ _ _ _ _ us hl => match us, hl with | [_], _ => rfl⟩
  have hu := hr.units
  exact (dss_cons (ds_if (ps_if (DW.dt (dw_or (dt_not (dt_val (de_is (de_var (pv 0)) kit_tup T.b_isinstance T.b_tuple (by decide +kernel)))) (dw_or1 (dt_cmp od_gtI (de_callB cd_len T.b_len (by decide +kernel) (da_cons (de_var (pv 0)) da_nil)) (de_gint T.c_MOST_ROWS) (nomark _))))) (dss_one ds_fail) dss_nil))
 (dss_cons (ds_for (vs := [1]) (ps_for PassesOwn.never rfl (di_seq (de_var (pv 0))) (dg_name (pg_name (i := 1) sc_need_rows.nd rfl (by first | exact Or.inl rfl | exact Or.inr rfl))) (dss_one (ds_expr (ps_expr (de_call F_need_requirement hr (by decide) (da_cons (de_var (pv 1)) da_nil)))))))
 (dss_one (ds_ret (ps_ret (de_var (pv 0)))))))
theorem sc_joined : FnScope [("requirements" : Str), ("found" : Str), ("requirement" : Str)] [("requirements" : Str)] (defScope (top 55)) := ⟨rfl, rfl, rfl, by decide +kernel, rfl, by decide +kernel, by decide +kernel⟩
theorem F_joined (T : Facts K mg) : Fn P w K mg base 1 "joined" m_joined := by
  obtain ⟨f, fd, F, hf⟩ := T.d_joined
  show Fn P w K mg base 1 "joined" (mFn 1 3 b_joined)
  refine ⟨f, fd, [("requirements" : Str)], fn_ok (k := 0) (m := b_joined) rfl rfl F sc_joined fun cdv A outer s H E hr => ?_, hf, F.kp, F.bindsN fun _ _ _ _ _ _ us hl => match us, hl with | [_], _ => rfl⟩
  have hu := hr.units
  exact (dss_cons (ds_setO (ps_set (i := 1) sc_joined.nd rfl (by first | exact Or.inl rfl | exact Or.inr rfl) (do_lst (pe_lst da_nil))))
 (dss_cons (ds_for (vs := [2]) (ps_for PassesOwn.never rfl (di_seq (de_var (pv 0))) (dg_name (pg_name (i := 2) sc_joined.nd rfl (by first | exact Or.inl rfl | exact Or.inr rfl))) (dss_one (ds_extendT (ps_expr (pe_bm PySem.F.plainAttrs_list PySem.F.slot_list_extend PySem.F.type_list_extend mt_extT (pv 1) (pa_cons (de_var (pv 2)) pa_nil)))))))
 (dss_one (ds_ret (ps_ret (de_callTy cd_tuple T.b_tuple (by decide +kernel) (da_cons (de_var (pv 1)) da_nil)))))))
theorem sc_core_of : FnScope [("requirements" : Str), ("left" : Str), ("number" : Str), ("fewer" : Str), ("other" : Str)] [("requirements" : Str)] (defScope (top 56)) := ⟨rfl, rfl, rfl, by decide +kernel, rfl, by decide +kernel, by decide +kernel⟩
theorem F_core_of (T : Facts K mg) : Fn P w K mg base 9 "core_of" m_core_of := by
  have F_joined := F_joined (P := P) (w := w) (base := base) T
  have F_spans_of := F_spans_of (P := P) (w := w) (base := base) T
  obtain ⟨f, fd, F, hf⟩ := T.d_core_of
  show Fn P w K mg base 9 "core_of" (mFn 1 5 b_core_of)
  refine ⟨f, fd, [("requirements" : Str)], fn_ok (k := 8) (m := b_core_of) rfl rfl F sc_core_of fun cdv A outer s H E hr => ?_, hf, F.kp, F.bindsN fun _ _ _ _ _ _ us hl => match us, hl with | [_], _ => rfl⟩
  have hu := hr.units
  exact (dss_cons (ds_if (ps_if (dt_cmp (od_ne hu) (de_call F_spans_of hr (by decide) (da_cons (de_call F_joined hr (by decide) (da_cons (de_var (pv 0)) da_nil)) da_nil)) (DO.de (do_lst (pe_lst da_nil))) (nomark _)) (dss_one (ds_ret (ps_ret de_non))) dss_nil))
 (dss_cons (ds_set (ps_set (i := 1) sc_core_of.nd rfl (by first | exact Or.inl rfl | exact Or.inr rfl) (DO.de (do_lrange rfl T.b_list T.b_range (de_callB cd_len T.b_len (by decide +kernel) (da_cons (de_var (pv 0)) da_nil))))))
 (dss_cons (ds_for (vs := [2]) (ps_for PassesOwn.never rfl (di_range1 (pi_range1 rfl T.b_range (da_cons (de_callB cd_len T.b_len (by decide +kernel) (da_cons (de_var (pv 0)) da_nil)) da_nil))) (dg_name (pg_name (i := 2) sc_core_of.nd rfl (by first | exact Or.inl rfl | exact Or.inr rfl))) (dss_cons (ds_setLc (ps_setLc (i := 3) (own := [("other", 4)]) rfl sc_core_of.nd rfl rfl (sw_true rfl rfl rfl (by decide +kernel)) (di_seq (de_var (pv 1))) (blkOk_by (N := ["requirements", "left", "number", "fewer", "other"]) (sc := defScope (top 56)) (own := [("other", 4)]) (by decide +kernel)) (fun _ _ _ _ _ => (dg_name (pg_name (i := 4) sc_core_of.nd rfl (by first | exact Or.inl rfl | exact Or.inr rfl)))) (fun _ _ _ _ _ => (dts_one (dt_cmp (od_ne hu) (de_var (pv 4)) (de_var (pv 2)) (nomark _)))) (fun _ _ _ _ _ => (de_var (pv 4)))))
 (dss_one (ds_if (ps_if (dt_cmp (od_eq hu) (de_call F_spans_of hr (by decide) (da_cons (de_call F_joined hr (by decide) (da_cons (DO.de (do_lc (pe_lc (own := [("other", 4)]) rfl sc_core_of.nd (di_seq (de_var (pv 3))) (blkOk_by (N := ["requirements", "left", "number", "fewer", "other"]) (sc := defScope (top 56)) (own := [("other", 4)]) (by decide +kernel)) (fun _ _ _ _ _ => (dg_name (pg_name (i := 4) sc_core_of.nd rfl (by first | exact Or.inl rfl | exact Or.inr rfl)))) (fun _ _ _ _ _ => dts_nil) (fun _ _ _ _ _ => (de_ix (de_var (pv 0)) (de_var (pv 4))))))) da_nil)) da_nil)) (DO.de (do_lst (pe_lst da_nil))) (nomark _)) (dss_one (ds_set (ps_set (i := 1) sc_core_of.nd rfl (by first | exact Or.inl rfl | exact Or.inr rfl) (de_var (pv 3))))) dss_nil))))))
 (dss_one (ds_ret (ps_ret (de_var (pv 1))))))))
theorem sc_is_open : FnScope [("requirements" : Str)] [("requirements" : Str)] (defScope (top 57)) := ⟨rfl, rfl, rfl, by decide +kernel, rfl, by decide +kernel, by decide +kernel⟩
theorem F_is_open (T : Facts K mg) : Fn P w K mg base 9 "is_open" m_is_open := by
  have F_joined := F_joined (P := P) (w := w) (base := base) T
  have F_need_rows := F_need_rows (P := P) (w := w) (base := base) T
  have F_spans_of := F_spans_of (P := P) (w := w) (base := base) T
  obtain ⟨f, fd, F, hf⟩ := T.d_is_open
  show Fn P w K mg base 9 "is_open" (mFn 1 1 b_is_open)
  refine ⟨f, fd, [("requirements" : Str)], fn_ok (k := 8) (m := b_is_open) rfl rfl F sc_is_open fun cdv A outer s H E hr => ?_, hf, F.kp, F.bindsN fun _ _ _ _ _ _ us hl => match us, hl with | [_], _ => rfl⟩
  have hu := hr.units
  exact (dss_one (ds_ret (ps_ret (de_cmp (od_ne hu) (de_call F_spans_of hr (by decide) (da_cons (de_call F_joined hr (by decide) (da_cons (de_call F_need_rows hr (by decide) (da_cons (de_var (pv 0)) da_nil)) da_nil)) da_nil)) (DO.de (do_lst (pe_lst da_nil))) (nomark _)))))
theorem sc_core : FnScope [("requirements" : Str), ("found" : Str)] [("requirements" : Str)] (defScope (top 58)) := ⟨rfl, rfl, rfl, by decide +kernel, rfl, by decide +kernel, by decide +kernel⟩
theorem F_core (T : Facts K mg) : Fn P w K mg base 10 "core" m_core := by
  have F_core_of := F_core_of (P := P) (w := w) (base := base) T
  have F_need_rows := F_need_rows (P := P) (w := w) (base := base) T
  obtain ⟨f, fd, F, hf⟩ := T.d_core
  show Fn P w K mg base 10 "core" (mFn 1 2 b_core)
  refine ⟨f, fd, [("requirements" : Str)], fn_ok (k := 9) (m := b_core) rfl rfl F sc_core fun cdv A outer s H E hr => ?_, hf, F.kp, F.bindsN fun _ _ _ _ _ _ us hl => match us, hl with | [_], _ => rfl⟩
  have hu := hr.units
  exact (dss_cons (ds_set (ps_set (i := 1) sc_core.nd rfl (by first | exact Or.inl rfl | exact Or.inr rfl) (de_call F_core_of hr (by decide) (da_cons (de_call F_need_rows hr (by decide) (da_cons (de_var (pv 0)) da_nil)) da_nil))))
 (dss_one (ds_ret (ps_ret (de_if (dt_cmp od_is (de_var (pv 1)) de_non (nomark _)) de_non (de_callTy cd_tuple T.b_tuple (by decide +kernel) (da_cons (de_var (pv 1)) da_nil)))))))
theorem sc_bars : FnScope [("requirements" : Str), ("version" : Str), ("key" : Str), ("number" : Str), ("one" : Str)] [("requirements" : Str), ("version" : Str)] (defScope (top 59)) := ⟨rfl, rfl, rfl, by decide +kernel, rfl, by decide +kernel, by decide +kernel⟩
theorem F_bars (T : Facts K mg) : Fn P w K mg base 9 "bars" m_bars := by
  have F_has_key := F_has_key (P := P) (w := w) (base := base) T
  have F_key_of := F_key_of (P := P) (w := w) (base := base) T
  have F_need_rows := F_need_rows (P := P) (w := w) (base := base) T
  have F_need_version := F_need_version (P := P) (w := w) (base := base) T
  have F_spans_of := F_spans_of (P := P) (w := w) (base := base) T
  obtain ⟨f, fd, F, hf⟩ := T.d_bars
  show Fn P w K mg base 9 "bars" (mFn 2 5 b_bars)
  refine ⟨f, fd, [("requirements" : Str), ("version" : Str)], fn_ok (k := 8) (m := b_bars) rfl rfl F sc_bars fun cdv A outer s H E hr => ?_, hf, F.kp, F.bindsN fun _ _ _ _ _ _ us hl => match us, hl with | [_, _], _ => rfl⟩
  have hu := hr.units
  exact (dss_cons (ds_expr (ps_expr (de_call F_need_rows hr (by decide) (da_cons (de_var (pv 0)) da_nil))))
 (dss_cons (ds_set (ps_set (i := 2) sc_bars.nd rfl (by first | exact Or.inl rfl | exact Or.inr rfl) (de_call F_key_of hr (by decide) (da_cons (de_call F_need_version hr (by decide) (da_cons (de_var (pv 1)) da_nil)) da_nil))))
 (dss_one (ds_ret (ps_ret (de_callTy cd_tuple T.b_tuple (by decide +kernel) (da_cons (DO.de (do_lc (pe_lc (own := [("number", 3), ("one", 4)]) rfl sc_bars.nd (di_enum T.b_enumerate (da_cons (de_var (pv 0)) da_nil)) (blkOk_by (N := ["requirements", "version", "key", "number", "one"]) (sc := defScope (top 59)) (own := [("number", 3), ("one", 4)]) (by decide +kernel)) (fun _ _ _ _ _ => (dg_tup (pg_tup rfl (dgs_cons (dg_name (pg_name (i := 3) sc_bars.nd rfl (by first | exact Or.inl rfl | exact Or.inr rfl))) (dgs_cons (dg_name (pg_name (i := 4) sc_bars.nd rfl (by first | exact Or.inl rfl | exact Or.inr rfl))) dgs_nil))))) (fun _ _ _ _ _ => (dts_one (dt_not (dt_val (de_call F_has_key hr (by decide) (da_cons (de_call F_spans_of hr (by decide) (da_cons (de_var (pv 4)) da_nil)) (da_cons (de_var (pv 2)) da_nil))))))) (fun _ _ _ _ _ => (de_var (pv 3)))))) da_nil)))))))
theorem sc__law_of : FnScope [("state" : Str), ("some" : Str)] [("state" : Str), ("some" : Str)] (defScope (top 64)) := ⟨rfl, rfl, rfl, by decide +kernel, rfl, by decide +kernel, by decide +kernel⟩
theorem F__law_of (T : Facts K mg) : Fn P w K mg base 3 "_law_of" m__law_of := by
  have F__law_draw := F__law_draw (P := P) (w := w) (base := base) T
  obtain ⟨f, fd, F, hf⟩ := T.d__law_of
  show Fn P w K mg base 3 "_law_of" (mFn 2 2 b__law_of)
  refine ⟨f, fd, [("state" : Str), ("some" : Str)], fn_ok (k := 2) (m := b__law_of) rfl rfl F sc__law_of fun cdv A outer s H E hr => ?_, hf, F.kp, F.bindsN fun _ _ _ _ _ _ us hl => match us, hl with | [_, _], _ => rfl⟩
  have hu := hr.units
  exact (dss_one (ds_ret (ps_ret (de_ix (de_var (pv 1)) (de_call F__law_draw hr (by decide) (da_cons (de_var (pv 0)) (da_cons (de_callB cd_len T.b_len (by decide +kernel) (da_cons (de_var (pv 1)) da_nil)) da_nil)))))))
theorem F__law_ofZ (T : Facts K mg) : Fn P w K mg base 3 "_law_of" m__law_ofZ := by
  have F__law_draw := F__law_draw (P := P) (w := w) (base := base) T
  obtain ⟨f, fd, F, hf⟩ := T.d__law_of
  show Fn P w K mg base 3 "_law_of" (mFn 2 2 b__law_ofZ)
  refine ⟨f, fd, [("state" : Str), ("some" : Str)], fn_ok (k := 2) (m := b__law_ofZ) rfl rfl F sc__law_of fun cdv A outer s H E hr => ?_, hf, F.kp, F.bindsN fun _ _ _ _ _ _ us hl => match us, hl with | [_, _], _ => rfl⟩
  have hu := hr.units
  exact (dss_one (ds_ret (ps_ret (de_ixL (de_var (pv 1)) (de_call F__law_draw hr (by decide) (da_cons (de_var (pv 0)) (da_cons (de_lenL (de_var (pv 1)) T.b_len) da_nil)))))))
theorem sc__law_heard : FnScope [("asked" : Str), ("caught" : Str), ("told" : Str), ("e" : Str), ("kinds" : Str), ("words" : Str), ("at" : Str)] [("asked" : Str)] (defScope (top 65)) := ⟨rfl, rfl, rfl, by decide +kernel, rfl, by decide +kernel, by decide +kernel⟩
theorem Z__law_heard (T : Facts K mg) : SaidD P w K mg base "_law_heard" 1 f__law_heard := by
  obtain ⟨g, fd, F, hf⟩ := T.d__law_heard
  refine ⟨g, fd, defArgs (top 65), defBody (top 65), defScope (top 65), [("asked" : Str), ("caught" : Str), ("told" : Str), ("e" : Str), ("kinds" : Str), ("words" : Str), ("at" : Str)], "asked", F, hf, F.bindsN fun _ _ _ _ _ _ us hl => match us, hl with | [_], _ => rfl, sc__law_heard, rfl, .inl rfl, by decide, by decide, fun X e1 e2 e3 e4 e5 hrm cdv q => ?_⟩
  subst e1 e2 e3 e4 e5
  refine said3_of (CS := [("PickError" : Str), ("BadVersion" : Str), ("BadRequirement" : Str), ("BadReleases" : Str), ("BadText" : Str), ("BadQuestion" : Str)]) (m0 := m0__law_heard) (mX := mX__law_heard) (k := 0) (iT := 2) (iC := 1) (iE := 3) (n := 7) (ns := [("PickError", _), ("Missing", _)]) T.xs hrm sc__law_heard rfl rfl rfl rfl rfl rfl rfl rfl (by decide) (by decide) (by decide) (by decide) rfl rfl (fun s H => (.cons ⟨rfl, by decide, .inl (T.xs.glo "PickError" (by decide))⟩ (.cons ⟨rfl, by decide, .inl T.xm_Missing.1⟩ .nil))) (by show 2 ≤ sizeLine; decide) T.xt__law_heard (fun s H => three_of (ps_par (i := 1) (j := 2) rfl sc__law_heard.nd rfl rfl (by decide) rfl rfl (pa_cons pe_non (pa_cons (pe_lst pa_nil) pa_nil)) rfl) fun _ _ _ h => h) (fun s H hr => ?_) (fun s H a oe d pn xc hr hm hz hv hpd => ?_)
  · have hu := hr.units
    exact (dss_cons (ds_if (ps_if (dt_isNn (pv 1) pe_non (nomark _)) (dss_one (ds_ret (ps_ret (de_var (pv 2))))) dss_nil)) dss_stop)
  · have hu := hr.units
    have C := T.xs.exC _ hm
    exact (dss_cons (ds_if (ps_if (dt_isNn (pv 1) pe_non (nomark _)) (dss_one (ds_ret (ps_ret (de_var (pv 2))))) dss_nil))
 (dss_cons (ds_set (ps_set (i := 4) sc__law_heard.nd rfl (by first | exact Or.inl rfl | exact Or.inr rfl) (DO.de (do_lst (pe_lst (da_cons (de_isX (pl := xc.place) C hz hv hpd (pv 1) (T.xs.glo "BadVersion" (by decide)) (T.xs.ks _ hm _ (by decide)) T.b_isinstance) (da_cons (de_isX (pl := xc.place) C hz hv hpd (pv 1) (T.xs.glo "BadQuestion" (by decide)) (T.xs.ks _ hm _ (by decide)) T.b_isinstance) (da_cons (de_isX (pl := xc.place) C hz hv hpd (pv 1) (T.xs.glo "BadText" (by decide)) (T.xs.ks _ hm _ (by decide)) T.b_isinstance) da_nil))))))))
 (dss_cons (ds_set (ps_set (i := 4) sc__law_heard.nd rfl (by first | exact Or.inl rfl | exact Or.inr rfl) (de_op od_add (de_var (pv 4)) (DO.de (do_lst (pe_lst (da_cons (de_isX (pl := xc.place) C hz hv hpd (pv 1) (T.xs.glo "BadRequirement" (by decide)) (T.xs.ks _ hm _ (by decide)) T.b_isinstance) (da_cons (de_isX (pl := xc.place) C hz hv hpd (pv 1) (T.xs.glo "BadReleases" (by decide)) (T.xs.ks _ hm _ (by decide)) T.b_isinstance) (da_cons (de_isX (pl := xc.place) C hz hv hpd (pv 1) T.xm_Missing.1 (T.xm_Missing.2 _ hm) T.b_isinstance) da_nil)))))))))
 (dss_cons (ds_set (ps_set (i := 5) sc__law_heard.nd rfl (by first | exact Or.inl rfl | exact Or.inr rfl) (DO.de (do_lst (pe_lst (da_cons de_str (da_cons de_str (da_cons de_str (da_cons de_str (da_cons de_str (da_cons de_str da_nil)))))))))))
 (dss_cons (ds_if (ps_if (dt_cmp (od_ne hu) (de_cntB (pe_bm PySem.F.plainAttrs_list PySem.F.slot_list_count PySem.F.type_list_count mt_cntF (de_var (pv 4)) (pa_cons pe_bl pa_nil))) de_int (nomark _)) (dss_one (ds_ret (ps_ret de_str))) dss_nil))
 (dss_cons (ds_set (ps_set (i := 6) sc__law_heard.nd rfl (by first | exact Or.inl rfl | exact Or.inr rfl) (de_idxB (pe_bm PySem.F.plainAttrs_list PySem.F.slot_list_index PySem.F.type_list_index mt_index (de_var (pv 4)) (pa_cons pe_bl pa_nil)))))
 (dss_cons (ds_if (ps_if (dt_cmp (od_lt hu) (de_var (pv 6)) de_int (nomark _)) (dss_one (ds_ret (ps_ret (de_ix (de_var (pv 5)) (de_var (pv 6)))))) dss_nil))
 (dss_one (ds_ret (ps_ret (de_tup (pe_tup (da_cons (de_ix (de_var (pv 5)) (de_var (pv 6))) (da_cons (de_if (dt_cmp (od_eq hu) (de_var (pv 6)) de_int (nomark _)) de_stop0 (de_place (pl := xc.place) (T.xs.xf _ hm) (T.xs.np _ hm) hz hv (pv 1))) da_nil))))))))))))))
theorem XI_BadRequirement (T : Facts K mg) : XI P w K mg base "BadRequirement" 1 := by
  obtain ⟨fd, F⟩ := T.n_BadRequirement
  exact ⟨T.o_BadRequirement, fd, ["self", "place"], init_ok (k := 0) T.o_BadRequirement F ⟨rfl, rfl, rfl, by decide +kernel, rfl, by decide +kernel, by decide +kernel⟩ rfl rfl rfl (fun _ => rfl), F.bindsN fun _ _ _ _ _ _ us hl => match us, hl with | [_, _], _ => rfl⟩
theorem R_need_key (T : Facts K mg) : FnR P w K mg base 5 "need_key" r_need_key := by
  have F_parts_of := F_parts_of (P := P) (w := w) (base := base) T
  obtain ⟨f, fd, F, hf⟩ := T.d_need_key
  show FnR P w K mg base 5 "need_key" (rFn 1 2 rb_need_key)
  refine ⟨f, fd, [("thing" : Str)], fnR_ok (k := 4) (r := rb_need_key) rfl rfl F sc_need_key fun cdv A outer s H E hr => ?_, hf, F.kp, F.bindsN fun _ _ _ _ _ _ us hl => match us, hl with | [_], _ => rfl⟩
  have hu := hr.units
  have tk := takes_cx (P := P) (w := w) (K := K) (mg := mg) (base := base) (qual := "need_key") (scope := defScope (top 28)) (f := f) (N := [("thing" : Str), ("parts" : Str)]) (cdv := cdv) (A := A) (outer := outer) (s := s) (H := H) (E := E)
  have hp := passes_cx (P := P) (w := w) (K := K) (mg := mg) (base := base) (qual := "need_key") (scope := defScope (top 28)) (f := f) (N := [("thing" : Str), ("parts" : Str)]) (cdv := cdv) (A := A) (outer := outer) (s := s) (H := H) (E := E)
  exact (rss_cons (ds_set (ps_set (i := 1) sc_need_key.nd rfl (by first | exact Or.inl rfl | exact Or.inr rfl) (de_call F_parts_of hr (by decide) (da_cons (de_var (pv 0)) da_nil)))) rs_no0
 (rss_cons (ds_if (ps_if (dt_cmp od_is (de_var (pv 1)) de_non (nomark _)) (dss_one ds_fail) dss_nil)) (rs_if (dt_cmp od_is (de_var (pv 1)) de_non (nomark _)) (rss_one (rs_x0 T.x0_BadVersion tk)) rss_no0)
 rss_no0))
theorem R_need_version (T : Facts K mg) : FnR P w K mg base 6 "need_version" r_need_version := by
  have F_need_key := F_need_key (P := P) (w := w) (base := base) T
  have R_need_key := R_need_key (P := P) (w := w) (base := base) T
  obtain ⟨f, fd, F, hf⟩ := T.d_need_version
  show FnR P w K mg base 6 "need_version" (rFn 1 1 rb_need_version)
  refine ⟨f, fd, [("thing" : Str)], fnR_ok (k := 5) (r := rb_need_version) rfl rfl F sc_need_version fun cdv A outer s H E hr => ?_, hf, F.kp, F.bindsN fun _ _ _ _ _ _ us hl => match us, hl with | [_], _ => rfl⟩
  have hu := hr.units
  have tk := takes_cx (P := P) (w := w) (K := K) (mg := mg) (base := base) (qual := "need_version") (scope := defScope (top 29)) (f := f) (N := [("thing" : Str)]) (cdv := cdv) (A := A) (outer := outer) (s := s) (H := H) (E := E)
  have hp := passes_cx (P := P) (w := w) (K := K) (mg := mg) (base := base) (qual := "need_version") (scope := defScope (top 29)) (f := f) (N := [("thing" : Str)]) (cdv := cdv) (A := A) (outer := outer) (s := s) (H := H) (E := E)
  exact (rss_cons (ds_expr (ps_expr (de_call F_need_key hr (by decide) (da_cons (de_var (pv 0)) da_nil)))) (rs_expr (re_call R_need_key tk hr (by decide) (da_cons (de_var (pv 0)) da_nil)))
 rss_no0)
theorem R_need_requirement (T : Facts K mg) : FnR P w K mg base 6 "need_requirement" r_need_requirement := by
  have F_is_clause := F_is_clause (P := P) (w := w) (base := base) T
  have XI_BadRequirement := XI_BadRequirement (P := P) (w := w) (base := base) T
  obtain ⟨f, fd, F, hf⟩ := T.d_need_requirement
  show FnR P w K mg base 6 "need_requirement" (rFn 1 3 rb_need_requirement)
  refine ⟨f, fd, [("thing" : Str)], fnR_ok (k := 5) (r := rb_need_requirement) rfl rfl F sc_need_requirement fun cdv A outer s H E hr => ?_, hf, F.kp, F.bindsN fun _ _ _ _ _ _ us hl => match us, hl with | [_], _ => rfl⟩
  have hu := hr.units
  have tk := takes_cx (P := P) (w := w) (K := K) (mg := mg) (base := base) (qual := "need_requirement") (scope := defScope (top 38)) (f := f) (N := [("thing" : Str), ("number" : Str), ("clause" : Str)]) (cdv := cdv) (A := A) (outer := outer) (s := s) (H := H) (E := E)
  have hp := passes_cx (P := P) (w := w) (K := K) (mg := mg) (base := base) (qual := "need_requirement") (scope := defScope (top 38)) (f := f) (N := [("thing" : Str), ("number" : Str), ("clause" : Str)]) (cdv := cdv) (A := A) (outer := outer) (s := s) (H := H) (E := E)
  exact (rss_cons (ds_if (ps_if (DW.dt (dw_or (dt_not (dt_val (de_isL (de_var (pv 0)) kitL_tup T.b_isinstance T.b_tuple (by decide +kernel)))) (dw_or1 (dt_cmp od_gtI (de_callB cd_len T.b_len (by decide +kernel) (da_cons (de_var (pv 0)) da_nil)) (de_gint T.c_MOST_CLAUSES) (nomark _))))) (dss_one ds_fail) dss_nil)) (rs_if (DW.dt (dw_or (dt_not (dt_val (de_isL (de_var (pv 0)) kitL_tup T.b_isinstance T.b_tuple (by decide +kernel)))) (dw_or1 (dt_cmp od_gtI (de_callB cd_len T.b_len (by decide +kernel) (da_cons (de_var (pv 0)) da_nil)) (de_gint T.c_MOST_CLAUSES) (nomark _))))) (rss_one (rs_x1 XI_BadRequirement tk (hr.mono (by decide)) (de_tup (pe_tup da_nil)))) rss_no0)
 (rss_cons (ds_for (vs := [1, 2]) (ps_for hp rfl (di_enum T.b_enumerate (da_cons (de_var (pv 0)) da_nil)) (dg_tup (pg_tup rfl (dgs_cons (dg_name (pg_name (i := 1) sc_need_requirement.nd rfl (by first | exact Or.inl rfl | exact Or.inr rfl))) (dgs_cons (dg_name (pg_name (i := 2) sc_need_requirement.nd rfl (by first | exact Or.inl rfl | exact Or.inr rfl))) dgs_nil)))) (dss_one (ds_if (ps_if (dt_not (dt_val (de_call F_is_clause hr (by decide) (da_cons (de_var (pv 2)) da_nil)))) (dss_one ds_fail) dss_nil))))) (rs_for (vs := [1, 2]) (ps_for hp rfl (di_enum T.b_enumerate (da_cons (de_var (pv 0)) da_nil)) (dg_tup (pg_tup rfl (dgs_cons (dg_name (pg_name (i := 1) sc_need_requirement.nd rfl (by first | exact Or.inl rfl | exact Or.inr rfl))) (dgs_cons (dg_name (pg_name (i := 2) sc_need_requirement.nd rfl (by first | exact Or.inl rfl | exact Or.inr rfl))) dgs_nil)))) (PSs.or (rss_one (rs_if (dt_not (dt_val (de_call F_is_clause hr (by decide) (da_cons (de_var (pv 2)) da_nil)))) (rss_one (rs_x1 XI_BadRequirement tk (hr.mono (by decide)) (de_tup (pe_tup (da_cons (de_var (pv 1)) da_nil))))) rss_no0)) (dss_one (ds_if (ps_if (dt_not (dt_val (de_call F_is_clause hr (by decide) (da_cons (de_var (pv 2)) da_nil)))) (dss_one ds_fail) dss_nil))))))
 rss_no0))
theorem R_need_rows (T : Facts K mg) : FnR P w K mg base 7 "need_rows" r_need_rows := by
  have F_need_requirement := F_need_requirement (P := P) (w := w) (base := base) T
  have R_need_requirement := R_need_requirement (P := P) (w := w) (base := base) T
  obtain ⟨f, fd, F, hf⟩ := T.d_need_rows
  show FnR P w K mg base 7 "need_rows" (rFn 1 2 rb_need_rows)
  refine ⟨f, fd, [("thing" : Str)], fnR_ok (k := 6) (r := rb_need_rows) rfl rfl F sc_need_rows fun cdv A outer s H E hr => ?_, hf, F.kp, F.bindsN fun _ _ _ _ _ _ us hl => match us, hl with | [_], _ => rfl⟩
  have hu := hr.units
  have tk := takes_cx (P := P) (w := w) (K := K) (mg := mg) (base := base) (qual := "need_rows") (scope := defScope (top 54)) (f := f) (N := [("thing" : Str), ("requirement" : Str)]) (cdv := cdv) (A := A) (outer := outer) (s := s) (H := H) (E := E)
  have hp := passes_cx (P := P) (w := w) (K := K) (mg := mg) (base := base) (qual := "need_rows") (scope := defScope (top 54)) (f := f) (N := [("thing" : Str), ("requirement" : Str)]) (cdv := cdv) (A := A) (outer := outer) (s := s) (H := H) (E := E)
  exact (rss_cons (ds_if (ps_if (DW.dt (dw_or (dt_not (dt_val (de_isL (de_var (pv 0)) kitL_tup T.b_isinstance T.b_tuple (by decide +kernel)))) (dw_or1 (dt_cmp od_gtI (de_lenL (de_var (pv 0)) T.b_len) (de_gint T.c_MOST_ROWS) (nomark _))))) (dss_one ds_fail) dss_nil)) (rs_if (DW.dt (dw_or (dt_not (dt_val (de_isL (de_var (pv 0)) kitL_tup T.b_isinstance T.b_tuple (by decide +kernel)))) (dw_or1 (dt_cmp od_gtI (de_lenL (de_var (pv 0)) T.b_len) (de_gint T.c_MOST_ROWS) (nomark _))))) (rss_one (rs_x0 T.x0_BadQuestion tk)) rss_no0)
 (rss_cons (ds_forL (vs := [1]) (ps_for hp rfl (di_seqL (de_var (pv 0))) (dg_nameL (pg_name (i := 1) sc_need_rows.nd rfl (by first | exact Or.inl rfl | exact Or.inr rfl))) (dss_one (ds_expr (ps_expr (de_call F_need_requirement hr (by decide) (da_cons (de_var (pv 1)) da_nil))))))) (rs_forL (vs := [1]) (ps_for hp rfl (di_seqL (de_var (pv 0))) (dg_nameL (pg_name (i := 1) sc_need_rows.nd rfl (by first | exact Or.inl rfl | exact Or.inr rfl))) (PSs.or (rss_one (rs_expr (re_call R_need_requirement tk hr (by decide) (da_cons (de_var (pv 1)) da_nil)))) (dss_one (ds_expr (ps_expr (de_call F_need_requirement hr (by decide) (da_cons (de_var (pv 1)) da_nil))))))))
 rss_no0))
theorem R_is_open (T : Facts K mg) : FnR P w K mg base 9 "is_open" r_is_open := by
  have F_joined := F_joined (P := P) (w := w) (base := base) T
  have F_need_rows := F_need_rows (P := P) (w := w) (base := base) T
  have F_spans_of := F_spans_of (P := P) (w := w) (base := base) T
  have R_need_rows := R_need_rows (P := P) (w := w) (base := base) T
  obtain ⟨f, fd, F, hf⟩ := T.d_is_open
  show FnR P w K mg base 9 "is_open" (rFn 1 1 rb_is_open)
  refine ⟨f, fd, [("requirements" : Str)], fnR_ok (k := 8) (r := rb_is_open) rfl rfl F sc_is_open fun cdv A outer s H E hr => ?_, hf, F.kp, F.bindsN fun _ _ _ _ _ _ us hl => match us, hl with | [_], _ => rfl⟩
  have hu := hr.units
  have tk := takes_cx (P := P) (w := w) (K := K) (mg := mg) (base := base) (qual := "is_open") (scope := defScope (top 57)) (f := f) (N := [("requirements" : Str)]) (cdv := cdv) (A := A) (outer := outer) (s := s) (H := H) (E := E)
  have hp := passes_cx (P := P) (w := w) (K := K) (mg := mg) (base := base) (qual := "is_open") (scope := defScope (top 57)) (f := f) (N := [("requirements" : Str)]) (cdv := cdv) (A := A) (outer := outer) (s := s) (H := H) (E := E)
  exact (rss_one (rs_ret (re_cmp (de_call F_spans_of hr (by decide) (da_cons (de_call F_joined hr (by decide) (da_cons (de_call F_need_rows hr (by decide) (da_cons (de_var (pv 0)) da_nil)) da_nil)) da_nil)) (re_arg F_spans_of hr (by decide) (ra_cons (de_call F_joined hr (by decide) (da_cons (de_call F_need_rows hr (by decide) (da_cons (de_var (pv 0)) da_nil)) da_nil)) (re_arg F_joined hr (by decide) (ra_cons (de_call F_need_rows hr (by decide) (da_cons (de_var (pv 0)) da_nil)) (re_call R_need_rows tk hr (by decide) (da_cons (de_var (pv 0)) da_nil)) ra_nil)) ra_nil)) (re_no (DO.de (do_lst (pe_lst da_nil)))) (nomark _))))
theorem R_core (T : Facts K mg) : FnR P w K mg base 10 "core" r_core := by
  have F_core_of := F_core_of (P := P) (w := w) (base := base) T
  have F_need_rows := F_need_rows (P := P) (w := w) (base := base) T
  have R_need_rows := R_need_rows (P := P) (w := w) (base := base) T
  obtain ⟨f, fd, F, hf⟩ := T.d_core
  show FnR P w K mg base 10 "core" (rFn 1 2 rb_core)
  refine ⟨f, fd, [("requirements" : Str)], fnR_ok (k := 9) (r := rb_core) rfl rfl F sc_core fun cdv A outer s H E hr => ?_, hf, F.kp, F.bindsN fun _ _ _ _ _ _ us hl => match us, hl with | [_], _ => rfl⟩
  have hu := hr.units
  have tk := takes_cx (P := P) (w := w) (K := K) (mg := mg) (base := base) (qual := "core") (scope := defScope (top 58)) (f := f) (N := [("requirements" : Str), ("found" : Str)]) (cdv := cdv) (A := A) (outer := outer) (s := s) (H := H) (E := E)
  have hp := passes_cx (P := P) (w := w) (K := K) (mg := mg) (base := base) (qual := "core") (scope := defScope (top 58)) (f := f) (N := [("requirements" : Str), ("found" : Str)]) (cdv := cdv) (A := A) (outer := outer) (s := s) (H := H) (E := E)
  exact (rss_cons (ds_set (ps_set (i := 1) sc_core.nd rfl (by first | exact Or.inl rfl | exact Or.inr rfl) (de_call F_core_of hr (by decide) (da_cons (de_call F_need_rows hr (by decide) (da_cons (de_var (pv 0)) da_nil)) da_nil)))) (rs_asg (ps_set (i := 1) sc_core.nd rfl (by first | exact Or.inl rfl | exact Or.inr rfl) (re_arg F_core_of hr (by decide) (ra_cons (de_call F_need_rows hr (by decide) (da_cons (de_var (pv 0)) da_nil)) (re_call R_need_rows tk hr (by decide) (da_cons (de_var (pv 0)) da_nil)) ra_nil))))
 rss_no0)
theorem R_bars (T : Facts K mg) : FnR P w K mg base 9 "bars" r_bars := by
  have F_key_of := F_key_of (P := P) (w := w) (base := base) T
  have F_need_rows := F_need_rows (P := P) (w := w) (base := base) T
  have F_need_version := F_need_version (P := P) (w := w) (base := base) T
  have R_need_rows := R_need_rows (P := P) (w := w) (base := base) T
  have R_need_version := R_need_version (P := P) (w := w) (base := base) T
  obtain ⟨f, fd, F, hf⟩ := T.d_bars
  show FnR P w K mg base 9 "bars" (rFn 2 5 rb_bars)
  refine ⟨f, fd, [("requirements" : Str), ("version" : Str)], fnR_ok (k := 8) (r := rb_bars) rfl rfl F sc_bars fun cdv A outer s H E hr => ?_, hf, F.kp, F.bindsN fun _ _ _ _ _ _ us hl => match us, hl with | [_, _], _ => rfl⟩
  have hu := hr.units
  have tk := takes_cx (P := P) (w := w) (K := K) (mg := mg) (base := base) (qual := "bars") (scope := defScope (top 59)) (f := f) (N := [("requirements" : Str), ("version" : Str), ("key" : Str), ("number" : Str), ("one" : Str)]) (cdv := cdv) (A := A) (outer := outer) (s := s) (H := H) (E := E)
  have hp := passes_cx (P := P) (w := w) (K := K) (mg := mg) (base := base) (qual := "bars") (scope := defScope (top 59)) (f := f) (N := [("requirements" : Str), ("version" : Str), ("key" : Str), ("number" : Str), ("one" : Str)]) (cdv := cdv) (A := A) (outer := outer) (s := s) (H := H) (E := E)
  exact (rss_cons (ds_expr (ps_expr (de_call F_need_rows hr (by decide) (da_cons (de_var (pv 0)) da_nil)))) (rs_expr (re_call R_need_rows tk hr (by decide) (da_cons (de_var (pv 0)) da_nil)))
 (rss_cons (ds_set (ps_set (i := 2) sc_bars.nd rfl (by first | exact Or.inl rfl | exact Or.inr rfl) (de_call F_key_of hr (by decide) (da_cons (de_call F_need_version hr (by decide) (da_cons (de_var (pv 1)) da_nil)) da_nil)))) (rs_asg (ps_set (i := 2) sc_bars.nd rfl (by first | exact Or.inl rfl | exact Or.inr rfl) (re_arg F_key_of hr (by decide) (ra_cons (de_call F_need_version hr (by decide) (da_cons (de_var (pv 1)) da_nil)) (re_call R_need_version tk hr (by decide) (da_cons (de_var (pv 1)) da_nil)) ra_nil))))
 rss_no0))
theorem sc__law_all : FnScope [("rows" : Str), ("version" : Str), ("found" : Str)] [("rows" : Str), ("version" : Str)] (defScope (top 66)) := ⟨rfl, rfl, rfl, by decide +kernel, rfl, by decide +kernel, by decide +kernel⟩
theorem F__law_all (T : Facts K mg) (B : FactsL K mg base) : FnG P w K mg base 14 "_law_all" m__law_all_k46 := by
  have F_bars := F_bars (P := P) (w := w) (base := base) T
  have F_core := F_core (P := P) (w := w) (base := base) T
  have F_is_open := F_is_open (P := P) (w := w) (base := base) T
  have R_bars := R_bars (P := P) (w := w) (base := base) T
  have R_core := R_core (P := P) (w := w) (base := base) T
  have R_is_open := R_is_open (P := P) (w := w) (base := base) T
  have Z__law_heard := Z__law_heard (P := P) (w := w) (base := base) T
  obtain ⟨f, fd, F, hf⟩ := T.d__law_all
  obtain ⟨lcA, lt, lc, lt1, lt2, lt3⟩ := B.l__law_all.code F hf
  show FnG P w K mg base 14 "_law_all" (mFn 2 3 b__law_all_k46)
  refine ⟨f, fd, [("rows" : Str), ("version" : Str)], fn_okL (k := 13) (m := b__law_all_k46) rfl rfl F sc__law_all fun A outer s H E hG hr => ?_, hf, F.kp, F.bindsN fun _ _ _ _ _ _ us hl => match us, hl with | [_, _], _ => rfl⟩
  have hu := hr.units
  exact (dss_cons (ds_set (ps_set (i := 2) sc__law_all.nd rfl (by first | exact Or.inl rfl | exact Or.inr rfl) (DO.de (do_lst (pe_lst (da_cons (de_lam0 (k := 11) Z__law_heard lt3 lc lt1 lt2 hr (by decide) (lamS_by (by kernel_rfl)) (fun A outer s H E f c' hr tk => have hu := hr.units; ⟨(de_call F_is_open hr (by decide) (da_cons (de_var (pv 0)) da_nil)), (re_call R_is_open tk hr (by decide) (da_cons (de_var (pv 0)) da_nil))⟩)) (da_cons (de_lam1 (n := "y") (k := 11) Z__law_heard lt3 lc lt1 lt2 hr (by decide) (lamS_by (by kernel_rfl)) (fun A outer s H E f c' hr tk => have hu := hr.units; ⟨(de_call F_core hr (by decide) (da_cons (de_var (pv 0)) da_nil)), (re_call R_core tk hr (by decide) (da_cons (de_var (pv 0)) da_nil))⟩) rfl) da_nil)))))))
 (dss_one (ds_ret (ps_ret (de_op od_add (de_var (pv 2)) (DO.de (do_lst (pe_lst (da_cons (de_lam0 (k := 11) Z__law_heard lt3 lc lt1 lt2 hr (by decide) (lamS_by (by kernel_rfl)) (fun A outer s H E f c' hr tk => have hu := hr.units; ⟨(de_call F_bars hr (by decide) (da_cons (de_var (pv 0)) (da_cons (de_var (pv 1)) da_nil))), (re_call R_bars tk hr (by decide) (da_cons (de_var (pv 0)) (da_cons (de_var (pv 1)) da_nil)))⟩)) da_nil)))))))))
theorem sc__law_full_right : FnScope [("rows" : Str), ("full" : Str), ("k" : Str), ("j" : Str)] [] (defScope (top 67)) := ⟨rfl, rfl, rfl, by decide +kernel, rfl, by decide +kernel, by decide +kernel⟩
theorem F__law_full_right (T : Facts K mg) : Fn P w K mg base 11 "_law_full_right" m__law_full_right := by
  have F_bars := F_bars (P := P) (w := w) (base := base) T
  have F_core := F_core (P := P) (w := w) (base := base) T
  have F_is_open := F_is_open (P := P) (w := w) (base := base) T
  obtain ⟨f, fd, F, hf⟩ := T.d__law_full_right
  show Fn P w K mg base 11 "_law_full_right" (mFn 0 4 b__law_full_right)
  refine ⟨f, fd, [], fn_ok (k := 10) (m := b__law_full_right) rfl rfl F sc__law_full_right fun cdv A outer s H E hr => ?_, hf, F.kp, F.bindsN fun _ _ _ _ _ _ us hl => match us, hl with | [], _ => rfl⟩
  have hu := hr.units
  exact (dss_cons (ds_setLc (ps_setLc (i := 0) (own := [("k", 2)]) rfl sc__law_full_right.nd rfl rfl (sw_true rfl rfl rfl (by decide +kernel)) (di_range1 (pi_range1 rfl T.b_range (da_cons de_int da_nil))) (blkOk_by (N := ["rows", "full", "k", "j"]) (sc := defScope (top 67)) (own := [("k", 2)]) (by decide +kernel)) (fun _ _ _ _ _ => (dg_name (pg_name (i := 2) sc__law_full_right.nd rfl (by first | exact Or.inl rfl | exact Or.inr rfl)))) (fun _ _ _ _ _ => dts_nil) (fun _ _ _ _ _ => (de_callTy cd_tuple T.b_tuple (by decide +kernel) (da_cons (DO.de (do_lc (pe_lc (own := [("j", 3)]) rfl sc__law_full_right.nd (di_range1 (pi_range1 rfl T.b_range (da_cons de_int da_nil))) (blkOk_by (own := [("j", 3)]) (by kernel_rfl)) (fun _ _ _ _ _ => (dg_name (pg_name (i := 3) sc__law_full_right.nd rfl (by first | exact Or.inl rfl | exact Or.inr rfl)))) (fun _ _ _ _ _ => dts_nil) (fun _ _ _ _ _ => (de_tup (pe_tup (da_cons de_str (da_cons (de_op od_add (de_callTy cd_str T.b_str (by decide +kernel) (da_cons (de_op od_add (de_op od_mul de_int (de_var (pv 2))) (de_var (pv 3))) da_nil)) de_str) da_nil)))))))) da_nil)))))
 (dss_cons (ds_set (ps_set (i := 1) sc__law_full_right.nd rfl (by first | exact Or.inl rfl | exact Or.inr rfl) (de_callTy cd_tuple T.b_tuple (by decide +kernel) (da_cons (de_op od_add (de_sl (de_var (pv 0)) dpo_none (dpo_some de_int)) (DO.de (do_lst (pe_lst (da_cons (de_op od_add (de_sl (de_ix (de_var (pv 0)) de_int) dpo_none (dpo_some de_int)) (de_tup (pe_tup (da_cons (de_tup (pe_tup (da_cons de_str (da_cons de_str da_nil)))) da_nil)))) da_nil))))) da_nil))))
 (dss_cons (ds_if (ps_if (DW.dt (dw_or (dt_cmp od_isNot (de_call F_is_open hr (by decide) (da_cons (de_var (pv 1)) da_nil)) de_bl (nomark _)) (dw_or (dt_cmp (od_ne hu) (de_call F_core hr (by decide) (da_cons (de_var (pv 1)) da_nil)) (de_trange rfl T.b_tuple T.b_range de_int) (nomark _)) (dw_or1 (dt_cmp (od_ne hu) (de_call F_bars hr (by decide) (da_cons (de_var (pv 1)) (da_cons de_str da_nil))) (de_tup (pe_tup (da_cons de_int da_nil))) (nomark _)))))) (dss_one (ds_ret (ps_ret de_bl))) dss_nil))
 (dss_one (ds_ret (ps_ret (de_and (de_cmp od_is (de_call F_is_open hr (by decide) (da_cons (de_op od_add (de_sl (de_var (pv 1)) dpo_none (dpo_some de_int)) (de_tup (pe_tup (da_cons (de_sl (de_ix (de_var (pv 0)) de_int) dpo_none (dpo_some de_int)) da_nil)))) da_nil)) de_bl (nomark _)) (de_one (de_cmp (od_eq hu) (de_call F_bars hr (by decide) (da_cons (de_var (pv 1)) (da_cons de_str da_nil))) (de_tup (pe_tup (da_cons de_int da_nil))) (nomark _))))))))))
theorem sc__law_strange_right : FnScope [("deep" : Str), ("great" : Str), ("k" : Str), ("thing" : Str)] [] (defScope (top 68)) := ⟨rfl, rfl, rfl, by decide +kernel, rfl, by decide +kernel, by decide +kernel⟩
theorem F__law_strange_right (T : Facts K mg) (B : FactsL K mg base) : FnG P w K mg base 15 "_law_strange_right" m__law_strange_right_k46 := by
  have F__law_all := F__law_all (P := P) (w := w) (base := base) T B
  obtain ⟨f, fd, F, hf⟩ := T.d__law_strange_right
  show FnG P w K mg base 15 "_law_strange_right" (mFn 0 4 b__law_strange_right_k46)
  refine ⟨f, fd, [], fn_okG (k := 14) (m := b__law_strange_right_k46) rfl rfl F sc__law_strange_right fun cdv A outer s H E hG hr => ?_, hf, F.kp, F.bindsN fun _ _ _ _ _ _ us hl => match us, hl with | [], _ => rfl⟩
  have hu := hr.units
  exact (dss_cons (ds_par (ps_par (i := 0) (j := 1) rfl sc__law_strange_right.nd rfl rfl (by decide) rfl rfl (da_cons (de_tup (pe_tup da_nil)) (da_cons (de_op od_mulW (de_callTy (cd_intN T.dg) T.b_int (by decide +kernel) (da_cons (de_op od_mulB de_str de_int) da_nil)) (de_callTy (cd_intN T.dg) T.b_int (by decide +kernel) (da_cons (de_op od_mulB de_str de_int) da_nil))) da_nil)) rfl))
 (dss_cons (ds_for (vs := [2]) (ps_for PassesOwn.never rfl (di_range1 (pi_range1 rfl T.b_range (da_cons de_int da_nil))) (dg_name (pg_name (i := 2) sc__law_strange_right.nd rfl (by first | exact Or.inl rfl | exact Or.inr rfl))) (dss_one (ds_set (ps_set (i := 0) sc__law_strange_right.nd rfl (by first | exact Or.inl rfl | exact Or.inr rfl) (de_tup (pe_tup (da_cons (de_var (pv 0)) da_nil))))))))
 (dss_cons (ds_if (ps_if (DW.dt (dw_or (dt_cmp (od_ne hu) (de_callG F__law_all hG hr (by decide) (da_cons (de_var (pv 1)) (da_cons de_str da_nil))) (de_op od_mul (DO.de (do_lst (pe_lst (da_cons de_str da_nil)))) de_int) (nomark _)) (dw_or1 (dt_cmp (od_ne hu) (de_callG F__law_all hG hr (by decide) (da_cons (de_tup (pe_tup (da_cons (de_tup (pe_tup da_nil)) (da_cons (de_var (pv 1)) da_nil)))) (da_cons de_str da_nil))) (de_op od_mul (DO.de (do_lst (pe_lst (da_cons (de_tup (pe_tup (da_cons de_str (da_cons (de_tup (pe_tup da_nil)) da_nil)))) da_nil)))) de_int) (nomark _))))) (dss_one (ds_ret (ps_ret de_bl))) dss_nil))
 (dss_cons (ds_if (ps_if (dt_cmp (od_ne hu) (de_callG F__law_all hG hr (by decide) (da_cons (de_var (pv 0)) (da_cons de_str da_nil))) (de_op od_mul (DO.de (do_lst (pe_lst (da_cons (de_tup (pe_tup (da_cons de_str (da_cons (de_tup (pe_tup (da_cons de_int da_nil))) da_nil)))) da_nil)))) de_int) (nomark _)) (dss_one (ds_ret (ps_ret de_bl))) dss_nil))
 (dss_one (ds_ret (ps_ret (de_cmp (od_eq hu) (DO.de (do_lc (pe_lc (own := [("thing", 3)]) rfl sc__law_strange_right.nd (di_seq (de_tup (pe_tup (da_cons (de_var (pv 1)) (da_cons (de_var (pv 0)) da_nil))))) (blkOk_by (N := ["deep", "great", "k", "thing"]) (sc := defScope (top 68)) (own := [("thing", 3)]) (by decide +kernel)) (fun _ _ _ _ _ => (dg_name (pg_name (i := 3) sc__law_strange_right.nd rfl (by first | exact Or.inl rfl | exact Or.inr rfl)))) (fun _ _ _ _ _ => dts_nil) (fun _ _ _ _ _ => (de_ix (de_callG F__law_all hG hr (by decide) (da_cons (de_tup (pe_tup da_nil)) (da_cons (de_var (pv 3)) da_nil))) de_int))))) (de_op od_mul (DO.de (do_lst (pe_lst (da_cons de_str da_nil)))) de_int) (nomark _)))))))))
theorem sc_law : FnScope [("script" : Str), ("state" : Str), ("turn" : Str), ("odd" : Str), ("bad" : Str), ("bent" : Str), ("worse" : Str), ("good" : Str), ("no" : Str), ("at" : Str), ("one" : Str), ("due" : Str)] [("script" : Str)] (defScope (top 69)) := ⟨rfl, rfl, rfl, by decide +kernel, rfl, by decide +kernel, by decide +kernel⟩
def LawMath : Prop := ∀ ns : List Int, ns.length ≤ 63 → ∃ env' w', b_law_k46 (env0 ns.length 12 1) (some (beginDS ns)) = some (.rt (.d (.bool true)), env', w')
theorem F_law (T : Facts K mg) (B : FactsL K mg base) (hM : LawMath) {f : Addr} {fd : FuncData} (F : FunD K "law" "law" (defArgs (top 69)) (defBody (top 69)) (defScope (top 69)) [] [] f fd) : OkG P w K mg base 16 f fd [("script" : Str)] (spLaw K) := by
  have F__law_all := F__law_all (P := P) (w := w) (base := base) T B
  have F__law_draw := F__law_draw (P := P) (w := w) (base := base) T
  have F__law_full_right := F__law_full_right (P := P) (w := w) (base := base) T
  have F__law_of := F__law_of (P := P) (w := w) (base := base) T
  have F__law_strange_right := F__law_strange_right (P := P) (w := w) (base := base) T B
  have F__law_ofZ := F__law_ofZ (P := P) (w := w) (base := base) T
  obtain ⟨fB, fdB, GB, gB, kB, bB⟩ := begin_row (P := P) (w := w) (base := base) T
  refine OkG.of F (k := 15) sc_law (fun vs H Q E h => ?_) (fun cdv A outer s H vs Q E hG hr h => ⟨_, PSs.nox (pss_cons (ps_set (i := 1) sc_law.nd rfl (by first | exact Or.inl rfl | exact Or.inr rfl) (pe_call GB (hr.mono (by decide)) rfl gB kB bB .nil pass0 (pa_cons (pv 0) pa_nil))) (show DSs _ _ b_law_k46 from ?body)), ?_⟩)
  case body =>
    have hu := hr.units
    exact (dss_cons (ds_if (ps_if (DW.dt (dw_or (dt_not (dt_val (de_call0 F__law_full_right hr (by decide)))) (dw_or1 (dt_not (dt_val (de_callG0 F__law_strange_right hG hr (by decide))))))) (dss_one (ds_ret (ps_ret de_bl))) dss_nil))
 (dss_cons (ds_for (vs := [2]) (ps_for PassesOwn.never rfl (di_range1 (pi_range1 rfl T.b_range (da_cons (de_op od_add de_int (de_callB (cd_min2 rfl) T.b_min (by decide +kernel) (da_cons de_int (da_cons (de_scrlen T.b_len (pv 0)) da_nil)))) da_nil))) (dg_name (pg_name (i := 2) sc_law.nd rfl (by first | exact Or.inl rfl | exact Or.inr rfl))) (dss_cons (ds_set (ps_set (i := 3) sc_law.nd rfl (by first | exact Or.inl rfl | exact Or.inr rfl) (de_call F__law_ofZ hr (by decide) (da_cons (de_var (pv 1)) (da_cons (de_lstL (pe_lst (da_cons de_non (da_cons de_int (da_cons de_str (da_cons (DO.de (do_lst (pe_lst da_nil))) (da_cons de_dct (da_cons (DO.de (do_lst (pe_lst (da_cons (de_tup (pe_tup da_nil)) da_nil)))) (da_cons (de_op od_mulE (de_tup (pe_tup (da_cons (de_tup (pe_tup da_nil)) da_nil))) de_int) (da_cons de_bl (da_cons (de_op od_mulE (de_tup (pe_tup (da_cons de_int da_nil))) de_int) da_nil))))))))))) da_nil)))))
 (dss_cons (ds_set (ps_set (i := 4) sc_law.nd rfl (by first | exact Or.inl rfl | exact Or.inr rfl) (de_call F__law_ofZ hr (by decide) (da_cons (de_var (pv 1)) (da_cons (de_lstL (pe_lst (da_cons de_non (da_cons de_int (da_cons (DO.de (do_lst (pe_lst da_nil))) (da_cons de_str (da_cons (de_tup (pe_tup (da_cons de_non da_nil))) (da_cons (de_tup (pe_tup (da_cons de_int da_nil))) (da_cons (de_tup (pe_tup (da_cons (de_tup (pe_tup (da_cons de_str da_nil))) da_nil))) (da_cons (de_tup (pe_tup (da_cons (de_tup (pe_tup (da_cons de_str (da_cons de_str da_nil)))) da_nil))) (da_cons (de_tup (pe_tup (da_cons (de_tup (pe_tup (da_cons de_str (da_cons de_str da_nil)))) da_nil))) (da_cons de_dct da_nil)))))))))))) da_nil)))))
 (dss_cons (ds_set (ps_set (i := 5) sc_law.nd rfl (by first | exact Or.inl rfl | exact Or.inr rfl) (de_call F__law_of hr (by decide) (da_cons (de_var (pv 1)) (da_cons (DO.de (do_lst (pe_lst (da_cons (de_tup (pe_tup (da_cons (de_tup (pe_tup (da_cons de_str (da_cons de_str da_nil)))) da_nil))) (da_cons (de_tup (pe_tup (da_cons (de_tup (pe_tup (da_cons de_str (da_cons de_str da_nil)))) da_nil))) (da_cons (de_tup (pe_tup (da_cons (de_tup (pe_tup (da_cons de_str (da_cons de_str da_nil)))) da_nil))) (da_cons (de_tup (pe_tup (da_cons (de_tup (pe_tup (da_cons de_str (da_cons de_str da_nil)))) da_nil))) (da_cons (de_tup (pe_tup (da_cons (de_tup (pe_tup (da_cons de_str (da_cons de_str da_nil)))) da_nil))) da_nil)))))))) da_nil)))))
 (dss_cons (ds_set (ps_set (i := 6) sc_law.nd rfl (by first | exact Or.inl rfl | exact Or.inr rfl) (de_op od_add (de_op od_mulE (de_tup (pe_tup (da_cons (de_tup (pe_tup (da_cons de_str (da_cons de_str da_nil)))) da_nil))) (de_call F__law_draw hr (by decide) (da_cons (de_var (pv 1)) (da_cons de_int da_nil)))) (de_tup (pe_tup (da_cons (de_call F__law_of hr (by decide) (da_cons (de_var (pv 1)) (da_cons (DO.de (do_lst (pe_lst (da_cons de_int (da_cons (de_tup (pe_tup (da_cons de_str (da_cons de_str (da_cons de_str da_nil))))) (da_cons (DO.de (do_lst (pe_lst (da_cons de_str (da_cons de_str da_nil))))) (da_cons (de_tup (pe_tup (da_cons de_str (da_cons de_int da_nil)))) da_nil))))))) da_nil))) da_nil))))))
 (dss_cons (ds_set (ps_set (i := 7) sc_law.nd rfl (by first | exact Or.inl rfl | exact Or.inr rfl) (de_tup (pe_tup (da_cons (de_tup (pe_tup (da_cons de_str (da_cons de_str da_nil)))) (da_cons (de_tup (pe_tup (da_cons de_str (da_cons de_str da_nil)))) da_nil))))))
 (dss_cons (ds_set (ps_set (i := 8) sc_law.nd rfl (by first | exact Or.inl rfl | exact Or.inr rfl) (de_call F__law_of hr (by decide) (da_cons (de_var (pv 1)) (da_cons (DO.de (do_lst (pe_lst (da_cons de_non (da_cons de_int (da_cons de_str (da_cons de_str (da_cons de_str (da_cons de_str (da_cons de_str (da_cons (DO.de (do_lst (pe_lst da_nil))) (da_cons de_str (da_cons de_str (da_cons de_str (da_cons de_str (da_cons de_bl da_nil)))))))))))))))) da_nil)))))
 (dss_cons (ds_if (ps_if (DW.dt (dw_or (dt_cmp (od_ne hu) (de_callG F__law_all hG hr (by decide) (da_cons (de_var (pv 3)) (da_cons (de_var (pv 8)) da_nil))) (de_op od_mul (DO.de (do_lst (pe_lst (da_cons de_str da_nil)))) de_int) (nomark _)) (dw_or1 (dt_cmp (od_ne hu) (de_ix (de_callG F__law_all hG hr (by decide) (da_cons (de_tup (pe_tup (da_cons (de_var (pv 7)) (da_cons (de_var (pv 7)) da_nil)))) (da_cons (de_var (pv 8)) da_nil))) de_int) de_str (nomark _))))) (dss_one (ds_ret (ps_ret de_bl))) dss_nil))
 (dss_cons (ds_set (ps_set (i := 9) sc_law.nd rfl (by first | exact Or.inl rfl | exact Or.inr rfl) (de_call F__law_draw hr (by decide) (da_cons (de_var (pv 1)) (da_cons de_int da_nil)))))
 (dss_cons (ds_forL (vs := [10, 11]) (ps_for PassesOwn.never rfl (di_seqL (de_tupL (pe_tup (da_cons (de_tupL (pe_tup (da_cons (de_var (pv 4)) (da_cons (de_if (dt_not (dt_val (de_isL (de_var (pv 4)) kitL_tup T.b_isinstance T.b_tuple (by decide +kernel)))) (de_tup (pe_tup da_nil)) (de_tup (pe_tup (da_cons de_int da_nil)))) da_nil)))) (da_cons (de_tup (pe_tup (da_cons (de_var (pv 5)) (da_cons (de_tup (pe_tup (da_cons de_int da_nil))) da_nil)))) (da_cons (de_tup (pe_tup (da_cons (de_var (pv 6)) (da_cons (de_tup (pe_tup (da_cons (de_op od_sub (de_callB cd_len T.b_len (by decide +kernel) (da_cons (de_var (pv 6)) da_nil)) de_int) da_nil))) da_nil)))) da_nil)))))) (dg_tupL (pg_tup rfl (dgs_consL (dg_nameL (pg_name (i := 10) sc_law.nd rfl (by first | exact Or.inl rfl | exact Or.inr rfl))) (dgs_consL (dg_nameL (pg_name (i := 11) sc_law.nd rfl (by first | exact Or.inl rfl | exact Or.inr rfl))) dgs_nilL)))) (dss_one (ds_if (ps_if (dt_cmp (od_ne hu) (de_callB (cd_repr hG hu) T.b_repr (by decide +kernel) (da_cons (de_callG F__law_all hG hr (by decide) (da_cons (de_addT (de_op od_mulE (de_tup (pe_tup (da_cons (de_var (pv 7)) da_nil))) (de_var (pv 9))) (de_tupL (pe_tup (da_cons (de_var (pv 10)) (da_cons de_non da_nil))))) (da_cons (de_var (pv 8)) da_nil))) da_nil)) (de_callB (cd_repr hG hu) T.b_repr (by decide +kernel) (da_cons (de_op od_mul (de_lstL (pe_lst (da_cons (de_tupL (pe_tup (da_cons de_str (da_cons (de_var (pv 11)) da_nil)))) da_nil))) de_int) da_nil)) (nomark _)) (dss_one (ds_ret (ps_ret de_bl))) dss_nil)))))
 (dss_cons (ds_if (ps_if (dt_cmp (od_ne hu) (de_ix (de_callG F__law_all hG hr (by decide) (da_cons (de_tup (pe_tup (da_cons (de_op od_mulE (de_tup (pe_tup (da_cons (de_tup (pe_tup (da_cons de_str (da_cons de_str da_nil)))) da_nil))) de_int) da_nil))) (da_cons de_str da_nil))) de_int) (de_tup (pe_tup (da_cons de_str (da_cons (de_tup (pe_tup da_nil)) da_nil)))) (nomark _)) (dss_one (ds_ret (ps_ret de_bl))) dss_nil))
 (dss_one (ds_if (ps_if (dt_cmp (od_ne hu) (de_callB (cd_repr hG hu) T.b_repr (by decide +kernel) (da_cons (de_callG F__law_all hG hr (by decide) (da_cons (de_op od_mulE (de_tup (pe_tup (da_cons (de_var (pv 7)) da_nil))) de_int) (da_cons de_str da_nil))) da_nil)) (de_callB (cd_repr hG hu) T.b_repr (by decide +kernel) (da_cons (DO.de (do_lst (pe_lst (da_cons (DO.de (do_lst (pe_lst (da_cons de_bl da_nil)))) (da_cons (DO.de (do_lst (pe_lst (da_cons de_non da_nil)))) (da_cons (DO.de (do_lst (pe_lst (da_cons (de_trange rfl T.b_tuple T.b_range de_int) da_nil)))) da_nil)))))) da_nil)) (nomark _)) (dss_one (ds_ret (ps_ret de_bl))) dss_nil)))))))))))))))
 (dss_one (ds_ret (ps_ret de_bl)))))
  · obtain ⟨a, ns, rfl, _⟩ := h
    rfl
  · obtain ⟨a, ns, rfl, hl, hO, hS, hQ⟩ := h
    obtain ⟨env', w', hm⟩ := hM ns hl
    refine ⟨_, rfl, a, ns, rfl, hS, hl, fun ad H1 sm n1 n2 n3 ne e1 e2 e3 => ?_⟩
    exact law_rest (N := [("script" : Str), ("state" : Str), ("turn" : Str), ("odd" : Str), ("bad" : Str), ("bent" : Str), ("worse" : Str), ("good" : Str), ("no" : Str), ("at" : Str), ("one" : Str), ("due" : Str)]) hO hS rfl (by decide) (by decide) sm n1 n2 n3 ne e1 e2 e3 hm hQ
end
end Dn

set_option maxHeartbeats 4000000
set_option maxHeartbeats 0
namespace Dn
open PySem PySem.Spec PyProof.Rows L2
theorem facts {K : PySem.W.Frag} {h : Heap} {mg : Str → Option Value} (X : K.In h) (G : h.Ns mainGlobals mg) (c : He.SaysD hfa hfn K) (e : hex K = true) : Facts K mg := by
  simp only [hex, Bool.and_eq_true] at e
  obtain ⟨e_AFTER_ALL, e_DEV, e_FIGURES, e_FIRST, e_LEAST, e_MOST_CLAUSES, e_MOST_FIGURES, e_MOST_NUMBER, e_MOST_NUMBERS_requirements, e_MOST_NUMBERS_versions, e_MOST_ROWS, e_POST, e_SIGNS, e_STAR, e_WORDS, e_xs, et__law_heard, e_dg, em_Missing, e0_BadQuestion, e0_BadVersion, e1_BadRequirement, e_tab, _⟩ := e
  exact {
    b_any := He.free_ok X G (c.fact 42 rfl)
    b_enumerate := He.free_ok X G (c.fact 43 rfl)
    b_int := He.free_ok X G (c.fact 44 rfl)
    b_isinstance := He.free_ok X G (c.fact 45 rfl)
    b_len := He.free_ok X G (c.fact 46 rfl)
    b_list := He.free_ok X G (c.fact 47 rfl)
    b_max := He.free_ok X G (c.fact 48 rfl)
    b_min := He.free_ok X G (c.fact 49 rfl)
    b_range := He.free_ok X G (c.fact 50 rfl)
    b_repr := He.free_ok X G (c.fact 51 rfl)
    b_str := He.free_ok X G (c.fact 52 rfl)
    b_tuple := He.free_ok X G (c.fact 53 rfl)
    c_AFTER_ALL := conB_ok X G e_AFTER_ALL
    c_DEV := con_str X G e_DEV
    c_FIGURES := con_str X G e_FIGURES
    c_FIRST := conB_ok X G e_FIRST
    c_LEAST := conB_ok X G e_LEAST
    c_MOST_CLAUSES := con_int X G e_MOST_CLAUSES
    c_MOST_FIGURES := con_int X G e_MOST_FIGURES
    c_MOST_NUMBER := con_int X G e_MOST_NUMBER
    c_MOST_NUMBERS_requirements := con_int X G e_MOST_NUMBERS_requirements
    c_MOST_NUMBERS_versions := con_int X G e_MOST_NUMBERS_versions
    c_MOST_ROWS := con_int X G e_MOST_ROWS
    c_POST := con_str X G e_POST
    c_SIGNS := gtB_ok X G e_SIGNS
    c_STAR := con_str X G e_STAR
    c_WORDS := gtB_ok X G e_WORDS
    d_number_at := def_ok X G c 0 0 rfl rfl
    d_numbers_at := def_ok X G c 1 1 rfl rfl
    d_word_at := def_ok X G c 2 2 rfl rfl
    d_tail_at := def_ok X G c 3 3 rfl rfl
    d_parts_of := def_ok X G c 4 4 rfl rfl
    d_based := def_ok X G c 5 5 rfl rfl
    d_tail_of := def_ok X G c 6 6 rfl rfl
    d_split_tail := def_ok X G c 7 7 rfl rfl
    d_key_from := def_ok X G c 8 8 rfl rfl
    d_key_of := def_ok X G c 9 9 rfl rfl
    d_numbers_of := def_ok X G c 10 10 rfl rfl
    d_following_key := def_ok X G c 11 11 rfl rfl
    d_is_plain := def_ok X G c 12 12 rfl rfl
    d_need_key := def_ok X G c 13 13 rfl rfl
    d_need_version := def_ok X G c 14 14 rfl rfl
    d_is_small := def_ok X G c 15 15 rfl rfl
    d_is_clause := def_ok X G c 16 16 rfl rfl
    d_need_requirement := def_ok X G c 17 17 rfl rfl
    d_numbers_cuts := def_ok X G c 18 18 rfl rfl
    d_block_cuts := def_ok X G c 19 19 rfl rfl
    d_outside := def_ok X G c 20 20 rfl rfl
    d_bounded_spans := def_ok X G c 21 21 rfl rfl
    d_clause_spans := def_ok X G c 22 22 rfl rfl
    d_lesser_end := def_ok X G c 23 23 rfl rfl
    d_meet := def_ok X G c 24 24 rfl rfl
    d_spans_of := def_ok X G c 25 25 rfl rfl
    d_has_key := def_ok X G c 26 26 rfl rfl
    d_need_rows := def_ok X G c 27 27 rfl rfl
    d_joined := def_ok X G c 28 28 rfl rfl
    d_core_of := def_ok X G c 29 29 rfl rfl
    d_is_open := def_ok X G c 30 30 rfl rfl
    d_core := def_ok X G c 31 31 rfl rfl
    d_bars := def_ok X G c 32 32 rfl rfl
    d__law_mixed := def_ok X G c 33 33 rfl rfl
    d__law_begin := def_ok X G c 34 34 rfl rfl
    d__law_draw := def_ok X G c 35 35 rfl rfl
    d__law_of := def_ok X G c 36 36 rfl rfl
    d__law_heard := def_ok X G c 37 37 rfl rfl
    d__law_all := def_ok X G c 38 38 rfl rfl
    d__law_full_right := def_ok X G c 39 39 rfl rfl
    d__law_strange_right := def_ok X G c 40 40 rfl rfl
    d_law := def_ok X G c 41 41 rfl rfl
    xs := xfsB_ok X G e_xs
    xt__law_heard := xtB_ok et__law_heard
    dg := e_dg
    xm_Missing := xmB_ok X G em_Missing
    x0_BadQuestion := x0B_ok X G e0_BadQuestion
    x0_BadVersion := x0B_ok X G e0_BadVersion
    o_BadRequirement := x1B_ok X G e1_BadRequirement
    n_BadRequirement := c.def_ 42 (d := mkM "BadRequirement" "__init__" "BadRequirement.__init__" (clsMeth (top 3) 0)) rfl
  }
theorem facts_tab {K : PySem.W.Frag} (e : hex K = true) : TabF K [("has_key" : Str), ("core_of" : Str), ("bars" : Str), ("_law_all" : Str)] := by
  simp only [hex, Bool.and_eq_true] at e
  obtain ⟨e_AFTER_ALL, e_DEV, e_FIGURES, e_FIRST, e_LEAST, e_MOST_CLAUSES, e_MOST_FIGURES, e_MOST_NUMBER, e_MOST_NUMBERS_requirements, e_MOST_NUMBERS_versions, e_MOST_ROWS, e_POST, e_SIGNS, e_STAR, e_WORDS, e_xs, et__law_heard, e_dg, em_Missing, e0_BadQuestion, e0_BadVersion, e1_BadRequirement, e_tab, _⟩ := e
  exact tabB_ok e_tab
theorem glo_mem : ∀ x ∈ ([("has_key" : Str), ("core_of" : Str), ("bars" : Str), ("_law_all" : Str)] : List Str), He.Fa.glo x ∈ hfa
  | _, .head _ => List.mem_of_getElem? (i := 26) rfl
  | _, .tail _ (.head _) => List.mem_of_getElem? (i := 29) rfl
  | _, .tail _ (.tail _ (.head _)) => List.mem_of_getElem? (i := 32) rfl
  | _, .tail _ (.tail _ (.tail _ (.head _))) => List.mem_of_getElem? (i := 38) rfl
  | _, .tail _ (.tail _ (.tail _ (.tail _ h))) => nomatch h
theorem factsL {K : PySem.W.Frag} {mg : Str → Option Value} {base : Heap} (T : TabF K [("has_key" : Str), ("core_of" : Str), ("bars" : Str), ("_law_all" : Str)]) (hg : ∀ x ∈ ([("has_key" : Str), ("core_of" : Str), ("bars" : Str), ("_law_all" : Str)] : List Str), mg x = some (.ref (He.ga K x))) (tb : ∀ p ∈ ([("has_key" : Str), ("core_of" : Str), ("bars" : Str), ("_law_all" : Str)] : List Str).map (fun x => He.cT K (x, none)), LamX.TabB base mg p.1 p.2) : FactsL K mg base := { l__law_all := lamFs_of T tb (by decide) (hg _ (by decide)) }
end Dn
open PySem PySem.W PySem.Calls PyProof.Rows
theorem law_holds (hM : Dn.LawMath) : PySem.Challenge.rw_pickedrelease_k46_rows_refused.Holds := by
  w_on; o_law
  refine HandSHeadRun.head_any (r := OpenLaw.row PySem.Challenge.rw_pickedrelease_k46_rows_refused) (q := view (OpenLaw.row PySem.Challenge.rw_pickedrelease_k46_rows_refused).prog [69, 66]) (H := Dn.hk) (ob := Dn.hob) (M := 40000) (loose := Dn.hloose) (d := HandSHeadRun.topDef (OpenLaw.row PySem.Challenge.rw_pickedrelease_k46_rows_refused).prog 69) (kwd := []) Dn.hob_eq
    (by kernel_rfl) (fun s => by kernel_rfl) Dn.hrun (by kernel_rfl) (by kernel_rfl) (by kernel_rfl) (by rfl) (by first | assumption | decide +kernel) (by decide +kernel) ⟨rfl, rfl, rfl, rfl, rfl, by decide +kernel⟩ ?hw ?hc
  case hw => w_witness2
  case hc =>
    refine Dn.walkGT (l := PySem.Challenge.rw_pickedrelease_k46_rows_refused) (n := 63) (k := 16) (x := "script") rfl (by decide) (by kernel_rfl) ⟨rfl, by decide, by decide⟩ ?F
    intro w mg fa h Y G hmg0
    obtain ⟨K, KX, c⟩ := Y
    have hmg : mg ("law" : PySem.Str) = some (.ref fa) := by
      have e : (HandSHeadRun.topDef (OpenLaw.row PySem.Challenge.rw_pickedrelease_k46_rows_refused).prog 69).name = ("law" : PySem.Str) := by kernel_rfl
      rw [← e]
      exact hmg0
    have T := Dn.facts KX G (He.SaysT.d c.t) c.more
    have TT := Dn.facts_tab c.more
    obtain ⟨f, fd, F, hf⟩ := T.d_law
    have e0 := hmg.symm.trans hf
    cases e0
    have bnd := L2.FunD.bindsA (ps := [("script" : PySem.Str)]) F fun _ _ _ _ _ _ us hl => match us, hl with | [_], _ => rfl
    have hgl : ∀ x ∈ ([("has_key" : Str), ("core_of" : Str), ("bars" : Str), ("_law_all" : Str)] : List PySem.Str), mg x = some (.ref (He.ga K x)) := fun x hx => He.glo_ok KX G ((He.SaysT.d c.t).facts (f := .glo x) (Dn.glo_mem _ hx))
    have inT : ∀ p ∈ ([("has_key" : Str), ("core_of" : Str), ("bars" : Str), ("_law_all" : Str)] : List PySem.Str).map (fun x => He.cT K (x, none)), ∃ r ∈ Dn.htf, He.cT K r = p := fun p hp => by
      obtain ⟨x, hx, rfl⟩ := List.mem_map.mp hp
      exact ⟨(x, none), List.mem_map.mpr ⟨x, hx, rfl⟩, rfl⟩
    refine ⟨K, fd, ([("has_key" : Str), ("core_of" : Str), ("bars" : Str), ("_law_all" : Str)] : List PySem.Str).map (fun x => He.cT K (x, none)), Dn.spLaw K, KX, fun p hp => ?_, fun p hp => ?_, fun p hp => ?_, fun s v => bnd s [v] rfl, fun H a ns hl h1 h2 hS => ⟨a, ns, rfl, hl, Dn.onlyT_of TT h1 h2, hS, fun _ => rfl⟩, fun base _ _ tb => Dn.F_law T (Dn.factsL TT hgl tb) hM F⟩
    · obtain ⟨r, hr, rfl⟩ := inT p hp
      exact c.empty r hr
    · obtain ⟨r, hr, rfl⟩ := inT p hp
      exact c.out r hr
    · obtain ⟨r, hr, rfl⟩ := inT p hp
      exact PySem.W.codeHd_of_K KX (c.hd r hr)

theorem PySem.Challenge.cw_pickedrelease_k46_rows_refused_holds : PySem.Challenge.rw_pickedrelease_k46_rows_refused.Holds := by
  exact law_holds Dn.law_math

#print axioms PySem.Challenge.cw_pickedrelease_k46_rows_refused_holds
