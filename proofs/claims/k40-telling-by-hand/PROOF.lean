import PyProof.Rows.All
import Wide.All
import OpenK.AllK
import Wide.FinOn
import KE.KStateDown
import Lean
import HandS.HeadEnd
import HandS.HeadHook4
import HandS.ForMost
import HandS.More
import HandS.Defaults
import KE.DataEq
import KE.LtData
import HandS.Lambda
import HandS.TupAny
import HandS.Style
import HandS.StrMore
import HandS.IsInst
import HandS.FStr
import HandS.Strs
import HandS.Conv
import HandS.NoneIn
import HandS.Star
import HandS.WordsExc
import HandS.Head0
import HandS.Head1
import HandS.Head2
import HandS.HeadHook1
import HandS.HeadHook2
import HandS.HeadHook3
import KE.SortKeyHeap
import HandS.SortKw
import HandS.Iter
import PyProof.ReprRoads
import KE.GoesEnum
import KE.DataCmp
import KE.DataMinMax
import HandS.RaiseMore
import KE.KRevSl
import PyProof.StrLawsRepr
import KE.KDictZip
import KE.KDictItemsList
import HandS.ListItems
import HandS.TupSets
import KE.KeyNested
import KE.SortData
import HandS.TupMul
import PyProof.StrBlock2
import KE.DataMinKey
import KE.KDictPairs
import KE.KDictKeyed
import KE.KDictList
import HandS.Codes
import KE.DatumOrd
import PySem.Challenge.RW_pickedrelease_k40_telling_by_hand
set_option Elab.async false
set_option linter.all false
set_option maxRecDepth 100000
set_option autoImplicit false
local macro_rules
  | `(tactic| push_cast) => do
    let ids := #[`mSeq, `mSet, `mVar, `mC, `mOp, `seqE, `optE, `mTru, `mAnd, `mOr, `mNot, `mIf, `mBl, `mNil, `mCons, `mCall, `mTup, `argsD, `dsOf, `tupD, `mFz, `mLst, `mRet, `mDrop, `mNx, `mBk, `mCt, `mFail, `mItems, `itemsD, `mRng, `mgName, `mgNil, `mgCons, `mgTup, `mAsg, `mFor, `mNo, `mPart, `mSl, `mB, `mSetO, `mAppend, `mPop, `mPkOp, `mPkIx, `mPkLen, `mScrLen, `mYes, `mPar, `mPar3, `mParO, `mAug, `mMtS, `mIs, `mStar, `mFmt, `mJs, `mAndV, `mOrV, `mListO, `mCatO, `mgUnl, `truD, `pk, `mEnum, `mStep, `stepD, `List.getElem?_cons_zero, `List.getElem?_cons_succ, `List.set_cons_zero, `List.set_cons_succ, `List.length_cons, `List.length_nil, `Option.map_some, `Option.map_none, `List.map_cons, `List.map_nil, `List.cons_append, `List.nil_append, `List.replicate, `Nat.zero_add, `Nat.reduceAdd, `Nat.reduceSub, `Nat.reduceLeDiff, `if_true, `if_false, `Bool.not_true, `Bool.not_false, `reduceCtorEq, `reduceIte, `decide_true, `decide_false, `Bool.false_eq_true, `List.isEmpty_cons, `List.isEmpty_nil, `ixT0, `ixT1, `ixT2, `ixL0, `ixL1, `ixL2, `isD_nn, `isD_in, `isD_sn, `isD_tn, `isN_nn, `isN_in, `isN_sn, `isN_tn, `Int.cast_ofNat_Int, `Int.reduceEq, `Int.reduceLT, `Int.reduceLE, `Bool.and_false, `Bool.and_true, `Bool.true_and, `Bool.false_and, `Bool.or_false, `Bool.or_true, `Bool.true_or, `Bool.false_or].map Lean.mkIdent
    `(tactic| (simp only [$[$ids:ident],*] <;> rfl))
  | `(tactic| push_cast [$xs,*]) => do
    let ids := #[`mSeq, `mSet, `mVar, `mC, `mOp, `seqE, `optE, `mTru, `mAnd, `mOr, `mNot, `mIf, `mBl, `mNil, `mCons, `mCall, `mTup, `argsD, `dsOf, `tupD, `mFz, `mLst, `mRet, `mDrop, `mNx, `mBk, `mCt, `mFail, `mItems, `itemsD, `mRng, `mgName, `mgNil, `mgCons, `mgTup, `mAsg, `mFor, `mNo, `mPart, `mSl, `mB, `mSetO, `mAppend, `mPop, `mPkOp, `mPkIx, `mPkLen, `mScrLen, `mYes, `mPar, `mPar3, `mParO, `mAug, `mMtS, `mIs, `mStar, `mFmt, `mJs, `mAndV, `mOrV, `mListO, `mCatO, `mgUnl, `truD, `pk, `mEnum, `mStep, `stepD, `List.getElem?_cons_zero, `List.getElem?_cons_succ, `List.set_cons_zero, `List.set_cons_succ, `List.length_cons, `List.length_nil, `Option.map_some, `Option.map_none, `List.map_cons, `List.map_nil, `List.cons_append, `List.nil_append, `List.replicate, `Nat.zero_add, `Nat.reduceAdd, `Nat.reduceSub, `Nat.reduceLeDiff, `if_true, `if_false, `Bool.not_true, `Bool.not_false, `reduceCtorEq, `reduceIte, `decide_true, `decide_false, `Bool.false_eq_true, `List.isEmpty_cons, `List.isEmpty_nil, `ixT0, `ixT1, `ixT2, `ixL0, `ixL1, `ixL2, `isD_nn, `isD_in, `isD_sn, `isD_tn, `isN_nn, `isN_in, `isN_sn, `isN_tn, `Int.cast_ofNat_Int, `Int.reduceEq, `Int.reduceLT, `Int.reduceLE, `Bool.and_false, `Bool.and_true, `Bool.true_and, `Bool.false_and, `Bool.or_false, `Bool.or_true, `Bool.true_or, `Bool.false_or].map Lean.mkIdent
    `(tactic| (simp only [$[$ids:ident],*, $xs,*] <;> rfl))
set_option maxHeartbeats 4000000
namespace Dn
open PySem PySem.Spec PyProof.Rows L2

mutual
/-- the value v is the datum d, over the heap G of what is data (lists: tracked ones) -/
inductive Dq (K : PySem.W.Frag) (G : Hp) : V → PyData → Prop
  | non : Dq K G .non .none
  | bl (b : Bool) : Dq K G (.bl b) (.bool b)
  | int (i : Int) : Dq K G (.int i) (.int i)
  | str (x : Str) : Dq K G (.str x) (.str x)
  | lst {a : Addr} {xs : List V} {ds : List PyData} : G a = some (.lst xs) → DqA K G xs ds → Dq K G (.ref a) (.list ds)
  | tup {a : Addr} {xs : List V} {ds : List PyData} : SqT K G a xs → DqA K G xs ds → Dq K G (.ref a) (.tuple ds)
inductive DqA (K : PySem.W.Frag) (G : Hp) : List V → List PyData → Prop
  | nil : DqA K G [] []
  | cons {v : V} {vs : List V} {d : PyData} {ds : List PyData} : Dq K G v d → DqA K G vs ds → DqA K G (v :: vs) (d :: ds)
end
mutual
theorem Dq.dp {K : PySem.W.Frag} {G : Hp} : ∀ {v : V} {d : PyData}, Dq K G v d → Dp K G v d
  | _, _, .non => .non
  | _, _, .bl b => .bl b
  | _, _, .int i => .int i
  | _, _, .str x => .str x
  | _, _, .lst h a => .lst (SqL.of h) a.dp
  | _, _, .tup h a => .tup h a.dp
theorem DqA.dp {K : PySem.W.Frag} {G : Hp} : ∀ {vs : List V} {ds : List PyData}, DqA K G vs ds → DpAll K G vs ds
  | _, _, .nil => .nil
  | _, _, .cons a b => .cons a.dp b.dp
end
mutual
theorem dp_mono {K : PySem.W.Frag} {G G' : Hp} (s : Same G G') : ∀ {v : V} {d : PyData}, Dq K G v d → Dq K G' v d
  | _, _, .non => .non
  | _, _, .bl b => .bl b
  | _, _, .int i => .int i
  | _, _, .str x => .str x
  | _, _, .lst h a => .lst (s _ _ h) (dpA_mono s a)
  | _, _, .tup h a => .tup (by
      rcases h with (h | ⟨o, h⟩) | h
      · exact .inl (.inl (s _ _ h))
      · exact .inl (.inr ⟨o, s _ _ h⟩)
      · exact .inr h) (dpA_mono s a)
theorem dpA_mono {K : PySem.W.Frag} {G G' : Hp} (s : Same G G') : ∀ {vs : List V} {ds : List PyData}, DqA K G vs ds → DqA K G' vs ds
  | _, _, .nil => .nil
  | _, _, .cons a b => .cons (dp_mono s a) (dpA_mono s b)
end
mutual
/-- data in which empty dicts may lie -/
inductive Dl (K : PySem.W.Frag) (G : Hp) : V → PyData → Prop
  | of {v : V} {d : PyData} : Dq K G v d → Dl K G v d
  | lst {a : Addr} {xs : List V} {ds : List PyData} : G a = some (.lst xs) → DlA K G xs ds → Dl K G (.ref a) (.list ds)
  | tup {a : Addr} {xs : List V} {ds : List PyData} : SqT K G a xs → DlA K G xs ds → Dl K G (.ref a) (.tuple ds)
  | dct {a : Addr} : G a = some (.dK []) → Dl K G (.ref a) (.dict [])
inductive DlA (K : PySem.W.Frag) (G : Hp) : List V → List PyData → Prop
  | nil : DlA K G [] []
  | cons {v : V} {vs : List V} {d : PyData} {ds : List PyData} : Dl K G v d → DlA K G vs ds → DlA K G (v :: vs) (d :: ds)
end
mutual
theorem Dl.mono {K : PySem.W.Frag} {G G' : Hp} (s : Same G G') : ∀ {v : V} {d : PyData}, Dl K G v d → Dl K G' v d
  | _, _, .of h => .of (dp_mono s h)
  | _, _, .lst h a => .lst (s _ _ h) (a.mono s)
  | _, _, .tup h a => .tup (by
      rcases h with (h | ⟨o, h⟩) | h
      · exact .inl (.inl (s _ _ h))
      · exact .inl (.inr ⟨o, s _ _ h⟩)
      · exact .inr h) (a.mono s)
  | _, _, .dct h => .dct (s _ _ h)
theorem DlA.mono {K : PySem.W.Frag} {G G' : Hp} (s : Same G G') : ∀ {vs : List V} {ds : List PyData}, DlA K G vs ds → DlA K G' vs ds
  | _, _, .nil => .nil
  | _, _, .cons a b => .cons (a.mono s) (b.mono s)
end
theorem Same.sqT {K : PySem.W.Frag} {G G' : Hp} {a : Addr} {xs : List V} (s : Same G G') (h : SqT K G a xs) : SqT K G' a xs := by
  rcases h with (h | ⟨o, h⟩) | h
  · exact .inl (.inl (s _ _ h))
  · exact .inl (.inr ⟨o, s _ _ h⟩)
  · exact .inr h
theorem same_upd {G : Hp} {p : Addr} {o : HO} (h : G p = none) : Same G (upd G p o) := fun b u e => by rw [upd_ne (ne_of_none e h)]; exact e
theorem dpA_len {K : PySem.W.Frag} {G : Hp} : ∀ {vs : List V} {ds : List PyData}, DqA K G vs ds → vs.length = ds.length
  | _, _, .nil => rfl
  | _, _, .cons _ b => congrArg Nat.succ (dpA_len b)
theorem dpA_get {K : PySem.W.Frag} {G : Hp} : ∀ {vs : List V} {ds : List PyData} {i : Nat} {d : PyData}, DqA K G vs ds → ds[i]? = some d → ∃ v, vs[i]? = some v ∧ Dq K G v d
  | _, _, _, _, .nil, e => by simp at e
  | _, _, 0, _, .cons a _, e => by simp at e; subst e; exact ⟨_, rfl, a⟩
  | _, _, i + 1, _, .cons _ b, e => by
    obtain ⟨v, h1, h2⟩ := dpA_get (i := i) b (by simpa using e)
    exact ⟨v, by simpa using h1, h2⟩
theorem dpA_get' {K : PySem.W.Frag} {G : Hp} : ∀ {vs : List V} {ds : List PyData} {i : Nat} {v : V}, DqA K G vs ds → vs[i]? = some v → ∃ d, ds[i]? = some d ∧ Dq K G v d
  | _, _, _, _, .nil, e => by simp at e
  | _, _, 0, _, .cons a _, e => by simp at e; subst e; exact ⟨_, rfl, a⟩
  | _, _, i + 1, _, .cons _ b, e => by
    obtain ⟨v, h1, h2⟩ := dpA_get' (i := i) b (by simpa using e)
    exact ⟨v, by simpa using h1, h2⟩
theorem dpA_app {K : PySem.W.Frag} {G : Hp} : ∀ {vs ws : List V} {ds es : List PyData}, DqA K G vs ds → DqA K G ws es → DqA K G (vs ++ ws) (ds ++ es)
  | _, _, _, _, .nil, h => h
  | _, _, _, _, .cons a b, h => .cons a (dpA_app b h)
theorem dpA_take {K : PySem.W.Frag} {G : Hp} : ∀ {vs : List V} {ds : List PyData} (n : Nat), DqA K G vs ds → DqA K G (vs.take n) (ds.take n)
  | _, _, 0, _ => by simpa using DqA.nil
  | _, _, _ + 1, .nil => .nil
  | _, _, n + 1, .cons a b => .cons a (dpA_take n b)
theorem dpA_drop {K : PySem.W.Frag} {G : Hp} : ∀ {vs : List V} {ds : List PyData} (n : Nat), DqA K G vs ds → DqA K G (vs.drop n) (ds.drop n)
  | _, _, 0, h => by simpa using h
  | _, _, _ + 1, .nil => .nil
  | _, _, n + 1, .cons _ b => dpA_drop n b
theorem dpA_strs {K : PySem.W.Frag} {G : Hp} : ∀ (ns : List Str), DqA K G (ns.map V.str) (ns.map PyData.str)
  | [] => .nil
  | n :: ns => .cons (.str n) (dpA_strs ns)

/-- what a slot holds: data; a list of this def's own that may still be changed; the law's drawing state; data with empty dicts; a caught exception; a dict of this def's own -/
inductive SD where
  | d (x : PyData)
  | own (xs : List PyData)
  | st
  | scr (n : Nat)
  | dic (kvs : List (Str × PyData))
  | l (x : PyData)
  | ex (a : Addr) (d : Option Addr) (p : Option PyData)
  | od (kvs : List (Str × PyData))
/-- the drawing state -/
structure DS where
  cells : List Int
  lefts : List Int
  pos : Int
  room : Int
abbrev Ev := List (Option SD)
abbrev W := Option DS
structure Ad where
  sa : Addr
  ca : Addr
  la : Addr
  tabs : List (Addr × Str)
structure Ct where
  ad : Ad
  H0 : Hp
  G0 : Hp
def kCells : Key := .inr "cells"
def kLefts : Key := .inr "lefts"
def kAt : Key := .inr "at"
def kRoom : Key := .inr "room"
/-- a def's table of code objects, and the name that its lambdas bear -/
def tabOf (K : PySem.W.Frag) (fd : FuncData) : Option (Addr × Str) := match fd.code with
  | .ref c => (match K.lookup c with
    | some ⟨_, _, .fields vs, _⟩ => (match (vs[11]? : Option Value) with
      | some (Value.ref P) => some (P, (fd.qualname ++ ".<locals>.") ++ "<lambda>")
      | _ => none)
    | _ => none)
  | _ => none
/-- a text with a def that is handed lambdas -/
def lamK (K : PySem.W.Frag) : Bool := K.any fun p => match p.2.data with
  | .func fd => decide (fd.qualname = "_law_said") || (decide (fd.qualname = "_law_refused") || decide (fd.qualname = "_law_heard"))
  | _ => false
/-- the tables of the defs of which a name is captured -/
def tabsOf (K : PySem.W.Frag) : List (Addr × Str) := if lamK K then K.filterMap (fun p => match p.2.data with
  | .func fd => if fd.scope.names.any (fun y => decide (y.2 = NameKind.cell)) then tabOf K fd else none
  | _ => none) else []
structure StAt (K : PySem.W.Frag) (ad : Ad) (s : DS) (G H : Hp) : Prop where
  sa : H ad.sa = some (.dK [(kCells, .ref ad.ca), (kLefts, .ref ad.la), (kAt, .int s.pos), (kRoom, .int s.room)])
  la : H ad.la = some (.lst (s.lefts.map V.int))
  ca : H ad.ca = some (.lst (s.cells.map V.int))
  gs : G ad.sa = none
  gl : G ad.la = none
  gc : G ad.ca = none
  ne : ad.ca ≠ ad.la
  tk : ad.tabs = tabsOf K
/-- the addresses that a def may change -/
def Mt (ad : Ad) (w : W) (b : Addr) : Prop := (w.isSome = true ∧ (b = ad.sa ∨ b = ad.la)) ∨ b ∈ ad.tabs.map (·.1)
theorem Mt.w {ad : Ad} {w w' : W} {b : Addr} (h : Mt ad w b) (hw : w'.isSome = w.isSome) : Mt ad w' b := h.elim (fun h => .inl ⟨by rw [hw]; exact h.1, h.2⟩) .inr
/-- the tables of code objects: they may grow, and are no data -/
structure CtOk (T : List (Addr × Str)) (G H : Hp) : Prop where
  tabs : LamX.Tabs T H
  gn : ∀ p ∈ T, G p.1 = none
theorem CtOk.nil {G H : Hp} : CtOk [] G H := ⟨fun p hp => absurd hp (by simp), fun p hp => absurd hp (by simp)⟩
theorem CtOk.at {T : List (Addr × Str)} {G H : Hp} (t : CtOk T G H) {b : Addr} (h : b ∈ T.map (·.1)) : ∃ ps, H b = some (.tbl ps) := by
  obtain ⟨p, hp, rfl⟩ := List.mem_map.mp h
  obtain ⟨ps, e, _⟩ := t.tabs p hp
  exact ⟨ps, e⟩
/-- the data's heap changed where no table is -/
theorem CtOk.grow {T : List (Addr × Str)} {G G' H : Hp} (t : CtOk T G H) (h : ∀ b ps, H b = some (.tbl ps) → G' b = G b) : CtOk T G' H := ⟨t.tabs, fun p hp => by
  obtain ⟨ps, e, _⟩ := t.tabs p hp
  rw [h _ _ e]
  exact t.gn p hp⟩
theorem CtOk.gset0 {T : List (Addr × Str)} {G H : Hp} {a : Addr} {o : HO} (t : CtOk T G H) (h : a ∉ T.map (·.1)) : CtOk T (upd G a o) H := ⟨t.tabs, fun p hp => by
  rw [upd_ne fun z => h (List.mem_map.mpr ⟨p, hp, z⟩)]
  exact t.gn p hp⟩
theorem CtOk.gset {T : List (Addr × Str)} {G H : Hp} {a : Addr} {vs : List V} {o : HO} (t : CtOk T G H) (h : H a = some (.lst vs)) : CtOk T (upd G a o) H := t.grow fun b ps e => upd_ne fun z => by
  rw [z, h] at e
  cases e
/-- a list changed -/
theorem CtOk.hoth {T : List (Addr × Str)} {G H : Hp} {a : Addr} {o : HO} (t : CtOk T G H) (h : a ∉ T.map (·.1)) (hx : ∀ φ, H a ≠ some (.ext φ)) : CtOk T G (upd H a o) := ⟨fun p hp => by
  obtain ⟨ps, h1, h2, h3⟩ := t.tabs p hp
  refine ⟨ps, (upd_ne (fun z => h (List.mem_map.mpr ⟨p, hp, z⟩))).trans h1, h2, fun pos cv hc => ?_⟩
  obtain ⟨c, e1, e2⟩ := h3 pos cv hc
  exact ⟨c, e1, (upd_ne (fun z => by rw [z] at e2; unfold LamX.CodeO at e2; exact hx _ e2)).trans e2⟩, t.gn⟩
theorem CtOk.hobj {T : List (Addr × Str)} {G H : Hp} {a : Addr} {u o : HO} (t : CtOk T G H) (h : H a = some u) (hu : ∀ ps, u ≠ .tbl ps) (hx : ∀ φ, u ≠ .ext φ) : CtOk T G (upd H a o) := t.hoth (fun m => by
  obtain ⟨ps, e⟩ := t.at m
  rw [h] at e
  exact hu ps (Option.some.inj e)) fun φ e => by
    rw [h] at e
    exact hx φ (Option.some.inj e)
theorem CtOk.hset {T : List (Addr × Str)} {G H : Hp} {a : Addr} {vs us : List V} (t : CtOk T G H) (h : H a = some (.lst vs)) : CtOk T G (upd H a (.lst us)) := ⟨fun p hp => by
  obtain ⟨ps, h1, h2, h3⟩ := t.tabs p hp
  refine ⟨ps, (upd_ne (fun z => by rw [z, h] at h1; cases h1)).trans h1, h2, fun pos cv hc => ?_⟩
  obtain ⟨c, e1, e2⟩ := h3 pos cv hc
  exact ⟨c, e1, (upd_ne (fun z => by rw [z, h] at e2; unfold LamX.CodeO at e2; cases e2)).trans e2⟩, t.gn⟩
/-- the entries of a dict with texts as keys -/
inductive DicQ (K : PySem.W.Frag) (G : Hp) : List (Key × V) → List (Str × PyData) → Prop
  | nil : DicQ K G [] []
  | cons {k : Str} {v : V} {d : PyData} {vs : List (Key × V)} {ds : List (Str × PyData)} : Dq K G v d → DicQ K G vs ds → DicQ K G ((.inr k, v) :: vs) ((k, d) :: ds)
theorem DicQ.mono {K : PySem.W.Frag} {G G' : Hp} (s : Same G G') : ∀ {vs : List (Key × V)} {ds : List (Str × PyData)}, DicQ K G vs ds → DicQ K G' vs ds
  | _, _, .nil => .nil
  | _, _, .cons a b => .cons (dp_mono s a) (b.mono s)
/-- a caught exception at a, its dict at d, its place -/
def ExOk (K : PySem.W.Frag) (C : Ct) (w : W) (G : Hp) (a : Addr) (d : Option Addr) (p : Option PyData) (v : V) : Prop := v = .ref a ∧ ∀ y, p = some y → ∃ dd u, d = some dd ∧ C.H0 dd = some (.xd [("place", u)]) ∧ ¬ Mt C.ad w dd ∧ Dq K G u y
theorem ExOk.mono {K : PySem.W.Frag} {C : Ct} {w w' : W} {G G' : Hp} {a : Addr} {d : Option Addr} {p : Option PyData} {v : V} (h : ExOk K C w G a d p v) (s : Same G G') (hw : w'.isSome = w.isSome) : ExOk K C w' G' a d p v :=
  ⟨h.1, fun y hy => let ⟨dd, u, h1, h2, h3, h4⟩ := h.2 y hy; ⟨dd, u, h1, h2, fun z => h3 (z.w hw.symm), dp_mono s h4⟩⟩
def SlotOk (K : PySem.W.Frag) (C : Ct) (w : W) (G H : Hp) : SD → V → Prop
  | .d x, v => Dq K G v x
  | .own xs, v => ∃ a vs, v = .ref a ∧ H a = some (.lst vs) ∧ DqA K G vs xs ∧ G a = none ∧ C.H0 a = none
  | .st, v => w.isSome = true ∧ v = .ref C.ad.sa
  | .dic kvs, v => ∃ a o vs, v = .ref a ∧ G a = some (.frz o (.dK vs)) ∧ DicQ K G vs kvs
  | .l x, v => Dl K G v x
  | .ex a d p, v => ExOk K C w G a d p v
  | .od kvs, v => ∃ a vs, v = .ref a ∧ H a = some (.dK vs) ∧ DicQ K G vs kvs ∧ G a = none ∧ C.H0 a = none
  | .scr n, v => ∃ a xs, v = .ref a ∧ xs.length = n ∧ ((∃ o, C.H0 a = some (.frz o (.lst xs)) ∧ ¬ Mt C.ad w a) ∨ ∀ H1, SqL K H1 a xs)
def ArgOk (K : PySem.W.Frag) (ad : Ad) (w : W) (G : Hp) : SD → V → Prop
  | .d x, v => Dq K G v x
  | .own _, _ => False
  | .st, v => w.isSome = true ∧ v = .ref ad.sa
  | .scr _, _ => False
  | .dic _, _ => False
  | .l x, v => Dl K G v x
  | .ex _ _ _, _ => False
  | .od _, _ => False
inductive ArgsOk (K : PySem.W.Frag) (ad : Ad) (w : W) (G : Hp) : List SD → List V → Prop
  | nil : ArgsOk K ad w G [] []
  | cons {r : SD} {rs : List SD} {v : V} {vs : List V} : ArgOk K ad w G r v → ArgsOk K ad w G rs vs → ArgsOk K ad w G (r :: rs) (v :: vs)
structure Rel (K : PySem.W.Frag) (C : Ct) (env : Ev) (w : W) (σ : L2.St) (G H : Hp) : Prop where
  sub : Same G H
  len : env.length = σ.length
  slot : ∀ (i : Nat) (sd : SD), env[i]? = some (some sd) → ∃ v, σ[i]? = some (some v) ∧ SlotOk K C w G H sd v
  sep : ∀ (i j : Nat) (xs ys : List PyData) (a : Addr), env[i]? = some (some (.own xs)) → env[j]? = some (some (.own ys)) → σ[i]? = some (some (.ref a)) → σ[j]? = some (some (.ref a)) → i = j
  st : ∀ s, w = some s → StAt K C.ad s G H
  st0 : w.isSome = true → C.H0 C.ad.sa ≠ none ∧ C.H0 C.ad.la ≠ none ∧ C.H0 C.ad.ca ≠ none
  fr : ∀ b o, C.H0 b = some o → ¬ Mt C.ad w b → H b = some o
  gr : ∀ b o, C.H0 b = some o → G b = C.G0 b
  tb : CtOk C.ad.tabs G H
  tb0 : ∀ p ∈ C.ad.tabs, C.H0 p.1 ≠ none
theorem ArgOk.mono {K : PySem.W.Frag} {ad : Ad} {w w' : W} {G G' : Hp} (s : Same G G') (hw : w'.isSome = w.isSome) : ∀ {r : SD} {v : V}, ArgOk K ad w G r v → ArgOk K ad w' G' r v
  | .d _, _, h => dp_mono s h
  | .own _, _, h => h.elim
  | .st, _, h => ⟨by rw [hw]; exact h.1, h.2⟩
  | .scr _, _, h => h.elim
  | .dic _, _, h => h.elim
  | .l _, _, h => Dl.mono s h
  | .ex _ _ _, _, h => h.elim
  | .od _, _, h => h.elim
theorem ArgsOk.mono {K : PySem.W.Frag} {ad : Ad} {w w' : W} {G G' : Hp} (s : Same G G') (hw : w'.isSome = w.isSome) : ∀ {rs : List SD} {vs : List V}, ArgsOk K ad w G rs vs → ArgsOk K ad w' G' rs vs
  | _, _, .nil => .nil
  | _, _, .cons a b => .cons (a.mono s hw) (b.mono s hw)
theorem ArgsOk.length {K : PySem.W.Frag} {ad : Ad} {w : W} {G : Hp} : ∀ {rs : List SD} {vs : List V}, ArgsOk K ad w G rs vs → rs.length = vs.length
  | _, _, .nil => rfl
  | _, _, .cons _ b => congrArg Nat.succ b.length
/-- what stood at the entry stands (something stands) now -/
theorem Rel.some0 {K : PySem.W.Frag} {C : Ct} {env : Ev} {w : W} {σ : L2.St} {G H : Hp} (R : Rel K C env w σ G H) {b : Addr} {o : HO} (h : C.H0 b = some o) : ∃ u, H b = some u := by
  by_cases m : Mt C.ad w b
  · by_cases mt : b ∈ C.ad.tabs.map (·.1)
    · obtain ⟨ps, q⟩ := R.tb.at mt
      exact ⟨_, q⟩
    obtain ⟨h1, h2⟩ := m.resolve_right mt
    cases e : w with
    | none => rw [e] at h1; cases h1
    | some s =>
      have q := R.st s e
      rcases h2 with rfl | rfl
      · exact ⟨_, q.sa⟩
      · exact ⟨_, q.la⟩
  · exact ⟨o, R.fr b o h m⟩
theorem Rel.none0 {K : PySem.W.Frag} {C : Ct} {env : Ev} {w : W} {σ : L2.St} {G H : Hp} (R : Rel K C env w σ G H) {b : Addr} (h : H b = none) : C.H0 b = none := by
  cases e : C.H0 b with
  | none => rfl
  | some o => obtain ⟨u, q⟩ := R.some0 e; rw [h] at q; cases q
/-- an own list's address is none of the state's -/
theorem Rel.own_ne {K : PySem.W.Frag} {C : Ct} {env : Ev} {w : W} {σ : L2.St} {G H : Hp} (R : Rel K C env w σ G H) {a : Addr} (h : C.H0 a = none) (hw : w.isSome = true) : a ≠ C.ad.sa ∧ a ≠ C.ad.la ∧ a ≠ C.ad.ca := by
  obtain ⟨h1, h2, h3⟩ := R.st0 hw
  exact ⟨fun e => h1 (e ▸ h), fun e => h2 (e ▸ h), fun e => h3 (e ▸ h)⟩

theorem Rel.not_Mt {K : PySem.W.Frag} {C : Ct} {env : Ev} {w : W} {σ : L2.St} {G H : Hp} {D : Addr} (R : Rel K C env w σ G H) (h0 : C.H0 D = none) : ¬ Mt C.ad w D := fun m => by
  rcases m with m | m
  · have ne := R.own_ne h0 m.1
    rcases m.2 with e | e
    · exact ne.1 e
    · exact ne.2.1 e
  · obtain ⟨p, hp, e⟩ := List.mem_map.mp m
    exact R.tb0 p hp (by rw [e]; exact h0)
theorem Rel.not_tab {K : PySem.W.Frag} {C : Ct} {env : Ev} {w : W} {σ : L2.St} {G H : Hp} {D : Addr} (R : Rel K C env w σ G H) (h0 : C.H0 D = none) : D ∉ C.ad.tabs.map (·.1) := fun m => R.not_Mt h0 (.inr m)

/-- the heap grew, nothing else -/
structure Ext (G H G' H' : Hp) : Prop where
  hh : Same H H'
  gg : Same G G'
  gh : Same G' H'
  old : ∀ b o, H b = some o → G' b = G b
theorem Ext.refl {G H : Hp} (s : Same G H) : Ext G H G H := ⟨Same.refl H, Same.refl G, s, fun _ _ _ => rfl⟩
theorem Ext.new {G H : Hp} {p : Addr} {o : HO} (s : Same G H) (h : H p = none) : Ext G H (upd G p o) (upd H p o) := by
  have hg : G p = none := s.free h
  refine ⟨same_upd h, same_upd hg, fun b u e => ?_, fun b u e => upd_ne (ne_of_none e h)⟩
  by_cases hb : b = p
  · subst hb; rw [upd_same] at e ⊢; exact e
  · rw [upd_ne hb] at e ⊢; exact s b u e
/-- .. where the new object is not data -/
theorem Ext.drop {G H H' : Hp} (s : Same G H) (h : Same H H') : Ext G H G H' := ⟨h, Same.refl G, s.trans h, fun _ _ _ => rfl⟩
theorem Ext.trans {G H G1 H1 G2 H2 : Hp} (a : Ext G H G1 H1) (b : Ext G1 H1 G2 H2) : Ext G H G2 H2 := ⟨a.hh.trans b.hh, a.gg.trans b.gg, b.gh, fun c o e => (b.old c o (a.hh c o e)).trans (a.old c o e)⟩
theorem StAt.ext {K : PySem.W.Frag} {ad : Ad} {s : DS} {G H G' H' : Hp} (q : StAt K ad s G H) (e : Ext G H G' H') : StAt K ad s G' H' :=
  ⟨e.hh _ _ q.sa, e.hh _ _ q.la, e.hh _ _ q.ca, (e.old _ _ q.sa).trans q.gs, (e.old _ _ q.la).trans q.gl, (e.old _ _ q.ca).trans q.gc, q.ne, q.tk⟩
theorem Rel.ext {K : PySem.W.Frag} {C : Ct} {env : Ev} {w : W} {σ : L2.St} {G H G' H' : Hp} (R : Rel K C env w σ G H) (e : Ext G H G' H') : Rel K C env w σ G' H' where
  sub := e.gh
  len := R.len
  slot := fun i sd h => by
    obtain ⟨v, h1, h2⟩ := R.slot i sd h
    refine ⟨v, h1, ?_⟩
    cases sd with
    | d x => exact dp_mono e.gg h2
    | own xs =>
      obtain ⟨a, vs, rfl, ha, hd, hg, h0⟩ := h2
      exact ⟨a, vs, rfl, e.hh _ _ ha, dpA_mono e.gg hd, (e.old _ _ ha).trans hg, h0⟩
    | st => exact h2
    | scr n => exact h2
    | dic kvs =>
      obtain ⟨a, o, vs, rfl, ha, hd⟩ := h2
      exact ⟨a, o, vs, rfl, e.gg _ _ ha, hd.mono e.gg⟩
    | l x => exact Dl.mono e.gg h2
    | ex a d p => exact ExOk.mono h2 e.gg rfl
    | od kvs =>
      obtain ⟨a, vs, rfl, ha, hd, hg, h0⟩ := h2
      exact ⟨a, vs, rfl, e.hh _ _ ha, hd.mono e.gg, (e.old _ _ ha).trans hg, h0⟩
  sep := R.sep
  st := fun s h => (R.st s h).ext e
  st0 := R.st0
  fr := fun b o h m => e.hh _ _ (R.fr b o h m)
  gr := fun b o h => by
    obtain ⟨u, q⟩ := R.some0 h
    exact (e.old _ _ q).trans (R.gr b o h)
  tb := ⟨R.tb.tabs.ext e.hh, fun p hp => by
    obtain ⟨ps, q, _⟩ := R.tb.tabs p hp
    rw [e.old _ _ q]
    exact R.tb.gn p hp⟩
  tb0 := R.tb0

abbrev Ex := Ev → W → Option (SD × Ev × W)
abbrev Tx := Ev → W → Option (Bool × Ev × W)
abbrev Ax := Ev → W → Option (List SD × Ev × W)
inductive Fl where
  | nx
  | rt (r : SD)
  | bk
  | ct
abbrev Sx := Ev → W → Option (Fl × Ev × W)
def tD (K : PySem.W.Frag) (m : Ex) : TE := fun σ H Q => ∃ C G env w r env' w', Rel K C env w σ G H ∧ m env w = some (r, env', w') ∧
  ∀ v G' H', Rel K C env' w' σ G' H' → Same G G' → w'.isSome = w.isSome → ArgOk K C.ad w' G' r v → Q v H'
def tT (K : PySem.W.Frag) (m : Tx) : TT := fun σ H Q => ∃ C G env w r env' w', Rel K C env w σ G H ∧ m env w = some (r, env', w') ∧
  ∀ G' H', Rel K C env' w' σ G' H' → Same G G' → w'.isSome = w.isSome → Q r H'
def tA (K : PySem.W.Frag) (m : Ax) : TA := fun σ H Q => ∃ C G env w r env' w', Rel K C env w σ G H ∧ m env w = some (r, env', w') ∧
  ∀ vs G' H', Rel K C env' w' σ G' H' → Same G G' → w'.isSome = w.isSome → ArgsOk K C.ad w' G' r vs → Q vs H'
def tS (K : PySem.W.Frag) (m : Sx) : TS := fun D σ H => ∃ C G env w fl env' w', Rel K C env w σ G H ∧ m env w = some (fl, env', w') ∧
  ∀ σ' G' H', Rel K C env' w' σ' G' H' → Same G G' → w'.isSome = w.isSome → match fl with
    | .nx => D.nx σ' H'
    | .bk => D.bk σ' H'
    | .ct => D.ct σ' H'
    | .rt r => ∀ v, ArgOk K C.ad w' G' r v → D.rt v H'
abbrev DE (X : Cx) (e : Expr) (m : Ex) : Prop := PE X e (tD X.K m)
abbrev DT (X : Cx) (e : Expr) (m : Tx) : Prop := PT X e (tT X.K m)
abbrev DA (X : Cx) (es : List Expr) (m : Ax) : Prop := PA X es (tA X.K m)
abbrev DSt (X : Cx) (s : Stmt) (m : Sx) : Prop := PS X s (tS X.K m)
abbrev DSs (X : Cx) (s : List Stmt) (m : Sx) : Prop := PSs X s (tS X.K m)
theorem PE.weak {X : Cx} {e : Expr} {t t' : TE} (h : PE X e t) (k : ∀ σ H Q, t' σ H Q → t σ H Q) : PE X e t' := ⟨fun pins s σ H Q I q => h.run pins s σ H Q I (k σ H Q q)⟩
theorem PT.weak {X : Cx} {e : Expr} {t t' : TT} (h : PT X e t) (k : ∀ σ H Q, t' σ H Q → t σ H Q) : PT X e t' := ⟨fun pins s σ H Q I q => h.run pins s σ H Q I (k σ H Q q)⟩
theorem PW.weak {X : Cx} {e : Expr} {t t' : TT} (h : PW X e t) (k : ∀ σ H Q, t' σ H Q → t σ H Q) : PW X e t' := ⟨fun wh pins s σ H Q I q => h.run wh pins s σ H Q I (k σ H Q q)⟩
theorem PA.weak {X : Cx} {e : List Expr} {t t' : TA} (h : PA X e t) (k : ∀ σ H Q, t' σ H Q → t σ H Q) : PA X e t' := ⟨fun pos pins s σ H Q I q => h.run pos pins s σ H Q I (k σ H Q q)⟩
theorem PS.weak {X : Cx} {e : Stmt} {t t' : TS} (h : PS X e t) (k : ∀ D σ H, t' D σ H → t D σ H) : PS X e t' := ⟨fun pins s σ H D I q => h.run pins s σ H D I (k D σ H q)⟩
theorem PSs.weak {X : Cx} {e : List Stmt} {t t' : TS} (h : PSs X e t) (k : ∀ D σ H, t' D σ H → t D σ H) : PSs X e t' := ⟨fun pins s σ H D I q => h.run pins s σ H D I (k D σ H q)⟩

def mVar (i : Nat) : Ex := fun env w => match env[i]? with
  | some (some (.d x)) => some (.d x, env, w)
  | some (some .st) => some (.st, env, w)
  | some (some (.own xs)) => some (.d (.list xs), env.set i (some (.d (.list xs))), w)
  | some (some (.l x)) => some (.l x, env, w)
  | _ => none
/-- an own list is data from now on -/
theorem Rel.freeze {K : PySem.W.Frag} {C : Ct} {env : Ev} {w : W} {σ : L2.St} {G H : Hp} (R : Rel K C env w σ G H) {i : Nat} {xs : List PyData} (h : env[i]? = some (some (.own xs))) :
    ∃ a G', σ[i]? = some (some (.ref a)) ∧ Same G G' ∧ Dq K G' (.ref a) (.list xs) ∧ Rel K C (env.set i (some (.d (.list xs)))) w σ G' H := by
  obtain ⟨v, h1, a, vs, rfl, ha, hd, hg, h0⟩ := R.slot i _ h
  have hi : i < env.length := (List.getElem?_eq_some_iff.mp h).1
  have sg : Same G (upd G a (.lst vs)) := same_upd hg
  have dp : Dq K (upd G a (.lst vs)) (.ref a) (.list xs) := .lst upd_same (dpA_mono sg hd)
  refine ⟨a, upd G a (.lst vs), h1, sg, dp, ?_, ?_, ?_, ?_, ?_, R.st0, R.fr, ?_, R.tb.gset ha, R.tb0⟩
  · intro b o e
    by_cases hb : b = a
    · subst hb; rw [upd_same] at e; rw [ha]; exact e
    · rw [upd_ne hb] at e; exact R.sub b o e
  · rw [List.length_set]; exact R.len
  · intro j sd e
    by_cases hj : i = j
    · subst hj
      rw [List.getElem?_set_self hi] at e
      cases e
      exact ⟨_, h1, dp⟩
    · rw [List.getElem?_set_ne hj] at e
      obtain ⟨v, q1, q2⟩ := R.slot j sd e
      refine ⟨v, q1, ?_⟩
      cases sd with
      | d x => exact dp_mono sg q2
      | own ys =>
        obtain ⟨b, us, rfl, hb, hd', hg', h0'⟩ := q2
        refine ⟨b, us, rfl, hb, dpA_mono sg hd', ?_, h0'⟩
        rw [upd_ne]
        · exact hg'
        · rintro rfl
          exact hj (R.sep i j xs ys b h e h1 q1)
      | st => exact q2
      | scr n => exact q2
      | dic kvs =>
        obtain ⟨b, o, us, rfl, hb, hd'⟩ := q2
        exact ⟨b, o, us, rfl, sg _ _ hb, hd'.mono sg⟩
      | l x => exact Dl.mono sg q2
      | ex b d p => exact ExOk.mono q2 sg rfl
      | od kvs =>
        obtain ⟨b, us, rfl, hb, hd', hg', h0'⟩ := q2
        refine ⟨b, us, rfl, hb, hd'.mono sg, ?_, h0'⟩
        rw [upd_ne]
        · exact hg'
        · rintro rfl
          rw [ha] at hb; cases hb
  · intro j k ys zs b e1 e2 s1 s2
    have hj : i ≠ j := by
      rintro rfl
      rw [List.getElem?_set_self hi] at e1; cases e1
    have hk : i ≠ k := by
      rintro rfl
      rw [List.getElem?_set_self hi] at e2; cases e2
    rw [List.getElem?_set_ne hj] at e1
    rw [List.getElem?_set_ne hk] at e2
    exact R.sep j k ys zs b e1 e2 s1 s2
  · intro s e
    have q := R.st s e
    have ne := R.own_ne h0 (by rw [e]; rfl)
    exact ⟨q.sa, q.la, q.ca, by rw [upd_ne ne.1.symm]; exact q.gs, by rw [upd_ne ne.2.1.symm]; exact q.gl, by rw [upd_ne ne.2.2.symm]; exact q.gc, q.ne, q.tk⟩
  · intro b o e
    rw [upd_ne]
    · exact R.gr b o e
    · rintro rfl
      rw [h0] at e; cases e
theorem de_var {X : Cx} {i : Nat} {x : Str} {pos : Pos} (h : PE X (.Name x pos) (tVar i)) : DE X (.Name x pos) (mVar i) := PE.weak h fun σ H Q ⟨C, G, env, w, r, env', w', R, hm, k⟩ => by
  unfold mVar at hm
  cases e : env[i]? with
  | none => rw [e] at hm; cases hm
  | some o =>
    rw [e] at hm
    cases o with
    | none => cases hm
    | some sd =>
      cases sd with
      | d y =>
        cases hm
        obtain ⟨v, h1, h2⟩ := R.slot i _ e
        exact ⟨v, h1, k v G H R (Same.refl G) rfl h2⟩
      | own xs =>
        cases hm
        obtain ⟨a, G', h1, sg, dp, R'⟩ := R.freeze e
        exact ⟨.ref a, h1, k _ G' H R' sg rfl dp⟩
      | st =>
        cases hm
        obtain ⟨v, h1, h2⟩ := R.slot i _ e
        exact ⟨v, h1, k v G H R (Same.refl G) rfl h2⟩
      | scr n => cases hm
      | dic _ => cases hm
      | l x =>
        cases hm
        obtain ⟨v, h1, h2⟩ := R.slot i _ e
        exact ⟨v, h1, k v G H R (Same.refl G) rfl h2⟩
      | ex _ _ _ => cases hm
      | od _ => cases hm
def mC (x : PyData) : Ex := fun env w => some (.d x, env, w)
theorem de_c {X : Cx} {e : Expr} {v : V} {x : PyData} (h : PE X e (tC v)) (hd : ∀ G, Dq X.K G v x) : DE X e (mC x) := PE.weak h fun σ H Q ⟨C, G, env, w, r, env', w', R, hm, k⟩ => by
  cases hm
  exact k v G H R (Same.refl G) rfl (hd G)
theorem de_int {X : Cx} {i j pos} : DE X (.Constant (.int i) j pos) (mC (.int i)) := de_c pe_int fun _ => .int i
theorem de_str {X : Cx} {i j pos} : DE X (.Constant (.str i) j pos) (mC (.str i)) := de_c pe_str fun _ => .str i
theorem de_bl {X : Cx} {i j pos} : DE X (.Constant (.bool i) j pos) (mC (.bool i)) := de_c pe_bl fun _ => .bl i
theorem de_non {X : Cx} {j pos} : DE X (.Constant .none j pos) (mC .none) := de_c pe_non fun _ => .non

def seqE {α : Type} (m : Ex) (k : PyData → Ev → W → Option α) : Ev → W → Option α := fun env w => match m env w with
  | some (.d x, e1, w1) => k x e1 w1
  | _ => none
def optE (o : Option PyData) : Ex := fun env w => match o with
  | some z => some (.d z, env, w)
  | none => none
theorem seqE_inv {α : Type} {m : Ex} {k : PyData → Ev → W → Option α} {env : Ev} {w : W} {r : α} (h : seqE m k env w = some r) : ∃ x e1 w1, m env w = some (.d x, e1, w1) ∧ k x e1 w1 = some r := by
  unfold seqE at h
  split at h
  · rename_i x e1 w1 e
    exact ⟨x, e1, w1, e, h⟩
  · cases h
theorem seqE_of {α : Type} {m : Ex} {k : PyData → Ev → W → Option α} {env : Ev} {w : W} {x : PyData} {e1 : Ev} {w1 : W} (h : m env w = some (.d x, e1, w1)) : seqE m k env w = k x e1 w1 := by
  unfold seqE; rw [h]
theorem optE_inv {o : Option PyData} {env : Ev} {w : W} {r : SD} {env' : Ev} {w' : W} (h : optE o env w = some (r, env', w')) : ∃ z, o = some z ∧ r = .d z ∧ env' = env ∧ w' = w := by
  unfold optE at h
  cases o with
  | none => cases h
  | some z => cases h; exact ⟨z, rfl, rfl, rfl, rfl⟩

/-- a two-place operation on data -/
def OpD (X : Cx) (f : Value → Value → Sem Value) (g : PyData → PyData → Option PyData) : Prop :=
  ∀ (pins : List (Addr × Obj)) (s : Shared) (σ : L2.St) (G H : Hp) (x y : V) (v u : Value) (dx dy dz : PyData) (Q : VK), Inv X pins σ H s → RelV x v → RelV y u → Same G H → Dq X.K G x dx → Dq X.K G y dy → g dx dy = some dz →
    (∀ z G' H', Ext G H G' H' → Dq X.K G' z dz → Q z H') → wpAny (model X.prog X.w) X.A (f v u) (EP X pins σ Q) X.xe s
def mOp (g : PyData → PyData → Option PyData) (ma mb : Ex) : Ex := seqE ma fun x => seqE mb fun y => optE (g x y)
def rSem (X : Cx) (f : Value → Value → Sem Value) : R2 := fun x y H Q => ∀ (pins : List (Addr × Obj)) (s : Shared) (σ : L2.St) (v u : Value), Inv X pins σ H s → RelV x v → RelV y u → wpAny (model X.prog X.w) X.A (f v u) (EP X pins σ Q) X.xe s
theorem op_sem {X : Cx} {f : Value → Value → Sem Value} : OpR X f (rSem X f) := fun pins s σ H x y v u Q I rx ry h => h pins s σ v u I rx ry
theorem two_D {X : Cx} {f : Value → Value → Sem Value} {g : PyData → PyData → Option PyData} {ma mb : Ex} (ho : OpD X f g) {σ : L2.St} {H : Hp} {Q : VK} (h : tD X.K (mOp g ma mb) σ H Q) :
    tD X.K ma σ H fun x H1 => tD X.K mb σ H1 fun y H2 => rSem X f x y H2 Q := by
  obtain ⟨C, G, env, w, r, env', w', R, hm, k⟩ := h
  obtain ⟨x, e1, w1, h1, hm⟩ := seqE_inv hm
  obtain ⟨y, e2, w2, h2, hm⟩ := seqE_inv hm
  obtain ⟨z, h3, rfl, rfl, rfl⟩ := optE_inv hm
  refine ⟨C, G, env, w, _, e1, w1, R, h1, fun v G1 H1 R1 s1 i1 a1 => ?_⟩
  refine ⟨C, G1, e1, w1, _, _, _, R1, h2, fun u G2 H2 R2 s2 i2 a2 => ?_⟩
  intro pins s σ' vv uu I rx ry
  exact ho pins s σ' G2 H2 v u vv uu x y z Q I rx ry R2.sub (dp_mono s2 a1) a2 h3 fun zz G' H' e dz => k zz G' H' (R2.ext e) (s1.trans (s2.trans e.gg)) (i2.trans i1) dz
section
variable {X : Cx} {a b : Expr} {ma mb : Ex} {pos : Pos} {g : PyData → PyData → Option PyData}
theorem de_op {op : Operator} (ho : OpD X (binaryOp op) g) (ha : DE X a ma) (hb : DE X b mb) : DE X (.BinOp a op b pos) (mOp g ma mb) := PE.weak (pe_op op_sem ha hb) fun _ _ _ h => two_D ho h
theorem de_cmp {op : CmpOp} (ho : OpD X (compareOp op) g) (ha : DE X a ma) (hb : DE X b mb) (hm : behindInMarks op b = false) : DE X (.Compare a [op] [b] pos) (mOp g ma mb) := PE.weak (pe_cmpR op_sem ha hb hm) fun _ _ _ h => two_D ho h
end
/-- a value's truth -/
def truD : PyData → Option Bool
  | .none => some false
  | .bool b => some b
  | .int i => some (i != 0)
  | .str y => if y.length ≤ sizeLine then some ((y.length : Int) != 0) else none
  | .list xs => some (!xs.isEmpty)
  | .tuple xs => some (!xs.isEmpty)
  | .dict _ => none
def mTru (m : Ex) : Tx := seqE m fun x env w => (truD x).map fun b => (b, env, w)
theorem mTru_inv {m : Ex} {env : Ev} {w : W} {b : Bool} {env' : Ev} {w' : W} (h : mTru m env w = some (b, env', w')) : ∃ x, m env w = some (.d x, env', w') ∧ truD x = some b := by
  obtain ⟨x, e1, w1, h1, h2⟩ := seqE_inv h
  cases e : truD x with
  | none => rw [e] at h2; cases h2
  | some c => rw [e] at h2; cases h2; exact ⟨x, h1, e⟩
theorem isEmpty_dpA {K : PySem.W.Frag} {G : Hp} : ∀ {vs : List V} {ds : List PyData}, DqA K G vs ds → (!ds.isEmpty) = !vs.isEmpty
  | _, _, .nil => rfl
  | _, _, .cons _ _ => rfl
theorem tru_ofD {K : PySem.W.Frag} {G H : Hp} {v : V} {x : PyData} {b : Bool} (s : Same G H) (hd : Dq K G v x) (h : truD x = some b) : TruV K v H b := by
  cases hd with
  | non => cases h; rfl
  | bl c => cases h; rfl
  | int i => cases h; rfl
  | str y =>
    simp only [truD] at h
    split at h
    · cases h; exact ⟨by assumption, rfl⟩
    · cases h
  | lst hs ha =>
    cases h
    exact .inl ⟨_, SqL.of (s _ _ hs), isEmpty_dpA ha⟩
  | tup hs ha =>
    cases h
    exact .inr (.inl ⟨_, Same.sqT s hs, isEmpty_dpA ha⟩)
theorem dt_val {X : Cx} {a : Expr} {m : Ex} (ha : DE X a m) (he : ∀ whole, isTrue a X.env whole = (do let v ← whole; standAt a.pos; holding [v] (truthy v)) := by intro _; rfl) : DT X a (mTru m) := by
  refine ⟨fun pins s σ H Q I h => ?_⟩
  obtain ⟨C, G, env, w, r, env', w', R, hm, k⟩ := h
  obtain ⟨x, h1, h2⟩ := mTru_inv hm
  refine isTrue_plain (thn (ha.run pins s σ H (fun v H1 => TruV X.K v H1 r ∧ Q r H1) I ⟨C, G, env, w, _, env', w', R, h1, fun v G' H' R' s' i' a' => ⟨tru_ofD R'.sub a' h2, k G' H' R' s' i'⟩⟩) fun v s1 ⟨y, H1, I1, r1, q1, q2⟩ => ?_) (he _)
  exact tru_ok pins s1 σ H1 y v Q I1 r1 ⟨r, q1, q2⟩
/-- a comparison as a test -/
theorem dt_cmp {X : Cx} {a b : Expr} {ma mb : Ex} {pos : Pos} {g : PyData → PyData → Option PyData} {op : CmpOp} (ho : OpD X (compareOp op) g) (ha : DE X a ma) (hb : DE X b mb) (hm : behindInMarks op b = false) :
    DT X (.Compare a [op] [b] pos) (mTru (mOp g ma mb)) := by
  refine ⟨fun pins s σ H Q I h => ?_⟩
  obtain ⟨C, G, env, w, r, env', w', R, h0, k⟩ := h
  obtain ⟨x, h1, h2⟩ := mTru_inv h0
  have t : tD X.K (mOp g ma mb) σ H fun v H1 => TruV X.K v H1 r ∧ Q r H1 := ⟨C, G, env, w, _, env', w', R, h1, fun v G' H' R' s' i' a' => ⟨tru_ofD R'.sub a' h2, k G' H' R' s' i'⟩⟩
  refine wpAny_isTrue_Compare1 ?_ hm
  refine binT ha hb I (two_D ho t) fun v u s2 x y H2 I2 rx ry q => ?_
  refine thn (q pins s2 σ v u I2 rx ry) fun c s3 ⟨z, H3, I3, r3, q1, q2⟩ => ?_
  exact tru_ok pins s3 σ H3 z c Q I3 r3 ⟨r, q1, q2⟩
def mAnd (a b : Tx) : Tx := fun env w => match a env w with
  | some (true, e1, w1) => b e1 w1
  | r => r
def mOr (a b : Tx) : Tx := fun env w => match a env w with
  | some (false, e1, w1) => b e1 w1
  | r => r
def mNot (a : Tx) : Tx := fun env w => match a env w with
  | some (b, e1, w1) => some (!b, e1, w1)
  | none => none
def mIf {α : Type} (t : Tx) (a b : Ev → W → Option α) : Ev → W → Option α := fun env w => match t env w with
  | some (true, e1, w1) => a e1 w1
  | some (false, e1, w1) => b e1 w1
  | none => none
/-- .. as values -/
def mBl (t : Tx) : Ex := fun env w => match t env w with
  | some (b, e1, w1) => some (.d (.bool b), e1, w1)
  | none => none
section
variable {X : Cx} {a b : Expr} {ta tb : Tx} {pos : Pos} {rest : List Expr}
abbrev DW (X : Cx) (e : Expr) (m : Tx) : Prop := PW X e (tT X.K m)
theorem dw_and1 (ha : DT X a ta) : DW X (.BoolOp .And [a] pos) ta := pw_and1 ha
theorem dw_or1 (ha : DT X a ta) : DW X (.BoolOp .Or [a] pos) ta := pw_or1 ha
theorem dw_and (ha : DT X a ta) (hb : DW X (.BoolOp .And (b :: rest) pos) tb) : DW X (.BoolOp .And (a :: b :: rest) pos) (mAnd ta tb) := PW.weak (pw_and ha hb) fun σ H Q ⟨C, G, env, w, r, env', w', R, hm, k⟩ => by
  unfold mAnd at hm
  split at hm
  · rename_i e1 w1 h1
    exact ⟨C, G, env, w, _, _, _, R, h1, fun G1 H1 R1 s1 i1 => ⟨C, G1, e1, w1, r, env', w', R1, hm, fun G2 H2 R2 s2 i2 => k G2 H2 R2 (s1.trans s2) (i2.trans i1)⟩⟩
  · rename_i h1
    cases r with
    | true => exact absurd hm (h1 _ _)
    | false => exact ⟨C, G, env, w, _, _, _, R, hm, fun G1 H1 R1 s1 i1 => k G1 H1 R1 s1 i1⟩
theorem dw_or (ha : DT X a ta) (hb : DW X (.BoolOp .Or (b :: rest) pos) tb) : DW X (.BoolOp .Or (a :: b :: rest) pos) (mOr ta tb) := PW.weak (pw_or ha hb) fun σ H Q ⟨C, G, env, w, r, env', w', R, hm, k⟩ => by
  unfold mOr at hm
  split at hm
  · rename_i e1 w1 h1
    exact ⟨C, G, env, w, _, _, _, R, h1, fun G1 H1 R1 s1 i1 => ⟨C, G1, e1, w1, r, env', w', R1, hm, fun G2 H2 R2 s2 i2 => k G2 H2 R2 (s1.trans s2) (i2.trans i1)⟩⟩
  · rename_i h1
    cases r with
    | false => exact absurd hm (h1 _ _)
    | true => exact ⟨C, G, env, w, _, _, _, R, hm, fun G1 H1 R1 s1 i1 => k G1 H1 R1 s1 i1⟩
theorem DW.dt {e : Expr} {m : Tx} (h : DW X e m) : DT X e m := PW.pt h
theorem dt_not (ha : DT X a ta) : DT X (.UnaryOp .Not a pos) (mNot ta) := PT.weak (pt_not ha) fun σ H Q ⟨C, G, env, w, r, env', w', R, hm, k⟩ => by
  unfold mNot at hm
  split at hm
  · rename_i c e1 w1 h1
    cases hm
    exact ⟨C, G, env, w, _, _, _, R, h1, fun G1 H1 R1 s1 i1 => k G1 H1 R1 s1 i1⟩
  · cases hm
theorem de_if {c : Expr} {tc : Tx} {ma mb : Ex} (hc : DT X c tc) (ha : DE X a ma) (hb : DE X b mb) : DE X (.IfExp c a b pos) (mIf tc ma mb) := PE.weak (pe_ifExp hc ha hb) fun σ H Q ⟨C, G, env, w, r, env', w', R, hm, k⟩ => by
  unfold mIf at hm
  split at hm
  · rename_i e1 w1 h1
    exact ⟨C, G, env, w, _, _, _, R, h1, fun G1 H1 R1 s1 i1 => ⟨C, G1, e1, w1, r, env', w', R1, hm, fun v G2 H2 R2 s2 i2 a2 => k v G2 H2 R2 (s1.trans s2) (i2.trans i1) a2⟩⟩
  · rename_i e1 w1 h1
    exact ⟨C, G, env, w, _, _, _, R, h1, fun G1 H1 R1 s1 i1 => ⟨C, G1, e1, w1, r, env', w', R1, hm, fun v G2 H2 R2 s2 i2 a2 => k v G2 H2 R2 (s1.trans s2) (i2.trans i1) a2⟩⟩
  · cases hm
end
end Dn

set_option maxHeartbeats 4000000
namespace Dn
open PySem PySem.Spec PyProof.Rows L2

def mNil : Ax := fun env w => some ([], env, w)
def mCons (a : Ex) (b : Ax) : Ax := fun env w => match a env w with
  | some (r, e1, w1) => (match b e1 w1 with
    | some (rs, e2, w2) => some (r :: rs, e2, w2)
    | none => none)
  | none => none
section
variable {X : Cx} {e : Expr} {es : List Expr} {m : Ex} {ms : Ax}
theorem da_nil : DA X [] mNil := PA.weak pa_nil fun σ H Q ⟨C, G, env, w, r, env', w', R, hm, k⟩ => by
  cases hm
  exact k [] G H R (Same.refl G) rfl .nil
theorem da_cons (ha : DE X e m) (hr : DA X es ms) (hs : starEach (e :: es) X.env = (false, eval e X.env) :: starEach es X.env := by rfl) : DA X (e :: es) (mCons m ms) := PA.weak (pa_cons ha hr hs) fun σ H Q ⟨C, G, env, w, r, env', w', R, hm, k⟩ => by
  unfold mCons at hm
  split at hm
  · rename_i r1 e1 w1 h1
    split at hm
    · rename_i rs e2 w2 h2
      cases hm
      refine ⟨C, G, env, w, _, _, _, R, h1, fun v G1 H1 R1 s1 i1 a1 => ⟨C, G1, e1, w1, _, _, _, R1, h2, fun vs G2 H2 R2 s2 i2 a2 => ?_⟩⟩
      exact k _ G2 H2 R2 (s1.trans s2) (i2.trans i1) (.cons (a1.mono s2 i2) a2)
    · cases hm
  · cases hm
end

def spM (K : PySem.W.Frag) (m : List SD → W → Option (SD × W)) : Sp := fun vs H Q _ => ∃ (G : Hp) (ad : Ad) (w : W) (as : List SD) (r : SD) (w' : W),
  Same G H ∧ (∀ s, w = some s → StAt K ad s G H) ∧ CtOk ad.tabs G H ∧ ArgsOk K ad w G as vs ∧ m as w = some (r, w') ∧
  ∀ v G' H', Same G G' → Same G' H' → (∀ b o, H b = some o → ¬ Mt ad w b → H' b = some o) → (∀ b o, H b = some o → G' b = G b) → w'.isSome = w.isSome → (∀ s, w' = some s → StAt K ad s G' H') → CtOk ad.tabs G' H' → ArgOk K ad w' G' r v → Q v H'
def mCall (m : List SD → W → Option (SD × W)) (ms : Ax) : Ex := fun env w => match ms env w with
  | some (as, e1, w1) => (match m as w1 with
    | some (r, w2) => some (r, e1, w2)
    | none => none)
  | none => none
theorem Rel.called {K : PySem.W.Frag} {C : Ct} {env : Ev} {w w' : W} {σ : L2.St} {G H G' H' : Hp} (R : Rel K C env w σ G H) (sg : Same G G') (gh : Same G' H') (fr : ∀ b o, H b = some o → ¬ Mt C.ad w b → H' b = some o)
    (old : ∀ b o, H b = some o → G' b = G b) (hw : w'.isSome = w.isSome) (st : ∀ s, w' = some s → StAt K C.ad s G' H') (tb : CtOk C.ad.tabs G' H') : Rel K C env w' σ G' H' where
  sub := gh
  len := R.len
  slot := fun i sd h => by
    obtain ⟨v, h1, h2⟩ := R.slot i sd h
    refine ⟨v, h1, ?_⟩
    cases sd with
    | d x => exact dp_mono sg h2
    | own xs =>
      obtain ⟨a, vs, rfl, ha, hd, hg, h0⟩ := h2
      refine ⟨a, vs, rfl, fr _ _ ha fun m => ?_, dpA_mono sg hd, (old _ _ ha).trans hg, h0⟩
      exact R.not_Mt h0 m
    | st => exact ⟨by rw [hw]; exact h2.1, h2.2⟩
    | dic kvs =>
      obtain ⟨a, o, vs, rfl, ha, hd⟩ := h2
      exact ⟨a, o, vs, rfl, sg _ _ ha, hd.mono sg⟩
    | l x => exact Dl.mono sg h2
    | ex a d p => exact ExOk.mono h2 sg hw
    | od kvs =>
      obtain ⟨a, vs, rfl, ha, hd, hg, h0⟩ := h2
      exact ⟨a, vs, rfl, fr _ _ ha fun m => R.not_Mt h0 m, hd.mono sg, (old _ _ ha).trans hg, h0⟩
    | scr n =>
      obtain ⟨a, xs, h3, h4, h5⟩ := h2
      refine ⟨a, xs, h3, h4, ?_⟩
      rcases h5 with ⟨o, h5, h6⟩ | h5
      · exact .inl ⟨o, h5, fun z => h6 (z.w hw.symm)⟩
      · exact .inr h5
  sep := R.sep
  st := st
  st0 := fun h => R.st0 (by rw [← hw]; exact h)
  fr := fun b o h m => by
    have m' : ¬ Mt C.ad w b := fun z => m (z.w hw)
    exact fr b o (R.fr b o h m') m'
  gr := fun b o h => by
    obtain ⟨u, q⟩ := R.some0 h
    exact (old _ _ q).trans (R.gr b o h)
  tb := tb
  tb0 := R.tb0
theorem call_D {K : PySem.W.Frag} {m : List SD → W → Option (SD × W)} {ms : Ax} {σ : L2.St} {H : Hp} {Q : VK} {E : XK} (h : tD K (mCall m ms) σ H Q) : tA K ms σ H fun vs H1 => spM K m (vs ++ []) H1 Q E := by
  obtain ⟨C, G, env, w, r, env', w', R, hm, k⟩ := h
  unfold mCall at hm
  split at hm
  · rename_i as e1 w1 h1
    split at hm
    · rename_i r2 w2 h2
      cases hm
      refine ⟨C, G, env, w, _, _, _, R, h1, fun vs G1 H1 R1 s1 i1 a1 => ?_⟩
      show spM K m (vs ++ []) H1 Q E
      rw [List.append_nil]
      exact ⟨G1, C.ad, w1, as, _, _, R1.sub, R1.st, R1.tb, a1, h2, fun v G' H' sg gh fr old hw st tb ar => k v G' H' (R1.called sg gh fr old hw st tb) (s1.trans sg) (hw.trans i1) ar⟩
    · cases hm
  · cases hm
/-- a def of the text that may be called -/
structure Fn (P : Program) (w : World) (K : PySem.W.Frag) (mg : Str → Option Value) (base : Heap) (k : Nat) (x : Str) (m : List SD → W → Option (SD × W)) : Prop where
  ex : ∃ (f : Addr) (fd : FuncData) (ps : List Str), FnOk P w K mg base CX0 k f fd ps (spM K m) ∧ mg x = some (.ref f) ∧ PySem.W.keepIn K (.ref f) = true ∧ Binds K fd ps []
section
variable {X : Cx} {x : Str} {e : Expr} {es : List Expr} {p pos : Pos} {m : List SD → W → Option (SD × W)} {ms : Ax} {j k : Nat}
theorem de_call (F : Fn X.prog X.w X.K X.mg X.base k x m) (hr : Room j X.A) (hk : k ≤ j) (ha : DA X (e :: es) ms) (hg : Gl X x := by rfl) (hdb : (x == ("__debug__" : Str)) = false := by decide)
    (he : starEach (e :: es) X.env = (false, eval e X.env) :: starEach es X.env := by rfl) (hpl : (backTo pos (starEach es X.env)).any (·.1) = false := by rfl) : DE X (.Call (.Name x p) (e :: es) [] pos) (mCall m ms) := by
  obtain ⟨f, fd, ps, F, hm, kp, hb⟩ := F.ex
  exact PE.weak (pe_call F (hr.mono hk) hg hm kp hb .nil pass0 ha hdb he hpl) fun _ _ _ h => call_D h
theorem de_call0 (F : Fn X.prog X.w X.K X.mg X.base k x m) (hr : Room j X.A) (hk : k ≤ j) (hg : Gl X x := by rfl) (hdb : (x == ("__debug__" : Str)) = false := by decide) : DE X (.Call (.Name x p) [] [] pos) (mCall m mNil) := by
  obtain ⟨f, fd, ps, F, hm, kp, hb⟩ := F.ex
  refine PE.weak (pe_call0 F (hr.mono hk) hg hm kp hb .nil pass0 hdb) fun σ H Q h => ?_
  obtain ⟨C, G, env, w, r, env', w', R, hm, k⟩ := h
  unfold mCall mNil at hm
  dsimp only at hm
  split at hm
  · rename_i r2 w2 h2
    cases hm
    show spM X.K m ([] ++ []) H Q E0
    exact ⟨G, C.ad, w, [], _, _, R.sub, R.st, R.tb, .nil, h2, fun v G' H' sg gh fr old hw st tb ar => k v G' H' (R.called sg gh fr old hw st tb) sg hw ar⟩
  · cases hm
end

def dsOf : List SD → Option (List PyData)
  | [] => some []
  | .d x :: r => (dsOf r).map (x :: ·)
  | _ :: _ => none
theorem dsOf_ok {K : PySem.W.Frag} {ad : Ad} {w : W} {G : Hp} : ∀ {rs : List SD} {vs : List V} {ds : List PyData}, ArgsOk K ad w G rs vs → dsOf rs = some ds → DqA K G vs ds
  | _, _, _, .nil, h => by cases h; exact .nil
  | .d x :: r, _, ds, .cons a b, h => by
    simp only [dsOf] at h
    cases e : dsOf r with
    | none => rw [e] at h; cases h
    | some es => rw [e] at h; cases h; exact .cons a (dsOf_ok b e)
  | .own _ :: _, _, _, .cons a _, _ => a.elim
  | .st :: _, _, _, .cons _ _, h => by cases h
  | .scr _ :: _, _, _, .cons a _, _ => a.elim
  | .l _ :: _, _, _, .cons _ _, h => by cases h
def argsD {α : Type} (ms : Ax) (k : List PyData → Ev → W → Option α) : Ev → W → Option α := fun env w => match ms env w with
  | some (rs, e1, w1) => (match dsOf rs with
    | some ds => k ds e1 w1
    | none => none)
  | none => none
theorem argsD_inv {α : Type} {ms : Ax} {k : List PyData → Ev → W → Option α} {env : Ev} {w : W} {r : α} (h : argsD ms k env w = some r) : ∃ rs ds e1 w1, ms env w = some (rs, e1, w1) ∧ dsOf rs = some ds ∧ k ds e1 w1 = some r := by
  unfold argsD at h
  split at h
  · rename_i rs e1 w1 h1
    split at h
    · rename_i ds h2
      exact ⟨rs, ds, e1, w1, h1, h2, h⟩
    · cases h
  · cases h
def tupD (ds : List PyData) : Option PyData := if ds.length ≤ 1000 then some (.tuple ds) else none
theorem len1000 {n : Nat} (h : n ≤ 1000) : n ≤ sizeLine := Nat.le_trans h (by decide)
def mTup (ms : Ax) : Ex := argsD ms fun ds => optE (tupD ds)
theorem de_tup {X : Cx} {e : Expr} {ms : Ax} (h : PE X e (tTup (tA X.K ms))) : DE X e (mTup ms) := PE.weak h fun σ H Q ⟨C, G, env, w, r, env', w', R, hm, k⟩ => by
  obtain ⟨rs, ds, e1, w1, h1, h2, hm⟩ := argsD_inv hm
  obtain ⟨z, h3, rfl, rfl, rfl⟩ := optE_inv hm
  unfold tupD at h3
  split at h3
  · rename_i hl
    cases h3
    refine ⟨C, G, env, w, _, _, _, R, h1, fun vs G1 H1 R1 s1 i1 a1 => ?_⟩
    have dA := dsOf_ok a1 h2
    refine ⟨len1000 (by rw [dpA_len dA]; exact hl), fun p hp => ?_⟩
    have ex : Ext G1 H1 (upd G1 p (.tup vs)) (upd H1 p (.tup vs)) := Ext.new R1.sub hp
    exact k _ _ _ (R1.ext ex) (s1.trans ex.gg) i1 (show Dq X.K _ _ _ from .tup (SqT.of upd_same) (dpA_mono ex.gg dA))
  · cases h3

abbrev Lx := Ev → W → Option (List PyData × Ev × W)
def tO (K : PySem.W.Frag) (m : Lx) : TE := fun σ H Q => ∃ C G env w xs env' w', Rel K C env w σ G H ∧ m env w = some (xs, env', w') ∧
  ∀ a vs G' H', Rel K C env' w' σ G' H' → Same G G' → w'.isSome = w.isSome → H' a = some (.lst vs) → DqA K G' vs xs → G' a = none → C.H0 a = none →
    (∀ (i : Nat) (ys : List PyData), env'[i]? = some (some (.own ys)) → σ[i]? ≠ some (some (.ref a))) → Q (.ref a) H'
abbrev DO (X : Cx) (e : Expr) (m : Lx) : Prop := PE X e (tO X.K m)
def mFz (m : Lx) : Ex := fun env w => match m env w with
  | some (xs, e, w) => some (.d (.list xs), e, w)
  | none => none
/-- an object that is not data becomes data -/
theorem Rel.add {K : PySem.W.Frag} {C : Ct} {env : Ev} {w : W} {σ : L2.St} {G H : Hp} {a : Addr} {o : HO} (R : Rel K C env w σ G H) (ha : H a = some o) (hg : G a = none) (h0 : C.H0 a = none)
    (hne : ∀ (i : Nat) (ys : List PyData), env[i]? = some (some (.own ys)) → σ[i]? ≠ some (some (.ref a))) (ho : ∀ kvs, o ≠ .dK kvs := by intro _ q; cases q) : Rel K C env w σ (upd G a o) H where
  sub := fun b u e => by
    by_cases hb : b = a
    · subst hb; rw [upd_same] at e; rw [ha]; exact e
    · rw [upd_ne hb] at e; exact R.sub b u e
  len := R.len
  slot := fun i sd h => by
    obtain ⟨v, h1, h2⟩ := R.slot i sd h
    refine ⟨v, h1, ?_⟩
    cases sd with
    | d x => exact dp_mono (same_upd hg) h2
    | own xs =>
      obtain ⟨b, vs, rfl, hb, hd, hgb, h0b⟩ := h2
      refine ⟨b, vs, rfl, hb, dpA_mono (same_upd hg) hd, ?_, h0b⟩
      rw [upd_ne]
      · exact hgb
      · rintro rfl
        exact hne i xs h h1
    | st => exact h2
    | dic kvs =>
      obtain ⟨b, o, vs, rfl, hb, hd⟩ := h2
      exact ⟨b, o, vs, rfl, same_upd hg _ _ hb, hd.mono (same_upd hg)⟩
    | l x => exact Dl.mono (same_upd hg) h2
    | ex b d p => exact ExOk.mono h2 (same_upd hg) rfl
    | od kvs =>
      obtain ⟨b, vs, rfl, hb, hd, hgb, h0b⟩ := h2
      refine ⟨b, vs, rfl, hb, hd.mono (same_upd hg), ?_, h0b⟩
      rw [upd_ne]
      · exact hgb
      · rintro rfl
        rw [ha] at hb
        exact ho _ (Option.some.inj hb)
    | scr n => exact h2
  sep := R.sep
  st := fun s e => by
    have q := R.st s e
    have ne := R.own_ne h0 (by rw [e]; rfl)
    exact ⟨q.sa, q.la, q.ca, by rw [upd_ne ne.1.symm]; exact q.gs, by rw [upd_ne ne.2.1.symm]; exact q.gl, by rw [upd_ne ne.2.2.symm]; exact q.gc, q.ne, q.tk⟩
  st0 := R.st0
  fr := R.fr
  gr := fun b u e => by
    rw [upd_ne]
    · exact R.gr b u e
    · rintro rfl
      rw [h0] at e; cases e
  tb := R.tb.gset0 (R.not_tab h0)
  tb0 := R.tb0
theorem do_fz {K : PySem.W.Frag} {m : Lx} {σ : L2.St} {H : Hp} {Q : VK} (h : tD K (mFz m) σ H Q) : tO K m σ H Q := by
  obtain ⟨C, G, env, w, r, env', w', R, hm, k⟩ := h
  unfold mFz at hm
  split at hm
  · rename_i xs e1 w1 h1
    cases hm
    refine ⟨C, G, env, w, _, _, _, R, h1, fun a vs G1 H1 R1 s1 i1 ha hd hg h0 hne => ?_⟩
    exact k _ (upd G1 a (.lst vs)) H1 (R1.add ha hg h0 hne) (s1.trans (same_upd hg)) i1 (show Dq K _ _ _ from .lst upd_same (dpA_mono (same_upd hg) hd))
  · cases hm
theorem DO.de {X : Cx} {e : Expr} {m : Lx} (h : DO X e m) : DE X e (mFz m) := PE.weak h fun _ _ _ h => do_fz h
def mLst (ms : Ax) : Lx := argsD ms fun ds env w => if ds.length ≤ 1000 then some (ds, env, w) else none
/-- what is new is no own slot's -/
theorem Rel.fresh_ne {K : PySem.W.Frag} {C : Ct} {env : Ev} {w : W} {σ : L2.St} {G H : Hp} (R : Rel K C env w σ G H) {p : Addr} (hp : H p = none) : ∀ (i : Nat) (ys : List PyData), env[i]? = some (some (.own ys)) → σ[i]? ≠ some (some (.ref p)) := fun i ys h e => by
  obtain ⟨v, h1, a, vs, rfl, ha, _⟩ := R.slot i _ h
  rw [h1] at e
  cases e
  rw [hp] at ha; cases ha
/-- a new list, not data yet -/
theorem new_O {K : PySem.W.Frag} {C : Ct} {G H : Hp} {env : Ev} {w : W} {σ : L2.St} {p : Addr} {vs : List V} (R : Rel K C env w σ G H) (hp : H p = none) :
    Rel K C env w σ G (upd H p (.lst vs)) ∧ (upd H p (.lst vs)) p = some (.lst vs) ∧ G p = none ∧ C.H0 p = none ∧ ∀ (i : Nat) (ys : List PyData), env[i]? = some (some (.own ys)) → σ[i]? ≠ some (some (.ref p)) :=
  ⟨R.ext (Ext.drop R.sub (same_upd hp)), upd_same, R.sub.free hp, R.none0 hp, R.fresh_ne hp⟩
theorem do_lst {X : Cx} {e : Expr} {ms : Ax} (h : PE X e (tLst (tA X.K ms))) : DO X e (mLst ms) := PE.weak h fun σ H Q ⟨C, G, env, w, r, env', w', R, hm, k⟩ => by
  obtain ⟨rs, ds, e1, w1, h1, h2, hm⟩ := argsD_inv hm
  split at hm
  · rename_i hl
    cases hm
    refine ⟨C, G, env, w, _, _, _, R, h1, fun vs G1 H1 R1 s1 i1 a1 => ?_⟩
    have dA := dsOf_ok a1 h2
    refine ⟨len1000 (by rw [dpA_len dA]; exact hl), fun p hp => ?_⟩
    obtain ⟨R2, q1, q2, q3, q4⟩ := new_O (vs := vs) R1 hp
    exact k p vs G1 _ R2 s1 i1 q1 dA q2 q3 q4
  · cases hm

def mSet (i : Nat) (m : Ex) : Sx := fun env w => match m env w with
  | some (r, e1, w1) => some (.nx, e1.set i (some r), w1)
  | none => none
theorem Rel.set {K : PySem.W.Frag} {C : Ct} {env : Ev} {w : W} {σ : L2.St} {G H : Hp} {r : SD} {v : V} (R : Rel K C env w σ G H) (a : ArgOk K C.ad w G r v) (i : Nat) : Rel K C (env.set i (some r)) w (σ.set i (some v)) G H where
  sub := R.sub
  len := by rw [List.length_set, List.length_set]; exact R.len
  slot := fun j sd h => by
    by_cases hj : i = j
    · subst hj
      have hi : i < env.length := by
        have := (List.getElem?_eq_some_iff.mp h).1
        rwa [List.length_set] at this
      rw [List.getElem?_set_self hi] at h
      cases h
      refine ⟨v, List.getElem?_set_self (by rw [← R.len]; exact hi), ?_⟩
      cases r with
      | d x => exact a
      | own _ => exact a.elim
      | st => exact a
      | l x => exact a
      | ex _ _ _ => exact a.elim
      | od _ => exact a.elim
      | scr _ => exact a.elim
      | dic _ => exact a.elim
    · rw [List.getElem?_set_ne hj] at h
      obtain ⟨v, h1, h2⟩ := R.slot j sd h
      exact ⟨v, by rw [List.getElem?_set_ne hj]; exact h1, h2⟩
  sep := fun j k xs ys b e1 e2 s1 s2 => by
    have no : ∀ (l : Nat) (zs : List PyData), (env.set i (some r))[l]? = some (some (.own zs)) → i ≠ l := fun l zs h z => by
      subst z
      have hi : i < env.length := by
        have := (List.getElem?_eq_some_iff.mp h).1
        rwa [List.length_set] at this
      rw [List.getElem?_set_self hi] at h
      cases h
      exact a.elim
    have hj := no j xs e1
    have hk := no k ys e2
    rw [List.getElem?_set_ne hj] at e1 s1
    rw [List.getElem?_set_ne hk] at e2 s2
    exact R.sep j k xs ys b e1 e2 s1 s2
  st := R.st
  st0 := R.st0
  fr := R.fr
  gr := R.gr
  tb := R.tb
  tb0 := R.tb0
section
variable {X : Cx} {s : Stmt} {m : Ex}
theorem ds_set {i : Nat} (h : PS X s (tAsg (tD X.K m) (gName i))) : DSt X s (mSet i m) := PS.weak h fun D σ H ⟨C, G, env, w, r, env', w', R, hm, k⟩ => by
  unfold mSet at hm
  split at hm
  · rename_i r1 e1 w1 h1
    cases hm
    exact ⟨C, G, env, w, _, _, _, R, h1, fun v G1 H1 R1 s1 i1 a1 => k _ G1 H1 (R1.set a1 i) s1 i1⟩
  · cases hm
def mRet (m : Ex) : Sx := fun env w => match m env w with
  | some (r, e1, w1) => some (.rt r, e1, w1)
  | none => none
theorem ds_ret (h : PS X s (tRet (tD X.K m))) : DSt X s (mRet m) := PS.weak h fun D σ H ⟨C, G, env, w, r, env', w', R, hm, k⟩ => by
  unfold mRet at hm
  split at hm
  · rename_i r1 e1 w1 h1
    cases hm
    exact ⟨C, G, env, w, _, _, _, R, h1, fun v G1 H1 R1 s1 i1 a1 => k σ G1 H1 R1 s1 i1 v a1⟩
  · cases hm
def mDrop (m : Ex) : Sx := fun env w => match m env w with
  | some (_, e1, w1) => some (.nx, e1, w1)
  | none => none
def mNx : Sx := fun env w => some (.nx, env, w)
def mBk : Sx := fun env w => some (.bk, env, w)
def mCt : Sx := fun env w => some (.ct, env, w)
def mFail : Sx := fun _ _ => none
theorem dss_nil : DSs X [] mNx := PSs.weak pss_nil fun D σ H ⟨C, G, env, w, r, env', w', R, hm, k⟩ => by
  cases hm
  exact k σ G H R (Same.refl G) rfl
/-- code that the proof never comes to (a raise) -/
theorem ds_fail : DSt X s mFail := PS.weak ps_never fun D σ H ⟨C, G, env, w, r, env', w', R, hm, k⟩ => by cases hm
def mSeq (a b : Sx) : Sx := fun env w => match a env w with
  | some (.nx, e1, w1) => b e1 w1
  | r => r
theorem dss_cons {rest : List Stmt} {a b : Sx} (h1 : DSt X s a) (h2 : DSs X rest b) : DSs X (s :: rest) (mSeq a b) := PSs.weak (pss_cons h1 h2) fun D σ H ⟨C, G, env, w, fl, env', w', R, hm, k⟩ => by
  unfold mSeq at hm
  split at hm
  · rename_i e1 w1 h1
    exact ⟨C, G, env, w, _, _, _, R, h1, fun σ1 G1 H1 R1 s1 i1 => ⟨C, G1, e1, w1, fl, env', w', R1, hm, fun σ2 G2 H2 R2 s2 i2 => k σ2 G2 H2 R2 (s1.trans s2) (i2.trans i1)⟩⟩
  · rename_i h1
    refine ⟨C, G, env, w, fl, _, _, R, hm, fun σ1 G1 H1 R1 s1 i1 => ?_⟩
    have q := k σ1 G1 H1 R1 s1 i1
    cases fl with
    | nx => exact absurd hm (h1 _ _)
    | bk => exact q
    | ct => exact q
    | rt r => exact q
theorem dss_one {a : Sx} (h1 : DSt X s a) : DSs X [s] a := pss_one h1
theorem ds_if {tc : Tx} {a b : Sx} (h : PS X s (tIfS (tT X.K tc) (tS X.K a) (tS X.K b))) : DSt X s (mIf tc a b) := PS.weak h fun D σ H ⟨C, G, env, w, fl, env', w', R, hm, k⟩ => by
  unfold mIf at hm
  split at hm
  · rename_i e1 w1 h1
    exact ⟨C, G, env, w, _, _, _, R, h1, fun G1 H1 R1 s1 i1 => ⟨C, G1, e1, w1, fl, env', w', R1, hm, fun σ2 G2 H2 R2 s2 i2 => k σ2 G2 H2 R2 (s1.trans s2) (i2.trans i1)⟩⟩
  · rename_i e1 w1 h1
    exact ⟨C, G, env, w, _, _, _, R, h1, fun G1 H1 R1 s1 i1 => ⟨C, G1, e1, w1, fl, env', w', R1, hm, fun σ2 G2 H2 R2 s2 i2 => k σ2 G2 H2 R2 (s1.trans s2) (i2.trans i1)⟩⟩
  · cases hm

def mWhile (c : Tx) (b : Sx) : Nat → Sx
  | 0 => fun _ _ => none
  | n + 1 => fun env w => match c env w with
    | some (false, e1, w1) => some (.nx, e1, w1)
    | some (true, e1, w1) => (match b e1 w1 with
      | some (.nx, e2, w2) => mWhile c b n e2 w2
      | some (.ct, e2, w2) => mWhile c b n e2 w2
      | some (.bk, e2, w2) => some (.nx, e2, w2)
      | some (.rt r, e2, w2) => some (.rt r, e2, w2)
      | none => none)
    | none => none
theorem ds_while {n : Nat} {c : Tx} {b : Sx} (h : PS X s (tWhile (tT X.K c) (tS X.K b))) : DSt X s (mWhile c b n) := PS.weak h fun D σ H ⟨C, G, env, w, fl, env', w', R, hm, k⟩ => by
  refine ⟨fun m σ1 H1 => ∃ G1 env1 w1, Rel X.K C env1 w1 σ1 G1 H1 ∧ Same G G1 ∧ w1.isSome = w.isSome ∧ mWhile c b m env1 w1 = some (fl, env', w'), ⟨n, G, env, w, R, Same.refl G, rfl, hm⟩, ?_⟩
  rintro m σ1 H1 ⟨G1, env1, w1, R1, s1, i1, h1⟩
  cases m with
  | zero => cases h1
  | succ m =>
    unfold mWhile at h1
    split at h1
    · rename_i e2 w2 h2
      refine ⟨C, G1, env1, w1, _, _, _, R1, h2, fun G2 H2 R2 s2 i2 => ?_⟩
      refine iteF ?_
      cases h1
      exact k σ1 G2 H2 R2 (s1.trans s2) (i2.trans i1)
    · rename_i e2 w2 h2
      refine ⟨C, G1, env1, w1, _, _, _, R1, h2, fun G2 H2 R2 s2 i2 => ?_⟩
      refine iteT ?_
      refine ⟨fun σ3 H3 => ∃ m', m' < m + 1 ∧ ∃ G1 env1 w1, Rel X.K C env1 w1 σ3 G1 H3 ∧ Same G G1 ∧ w1.isSome = w.isSome ∧ mWhile c b m' env1 w1 = some (fl, env', w'), fun _ _ h => h, ?_⟩
      split at h1
      · rename_i e3 w3 h3
        exact ⟨C, G2, e2, w2, _, _, _, R2, h3, fun σ3 G3 H3 R3 s3 i3 => ⟨m, Nat.lt_succ_self m, G3, e3, w3, R3, s1.trans (s2.trans s3), i3.trans (i2.trans i1), h1⟩⟩
      · rename_i e3 w3 h3
        exact ⟨C, G2, e2, w2, _, _, _, R2, h3, fun σ3 G3 H3 R3 s3 i3 => ⟨m, Nat.lt_succ_self m, G3, e3, w3, R3, s1.trans (s2.trans s3), i3.trans (i2.trans i1), h1⟩⟩
      · rename_i e3 w3 h3
        cases h1
        exact ⟨C, G2, e2, w2, _, _, _, R2, h3, fun σ3 G3 H3 R3 s3 i3 => k σ3 G3 H3 R3 (s1.trans (s2.trans s3)) (i3.trans (i2.trans i1))⟩
      · rename_i r3 e3 w3 h3
        cases h1
        exact ⟨C, G2, e2, w2, _, _, _, R2, h3, fun σ3 G3 H3 R3 s3 i3 v a => k σ3 G3 H3 R3 (s1.trans (s2.trans s3)) (i3.trans (i2.trans i1)) v a⟩
      · cases h1
    · cases h1
end

/-- the iterator J gives the data ds -/
structure Ito (K : PySem.W.Frag) (G : Hp) (J : It) (ds : List PyData) : Prop where
  small : ds.length ≤ sizeLine
  go : ∀ i G1 H1, i < ds.length → Same G G1 → Same G1 H1 → J.go i H1
  stop : ∀ i G1 H1, i = ds.length → Same G G1 → Same G1 H1 → J.stop i H1
  yld : ∀ i G1 H1 x H', i < ds.length → Same G G1 → Same G1 H1 → J.yld i H1 x H' → ∃ d G2, ds[i]? = some d ∧ Ext G1 H1 G2 H' ∧ Dq K G2 x d
def iD (K : PySem.W.Frag) (m : Lx) : TI := fun σ H R => ∃ C G env w ds env' w', Rel K C env w σ G H ∧ m env w = some (ds, env', w') ∧
  ∀ J G' H', Rel K C env' w' σ G' H' → Same G G' → w'.isSome = w.isSome → Ito K G' J ds → R J H'
abbrev DI (X : Cx) (tg iter : Expr) (m : Lx) : Prop := PI X tg iter (iD X.K m)
theorem ito_tup {K : PySem.W.Frag} {G : Hp} {a : Addr} {vs : List V} {ds : List PyData} (h : SqT K G a vs) (hd : DqA K G vs ds) (hz : ds.length ≤ sizeLine) : Ito K G (Itt K a) ds where
  small := hz
  go := fun i G1 H1 hi s1 s2 => by
    rw [← dpA_len hd] at hi
    exact ⟨vs, vs[i], Same.sqT s2 (Same.sqT s1 h), by simp [hi]⟩
  stop := fun i G1 H1 hi s1 s2 => ⟨vs, Same.sqT s2 (Same.sqT s1 h), by rw [dpA_len hd]; omega⟩
  yld := fun i G1 H1 x H' hi s1 s2 y => by
    obtain ⟨rfl, y⟩ := y
    have e := y vs (Same.sqT s2 (Same.sqT s1 h))
    obtain ⟨d, h1, h2⟩ := dpA_get' hd e
    exact ⟨d, G1, h1, Ext.refl s2, dp_mono s1 h2⟩
theorem ito_range {K : PySem.W.Frag} {G : Hp} (lo : Int) (n : Nat) (hz : n ≤ sizeLine) : Ito K G (Itr lo n) ((List.range n).map fun (i : Nat) => PyData.int (lo + i)) where
  small := by rw [List.length_map, List.length_range]; exact hz
  go := fun i G1 H1 hi s1 s2 => by
    rw [List.length_map, List.length_range] at hi
    exact hi
  stop := fun i G1 H1 hi s1 s2 => by
    rw [List.length_map, List.length_range] at hi
    exact Nat.le_of_eq hi.symm
  yld := fun i G1 H1 x H' hi s1 s2 y => by
    obtain ⟨rfl, rfl⟩ := y
    rw [List.length_map, List.length_range] at hi
    refine ⟨.int (lo + i), G1, ?_, Ext.refl s2, .int _⟩
    rw [List.getElem?_map, List.getElem?_range hi]
    rfl
/-- a list or a tuple of data -/
def itemsD : PyData → Option (List PyData)
  | .list xs => some xs
  | .tuple xs => some xs
  | _ => none
def mItems (m : Ex) : Lx := seqE m fun x env w => (itemsD x).map fun xs => (xs, env, w)
theorem di_seq {X : Cx} {tg l : Expr} {m : Ex} (hl : DE X l m) : DI X tg l (mItems m) := by
  refine ⟨fun pins s σ H R I h => ?_⟩
  obtain ⟨C, G, env, w, ds, env', w', Rl, hm, k⟩ := h
  obtain ⟨x, e1, w1, h1, h2⟩ := seqE_inv hm
  cases e : itemsD x with
  | none => rw [e] at h2; cases h2
  | some ys =>
    rw [e] at h2
    cases h2
    refine thn (hl.run pins s σ H (fun v H1 => ∃ G1, Rel X.K C env' w' σ G1 H1 ∧ Dq X.K G1 v x ∧ ∀ J, Ito X.K G1 J ds → R J H1) I ⟨C, G, env, w, _, _, _, Rl, h1, fun v G1 H1 R1 s1 i1 a1 => ⟨G1, R1, a1, fun J it => k J G1 H1 R1 s1 i1 it⟩⟩) fun v s1 ⟨y, H1, I1, r1, G1, R1, dp, kk⟩ => ?_
    cases dp with
    | @lst a vs es hs ha =>
      cases e
      cases r1
      have hq : SqL X.K H1 a vs := SqL.of (R1.sub _ _ hs)
      obtain ⟨its, rv, p, hz⟩ := I1.list hq
      refine wpAny_pyIter_list p.isList ?_
      refine ⟨s1.heap.objs.size, [s1.heap.objs.size], _, _, H1, rfl, I1.kept (t' := s1.toks) fun b o e => Heap.get?_push_of_some _ e, turn_list a _, ⟨_, Heap.get?_push_size _ rfl, rfl, rfl⟩, fun b hb => ?_, kk _ ⟨by rw [← dpA_len ha]; exact hz, ?_, ?_, ?_⟩⟩
      · have e : b = s1.heap.objs.size := by simpa using hb
        subst e
        exact I1.fpOk (Nat.le_refl _) (I1.hok.fresh (Nat.le_refl _))
      · exact fun i G2 H2 hi s2 s3 => by
          rw [← dpA_len ha] at hi
          exact ⟨vs, vs[i], SqL.of (s3 _ _ (s2 _ _ hs)), by simp [hi]⟩
      · exact fun i G2 H2 hi s2 s3 => ⟨vs, SqL.of (s3 _ _ (s2 _ _ hs)), by rw [dpA_len ha]; omega⟩
      · intro i G2 H2 x H' hi s2 s3 y
        obtain ⟨rfl, y⟩ := y
        obtain ⟨d, h1, h2⟩ := dpA_get' ha (y vs (SqL.of (s3 _ _ (s2 _ _ hs))))
        exact ⟨d, G2, h1, Ext.refl s3, dp_mono s2 h2⟩
    | @tup a vs es hs ha =>
      cases e
      cases r1
      have hq := Same.sqT R1.sub hs
      obtain ⟨its, rv, p, hz⟩ := I1.tuple hq
      refine wpAny_pyIter_tuple (show s1.heap.IsTuple a its.toArray from p) ?_
      refine ⟨s1.heap.objs.size, [s1.heap.objs.size], _, _, H1, rfl, I1.kept (t' := s1.toks) fun b o e => Heap.get?_push_of_some _ e, turn_tuple a _, ⟨_, Heap.get?_push_size _ rfl, rfl, rfl⟩, fun b hb => ?_, kk _ (ito_tup hs ha (by rw [← dpA_len ha]; exact hz))⟩
      have e : b = s1.heap.objs.size := by simpa using hb
      subst e
      exact I1.fpOk (Nat.le_refl _) (I1.hok.fresh (Nat.le_refl _))
    | _ => cases e
/-- range(n), range(a, b) -/
def rng1D (ds : List PyData) : Option (List PyData) := match ds with
  | [.int j] => if -1000000 ≤ j ∧ j ≤ 1000000 then some ((List.range j.toNat).map fun (i : Nat) => PyData.int (0 + i)) else none
  | _ => none
def mRng (f : List PyData → Option (List PyData)) (ms : Ax) : Lx := argsD ms fun ds env w => (f ds).map fun xs => (xs, env, w)
theorem dpA_one {K : PySem.W.Frag} {G : Hp} {vs : List V} {j : Int} (h : DqA K G vs [.int j]) : vs = [.int j] := by
  cases h with
  | cons a b => cases b; cases a; rfl
theorem di_range1 {X : Cx} {tg e : Expr} {ms : Ax} (h : PI X tg e (iRng1 (tA X.K ms))) : DI X tg e (mRng rng1D ms) := ⟨fun pins s σ H R I q => h.run pins s σ H R I (by
  obtain ⟨C, G, env, w, ds, env', w', Rl, hm, k⟩ := q
  obtain ⟨rs, es, e1, w1, h1, h2, hm⟩ := argsD_inv hm
  cases e : rng1D es with
  | none => rw [e] at hm; cases hm
  | some ys =>
    rw [e] at hm
    cases hm
    unfold rng1D at e
    split at e
    · rename_i j
      split at e
      · rename_i hj
        cases e
        refine ⟨C, G, env, w, _, _, _, Rl, h1, fun vs G1 H1 R1 s1 i1 a1 => ⟨j, dpA_one (dsOf_ok a1 h2), by omega, by omega, ?_⟩⟩
        exact k _ G1 H1 R1 s1 i1 (ito_range 0 j.toNat (by rw [sizeLine_eq]; omega))
      · cases e
    · cases e)⟩
/-- targets -/
abbrev Gx := PyData → Ev → Option Ev
abbrev Gsx := List PyData → Ev → Option Ev
def gD (K : PySem.W.Frag) (vs : List Nat) (m : Gx) : TG := fun v σ H Q => ∃ C G env w d env', Rel K C env w σ G H ∧ Dq K G v d ∧ m d env = some env' ∧ ∀ σ', Rel K C env' w σ' G H → wipe σ' vs = wipe σ vs → Q σ' H
def gsD (K : PySem.W.Frag) (vs : List Nat) (m : Gsx) : TGs := fun us σ H Q => ∃ C G env w ds env', Rel K C env w σ G H ∧ DqA K G us ds ∧ m ds env = some env' ∧ ∀ σ', Rel K C env' w σ' G H → wipe σ' vs = wipe σ vs → Q σ' H
abbrev DG (X : Cx) (vs : List Nat) (e : Expr) (m : Gx) : Prop := PG X e (gD X.K vs m)
abbrev DGs (X : Cx) (vs : List Nat) (es : List Expr) (m : Gsx) : Prop := PGs X es (gsD X.K vs m)
theorem PG.weak {X : Cx} {e : Expr} {t t' : TG} (h : PG X e t) (k : ∀ v σ H Q, t' v σ H Q → t v σ H Q) : PG X e t' := ⟨fun pins s σ H v u Q I r q => h.run pins s σ H v u Q I r (k v σ H Q q)⟩
theorem PGs.weak {X : Cx} {e : List Expr} {t t' : TGs} (h : PGs X e t) (k : ∀ v σ H Q, t' v σ H Q → t v σ H Q) : PGs X e t' := ⟨fun pins s σ H v u Q I r q => h.run pins s σ H v u Q I r (k v σ H Q q)⟩
def mgName (i : Nat) : Gx := fun d env => some (env.set i (some (.d d)))
theorem wipe_set_same {σ : L2.St} {x : Option V} {i : Nat} : ∀ {vs : List Nat}, i ∈ vs → wipe (σ.set i x) vs = wipe σ vs
  | [], h => by simp at h
  | v :: vs, h => by
    have cm : ∀ us : List Nat, i ∉ us → wipe (σ.set i x) us = (wipe σ us).set i x := by
      intro us
      induction us with
      | nil => intro _; rfl
      | cons u us ih =>
        intro hn
        simp only [List.mem_cons, not_or] at hn
        show (wipe (σ.set i x) us).set u none = ((wipe σ us).set u none).set i x
        rw [ih hn.2, List.set_comm _ _ hn.1]
    show (wipe (σ.set i x) vs).set v none = (wipe σ vs).set v none
    by_cases hi : i ∈ vs
    · rw [wipe_set_same hi]
    · have e : i = v := by
        rcases List.mem_cons.mp h with e | e
        · exact e
        · exact absurd e hi
      rw [cm vs hi, e, List.set_set]
theorem dg_name {X : Cx} {vs : List Nat} {e : Expr} {i : Nat} (h : PG X e (gName i)) (hi : i ∈ vs := by decide) : DG X vs e (mgName i) := PG.weak h fun v σ H Q ⟨C, G, env, w, d, env', R, hd, hm, k⟩ => by
  cases hm
  exact k _ (R.set (r := .d d) hd i) (wipe_set_same hi)
def mgNil : Gsx := fun ds env => match ds with
  | [] => some env
  | _ => none
def mgCons (a : Gx) (b : Gsx) : Gsx := fun ds env => match ds with
  | d :: r => (match a d env with
    | some e1 => b r e1
    | none => none)
  | [] => none
theorem dgs_nil {X : Cx} {vs : List Nat} : DGs X vs [] mgNil := PGs.weak pgs_nil fun v σ H Q ⟨C, G, env, w, d, env', R, hd, hm, k⟩ => by
  cases hd with
  | nil => cases hm; exact ⟨rfl, k σ R rfl⟩
  | cons _ _ => cases hm
theorem dgs_cons {X : Cx} {vs : List Nat} {e : Expr} {es : List Expr} {a : Gx} {b : Gsx} (h1 : DG X vs e a) (h2 : DGs X vs es b) (hs : (assignEach (e :: es) X.env).map (·.2) = assign e X.env :: (assignEach es X.env).map (·.2) := by rfl) : DGs X vs (e :: es) (mgCons a b) :=
  PGs.weak (pgs_cons h1 h2 hs) fun v σ H Q ⟨C, G, env, w, d, env', R, hd, hm, k⟩ => by
  cases hd with
  | nil => cases hm
  | cons d1 dr =>
    simp only [mgCons] at hm
    split at hm
    · rename_i e1 h1
      exact ⟨_, _, rfl, C, G, env, w, _, e1, R, d1, h1, fun σ1 R1 q1 => ⟨C, G, e1, w, _, env', R1, dr, hm, fun σ2 R2 q2 => k σ2 R2 (q2.trans q1)⟩⟩
    · cases hm
def mgTup (n : Nat) (b : Gsx) : Gx := fun d env => match d with
  | .tuple ds => if ds.length = n then b ds env else none
  | _ => none
theorem dg_tup {X : Cx} {vs : List Nat} {e : Expr} {n : Nat} {b : Gsx} (h : PG X e (gTup X.K n (gsD X.K vs b))) : DG X vs e (mgTup n b) := PG.weak h fun v σ H Q ⟨C, G, env, w, d, env', R, hd, hm, k⟩ => by
  cases hd with
  | tup hs ha =>
    simp only [mgTup] at hm
    split at hm
    · rename_i hl
      exact ⟨_, _, rfl, Same.sqT R.sub hs, by rw [dpA_len ha]; exact hl, C, G, env, w, _, env', R, ha, hm, k⟩
    · cases hm
  | _ => cases hm
/-- target = e -/
def mAsg (m : Ex) (g : Gx) : Sx := seqE m fun x env w => match g x env with
  | some e1 => some (.nx, e1, w)
  | none => none
theorem ds_asg {X : Cx} {vs : List Nat} {s : Stmt} {m : Ex} {g : Gx} (h : PS X s (tAsg (tD X.K m) (gD X.K vs g))) : DSt X s (mAsg m g) := PS.weak h fun D σ H ⟨C, G, env, w, fl, env', w', R, hm, k⟩ => by
  obtain ⟨x, e1, w1, h1, h2⟩ := seqE_inv hm
  split at h2
  · rename_i e2 h3
    cases h2
    exact ⟨C, G, env, w, _, _, _, R, h1, fun v G1 H1 R1 s1 i1 a1 => ⟨C, G1, e1, _, x, _, R1, a1, h3, fun σ2 R2 _ => k σ2 G1 H1 R2 s1 i1⟩⟩
  · cases h2

def mLoop (g : Gx) (b : Sx) : List PyData → Sx
  | [] => mNx
  | d :: ds => fun env w => match g d env with
    | some e1 => (match b e1 w with
      | some (.nx, e2, w2) => mLoop g b ds e2 w2
      | some (.ct, e2, w2) => mLoop g b ds e2 w2
      | some (.bk, e2, w2) => some (.nx, e2, w2)
      | some (.rt r, e2, w2) => some (.rt r, e2, w2)
      | none => none)
    | none => none
def mFor (m : Lx) (g : Gx) (b : Sx) : Sx := fun env w => match m env w with
  | some (ds, e1, w1) => mLoop g b ds e1 w1
  | none => none
theorem ds_for {X : Cx} {vs : List Nat} {s : Stmt} {m : Lx} {g : Gx} {b : Sx} (h : PS X s (tFor (iD X.K m) (gD X.K vs g) (tS X.K b))) : DSt X s (mFor m g b) := PS.weak h fun D σ H ⟨C, G, env, w, fl, env', w', R, hm, k⟩ => by
  unfold mFor at hm
  split at hm
  · rename_i ds e1 w1 h1
    refine ⟨C, G, env, w, _, _, _, R, h1, fun J G1 H1 R1 s1 i1 it => ?_⟩
    refine ⟨fun i m σ2 H2 => m = ds.length - i ∧ i ≤ ds.length ∧ ∃ G2 env2 w2, Rel X.K C env2 w2 σ2 G2 H2 ∧ Same G1 G2 ∧ w2.isSome = w1.isSome ∧ mLoop g b (ds.drop i) env2 w2 = some (fl, env', w'), ⟨ds.length, by simp, Nat.zero_le _, G1, e1, w1, R1, Same.refl G1, rfl, by simpa using hm⟩, ?_⟩
    rintro i m σ2 H2 ⟨rfl, hi, G2, env2, w2, R2, s2, i2, h2⟩
    by_cases hlt : i < ds.length
    · refine .inr ⟨it.go i G2 H2 hlt s2 R2.sub, fun σ3 H3 => ∃ G2 env2 w2, Rel X.K C env2 w2 σ3 G2 H3 ∧ Same G1 G2 ∧ w2.isSome = w1.isSome ∧ mLoop g b (ds.drop (i + 1)) env2 w2 = some (fl, env', w'),
        fun σ' H' q => ⟨ds.length - (i + 1), by omega, rfl, hlt, q⟩, fun x H' y => ?_⟩
      obtain ⟨d, G3, hd, ex, dp⟩ := it.yld i G2 H2 x H' hlt s2 R2.sub y
      have hdrop : ds.drop i = d :: ds.drop (i + 1) := by
        rw [List.drop_eq_getElem_cons hlt]
        rw [List.getElem?_eq_getElem hlt] at hd
        cases hd
        rfl
      rw [hdrop] at h2
      simp only [mLoop] at h2
      split at h2
      · rename_i e3 h3
        refine ⟨C, G3, env2, w2, d, e3, R2.ext ex, dp, h3, fun σ4 R4 _ => ?_⟩
        split at h2
        · rename_i e5 w5 h5
          exact ⟨C, G3, e3, w2, _, _, _, R4, h5, fun σ6 G6 H6 R6 s6 i6 => ⟨G6, e5, w5, R6, s2.trans (ex.gg.trans s6), i6.trans i2, h2⟩⟩
        · rename_i e5 w5 h5
          exact ⟨C, G3, e3, w2, _, _, _, R4, h5, fun σ6 G6 H6 R6 s6 i6 => ⟨G6, e5, w5, R6, s2.trans (ex.gg.trans s6), i6.trans i2, h2⟩⟩
        · rename_i e5 w5 h5
          cases h2
          exact ⟨C, G3, e3, w2, _, _, _, R4, h5, fun σ6 G6 H6 R6 s6 i6 => k σ6 G6 H6 R6 (s1.trans (s2.trans (ex.gg.trans s6))) (i6.trans (i2.trans i1))⟩
        · rename_i r5 e5 w5 h5
          cases h2
          exact ⟨C, G3, e3, w2, _, _, _, R4, h5, fun σ6 G6 H6 R6 s6 i6 v a => k σ6 G6 H6 R6 (s1.trans (s2.trans (ex.gg.trans s6))) (i6.trans (i2.trans i1)) v a⟩
        · cases h2
      · cases h2
    · have e : i = ds.length := by omega
      refine .inl ⟨it.stop i G2 H2 e s2 R2.sub, ?_⟩
      rw [e, List.drop_length] at h2
      cases h2
      exact k σ2 G2 H2 R2 (s1.trans s2) (i2.trans i1)
  · cases hm

def mFn (n N : Nat) (body : Sx) : List SD → W → Option (SD × W) := fun as w => if as.length = n then (match body (as.map some ++ List.replicate (N - as.length) none) w with
    | some (.rt r, _, w') => some (r, w')
    | some (.nx, _, w') => some (.d .none, w')
    | _ => none) else none
theorem args_get {K : PySem.W.Frag} {ad : Ad} {w : W} {G : Hp} : ∀ {rs : List SD} {vs : List V} {i : Nat} {r : SD}, ArgsOk K ad w G rs vs → rs[i]? = some r → ∃ v, vs[i]? = some v ∧ ArgOk K ad w G r v
  | _, _, _, _, .nil, e => by simp at e
  | _, _, 0, _, .cons a _, e => by simp at e; subst e; exact ⟨_, rfl, a⟩
  | _, _, i + 1, _, .cons _ b, e => by
    obtain ⟨v, h1, h2⟩ := args_get (i := i) b (by simpa using e)
    exact ⟨v, by simpa using h1, h2⟩
theorem start_get {as : List SD} {k i : Nat} {sd : SD} (h : (as.map some ++ List.replicate k (none : Option SD))[i]? = some (some sd)) : as[i]? = some sd := by
  by_cases hi : i < as.length
  · rw [List.getElem?_append_left (by simpa using hi), List.getElem?_map] at h
    cases e : as[i]? with
    | none => rw [e] at h; cases h
    | some a => rw [e] at h; cases h; rfl
  · rw [List.getElem?_append_right (by simpa using hi), List.getElem?_replicate] at h
    split at h <;> cases h
theorem rel_start {K : PySem.W.Frag} {ad : Ad} {w : W} {G H : Hp} {as : List SD} {vs : List V} {N : List Str} (s : Same G H) (st : ∀ s, w = some s → StAt K ad s G H) (tb : CtOk ad.tabs G H) (a : ArgsOk K ad w G as vs) (hN : as.length ≤ N.length) :
    Rel K ⟨ad, H, G⟩ (as.map some ++ List.replicate (N.length - as.length) none) w (L2.start N vs) G H where
  sub := s
  len := by
    unfold L2.start
    rw [List.length_append, List.length_map, List.length_replicate, List.length_append, List.length_map, List.length_replicate, a.length]
  slot := fun i sd h => by
    obtain ⟨v, h1, h2⟩ := args_get a (start_get h)
    have hi : i < vs.length := (List.getElem?_eq_some_iff.mp h1).1
    refine ⟨v, ?_, ?_⟩
    · unfold L2.start
      rw [List.getElem?_append_left (by simpa using hi), List.getElem?_map, h1]
      rfl
    · cases sd with
      | d x => exact h2
      | own _ => exact h2.elim
      | st => exact h2
      | l x => exact h2
      | ex _ _ _ => exact h2.elim
      | od _ => exact h2.elim
      | scr _ => exact h2.elim
      | dic _ => exact h2.elim
  sep := fun i j xs ys b h1 _ _ _ => by
    obtain ⟨v, _, h2⟩ := args_get a (start_get h1)
    exact h2.elim
  st := st
  st0 := fun h => by
    cases e : w with
    | none => rw [e] at h; cases h
    | some s =>
      have q := st s e
      refine ⟨?_, ?_, ?_⟩
      · show H ad.sa ≠ none
        rw [q.sa]; exact Option.some_ne_none _
      · show H ad.la ≠ none
        rw [q.la]; exact Option.some_ne_none _
      · show H ad.ca ≠ none
        rw [q.ca]; exact Option.some_ne_none _
  fr := fun b o h _ => h
  gr := fun b o h => rfl
  tb := tb
  tb0 := fun p hp => by
    obtain ⟨ps, e, _⟩ := tb.tabs p hp
    show H p.1 ≠ none
    rw [e]; exact Option.some_ne_none _
theorem spM_start {K : PySem.W.Frag} {scope : Scope} {N ps : List Str} {m : Sx} (S : FnScope N ps scope) {vs : List V} {H : Hp} {Q : VK} {E : XK} (h : spM K (mFn ps.length N.length m) vs H Q E) : tS K m { nx := fun _ H' => Q .non H', rt := Q } (L2.start N vs) H := by
  obtain ⟨G, ad, w, as, r, w', s, st, tb, a, hm, k⟩ := h
  have hpl : ps.length ≤ N.length := by have := congrArg List.length S.pre; rw [List.length_take] at this; omega
  unfold mFn at hm
  split at hm
  · rename_i hl
    have R0 := rel_start (K := K) (N := N) s st tb a (by omega)
    split at hm
    · rename_i r1 e1 w1 h1
      cases hm
      exact ⟨_, G, _, w, _, _, _, R0, h1, fun σ' G' H' R' s' i' v av => k v G' H' s' R'.sub (fun b o e nm => R'.fr b o e fun z => nm (z.w i'.symm)) (fun b o e => R'.gr b o e) i' R'.st R'.tb av⟩
    · rename_i e1 w1 h1
      cases hm
      exact ⟨_, G, _, w, _, _, _, R0, h1, fun σ' G' H' R' s' i' => k _ G' H' s' R'.sub (fun b o e nm => R'.fr b o e fun z => nm (z.w i'.symm)) (fun b o e => R'.gr b o e) i' R'.st R'.tb (show Dq K _ _ _ from .non)⟩
    · cases hm
  · cases hm
theorem fn_ok {P : Program} {w : World} {K : PySem.W.Frag} {mg : Str → Option Value} {base : Heap} {x qual : Str} {params : Arguments} {body : List Stmt} {scope : Scope} {f : Addr} {fd : FuncData} {N ps : List Str} {k n NN : Nat} {m : Sx}
    (hn : ps.length = n) (hNN : N.length = NN) (F : FunD K x qual params body scope [] [] f fd) (S : FnScope N ps scope)
    (hbody : ∀ (cdv : Value) (A : Around) (outer : List PySem.Env) (s : Shared) (H : Hp) (E : XK), Room k (A.deeper (envOfC qual scope s.heap.objs.size f cdv)) → DSs (cxOf CX0 P w K mg base N qual scope f cdv A outer s H E).nox body m) :
    FnOk P w K mg base CX0 (k + 1) f fd ps (spM K (mFn n NN m)) := by
  subst hn hNN
  refine F.ok S (fun vs H Q E h => ?_) (fun cdv A outer s H vs Q E hr h => ⟨_, PSs.nox (hbody cdv A outer s H E hr), spM_start S h⟩)
  obtain ⟨G, ad, w, as, r, w', _, _, _, a, hm, _⟩ := h
  unfold mFn at hm
  split at hm
  · rename_i hl
    rw [← a.length]; exact hl
  · cases hm
end Dn

set_option maxHeartbeats 4000000
namespace Dn
open PySem PySem.Spec PyProof.Rows L2

mutual
theorem dq_plain {K : PySem.W.Frag} {G : Hp} : ∀ {v : V} {d : PyData}, Dq K G v d → d.plain = true
  | _, _, .non => by simp [PyData.plain]
  | _, _, .bl b => by simp [PyData.plain]
  | _, _, .int i => by simp [PyData.plain]
  | _, _, .str x => by simp [PyData.plain]
  | _, _, .lst h a => by simpa [PyData.plain] using dqA_plain a
  | _, _, .tup h a => by simpa [PyData.plain] using dqA_plain a
theorem dqA_plain {K : PySem.W.Frag} {G : Hp} : ∀ {vs : List V} {ds : List PyData}, DqA K G vs ds → PyData.plainAll ds = true
  | _, _, .nil => by simp [PyData.plainAll]
  | _, _, .cons a b => by simp [PyData.plainAll, dq_plain a, dqA_plain b]
end
mutual
/-- not deeper than n -/
def dOk : Nat → PyData → Bool
  | _, .none => true
  | _, .bool _ => true
  | _, .int _ => true
  | _, .str _ => true
  | 0, .list _ => false
  | 0, .tuple _ => false
  | n + 1, .list xs => dOkAll n xs
  | n + 1, .tuple xs => dOkAll n xs
  | _, .dict _ => false
def dOkAll : Nat → List PyData → Bool
  | _, [] => true
  | n, x :: xs => dOk n x && dOkAll n xs
end
mutual
theorem dOk_depth : ∀ (n : Nat) (d : PyData), dOk n d = true → d.depth ≤ n
  | _, .none, _ => by simp [PyData.depth]
  | _, .bool _, _ => by simp [PyData.depth]
  | _, .int _, _ => by simp [PyData.depth]
  | _, .str _, _ => by simp [PyData.depth]
  | 0, .list _, h => by simp [dOk] at h
  | 0, .tuple _, h => by simp [dOk] at h
  | n + 1, .list xs, h => by
    simp only [dOk] at h
    simp only [PyData.depth]
    have := dOkAll_depth n xs h
    omega
  | n + 1, .tuple xs, h => by
    simp only [dOk] at h
    simp only [PyData.depth]
    have := dOkAll_depth n xs h
    omega
  | n, .dict _, h => by cases n <;> simp [dOk] at h
theorem dOkAll_depth : ∀ (n : Nat) (ds : List PyData), dOkAll n ds = true → PyData.depthAll ds ≤ n
  | _, [], _ => by simp [PyData.depthAll]
  | n, x :: xs, h => by
    simp only [dOkAll, Bool.and_eq_true] at h
    have h1 := dOk_depth n x h.1
    have h2 := dOkAll_depth n xs h.2
    simp only [PyData.depthAll]
    omega
end

theorem ext_tup {K : PySem.W.Frag} {G H : Hp} {p : Addr} {vs : List V} {ds : List PyData} (sg : Same G H) (hp : H p = none) (a : DqA K G vs ds) : Ext G H (upd G p (.tup vs)) (upd H p (.tup vs)) ∧ Dq K (upd G p (.tup vs)) (.ref p) (.tuple ds) :=
  ⟨Ext.new sg hp, .tup (SqT.of upd_same) (dpA_mono (Ext.new (o := .tup vs) sg hp).gg a)⟩
theorem ext_lst {K : PySem.W.Frag} {G H : Hp} {p : Addr} {vs : List V} {ds : List PyData} (sg : Same G H) (hp : H p = none) (a : DqA K G vs ds) : Ext G H (upd G p (.lst vs)) (upd H p (.lst vs)) ∧ Dq K (upd G p (.lst vs)) (.ref p) (.list ds) :=
  ⟨Ext.new sg hp, .lst upd_same (dpA_mono (Ext.new (o := .lst vs) sg hp).gg a)⟩
section
variable {X : Cx}
theorem OpD.or {f : Value → Value → Sem Value} {g g' : PyData → PyData → Option PyData} (h : OpD X f g) (h' : OpD X f g') : OpD X f (fun x y => (g x y).or (g' x y)) := by
  intro pins s σ G H x y v u dx dy dz Q I rx ry sg hx hy hg k
  dsimp only at hg
  cases e : g dx dy with
  | some z =>
    rw [e] at hg
    exact h pins s σ G H x y v u dx dy dz Q I rx ry sg hx hy (e.trans hg) k
  | none =>
    rw [e] at hg
    exact h' pins s σ G H x y v u dx dy dz Q I rx ry sg hx hy hg k
/-- from a rule by values: the answer is no new object -/
theorem opD_of {f : Value → Value → Sem Value} {g : PyData → PyData → Option PyData} {r : R2} (h : OpR X f r)
    (k : ∀ (G H : Hp) (x y : V) (dx dy dz : PyData) (Q : VK), Same G H → Dq X.K G x dx → Dq X.K G y dy → g dx dy = some dz → (∀ z G' H', Ext G H G' H' → Dq X.K G' z dz → Q z H') → r x y H Q) : OpD X f g :=
  fun pins s σ G H x y v u dx dy dz Q I rx ry sg hx hy hg q => h pins s σ H x y v u Q I rx ry (k G H x y dx dy dz Q sg hx hy hg q)
def int2 (f : Int → Int → Option PyData) : PyData → PyData → Option PyData
  | .int i, .int j => f i j
  | _, _ => none
theorem int2_inv {f : Int → Int → Option PyData} {x y z : PyData} (h : int2 f x y = some z) : ∃ i j, x = .int i ∧ y = .int j ∧ f i j = some z := by
  unfold int2 at h
  split at h
  · exact ⟨_, _, rfl, rfl, h⟩
  · cases h
theorem opD_int {f : Value → Value → Sem Value} {C : Int → Int → Prop} {g : Int → Int → PyData} {gv : Int → Int → V} [∀ i j, Decidable (C i j)] (h : OpR X f (rI C gv)) (hg : ∀ G i j, Dq X.K G (gv i j) (g i j)) :
    OpD X f (int2 fun i j => if C i j then some (g i j) else none) := opD_of h fun G H x y dx dy dz Q sg hx hy hz k => by
  obtain ⟨i, j, rfl, rfl, e⟩ := int2_inv hz
  split at e
  · rename_i hc
    cases e
    cases hx
    cases hy
    exact ⟨i, j, rfl, rfl, hc, k _ G H (Ext.refl sg) (hg G i j)⟩
  · cases e
theorem opD_int0 {f : Value → Value → Sem Value} {g : Int → Int → PyData} {gv : Int → Int → V} (h : OpR X f (rI0 gv)) (hg : ∀ G i j, Dq X.K G (gv i j) (g i j)) :
    OpD X f (int2 fun i j => some (g i j)) := opD_of h fun G H x y dx dy dz Q sg hx hy hz k => by
  obtain ⟨i, j, rfl, rfl, e⟩ := int2_inv hz
  cases e
  cases hx
  cases hy
  exact ⟨i, j, rfl, rfl, k _ G H (Ext.refl sg) (hg G i j)⟩
instance : ∀ i j, Decidable (CMul i j) := fun i j => by unfold CMul; infer_instance
instance : ∀ i j, Decidable (CDiv i j) := fun i j => by unfold CDiv; infer_instance
instance : ∀ i j, Decidable (CPow i j) := fun i j => by unfold CPow; infer_instance
def addI : PyData → PyData → Option PyData := int2 fun i j => some (.int (i + j))
def subI : PyData → PyData → Option PyData := int2 fun i j => some (.int (i - j))
def mulI : PyData → PyData → Option PyData := int2 fun i j => if CMul i j then some (.int (i * j)) else none
def powI : PyData → PyData → Option PyData := int2 fun i j => if CPow i j then some (.int (i ^ j.toNat)) else none
def addS : PyData → PyData → Option PyData
  | .str x, .str y => if x.length + y.length ≤ sizeLine then some (.str (x ++ y)) else none
  | _, _ => none
def addT : PyData → PyData → Option PyData
  | .tuple xs, .tuple ys => if xs.length + ys.length ≤ sizeLine then some (.tuple (xs ++ ys)) else none
  | _, _ => none
def addL : PyData → PyData → Option PyData
  | .list xs, .list ys => if xs.length + ys.length ≤ sizeLine then some (.list (xs ++ ys)) else none
  | _, _ => none
def addD (x y : PyData) : Option PyData := match x with
  | .int _ => addI x y
  | .str _ => addS x y
  | .tuple _ => addT x y
  | .list _ => addL x y
  | _ => none
theorem od_addI : OpD X (binaryOp .Add) addI := opD_int0 op_add fun _ _ _ => .int _
theorem od_sub : OpD X (binaryOp .Sub) subI := opD_int0 op_sub fun _ _ _ => .int _
theorem od_mulI : OpD X (binaryOp .Mult) mulI := opD_int op_mul fun _ _ _ => .int _
theorem od_pow : OpD X (binaryOp .Pow) powI := opD_int op_pow fun _ _ _ => .int _
theorem od_addS : OpD X (binaryOp .Add) addS := opD_of op_add_str fun G H x y dx dy dz Q sg hx hy hz k => by
  unfold addS at hz
  split at hz
  · split at hz
    · rename_i hl
      cases hz
      cases hx
      cases hy
      exact ⟨_, _, rfl, rfl, hl, k _ G H (Ext.refl sg) (.str _)⟩
    · cases hz
  · cases hz
theorem od_addT : OpD X (binaryOp .Add) addT := opD_of op_catA fun G H x y dx dy dz Q sg hx hy hz k => by
  unfold addT at hz
  split at hz
  · split at hz
    · rename_i hl
      cases hz
      cases hx with
      | tup h1 a1 =>
        cases hy with
        | tup h2 a2 =>
          refine ⟨_, _, _, _, rfl, rfl, Same.sqT sg h1, Same.sqT sg h2, by rw [dpA_len a1, dpA_len a2]; exact hl, fun e => ?_, fun _ e => ?_, fun _ _ p hp => ?_⟩
          · subst e
            cases a1
            exact k _ G H (Ext.refl sg) (.tup h2 a2)
          · subst e
            cases a2
            rw [List.append_nil] at k
            exact k _ G H (Ext.refl sg) (.tup h1 a1)
          · obtain ⟨ex, dq⟩ := ext_tup sg hp (dpA_app a1 a2)
            exact k _ _ _ ex dq
    · cases hz
  · cases hz
theorem od_addL : OpD X (binaryOp .Add) addL := opD_of op_cat fun G H x y dx dy dz Q sg hx hy hz k => by
  unfold addL at hz
  split at hz
  · split at hz
    · rename_i hl
      cases hz
      cases hx with
      | lst h1 a1 =>
        cases hy with
        | lst h2 a2 =>
          refine ⟨_, _, _, _, rfl, rfl, sg _ _ h1, sg _ _ h2, by rw [dpA_len a1, dpA_len a2]; exact hl, fun p hp => ?_⟩
          obtain ⟨ex, dq⟩ := ext_lst sg hp (dpA_app a1 a2)
          exact k _ _ _ ex dq
    · cases hz
  · cases hz
theorem od_add : OpD X (binaryOp .Add) addD := fun pins s σ G H x y v u dx dy dz Q I rx ry sg hx hy hg k => by
  unfold addD at hg
  split at hg
  · exact od_addI pins s σ G H x y v u _ dy dz Q I rx ry sg hx hy hg k
  · exact od_addS pins s σ G H x y v u _ dy dz Q I rx ry sg hx hy hg k
  · exact od_addT pins s σ G H x y v u _ dy dz Q I rx ry sg hx hy hg k
  · exact od_addL pins s σ G H x y v u _ dy dz Q I rx ry sg hx hy hg k
  · cases hg
theorem dqA_rep {K : PySem.W.Frag} {G : Hp} {vs : List V} {ds : List PyData} (h : DqA K G vs ds) : ∀ n : Nat, DqA K G (List.replicate n vs).flatten (List.replicate n ds).flatten
  | 0 => .nil
  | n + 1 => by
    rw [List.replicate_succ, List.replicate_succ, List.flatten_cons, List.flatten_cons]
    exact dpA_app h (dqA_rep h n)
def mulL : PyData → PyData → Option PyData
  | .list xs, .int k => if -(2 ^ 63) ≤ k ∧ k < 2 ^ 63 ∧ xs.length * k.toNat ≤ sizeLine then some (.list (List.replicate k.toNat xs).flatten) else none
  | _, _ => none
theorem od_mulL : OpD X (binaryOp .Mult) mulL := opD_of op_rep fun G H x y dx dy dz Q sg hx hy hz k => by
  unfold mulL at hz
  split at hz
  · split at hz
    · rename_i hl
      cases hz
      cases hx with
      | lst h1 a1 =>
        cases hy
        refine ⟨_, _, _, rfl, rfl, sg _ _ h1, hl.1, hl.2.1, by rw [dpA_len a1]; exact hl.2.2, fun p hp => ?_⟩
        obtain ⟨ex, dq⟩ := ext_lst sg hp (dqA_rep a1 _)
        exact k _ _ _ ex dq
    · cases hz
  · cases hz
def mulD (x y : PyData) : Option PyData := match x with
  | .int _ => mulI x y
  | .list _ => mulL x y
  | _ => none
theorem od_mul : OpD X (binaryOp .Mult) mulD := fun pins s σ G H x y v u dx dy dz Q I rx ry sg hx hy hg k => by
  unfold mulD at hg
  split at hg
  · exact od_mulI pins s σ G H x y v u _ dy dz Q I rx ry sg hx hy hg k
  · exact od_mulL pins s σ G H x y v u _ dy dz Q I rx ry sg hx hy hg k
  · cases hg

def eqD (x y : PyData) : Option PyData := if dOk 60 x || dOk 60 y then some (.bool (PyData.eqv x y)) else none
def neD (x y : PyData) : Option PyData := if dOk 60 x || dOk 60 y then some (.bool (!PyData.eqv x y)) else none
theorem min60 {x y : PyData} {n : Nat} (h : (dOk 60 x || dOk 60 y) = true) (hu : n + 64 < cLine) : n + min x.depth y.depth < cLine := by
  rw [Bool.or_eq_true] at h
  rcases h with h | h
  · have := dOk_depth 60 x h
    have := Nat.min_le_left x.depth y.depth
    omega
  · have := dOk_depth 60 y h
    have := Nat.min_le_right x.depth y.depth
    omega
theorem od_eq (hu : X.A.units + 64 < cLine) : OpD X (compareOp .Eq) eqD := fun pins s σ G H x y v u dx dy dz Q I rx ry sg hx hy hg k => by
  unfold eqD at hg
  split at hg
  · rename_i hd
    cases hg
    obtain ⟨as, r1⟩ := Dp.reads I dx x v (dp_mono sg hx).dp rx
    obtain ⟨bs, r2⟩ := Dp.reads I dy y u (dp_mono sg hy).dp ry
    exact PySem.SeqAt.eq_plain r1 r2 (dq_plain hx) (dq_plain hy) (min60 hd hu) ⟨.bl _, H, I, rfl, k _ G H (Ext.refl sg) (.bl _)⟩
  · cases hg
theorem od_ne (hu : X.A.units + 64 < cLine) : OpD X (compareOp .NotEq) neD := fun pins s σ G H x y v u dx dy dz Q I rx ry sg hx hy hg k => by
  unfold neD at hg
  split at hg
  · rename_i hd
    cases hg
    obtain ⟨as, r1⟩ := Dp.reads I dx x v (dp_mono sg hx).dp rx
    obtain ⟨bs, r2⟩ := Dp.reads I dy y u (dp_mono sg hy).dp ry
    exact PySem.SeqAt.ne_plain r1 r2 (dq_plain hx) (dq_plain hy) (min60 hd hu) ⟨.bl _, H, I, rfl, k _ G H (Ext.refl sg) (.bl _)⟩
  · cases hg
def ltI : PyData → PyData → Option PyData := int2 fun i j => some (.bool (decide (i < j)))
def leI : PyData → PyData → Option PyData := int2 fun i j => some (.bool (decide (i ≤ j)))
def gtI : PyData → PyData → Option PyData := int2 fun i j => some (.bool (decide (j < i)))
def geI : PyData → PyData → Option PyData := int2 fun i j => some (.bool (decide (j ≤ i)))
theorem od_ltI : OpD X (compareOp .Lt) ltI := opD_int0 op_lt fun _ _ _ => .bl _
theorem od_leI : OpD X (compareOp .LtE) leI := opD_int0 op_le fun _ _ _ => .bl _
theorem od_gtI : OpD X (compareOp .Gt) gtI := opD_int0 op_gt fun _ _ _ => .bl _
theorem od_geI : OpD X (compareOp .GtE) geI := opD_int0 op_ge fun _ _ _ => .bl _
/-- < of data -/
def ltT (x y : PyData) : Option PyData := if PySem.W.alike x y && (dOk 60 x || dOk 60 y) then some (.bool (PySem.W.dataLt x y)) else none
def ltD (x y : PyData) : Option PyData := match x with
  | .int _ => ltI x y
  | .tuple _ => ltT x y
  | .list _ => ltT x y
  | _ => none
theorem od_lt (hu : X.A.units + 64 < cLine) : OpD X (compareOp .Lt) ltD := fun pins s σ G H x y v u dx dy dz Q I rx ry sg hx hy hg k => by
  have T : ∀ (hn : dx ≠ .none) (e : ltT dx dy = some dz), wpAny (model X.prog X.w) X.A (compareOp .Lt v u) (EP X pins σ Q) X.xe s := fun hn e => by
    unfold ltT at e
    split at e
    · rename_i hd
      cases e
      rw [Bool.and_eq_true] at hd
      obtain ⟨as, r1⟩ := Dp.reads I dx x v (dp_mono sg hx).dp rx
      obtain ⟨bs, r2⟩ := Dp.reads I dy y u (dp_mono sg hy).dp ry
      exact PySem.W.rcLt_alike dx dy X.A s v u as bs r1 r2 hd.1 hn (min60 hd.2 hu) X.prog X.w X.xe _ ⟨.bl _, H, I, rfl, k _ G H (Ext.refl sg) (.bl _)⟩
    · cases e
  unfold ltD at hg
  split at hg
  · exact od_ltI pins s σ G H x y v u _ dy dz Q I rx ry sg hx hy hg k
  · exact T (fun z => by cases z) hg
  · exact T (fun z => by cases z) hg
  · cases hg
/-- x in y -/
def inS : PyData → PyData → Option Bool
  | .str x, .str y => some (!(Builtin.Str.occurrences y x 0 y.length 1).isEmpty)
  | x, .list ys => if dOk 60 x || dOkAll 60 ys then some (ys.any fun y => PyData.eqv y x) else none
  | x, .tuple ys => if dOk 60 x || dOkAll 60 ys then some (ys.any fun y => PyData.eqv y x) else none
  | _, _ => none
def inD (x y : PyData) : Option PyData := (inS x y).map .bool
def notInD (x y : PyData) : Option PyData := (inS x y).map fun b => .bool (!b)
theorem minA60 {x : PyData} {ys : List PyData} {n : Nat} (h : (dOk 60 x || dOkAll 60 ys) = true) (hu : n + 64 < cLine) : n + 1 + min (PyData.depthAll ys) x.depth < cLine := by
  rw [Bool.or_eq_true] at h
  rcases h with h | h
  · have := dOk_depth 60 x h
    have := Nat.min_le_right (PyData.depthAll ys) x.depth
    omega
  · have := dOkAll_depth 60 ys h
    have := Nat.min_le_left (PyData.depthAll ys) x.depth
    omega
theorem od_in (hu : X.A.units + 64 < cLine) : OpD X (compareOp .In) inD := fun pins s σ G H x y v u dx dy dz Q I rx ry sg hx hy hg k => by
  unfold inD at hg
  cases e : inS dx dy with
  | none => rw [e] at hg; cases hg
  | some b =>
    rw [e] at hg
    cases hg
    unfold inS at e
    split at e
    · cases e
      cases hx
      cases hy
      exact op_in_str pins s σ H _ _ v u Q I rx ry ⟨_, _, rfl, rfl, k _ G H (Ext.refl sg) (.bl _)⟩
    · split at e
      · rename_i hd
        cases e
        obtain ⟨as, r1⟩ := Dp.reads I _ x v (dp_mono sg hx).dp rx
        obtain ⟨bs, r2⟩ := Dp.reads I _ y u (dp_mono sg hy).dp ry
        exact PySem.SeqAt.in_list_data r2 r1 (by simpa [PyData.plain] using dq_plain hy) (dq_plain hx) (minA60 hd hu) ⟨.bl _, H, I, rfl, k _ G H (Ext.refl sg) (.bl _)⟩
      · cases e
    · split at e
      · rename_i hd
        cases e
        obtain ⟨as, r1⟩ := Dp.reads I _ x v (dp_mono sg hx).dp rx
        obtain ⟨bs, r2⟩ := Dp.reads I _ y u (dp_mono sg hy).dp ry
        exact PySem.SeqAt.in_tuple_data r2 r1 (by simpa [PyData.plain] using dq_plain hy) (dq_plain hx) (minA60 hd hu) ⟨.bl _, H, I, rfl, k _ G H (Ext.refl sg) (.bl _)⟩
      · cases e
    · cases e
theorem od_notIn (hu : X.A.units + 64 < cLine) : OpD X (compareOp .NotIn) notInD := fun pins s σ G H x y v u dx dy dz Q I rx ry sg hx hy hg k => by
  unfold notInD at hg
  cases e : inS dx dy with
  | none => rw [e] at hg; cases hg
  | some b =>
    rw [e] at hg
    cases hg
    unfold inS at e
    split at e
    · cases e
      cases hx
      cases hy
      exact op_notin_str pins s σ H _ _ v u Q I rx ry ⟨_, _, rfl, rfl, k _ G H (Ext.refl sg) (.bl _)⟩
    · split at e
      · rename_i hd
        cases e
        obtain ⟨as, r1⟩ := Dp.reads I _ x v (dp_mono sg hx).dp rx
        obtain ⟨bs, r2⟩ := Dp.reads I _ y u (dp_mono sg hy).dp ry
        exact PySem.SeqAt.notIn_list_data r2 r1 (by simpa [PyData.plain] using dq_plain hy) (dq_plain hx) (minA60 hd hu) ⟨.bl _, H, I, rfl, k _ G H (Ext.refl sg) (.bl _)⟩
      · cases e
    · split at e
      · rename_i hd
        cases e
        obtain ⟨as, r1⟩ := Dp.reads I _ x v (dp_mono sg hx).dp rx
        obtain ⟨bs, r2⟩ := Dp.reads I _ y u (dp_mono sg hy).dp ry
        exact PySem.SeqAt.notIn_tuple_data r2 r1 (by simpa [PyData.plain] using dq_plain hy) (dq_plain hx) (minA60 hd hu) ⟨.bl _, H, I, rfl, k _ G H (Ext.refl sg) (.bl _)⟩
      · cases e
    · cases e
/-- is None, is True -/
def isS : PyData → PyData → Option Bool
  | .none, .none => some true
  | .bool a, .bool b => some (decide (a = b))
  | _, .none => some false
  | _, _ => none
def isD (x y : PyData) : Option PyData := (isS x y).map .bool
def isNotD (x y : PyData) : Option PyData := (isS x y).map fun b => .bool (!b)
theorem od_is : OpD X (compareOp .Is) isD := fun pins s σ G H x y v u dx dy dz Q I rx ry sg hx hy hg k => by
  have N : ∀ b : Bool, y = .non → b = decide (x = .non) → Q (.bl b) H → wpAny (model X.prog X.w) X.A (compareOp .Is v u) (EP X pins σ Q) X.xe s := fun b ey eb q => by
    subst eb
    exact op_isN pins s σ H x y v u Q I rx ry ⟨ey, q⟩
  cases hx with
  | non => cases hy with
    | non => cases hg; exact N true rfl (by simp) (k _ G H (Ext.refl sg) (.bl _))
    | _ => cases hg
  | bl a => cases hy with
    | non => cases hg; exact N false rfl (by simp) (k _ G H (Ext.refl sg) (.bl _))
    | bl b =>
      cases hg
      exact op_isBl pins s σ H _ _ v u Q I rx ry ⟨a, b, rfl, rfl, k _ G H (Ext.refl sg) (.bl _)⟩
    | _ => cases hg
  | int i => cases hy with
    | non => cases hg; exact N false rfl (by simp) (k _ G H (Ext.refl sg) (.bl _))
    | _ => cases hg
  | str i => cases hy with
    | non => cases hg; exact N false rfl (by simp) (k _ G H (Ext.refl sg) (.bl _))
    | _ => cases hg
  | lst h a => cases hy with
    | non => cases hg; exact N false rfl (by simp) (k _ G H (Ext.refl sg) (.bl _))
    | _ => cases hg
  | tup h a => cases hy with
    | non => cases hg; exact N false rfl (by simp) (k _ G H (Ext.refl sg) (.bl _))
    | _ => cases hg
theorem od_isNot : OpD X (compareOp .IsNot) isNotD := fun pins s σ G H x y v u dx dy dz Q I rx ry sg hx hy hg k => by
  have N : ∀ b : Bool, y = .non → b = decide (x = .non) → Q (.bl (!b)) H → wpAny (model X.prog X.w) X.A (compareOp .IsNot v u) (EP X pins σ Q) X.xe s := fun b ey eb q => by
    subst eb
    exact op_notN pins s σ H x y v u Q I rx ry ⟨ey, q⟩
  cases hx with
  | non => cases hy with
    | non => cases hg; exact N true rfl (by simp) (k _ G H (Ext.refl sg) (.bl _))
    | _ => cases hg
  | bl a => cases hy with
    | non => cases hg; exact N false rfl (by simp) (k _ G H (Ext.refl sg) (.bl _))
    | bl b =>
      cases hg
      exact op_notBl pins s σ H _ _ v u Q I rx ry ⟨a, b, rfl, rfl, k _ G H (Ext.refl sg) (.bl _)⟩
    | _ => cases hg
  | int i => cases hy with
    | non => cases hg; exact N false rfl (by simp) (k _ G H (Ext.refl sg) (.bl _))
    | _ => cases hg
  | str i => cases hy with
    | non => cases hg; exact N false rfl (by simp) (k _ G H (Ext.refl sg) (.bl _))
    | _ => cases hg
  | lst h a => cases hy with
    | non => cases hg; exact N false rfl (by simp) (k _ G H (Ext.refl sg) (.bl _))
    | _ => cases hg
  | tup h a => cases hy with
    | non => cases hg; exact N false rfl (by simp) (k _ G H (Ext.refl sg) (.bl _))
    | _ => cases hg
end

def mNeg (m : Ex) : Ex := seqE m fun x => optE (match x with
  | .int i => some (.int (-i))
  | _ => none)
theorem de_neg {X : Cx} {a : Expr} {m : Ex} {pos : Pos} (ha : DE X a m) : DE X (.UnaryOp .USub a pos) (mNeg m) := PE.weak (pe_un un_neg ha) fun σ H Q ⟨C, G, env, w, r, env', w', R, hm, k⟩ => by
  obtain ⟨x, e1, w1, h1, hm⟩ := seqE_inv hm
  obtain ⟨z, h3, rfl, rfl, rfl⟩ := optE_inv hm
  split at h3
  · cases h3
    refine ⟨C, G, env, w, _, _, _, R, h1, fun v G1 H1 R1 s1 i1 a1 => ?_⟩
    cases a1
    exact ⟨_, rfl, k _ G1 H1 R1 s1 i1 (show Dq X.K _ _ _ from .int _)⟩
  · cases h3
def ixD : PyData → PyData → Option PyData
  | .list xs, .int i => atI xs i
  | .tuple xs, .int i => atI xs i
  | .str z, .int i => if z.length ≤ sizeLine then (atI z.cps.toList i).map fun c => .str ⟨#[c]⟩ else none
  | _, _ => none
theorem atI_dq {K : PySem.W.Frag} {G : Hp} {vs : List V} {ds : List PyData} {i : Int} {d : PyData} (h : DqA K G vs ds) (e : atI ds i = some d) : ∃ v, atI vs i = some v ∧ Dq K G v d := by
  unfold atI at e ⊢
  rw [dpA_len h]
  cases q : ixN ds.length i with
  | none => rw [q] at e; cases e
  | some j =>
    rw [q] at e
    exact dpA_get h e
theorem ix_run {X : Cx} {ma mb : Ex} {σ : L2.St} {H : Hp} {Q : VK} (h : tD X.K (mOp ixD ma mb) σ H Q) : tOp (rIx X.K) (tD X.K ma) (tD X.K mb) σ H Q := by
  obtain ⟨C, G, env, w, r, env', w', R, hm, k⟩ := h
  obtain ⟨x, e1, w1, h1, hm⟩ := seqE_inv hm
  obtain ⟨y, e2, w2, h2, hm⟩ := seqE_inv hm
  obtain ⟨z, h3, rfl, rfl, rfl⟩ := optE_inv hm
  refine ⟨C, G, env, w, _, e1, w1, R, h1, fun v G1 H1 R1 s1 i1 a1 => ?_⟩
  refine ⟨C, G1, e1, w1, _, _, _, R1, h2, fun u G2 H2 R2 s2 i2 a2 => ?_⟩
  have a1 : Dq X.K G2 v x := dp_mono s2 a1
  have fin : ∀ z', Dq X.K G2 z' z → Q z' H2 := fun z' d => k z' G2 H2 R2 (s1.trans s2) (i2.trans i1) d
  unfold ixD at h3
  split at h3
  · cases a1 with
    | lst hs ha =>
      cases a2
      obtain ⟨v, q1, q2⟩ := atI_dq ha h3
      exact .inl ⟨_, _, _, v, rfl, rfl, SqL.of (R2.sub _ _ hs), q1, fin v q2⟩
  · cases a1 with
    | tup hs ha =>
      cases a2
      obtain ⟨v, q1, q2⟩ := atI_dq ha h3
      exact .inr (.inl ⟨_, _, _, v, rfl, rfl, Same.sqT R2.sub hs, q1, fin v q2⟩)
  · split at h3
    · rename_i hl
      cases a1
      cases a2
      obtain ⟨c, e, q⟩ := Option.map_eq_some_iff.mp h3
      subst q
      exact .inr (.inr ⟨_, _, c, rfl, rfl, hl, e, fin _ (.str _)⟩)
    · cases h3
  · cases h3
theorem de_ix {X : Cx} {a b : Expr} {ma mb : Ex} {pos : Pos} (ha : DE X a ma) (hb : DE X b mb) (hs : PlainIx b := by exact fun _ _ => rfl) : DE X (.Subscript a b pos) (mOp ixD ma mb) := PE.weak (pe_ix ix_seq ha hb hs) fun _ _ _ h => ix_run h

abbrev Ox := Ev → W → Option (Option Int × Ev × W)
def tPo (K : PySem.W.Frag) (m : Ox) : TO := fun σ H Q => ∃ C G env w r env' w', Rel K C env w σ G H ∧ m env w = some (r, env', w') ∧
  ∀ G' H', Rel K C env' w' σ G' H' → Same G G' → w'.isSome = w.isSome → Q r H'
abbrev DPo (X : Cx) (e : Option Expr) (m : Ox) : Prop := PO X e (tPo X.K m)
def mNo : Ox := fun env w => some (none, env, w)
def mPart (m : Ex) : Ox := seqE m fun x env w => match x with
  | .int i => some (some i, env, w)
  | _ => none
theorem PO.weak {X : Cx} {e : Option Expr} {t t' : TO} (h : PO X e t) (k : ∀ σ H Q, t' σ H Q → t σ H Q) : PO X e t' := ⟨fun pins s σ H Q I q => h.run pins s σ H Q I (k σ H Q q)⟩
theorem dpo_none {X : Cx} : DPo X none mNo := PO.weak po_none fun σ H Q ⟨C, G, env, w, r, env', w', R, hm, k⟩ => by
  cases hm
  exact k G H R (Same.refl G) rfl
theorem dpo_some {X : Cx} {e : Expr} {m : Ex} (h : DE X e m) : DPo X (some e) (mPart m) := PO.weak (po_some h) fun σ H Q ⟨C, G, env, w, r, env', w', R, hm, k⟩ => by
  obtain ⟨x, e1, w1, h1, hm⟩ := seqE_inv hm
  split at hm
  · rename_i i
    cases hm
    exact ⟨C, G, env, w, _, _, _, R, h1, fun v G1 H1 R1 s1 i1 a1 => by cases a1; exact ⟨_, rfl, k G1 H1 R1 s1 i1⟩⟩
  · cases hm
/-- the items of xs[lo:hi] -/
def cutL {α : Type} (xs : List α) (lo hi : Option Int) : List α := (xs.drop (HT.sIx xs.length 0 lo)).take (HT.sIx xs.length xs.length hi - HT.sIx xs.length 0 lo)
def slD (x : PyData) (lo hi : Option Int) : Option PyData := match x with
  | .str z => if z.length ≤ sizeLine then some (.str (cutS z lo hi)) else none
  | .tuple xs => some (.tuple (cutL xs lo hi))
  | .list xs => some (.list (cutL xs lo hi))
  | _ => none
def mSl (m : Ex) (ml mh : Ox) : Ex := seqE m fun x env w => match ml env w with
  | some (lo, e1, w1) => (match mh e1 w1 with
    | some (hi, e2, w2) => optE (slD x lo hi) e2 w2
    | none => none)
  | none => none
theorem cut_dq {K : PySem.W.Frag} {G : Hp} {vs : List V} {ds : List PyData} (h : DqA K G vs ds) (lo hi : Option Int) : DqA K G (cutV vs lo hi) (cutL ds lo hi) := by
  unfold cutV cutL
  rw [dpA_len h]
  exact dpA_take _ (dpA_drop _ h)
theorem cut_whole {α : Type} {xs : List α} {lo hi : Option Int} (h : HT.sIx xs.length 0 lo = 0 ∧ HT.sIx xs.length xs.length hi = xs.length) : cutL xs lo hi = xs := by
  unfold cutL
  rw [h.1, h.2]
  simp
def rSlAll (K : PySem.W.Frag) : V → Option Int → Option Int → Hp → VK → Prop := fun x lo hi H Q => rSlS x lo hi H Q ∨ rSlA K x lo hi H Q ∨ rSlL K x lo hi H Q
theorem sl_all {X : Cx} : SlR X (rSlAll X.K) := SlR.or sl_str (SlR.or sl_tupA sl_list)
theorem sl_run {X : Cx} {ma : Ex} {ml mh : Ox} {σ : L2.St} {H : Hp} {Q : VK} (h : tD X.K (mSl ma ml mh) σ H Q) : tSl (rSlAll X.K) (tD X.K ma) (tPo X.K ml) (tPo X.K mh) σ H Q := by
  obtain ⟨C, G, env, w, r, env', w', R, hm, k⟩ := h
  obtain ⟨x, e1, w1, h1, hm⟩ := seqE_inv hm
  split at hm
  · rename_i lo e2 w2 h2
    split at hm
    · rename_i hi e3 w3 h3
      obtain ⟨z, h4, rfl, rfl, rfl⟩ := optE_inv hm
      refine ⟨C, G, env, w, _, e1, w1, R, h1, fun v G1 H1 R1 s1 i1 a1 => ?_⟩
      refine ⟨C, G1, e1, w1, _, _, _, R1, h2, fun G2 H2 R2 s2 i2 => ?_⟩
      refine ⟨C, G2, e2, w2, _, _, _, R2, h3, fun G3 H3 R3 s3 i3 => ?_⟩
      have a3 : Dq X.K G3 v x := dp_mono (s2.trans s3) a1
      have sg : Same G G3 := s1.trans (s2.trans s3)
      have is := i3.trans (i2.trans i1)
      unfold slD at h4
      split at h4
      · split at h4
        · rename_i hl
          cases h4
          cases a3
          exact .inl ⟨_, rfl, hl, k _ G3 H3 R3 sg is (show Dq X.K _ _ _ from .str _)⟩
        · cases h4
      · cases h4
        cases a3 with
        | tup hs ha =>
          refine .inr (.inl ⟨_, _, rfl, Same.sqT R3.sub hs, fun hw => ?_, fun _ p hp => ?_⟩)
          · rw [dpA_len ha] at hw
            rw [cut_whole hw] at k
            exact k _ G3 H3 R3 sg is (show Dq X.K _ _ _ from .tup hs ha)
          · obtain ⟨ex, dq⟩ := ext_tup R3.sub hp (cut_dq ha lo hi)
            exact k _ _ _ (R3.ext ex) (sg.trans ex.gg) is dq
      · cases h4
        cases a3 with
        | lst hs ha =>
          refine .inr (.inr ⟨_, _, rfl, SqL.of (R3.sub _ _ hs), fun p hp => ?_⟩)
          obtain ⟨ex, dq⟩ := ext_lst R3.sub hp (cut_dq ha lo hi)
          exact k _ _ _ (R3.ext ex) (sg.trans ex.gg) is dq
      · cases h4
    · cases hm
  · cases hm
theorem de_sl {X : Cx} {a : Expr} {ma : Ex} {lo hi : Option Expr} {ml mh : Ox} {pos p2 : Pos} (ha : DE X a ma) (hl : DPo X lo ml) (hh : DPo X hi mh) : DE X (.Subscript a (.Slice lo hi none p2) pos) (mSl ma ml mh) :=
  PE.weak (pe_slice sl_all ha hl hh) fun _ _ _ h => sl_run h

def CallD (X : Cx) (f : Value) (g : List PyData → Option PyData) : Prop :=
  ∀ (pins : List (Addr × Obj)) (s : Shared) (σ : L2.St) (G H : Hp) (xs : List V) (us : List Value) (ds : List PyData) (dz : PyData) (Q : VK), Inv X pins σ H s → Vals xs us → Same G H → DqA X.K G xs ds → g ds = some dz →
    (∀ z G' H', Ext G H G' H' → Dq X.K G' z dz → Q z H') → wpAny (model X.prog X.w) X.A (call f us) (EP X pins σ Q) X.xe s
def rSemC (X : Cx) (f : Value) : List V → Hp → VK → Prop := fun xs H Q => ∀ (pins : List (Addr × Obj)) (s : Shared) (σ : L2.St) (us : List Value), Inv X pins σ H s → Vals xs us → wpAny (model X.prog X.w) X.A (call f us) (EP X pins σ Q) X.xe s
theorem call_sem {X : Cx} {f : Value} : CallR X f (rSemC X f) := fun pins s σ H xs us Q I r h => h pins s σ us I r
def mB (g : List PyData → Option PyData) (ms : Ax) : Ex := argsD ms fun ds => optE (g ds)
theorem callB_run {X : Cx} {f : Value} {g : List PyData → Option PyData} {ms : Ax} (hc : CallD X f g) {σ : L2.St} {H : Hp} {Q : VK} (h : tD X.K (mB g ms) σ H Q) : tCB (rSemC X f) (tA X.K ms) σ H Q := by
  obtain ⟨C, G, env, w, r, env', w', R, hm, k⟩ := h
  obtain ⟨rs, ds, e1, w1, h1, h2, hm⟩ := argsD_inv hm
  obtain ⟨z, h3, rfl, rfl, rfl⟩ := optE_inv hm
  refine ⟨C, G, env, w, _, _, _, R, h1, fun vs G1 H1 R1 s1 i1 a1 => ?_⟩
  intro pins s σ' us I r
  exact hc pins s σ' G1 H1 vs us ds z Q I r R1.sub (dsOf_ok a1 h2) h3 fun zz G' H' e dz => k zz G' H' (R1.ext e) (s1.trans e.gg) i1 dz
section
variable {X : Cx} {x : Str} {e : Expr} {es : List Expr} {p pos : Pos} {id T : String} {g g' : List PyData → Option PyData} {ms : Ax}
theorem de_callB (hc : CallD X (.builtin id) g) (hm : X.mg x = none) (hv : bootBuiltins x = some (.builtin id)) (ha : DA X (e :: es) ms) (hg : Gl X x := by rfl) (hn : x ≠ "__name__" := by decide) (hdb : (x == ("__debug__" : Str)) = false := by decide)
    (he : starEach (e :: es) X.env = (false, eval e X.env) :: starEach es X.env := by rfl) (hpl : (backTo pos (starEach es X.env)).any (·.1) = false := by rfl) : DE X (.Call (.Name x p) (e :: es) [] pos) (mB g ms) :=
  PE.weak (pe_callB call_sem hg hm hv ha hn hdb he hpl) fun _ _ _ h => callB_run hc h
theorem de_callTy (hc : CallD X (.type T) g) (hm : X.mg x = none) (hv : bootBuiltins x = some (.type T)) (ha : DA X (e :: es) ms) (hg : Gl X x := by rfl) (hn : x ≠ "__name__" := by decide) (hdb : (x == ("__debug__" : Str)) = false := by decide)
    (he : starEach (e :: es) X.env = (false, eval e X.env) :: starEach es X.env := by rfl) (hpl : (backTo pos (starEach es X.env)).any (·.1) = false := by rfl) : DE X (.Call (.Name x p) (e :: es) [] pos) (mB g ms) :=
  PE.weak (pe_callTy call_sem hg hm hv ha hn hdb he hpl) fun _ _ _ h => callB_run hc h
theorem callD_of {f : Value} {r : List V → Hp → VK → Prop} (h : CallR X f r)
    (k : ∀ (G H : Hp) (xs : List V) (ds : List PyData) (dz : PyData) (Q : VK), Same G H → DqA X.K G xs ds → g ds = some dz → (∀ z G' H', Ext G H G' H' → Dq X.K G' z dz → Q z H') → r xs H Q) : CallD X f g :=
  fun pins s σ G H xs us ds dz Q I rx sg hx hg q => h pins s σ H xs us Q I rx (k G H xs ds dz Q sg hx hg q)
theorem dqA1 {K : PySem.W.Frag} {G : Hp} {vs : List V} {d : PyData} (h : DqA K G vs [d]) : ∃ v, vs = [v] ∧ Dq K G v d := by
  cases h with
  | cons a b => cases b; exact ⟨_, rfl, a⟩
theorem dqA2 {K : PySem.W.Frag} {G : Hp} {vs : List V} {d e : PyData} (h : DqA K G vs [d, e]) : ∃ v u, vs = [v, u] ∧ Dq K G v d ∧ Dq K G u e := by
  cases h with
  | cons a b =>
    obtain ⟨u, rfl, q⟩ := dqA1 b
    exact ⟨_, u, rfl, a, q⟩
def lenD : List PyData → Option PyData
  | [.list xs] => some (.int xs.length)
  | [.tuple xs] => some (.int xs.length)
  | [.str z] => if z.length ≤ sizeLine then some (.int z.length) else none
  | _ => none
theorem cd_len : CallD X (.builtin "len") lenD := callD_of (CallR.or call_len_seq call_len_str) fun G H xs ds dz Q sg hx hg k => by
  unfold lenD at hg
  split at hg
  · cases hg
    obtain ⟨v, rfl, h⟩ := dqA1 hx
    cases h with
    | lst hs ha =>
      refine .inl ⟨_, _, rfl, .inl (SqL.of (sg _ _ hs)), ?_⟩
      rw [dpA_len ha]
      exact k _ G H (Ext.refl sg) (.int _)
  · cases hg
    obtain ⟨v, rfl, h⟩ := dqA1 hx
    cases h with
    | tup hs ha =>
      refine .inl ⟨_, _, rfl, .inr (Same.sqT sg hs), ?_⟩
      rw [dpA_len ha]
      exact k _ G H (Ext.refl sg) (.int _)
  · split at hg
    · rename_i hl
      cases hg
      obtain ⟨v, rfl, h⟩ := dqA1 hx
      cases h
      exact .inr ⟨_, rfl, hl, k _ G H (Ext.refl sg) (.int _)⟩
    · cases hg
  · cases hg
def intD : List PyData → Option PyData
  | [.int i] => some (.int i)
  | [.bool b] => some (.int (if b then 1 else 0))
  | [.str z] => (match PySem.intText? z with
    | some n => if z.length ≤ 640 then some (.int n) else none
    | none => none)
  | _ => none
theorem cd_int : CallD X (.type "int") intD := callD_of (CallR.or call_int1 call_int_str) fun G H xs ds dz Q sg hx hg k => by
  unfold intD at hg
  split at hg
  · cases hg
    obtain ⟨v, rfl, h⟩ := dqA1 hx
    cases h
    exact .inl (.inl ⟨_, rfl, k _ G H (Ext.refl sg) (.int _)⟩)
  · cases hg
    obtain ⟨v, rfl, h⟩ := dqA1 hx
    cases h
    exact .inl (.inr ⟨_, rfl, k _ G H (Ext.refl sg) (.int _)⟩)
  · split at hg
    · rename_i n hn
      split at hg
      · rename_i hl
        cases hg
        obtain ⟨v, rfl, h⟩ := dqA1 hx
        cases h
        exact .inr ⟨_, _, rfl, hn, hl, k _ G H (Ext.refl sg) (.int _)⟩
      · cases hg
    · cases hg
  · cases hg
def strD : List PyData → Option PyData
  | [.int i] => if i.natAbs.log2 < 1920 then some (.str (toString i)) else none
  | _ => none
theorem cd_str : CallD X (.type "str") strD := callD_of call_str_int fun G H xs ds dz Q sg hx hg k => by
  unfold strD at hg
  split at hg
  · split at hg
    · rename_i hl
      cases hg
      obtain ⟨v, rfl, h⟩ := dqA1 hx
      cases h
      exact ⟨_, rfl, hl, k _ G H (Ext.refl sg) (.str _)⟩
    · cases hg
  · cases hg
def tupleD : List PyData → Option PyData
  | [.list xs] => some (.tuple xs)
  | [.tuple xs] => some (.tuple xs)
  | _ => none
theorem cd_tuple : CallD X (.type "tuple") tupleD := callD_of call_tuple_of fun G H xs ds dz Q sg hx hg k => by
  unfold tupleD at hg
  split at hg
  · cases hg
    obtain ⟨v, rfl, h⟩ := dqA1 hx
    cases h with
    | lst hs ha =>
      refine ⟨_, _, rfl, .inl ⟨SqL.of (sg _ _ hs), fun l hl => ?_⟩⟩
      obtain ⟨ex, dq⟩ := ext_tup sg hl ha
      exact k _ _ _ ex dq
  · cases hg
    obtain ⟨v, rfl, h⟩ := dqA1 hx
    cases h with
    | tup hs ha => exact ⟨_, _, rfl, .inr ⟨Same.sqT sg hs, k _ G H (Ext.refl sg) (.tup hs ha)⟩⟩
  · cases hg
def max2D : List PyData → Option PyData
  | [.int i, .int j] => some (.int (if j > i then j else i))
  | _ => none
theorem cd_max2 (hc : X.calm = true) : CallD X (.builtin "max") max2D := callD_of (call_max2 hc) fun G H xs ds dz Q sg hx hg k => by
  unfold max2D at hg
  split at hg
  · cases hg
    obtain ⟨v, u, rfl, h, h'⟩ := dqA2 hx
    cases h
    cases h'
    exact ⟨_, _, rfl, k _ G H (Ext.refl sg) (.int _)⟩
  · cases hg
end
end Dn

set_option maxHeartbeats 4000000
namespace Dn
open PySem PySem.Spec PyProof.Rows L2

abbrev NoOd (env : Ev) (σ : L2.St) (a : Addr) : Prop := ∀ (i : Nat) (kvs : List (Str × PyData)), env[i]? = some (some (.od kvs)) → σ[i]? ≠ some (some (.ref a))
abbrev NoOwn (env : Ev) (σ : L2.St) (a : Addr) : Prop := ∀ (i : Nat) (ys : List PyData), env[i]? = some (some (.own ys)) → σ[i]? ≠ some (some (.ref a))
theorem Rel.setO {K : PySem.W.Frag} {C : Ct} {env : Ev} {w : W} {σ : L2.St} {G H : Hp} {a : Addr} {vs : List V} {xs : List PyData} (R : Rel K C env w σ G H) (ha : H a = some (.lst vs)) (hd : DqA K G vs xs) (hg : G a = none) (h0 : C.H0 a = none)
    (hne : NoOwn env σ a) (i : Nat) : Rel K C (env.set i (some (.own xs))) w (σ.set i (some (.ref a))) G H where
  sub := R.sub
  len := by rw [List.length_set, List.length_set]; exact R.len
  slot := fun j sd h => by
    by_cases hj : i = j
    · subst hj
      have hi : i < env.length := by
        have := (List.getElem?_eq_some_iff.mp h).1
        rwa [List.length_set] at this
      rw [List.getElem?_set_self hi] at h
      cases h
      exact ⟨_, List.getElem?_set_self (by rw [← R.len]; exact hi), a, vs, rfl, ha, hd, hg, h0⟩
    · rw [List.getElem?_set_ne hj] at h
      obtain ⟨v, h1, h2⟩ := R.slot j sd h
      exact ⟨v, by rw [List.getElem?_set_ne hj]; exact h1, h2⟩
  sep := fun j k ys zs b e1 e2 s1 s2 => by
    have at_i : ∀ (l : Nat) (us : List PyData), (env.set i (some (.own xs)))[l]? = some (some (.own us)) → (σ.set i (some (.ref a)))[l]? = some (some (.ref b)) → i = l → b = a := fun l us e s z => by
      subst z
      have hi : i < env.length := by
        have := (List.getElem?_eq_some_iff.mp e).1
        rwa [List.length_set] at this
      rw [List.getElem?_set_self (by rw [← R.len]; exact hi)] at s
      cases s
      rfl
    by_cases hj : i = j
    · by_cases hk : i = k
      · exact hj.symm.trans hk
      · have := at_i j ys e1 s1 hj
        subst this
        rw [List.getElem?_set_ne hk] at e2 s2
        exact absurd s2 (hne k zs e2)
    · by_cases hk : i = k
      · have := at_i k zs e2 s2 hk
        subst this
        rw [List.getElem?_set_ne hj] at e1 s1
        exact absurd s1 (hne j ys e1)
      · rw [List.getElem?_set_ne hj] at e1 s1
        rw [List.getElem?_set_ne hk] at e2 s2
        exact R.sep j k ys zs b e1 e2 s1 s2
  st := R.st
  st0 := R.st0
  fr := R.fr
  gr := R.gr
  tb := R.tb
  tb0 := R.tb0
def mSetO (i : Nat) (m : Lx) : Sx := fun env w => match m env w with
  | some (xs, e1, w1) => some (.nx, e1.set i (some (.own xs)), w1)
  | none => none
theorem ds_setO {X : Cx} {s : Stmt} {i : Nat} {m : Lx} (h : PS X s (tAsg (tO X.K m) (gName i))) : DSt X s (mSetO i m) := PS.weak h fun D σ H ⟨C, G, env, w, r, env', w', R, hm, k⟩ => by
  unfold mSetO at hm
  split at hm
  · rename_i xs e1 w1 h1
    cases hm
    exact ⟨C, G, env, w, _, _, _, R, h1, fun a vs G1 H1 R1 s1 i1 ha hd hg h0 hne => k _ G1 H1 (R1.setO ha hd hg h0 hne i) s1 i1⟩
  · cases hm
/-- the own list at slot i is changed -/
theorem Rel.chg {K : PySem.W.Frag} {C : Ct} {env : Ev} {w : W} {σ : L2.St} {G H : Hp} {a : Addr} {us : List V} {xs ys : List PyData} {i : Nat} (R : Rel K C env w σ G H) (he : env[i]? = some (some (.own xs))) (hs : σ[i]? = some (some (.ref a))) (hd : DqA K G us ys) :
    Rel K C (env.set i (some (.own ys))) w σ G (upd H a (.lst us)) := by
  obtain ⟨v, h1, a', vs, rfl, ha, hd0, hg, h0⟩ := R.slot i _ he
  rw [h1] at hs
  cases hs
  have hi : i < env.length := (List.getElem?_eq_some_iff.mp he).1
  have nes : ∀ h : w.isSome = true, a ≠ C.ad.sa ∧ a ≠ C.ad.la ∧ a ≠ C.ad.ca := fun h => R.own_ne h0 h
  refine ⟨fun b o e => ?_, by rw [List.length_set]; exact R.len, fun j sd e => ?_, fun j k zs zs' b e1 e2 s1 s2 => ?_, fun s e => ?_, R.st0, fun b o e m => ?_, R.gr, R.tb.hset ha, R.tb0⟩
  · rw [upd_ne]
    · exact R.sub b o e
    · rintro rfl
      rw [hg] at e; cases e
  · by_cases hj : i = j
    · subst hj
      rw [List.getElem?_set_self hi] at e
      cases e
      exact ⟨_, h1, a, us, rfl, upd_same, hd, hg, h0⟩
    · rw [List.getElem?_set_ne hj] at e
      obtain ⟨v, q1, q2⟩ := R.slot j sd e
      refine ⟨v, q1, ?_⟩
      cases sd with
      | d x => exact q2
      | own zs =>
        obtain ⟨b, ws, rfl, hb, hd', hg', h0'⟩ := q2
        refine ⟨b, ws, rfl, ?_, hd', hg', h0'⟩
        rw [upd_ne]
        · exact hb
        · rintro rfl
          exact hj (R.sep i j xs zs b he e h1 q1)
      | st => exact q2
      | dic kvs => exact q2
      | scr n => exact q2
      | l x => exact q2
      | ex b d p => exact q2
      | od kvs =>
        obtain ⟨b, ws, rfl, hb, hd', hg', h0'⟩ := q2
        refine ⟨b, ws, rfl, ?_, hd', hg', h0'⟩
        rw [upd_ne]
        · exact hb
        · rintro rfl
          rw [ha] at hb; cases hb
  · have fix : ∀ (l : Nat) (us' : List PyData), (env.set i (some (.own ys)))[l]? = some (some (.own us')) → ∃ us'', env[l]? = some (some (.own us'')) := fun l us' e => by
      by_cases hl : i = l
      · subst hl; exact ⟨xs, he⟩
      · rw [List.getElem?_set_ne hl] at e; exact ⟨us', e⟩
    obtain ⟨u1, q1⟩ := fix j zs e1
    obtain ⟨u2, q2⟩ := fix k zs' e2
    exact R.sep j k u1 u2 b q1 q2 s1 s2
  · have q := R.st s e
    have ne := nes (by rw [e]; rfl)
    exact ⟨by rw [upd_ne ne.1.symm]; exact q.sa, by rw [upd_ne ne.2.1.symm]; exact q.la, by rw [upd_ne ne.2.2.symm]; exact q.ca, q.gs, q.gl, q.gc, q.ne, q.tk⟩
  · rw [upd_ne]
    · exact R.fr b o e m
    · rintro rfl
      rw [h0] at e; cases e
/-- xs.append(e) -/
def mAppend (i : Nat) (m : Ex) : Sx := fun env w => match env[i]? with
  | some (some (.own _)) => seqE m (fun y e1 w1 => match e1[i]? with
    | some (some (.own xs)) => if xs.length < sizeLine then some (.nx, e1.set i (some (.own (xs ++ [y]))), w1) else none
    | _ => none) env w
  | _ => none
theorem ds_append {X : Cx} {s : Stmt} {i : Nat} {m : Ex} (h : PS X s (tDrop (tBM X.K "list" rAppend (tVar i) (tCons (tD X.K m) tNil)))) : DSt X s (mAppend i m) := PS.weak h fun D σ H ⟨C, G, env, w, fl, env', w', R, hm, k⟩ => by
  unfold mAppend at hm
  split at hm
  · rename_i xs0 h0
    obtain ⟨y, e1, w1, h1, hm⟩ := seqE_inv hm
    split at hm
    · rename_i xs h2
      split at hm
      · rename_i hl
        cases hm
        obtain ⟨v, q1, a, vs, rfl, ha, hd, hg, hz⟩ := R.slot i _ h0
        refine ⟨_, q1, .inl ⟨rfl, vs, SqL.of ha⟩, C, G, env, w, _, _, _, R, h1, fun u G1 H1 R1 s1 i1 a1 => ?_⟩
        obtain ⟨v, p1, a', vs', rfl, ha', hd', hg', hz'⟩ := R1.slot i _ h2
        rw [q1] at p1
        cases p1
        refine ⟨a, vs', u, rfl, rfl, ha', by rw [dpA_len hd']; exact hl, ?_⟩
        exact k σ G1 _ (R1.chg h2 q1 (dpA_app hd' (.cons a1 .nil))) s1 i1
      · cases hm
    · cases hm
  · cases hm
/-- xs.pop() -/
def mPop (i : Nat) : Sx := fun env w => match env[i]? with
  | some (some (.own xs)) => (match xs with
    | [] => none
    | _ :: _ => some (.nx, env.set i (some (.own xs.dropLast)), w))
  | _ => none
theorem dqA_dropLast {K : PySem.W.Frag} {G : Hp} {vs : List V} {ds : List PyData} (h : DqA K G vs ds) : DqA K G vs.dropLast ds.dropLast := by
  rw [List.dropLast_eq_take, List.dropLast_eq_take, dpA_len h]
  exact dpA_take _ h
theorem ds_pop {X : Cx} {s : Stmt} {i : Nat} (h : PS X s (tDrop (tBM0 X.K "list" rPop (tVar i)))) : DSt X s (mPop i) := PS.weak h fun D σ H ⟨C, G, env, w, fl, env', w', R, hm, k⟩ => by
  unfold mPop at hm
  split at hm
  · rename_i xs h0
    split at hm
    · cases hm
    · rename_i z zs
      cases hm
      obtain ⟨v, q1, a, vs, rfl, ha, hd, hg, hz⟩ := R.slot i _ h0
      have hl := dpA_len hd
      have hlt : vs.length - 1 < vs.length := by rw [hl]; simp
      refine ⟨_, q1, .inl ⟨rfl, vs, SqL.of ha⟩, a, vs, vs[vs.length - 1], rfl, rfl, ha, by simp [hlt], ?_⟩
      exact k σ G _ (R.chg h0 q1 (dqA_dropLast hd)) (Same.refl G) rfl
  · cases hm
/-- an answer that needs no heap -/
def flat : PyData → Bool
  | .none => true
  | .bool _ => true
  | .int _ => true
  | .str _ => true
  | _ => false
theorem dq_flat {K : PySem.W.Frag} {G G' : Hp} {v : V} {d : PyData} (h : Dq K G v d) (f : flat d = true) : Dq K G' v d := by
  cases h with
  | non => exact .non
  | bl b => exact .bl b
  | int i => exact .int i
  | str x => exact .str x
  | _ => cases f
def flatO (o : Option PyData) : Option PyData := match o with
  | some z => if flat z then some z else none
  | none => none
theorem flatO_inv {o : Option PyData} {z : PyData} (h : flatO o = some z) : o = some z ∧ flat z = true := by
  unfold flatO at h
  split at h
  · split at h
    · cases h; exact ⟨rfl, by assumption⟩
    · cases h
  · cases h
def pk (env : Ev) (i : Nat) : Option (List PyData) := match env[i]? with
  | some (some (.own xs)) => some xs
  | some (some (.d (.list xs))) => some xs
  | _ => none
/-- over a wider heap the list is data -/
theorem Rel.pkd {K : PySem.W.Frag} {C : Ct} {env : Ev} {w : W} {σ : L2.St} {G H : Hp} {i : Nat} {xs : List PyData} (R : Rel K C env w σ G H) (h : pk env i = some xs) : ∃ a vs, σ[i]? = some (some (.ref a)) ∧ H a = some (.lst vs) ∧ DqA K G vs xs := by
  unfold Dn.pk at h
  split at h
  · rename_i ys e
    cases h
    obtain ⟨v, q1, a, vs, rfl, ha, hd, hg, hz⟩ := R.slot i _ e
    exact ⟨a, vs, q1, ha, hd⟩
  · rename_i ys e
    cases h
    obtain ⟨v, q1, q2⟩ := R.slot i _ e
    cases q2 with
    | lst h a => exact ⟨_, _, q1, R.sub _ _ h, a⟩
  · cases h
theorem Rel.peek {K : PySem.W.Frag} {C : Ct} {env : Ev} {w : W} {σ : L2.St} {G H : Hp} {i : Nat} {xs : List PyData} {v : V} (R : Rel K C env w σ G H) (h : pk env i = some xs) (hs : σ[i]? = some (some v)) :
    ∃ G1, Same G G1 ∧ Same G1 H ∧ Dq K G1 v (.list xs) := by
  obtain ⟨a, vs, q1, ha, hd⟩ := R.pkd h
  rw [hs] at q1
  cases q1
  cases e : G a with
  | none =>
    refine ⟨upd G a (.lst vs), same_upd e, fun b o q => ?_, .lst upd_same (dpA_mono (same_upd e) hd)⟩
    by_cases hb : b = a
    · subst hb; rw [upd_same] at q; rw [ha]; exact q
    · rw [upd_ne hb] at q; exact R.sub b o q
  | some o =>
    have q := R.sub a o e
    rw [ha] at q
    cases q
    exact ⟨G, Same.refl G, R.sub, .lst e hd⟩
/-- xs == e -/
def mPkOp (g : PyData → PyData → Option PyData) (i : Nat) (mb : Ex) : Ex := fun env w => match pk env i with
  | some _ => seqE mb (fun y e1 w1 => match pk e1 i with
    | some xs => optE (flatO (g (.list xs) y)) e1 w1
    | none => none) env w
  | none => none
theorem pk_D {X : Cx} {f : Value → Value → Sem Value} {g : PyData → PyData → Option PyData} {i : Nat} {mb : Ex} (ho : OpD X f g) {σ : L2.St} {H : Hp} {Q : VK} (h : tD X.K (mPkOp g i mb) σ H Q) :
    tVar i σ H fun x H1 => tD X.K mb σ H1 fun y H2 => rSem X f x y H2 Q := by
  obtain ⟨C, G, env, w, r, env', w', R, hm, k⟩ := h
  unfold mPkOp at hm
  split at hm
  · rename_i xs0 h0
    obtain ⟨y, e1, w1, h1, hm⟩ := seqE_inv hm
    split at hm
    · rename_i xs h2
      obtain ⟨z, h3, rfl, rfl, rfl⟩ := optE_inv hm
      obtain ⟨h3, hf⟩ := flatO_inv h3
      obtain ⟨a, _, q1, _⟩ := R.pkd h0
      refine ⟨.ref a, q1, C, G, env, w, _, _, _, R, h1, fun u G2 H2 R2 s2 i2 a2 => ?_⟩
      obtain ⟨G3, p1, p2, p3⟩ := R2.peek h2 q1
      intro pins s σ' vv uu I rx ry
      exact ho pins s σ' G3 H2 _ u vv uu _ y z Q I rx ry p2 p3 (dp_mono p1 a2) h3 fun zz G' H' e dz => k zz G2 H' (R2.ext (Ext.drop R2.sub e.hh)) s2 i2 (dq_flat dz hf)
    · cases hm
  · cases hm
section
variable {X : Cx} {b : Expr} {mb : Ex} {pos pos' : Pos} {g : PyData → PyData → Option PyData} {x : Str} {i : Nat}
theorem dt_pkcmp {op : CmpOp} (ho : OpD X (compareOp op) g) (ha : PE X (.Name x pos') (tVar i)) (hb : DE X b mb) (hm : behindInMarks op b = false) : DT X (.Compare (.Name x pos') [op] [b] pos) (mTru (mPkOp g i mb)) := by
  refine ⟨fun pins s σ H Q I h => ?_⟩
  obtain ⟨C, G, env, w, r, env', w', R, h0, k⟩ := h
  obtain ⟨x, h1, h2⟩ := mTru_inv h0
  have t : tD X.K (mPkOp g i mb) σ H fun v H1 => TruV X.K v H1 r ∧ Q r H1 := ⟨C, G, env, w, _, env', w', R, h1, fun v G' H' R' s' i' a' => ⟨tru_ofD R'.sub a' h2, k G' H' R' s' i'⟩⟩
  refine wpAny_isTrue_Compare1 ?_ hm
  refine binT ha hb I (pk_D ho t) fun v u s2 x y H2 I2 rx ry q => ?_
  refine thn (q pins s2 σ v u I2 rx ry) fun c s3 ⟨z, H3, I3, r3, q1, q2⟩ => ?_
  exact tru_ok pins s3 σ H3 z c Q I3 r3 ⟨r, q1, q2⟩
/-- xs[i] -/
def mPkIx (i : Nat) (mb : Ex) : Ex := fun env w => match pk env i with
  | some _ => seqE mb (fun y e1 w1 => match pk e1 i with
    | some xs => optE (ixD (.list xs) y) e1 w1
    | none => none) env w
  | none => none
theorem de_pkix (ha : PE X (.Name x pos') (tVar i)) (hb : DE X b mb) (hs : PlainIx b := by exact fun _ _ => rfl) : DE X (.Subscript (.Name x pos') b pos) (mPkIx i mb) := PE.weak (pe_ix ix_seq ha hb hs) fun σ H Q ⟨C, G, env, w, r, env', w', R, hm, k⟩ => by
  unfold mPkIx at hm
  split at hm
  · rename_i xs0 h0
    obtain ⟨y, e1, w1, h1, hm⟩ := seqE_inv hm
    split at hm
    · rename_i xs h2
      obtain ⟨z, h3, rfl, rfl, rfl⟩ := optE_inv hm
      obtain ⟨a0, _, q1, _⟩ := R.pkd h0
      refine ⟨.ref a0, q1, C, G, env, w, _, _, _, R, h1, fun u G2 H2 R2 s2 i2 a2 => ?_⟩
      obtain ⟨a, vs, q2, ha', hd⟩ := R2.pkd h2
      rw [q1] at q2
      cases q2
      unfold ixD at h3
      split at h3
      · rename_i he
        cases he
        cases a2
        obtain ⟨v, p1, p2⟩ := atI_dq hd h3
        exact .inl ⟨_, _, _, v, rfl, rfl, SqL.of ha', p1, k v G2 H2 R2 s2 i2 p2⟩
      · rename_i he; cases he
      · rename_i he; cases he
      · cases h3
    · cases hm
  · cases hm
/-- len(xs) -/
def mPkLen (i : Nat) : Ex := fun env w => match pk env i with
  | some xs => some (.d (.int xs.length), env, w)
  | none => none
theorem de_pklen {p : Pos} (hm : X.mg "len" = none) (ha : PE X (.Name x pos') (tVar i)) (hg : Gl X "len" := by rfl) : DE X (.Call (.Name "len" p) [.Name x pos'] [] pos) (mPkLen i) :=
  PE.weak (pe_callB call_len_seq hg hm PySem.boot_len (pa_cons ha pa_nil)) fun σ H Q ⟨C, G, env, w, r, env', w', R, hm, k⟩ => by
  unfold mPkLen at hm
  split at hm
  · rename_i xs h0
    cases hm
    obtain ⟨a, vs, q1, ha', hd⟩ := R.pkd h0
    refine ⟨_, q1, a, vs, rfl, .inl (SqL.of ha'), ?_⟩
    rw [dpA_len hd]
    exact k _ G H R (Same.refl G) rfl (show Dq X.K _ _ _ from .int _)
  · cases hm
/-- len(script) -/
def mScrLen (i : Nat) : Ex := fun env w => match env[i]? with
  | some (some (.scr n)) => some (.d (.int n), env, w)
  | _ => none
end

def Ct.grd (C : Ct) (D : Addr) (o : HO) : Ct := ⟨C.ad, upd C.H0 D o, fun b => if b = D then none else C.G0 b⟩
theorem Rel.grd {K : PySem.W.Frag} {C : Ct} {env : Ev} {w : W} {σ : L2.St} {G H : Hp} {D : Addr} {o : HO} (R : Rel K C env w σ G H) (hD : H D = some o) (hg : G D = none) (h0 : C.H0 D = none) (hne : NoOwn env σ D) (hod : (∀ kvs, o ≠ .dK kvs) ∨ NoOd env σ D := by exact .inl (fun _ q => by cases q)) : Rel K (C.grd D o) env w σ G H where
  sub := R.sub
  len := R.len
  slot := fun i sd h => by
    obtain ⟨v, h1, h2⟩ := R.slot i sd h
    refine ⟨v, h1, ?_⟩
    cases sd with
    | d x => exact h2
    | own xs =>
      obtain ⟨a, vs, rfl, ha, hd, hga, h0a⟩ := h2
      refine ⟨a, vs, rfl, ha, hd, hga, ?_⟩
      show upd C.H0 D o a = none
      rw [upd_ne]
      · exact h0a
      · rintro rfl
        exact hne i xs h h1
    | st => exact h2
    | dic kvs => exact h2
    | l x => exact h2
    | od kvs =>
      obtain ⟨a, vs, rfl, ha, hd, hga, h0a⟩ := h2
      refine ⟨a, vs, rfl, ha, hd, hga, ?_⟩
      show upd C.H0 D o a = none
      rw [upd_ne]
      · exact h0a
      · rintro rfl
        rcases hod with q | q
        · rw [hD] at ha
          exact q _ (Option.some.inj ha)
        · exact q i kvs h h1
    | ex b d p =>
      refine ⟨h2.1, fun y hy => ?_⟩
      obtain ⟨dd, u, z1, z2, z3, z4⟩ := h2.2 y hy
      refine ⟨dd, u, z1, ?_, z3, z4⟩
      show upd C.H0 D o dd = _
      rw [upd_ne]
      · exact z2
      · rintro rfl
        rw [h0] at z2; cases z2
    | scr n =>
      obtain ⟨a, xs, h3, h4, h5⟩ := h2
      refine ⟨a, xs, h3, h4, ?_⟩
      rcases h5 with ⟨ob, h5, h6⟩ | h5
      · refine .inl ⟨ob, ?_, h6⟩
        show upd C.H0 D o a = _
        rw [upd_ne (ne_of_none h5 h0)]
        exact h5
      · exact .inr h5
  sep := R.sep
  st := R.st
  st0 := fun h => by
    obtain ⟨h1, h2, h3⟩ := R.st0 h
    have ne : ∀ b, C.H0 b ≠ none → upd C.H0 D o b ≠ none := fun b hb => by
      rw [upd_ne]
      · exact hb
      · rintro rfl
        exact hb h0
    exact ⟨ne _ h1, ne _ h2, ne _ h3⟩
  fr := fun b u e m => by
    by_cases hb : b = D
    · subst hb
      have e' : upd C.H0 b o b = some u := e
      rw [upd_same] at e'
      rw [hD]; exact e'
    · have e' : upd C.H0 D o b = some u := e
      rw [upd_ne hb] at e'
      exact R.fr b u e' m
  gr := fun b u e => by
    show G b = if b = D then none else C.G0 b
    by_cases hb : b = D
    · rw [if_pos hb, hb]; exact hg
    · rw [if_neg hb]
      have e' : upd C.H0 D o b = some u := e
      rw [upd_ne hb] at e'
      exact R.gr b u e'
  tb := R.tb
  tb0 := fun p hp => by
    show upd C.H0 D o p.1 ≠ none
    rw [upd_ne fun z => R.tb0 p hp (by rw [z]; exact h0)]
    exact R.tb0 p hp
theorem Rel.ungrd {K : PySem.W.Frag} {C : Ct} {env : Ev} {w : W} {σ : L2.St} {G H : Hp} {D : Addr} {o : HO} (R : Rel K (C.grd D o) env w σ G H) (h0 : C.H0 D = none) (ho : ∀ ob u, o ≠ .frz ob u) (nm : ¬ Mt C.ad w D) (s0 : w.isSome = true → C.H0 C.ad.sa ≠ none ∧ C.H0 C.ad.la ≠ none ∧ C.H0 C.ad.ca ≠ none) (hx : ∀ fs, o ≠ .xd fs := by intro fs q; cases q) :
    Rel K C env w σ G H ∧ H D = some o ∧ G D = none ∧ NoOwn env σ D := by
  refine ⟨⟨R.sub, R.len, fun i sd h => ?_, R.sep, R.st, s0, fun b u e m => ?_, fun b u e => ?_, R.tb, fun p hp => ?_⟩, R.fr D o (show upd C.H0 D o D = some o from upd_same) nm, ?_, fun i ys h e => ?_⟩
  · obtain ⟨v, h1, h2⟩ := R.slot i sd h
    refine ⟨v, h1, ?_⟩
    cases sd with
    | d x => exact h2
    | own xs =>
      obtain ⟨a, vs, rfl, ha, hd, hga, h0a⟩ := h2
      have h0a : upd C.H0 D o a = none := h0a
      refine ⟨a, vs, rfl, ha, hd, hga, ?_⟩
      by_cases hb : a = D
      · rw [hb]; exact h0
      · rw [upd_ne hb] at h0a; exact h0a
    | st => exact h2
    | dic kvs => exact h2
    | l x => exact h2
    | od kvs =>
      obtain ⟨a, vs, rfl, ha, hd, hga, h0a⟩ := h2
      have h0a : upd C.H0 D o a = none := h0a
      refine ⟨a, vs, rfl, ha, hd, hga, ?_⟩
      by_cases hb : a = D
      · rw [hb]; exact h0
      · rw [upd_ne hb] at h0a; exact h0a
    | ex b d p =>
      refine ⟨h2.1, fun y hy => ?_⟩
      obtain ⟨dd, u, z1, z2, z3, z4⟩ := h2.2 y hy
      have z2 : upd C.H0 D o dd = some (.xd [("place", u)]) := z2
      refine ⟨dd, u, z1, ?_, z3, z4⟩
      by_cases hb : dd = D
      · rw [hb, upd_same] at z2
        exact absurd (Option.some.inj z2) (hx _)
      · rw [upd_ne hb] at z2; exact z2
    | scr n =>
      obtain ⟨a, xs, h3, h4, h5⟩ := h2
      refine ⟨a, xs, h3, h4, ?_⟩
      rcases h5 with ⟨ob, h5, h6⟩ | h5
      · have h5 : upd C.H0 D o a = some (.frz ob (.lst xs)) := h5
        refine .inl ⟨ob, ?_, h6⟩
        by_cases hb : a = D
        · rw [hb, upd_same] at h5
          exact absurd (Option.some.inj h5) (ho _ _)
        · rw [upd_ne hb] at h5; exact h5
      · exact .inr h5
  · have hb : b ≠ D := ne_of_none e h0
    exact R.fr b u (show upd C.H0 D o b = some u by rw [upd_ne hb]; exact e) m
  · have hb : b ≠ D := ne_of_none e h0
    have q := R.gr b u (show upd C.H0 D o b = some u by rw [upd_ne hb]; exact e)
    have q' : G b = if b = D then none else C.G0 b := q
    rw [if_neg hb] at q'
    exact q'
  · have q : upd C.H0 D o p.1 ≠ none := R.tb0 p hp
    rwa [upd_ne fun z => nm (.inr (List.mem_map.mpr ⟨p, hp, z⟩))] at q
  · have q := R.gr D o (show upd C.H0 D o D = some o from upd_same)
    have q' : G D = if D = D then none else C.G0 D := q
    rw [if_pos rfl] at q'
    exact q'
  · obtain ⟨v, h1, a, vs, rfl, ha, hd, hga, h0a⟩ := R.slot i _ h
    rw [h1] at e
    cases e
    have h0a : upd C.H0 D o D = none := h0a
    rw [upd_same] at h0a
    cases h0a
def wipeE (env : Ev) : List Nat → Ev
  | [] => env
  | v :: vs => (wipeE env vs).set v none
theorem wipeE_length (env : Ev) : ∀ vs : List Nat, (wipeE env vs).length = env.length
  | [] => rfl
  | v :: vs => by unfold wipeE; rw [List.length_set, wipeE_length env vs]
theorem wipeE_some {env : Ev} {i : Nat} {x : SD} : ∀ {vs : List Nat}, (wipeE env vs)[i]? = some (some x) → env[i]? = some (some x) ∧ i ∉ vs
  | [], h => ⟨h, by simp⟩
  | v :: vs, h => by
    unfold wipeE at h
    by_cases hi : v = i
    · subst hi
      by_cases hv : v < (wipeE env vs).length
      · rw [List.getElem?_set_self hv] at h; cases h
      · rw [List.getElem?_eq_none (by simpa using hv)] at h; cases h
    · rw [List.getElem?_set_ne hi] at h
      obtain ⟨h1, h2⟩ := wipeE_some h
      exact ⟨h1, by simp only [List.mem_cons, not_or]; exact ⟨fun e => hi e.symm, h2⟩⟩
theorem wipe_get {σ : L2.St} {i : Nat} : ∀ {vs : List Nat}, i ∉ vs → (wipe σ vs)[i]? = σ[i]?
  | [], _ => rfl
  | v :: vs, h => by
    simp only [List.mem_cons, not_or] at h
    unfold wipe
    rw [List.getElem?_set_ne (Ne.symm h.1)]
    exact wipe_get h.2
/-- .. behind the comprehension its names are what they were (own lists: forgotten) -/
def keepS : Option (Option SD) → Option SD
  | some (some (.d x)) => some (.d x)
  | some (some .st) => some .st
  | _ => none
def rst (env0 env : Ev) : List Nat → Ev
  | [] => env
  | v :: vs => (rst env0 env vs).set v (keepS env0[v]?)
theorem rst_length (env0 env : Ev) : ∀ vs : List Nat, (rst env0 env vs).length = env.length
  | [] => rfl
  | v :: vs => by unfold rst; rw [List.length_set, rst_length env0 env vs]
theorem rst_in {env0 env : Ev} {i : Nat} {x : SD} : ∀ {vs : List Nat}, i ∈ vs → (rst env0 env vs)[i]? = some (some x) → env0[i]? = some (some x) ∧ (∀ xs, x ≠ .own xs) ∧ (∀ xs, x ≠ .dic xs) ∧ (∀ xs, x ≠ .od xs)
  | [], h, _ => by simp at h
  | v :: vs, h, e => by
    unfold rst at e
    by_cases hi : v = i
    · subst hi
      have hv : v < (rst env0 env vs).length := by
        have := (List.getElem?_eq_some_iff.mp e).1
        rwa [List.length_set] at this
      rw [List.getElem?_set_self hv] at e
      unfold keepS at e
      split at e
      · cases e; exact ⟨by assumption, (fun _ z => by cases z), (fun _ z => by cases z), (fun _ z => by cases z)⟩
      · cases e; exact ⟨by assumption, (fun _ z => by cases z), (fun _ z => by cases z), (fun _ z => by cases z)⟩
      · cases e
    · rw [List.getElem?_set_ne hi] at e
      have hm : i ∈ vs := by
        rcases List.mem_cons.mp h with z | z
        · exact absurd z.symm hi
        · exact z
      exact rst_in hm e
theorem rst_out {env0 env : Ev} {i : Nat} : ∀ {vs : List Nat}, i ∉ vs → (rst env0 env vs)[i]? = env[i]?
  | [], _ => rfl
  | v :: vs, h => by
    simp only [List.mem_cons, not_or] at h
    unfold rst
    rw [List.getElem?_set_ne (Ne.symm h.1)]
    exact rst_out h.2
theorem Rel.wiped {K : PySem.W.Frag} {C : Ct} {env : Ev} {w : W} {σ : L2.St} {G H : Hp} (R : Rel K C env w σ G H) (vs : List Nat) : Rel K C (wipeE env vs) w (wipe σ vs) G H where
  sub := R.sub
  len := by rw [wipeE_length, wipe_length]; exact R.len
  slot := fun i sd h => by
    obtain ⟨h1, hn⟩ := wipeE_some h
    obtain ⟨v, h2, h3⟩ := R.slot i sd h1
    exact ⟨v, by rw [wipe_get hn]; exact h2, h3⟩
  sep := fun i j xs ys a e1 e2 s1 s2 => by
    obtain ⟨h1, n1⟩ := wipeE_some e1
    obtain ⟨h2, n2⟩ := wipeE_some e2
    rw [wipe_get n1] at s1
    rw [wipe_get n2] at s2
    exact R.sep i j xs ys a h1 h2 s1 s2
  st := R.st
  st0 := R.st0
  fr := R.fr
  gr := R.gr
  tb := R.tb
  tb0 := R.tb0
theorem Rel.unwiped {K : PySem.W.Frag} {C : Ct} {env0 env : Ev} {w0 w : W} {σ : L2.St} {G0 H0 G H : Hp} {vs : List Nat} (R0 : Rel K C env0 w0 σ G0 H0) (R : Rel K C env w (wipe σ vs) G H) (s : Same G0 G) (hw : w.isSome = w0.isSome) :
    Rel K C (rst env0 env vs) w σ G H where
  sub := R.sub
  len := by rw [rst_length, R.len, wipe_length]
  slot := fun i sd h => by
    by_cases hi : i ∈ vs
    · obtain ⟨h1, hn, hn2, hn3⟩ := rst_in hi h
      obtain ⟨v, h2, h3⟩ := R0.slot i sd h1
      refine ⟨v, h2, ?_⟩
      cases sd with
      | d x => exact dp_mono s h3
      | dic kvs => exact absurd rfl (hn2 kvs)
      | own xs => exact absurd rfl (hn xs)
      | st => exact ⟨by rw [hw]; exact h3.1, h3.2⟩
      | l x => exact Dl.mono s h3
      | ex b d p => exact ExOk.mono h3 s hw
      | od kvs => exact absurd rfl (hn3 kvs)
      | scr n =>
        obtain ⟨a, xs, h4, h5, h6⟩ := h3
        refine ⟨a, xs, h4, h5, ?_⟩
        rcases h6 with ⟨o, h6, h7⟩ | h6
        · exact .inl ⟨o, h6, fun z => h7 (z.w hw.symm)⟩
        · exact .inr h6
    · rw [rst_out hi] at h
      obtain ⟨v, h2, h3⟩ := R.slot i sd h
      rw [wipe_get hi] at h2
      exact ⟨v, h2, h3⟩
  sep := fun i j xs ys a e1 e2 s1 s2 => by
    have no : ∀ (l : Nat) (zs : List PyData), (rst env0 env vs)[l]? = some (some (.own zs)) → l ∉ vs := fun l zs e hl => (rst_in hl e).2.1 zs rfl
    have n1 := no i xs e1
    have n2 := no j ys e2
    rw [rst_out n1] at e1
    rw [rst_out n2] at e2
    exact R.sep i j xs ys a e1 e2 (by rw [wipe_get n1]; exact s1) (by rw [wipe_get n2]; exact s2)
  st := R.st
  st0 := R.st0
  fr := R.fr
  gr := R.gr
  tb := R.tb
  tb0 := R.tb0
def mYes : Tx := fun env w => some (true, env, w)
theorem tT_yes {K : PySem.W.Frag} {σ : L2.St} {H : Hp} {Q : Bool → Hp → Prop} (h : tT K mYes σ H Q) : tYes σ H Q := by
  obtain ⟨C, G, env, w, r, env', w', R, hm, k⟩ := h
  cases hm
  exact k G H R (Same.refl G) rfl
abbrev DTs (X : Cx) (es : List Expr) (m : Tx) : Prop := PTs X es (tT X.K m)
theorem dts_nil {X : Cx} : DTs X [] mYes := ⟨fun pins s σ H Q I h => pts_nil.run pins s σ H Q I (tT_yes h)⟩
theorem dts_one {X : Cx} {e : Expr} {m : Tx} (h : DT X e m) : DTs X [e] m := pts_one h
def lcLoop (g : Gx) (tt : Tx) (me : Ex) (vs : List Nat) : List PyData → List PyData → Ev → W → Option (List PyData × Ev × W)
  | [], acc, env, w => some (acc, env, w)
  | d :: ds, acc, env, w => match g d env with
    | some e1 => (match tt e1 w with
      | some (true, e2, w2) => (match me e2 w2 with
        | some (.d y, e3, w3) => lcLoop g tt me vs ds (acc ++ [y]) (wipeE e3 vs) w3
        | _ => none)
      | some (false, e2, w2) => lcLoop g tt me vs ds acc (wipeE e2 vs) w2
      | none => none)
    | none => none
def mLc (mi : Lx) (g : Gx) (tt : Tx) (me : Ex) (vs : List Nat) : Lx := fun env w => match mi env w with
  | some (ds, e1, w1) => (match lcLoop g tt me vs ds [] (wipeE e1 vs) w1 with
    | some (ys, e2, w2) => some (ys, rst e1 e2 vs, w2)
    | none => none)
  | none => none
theorem wipe_idem {σ : L2.St} : ∀ {vs : List Nat}, wipe (wipe σ vs) vs = wipe σ vs := by
  intro vs
  apply List.ext_getElem?
  intro i
  by_cases hi : i ∈ vs
  · have : ∀ (τ : L2.St) (us : List Nat), i ∈ us → (wipe τ us)[i]? = if i < τ.length then some none else none := by
      intro τ us
      induction us with
      | nil => intro h; simp at h
      | cons u us ih =>
        intro h
        unfold wipe
        by_cases hu : u = i
        · subst hu
          rw [List.getElem?_set]
          simp [wipe_length]
        · rw [List.getElem?_set_ne hu]
          apply ih
          rcases List.mem_cons.mp h with z | z
          · exact absurd z.symm hu
          · exact z
    rw [this _ _ hi, this _ _ hi, wipe_length]
  · rw [wipe_get hi]
theorem lc_O {K : PySem.W.Frag} {mi : Lx} {g : Gx} {tt : Tx} {me : Ex} {vs : List Nat} {σ : L2.St} {H : Hp} {Q : VK} (h : tO K (mLc mi g tt me vs) σ H Q) : tLc (iD K mi) (gD K vs g) (tT K tt) (tD K me) vs σ H Q := by
  obtain ⟨C, G, env, w, r, env', w', R, hm, k⟩ := h
  unfold mLc at hm
  split at hm
  · rename_i ds e1 w1 h1
    split at hm
    · rename_i ys e2 w2 h2
      cases hm
      refine ⟨C, G, env, w, _, _, _, R, h1, fun J G1 H1 R1 s1 i1 it D hD => ?_⟩
      have h0 : C.H0 D = none := R1.none0 hD
      have nmt : ¬ Mt C.ad w1 D := R1.not_Mt h0
      refine ⟨fun i m H2 => m = ds.length - i ∧ i ≤ ds.length ∧ ∃ G2 env2 w2 acc vacc, Rel K C env2 w2 (wipe σ vs) G2 H2 ∧ H2 D = some (.lst vacc) ∧ DqA K G2 vacc acc ∧ G2 D = none ∧ NoOwn env2 (wipe σ vs) D ∧ Same G1 G2 ∧ w2.isSome = w1.isSome ∧ acc.length ≤ i ∧
        lcLoop g tt me vs (ds.drop i) acc env2 w2 = some (r, e2, w'), ⟨ds.length, by simp, Nat.zero_le _, G1, wipeE e1 vs, w1, [], [], ?_⟩, ?_⟩
      · obtain ⟨R2, q1, q2, q3, q4⟩ := new_O (vs := []) (R1.wiped vs) hD
        exact ⟨R2, q1, .nil, q2, q4, Same.refl G1, rfl, by simp, by simpa using h2⟩
      · rintro i m H2 ⟨rfl, hi, G2, env2, w2', acc, vacc, R2, hD2, dA, gD2, no2, s2, i2, ha, hl⟩
        have hz := it.small
        by_cases hlt : i < ds.length
        · refine .inr ⟨it.go i G2 H2 hlt s2 R2.sub, fun H3 => ∃ G2 env2 w2 acc vacc, Rel K C env2 w2 (wipe σ vs) G2 H3 ∧ H3 D = some (.lst vacc) ∧ DqA K G2 vacc acc ∧ G2 D = none ∧ NoOwn env2 (wipe σ vs) D ∧ Same G1 G2 ∧ w2.isSome = w1.isSome ∧ acc.length ≤ i + 1 ∧
            lcLoop g tt me vs (ds.drop (i + 1)) acc env2 w2 = some (r, e2, w'), fun H' q => ⟨ds.length - (i + 1), by omega, rfl, hlt, q⟩, fun x H' y => ?_⟩
          obtain ⟨d, G3, hd, ex, dp⟩ := it.yld i G2 H2 x H' hlt s2 R2.sub y
          have hdrop : ds.drop i = d :: ds.drop (i + 1) := by
            rw [List.drop_eq_getElem_cons hlt]
            rw [List.getElem?_eq_getElem hlt] at hd
            cases hd
            rfl
          rw [hdrop] at hl
          simp only [lcLoop] at hl
          have R3 := R2.ext ex
          have hD3 : H' D = some (.lst vacc) := ex.hh _ _ hD2
          have gD3 : G3 D = none := (ex.old _ _ hD2).trans gD2
          have R3g := R3.grd (o := .lst vacc) hD3 gD3 h0 no2
          have no : ∀ ob u, HO.lst vacc ≠ .frz ob u := fun _ _ z => by cases z
          split at hl
          · rename_i e3 h3
            refine ⟨C.grd D (.lst vacc), G3, env2, w2', d, e3, R3g, dp, h3, fun σ4 R4 q4 => ⟨q4.trans wipe_idem, ?_⟩⟩
            have back : ∀ {env5 : Ev} {w5 : W} {G5 H5 : Hp}, Rel K (C.grd D (.lst vacc)) env5 w5 σ4 G5 H5 → w5.isSome = w2'.isSome → Rel K C (wipeE env5 vs) w5 (wipe σ vs) G5 H5 ∧ H5 D = some (.lst vacc) ∧ G5 D = none ∧ NoOwn (wipeE env5 vs) (wipe σ vs) D := fun {env5 w5 G5 H5} R5 i5 => by
              have i51 : w5.isSome = w1.isSome := i5.trans i2
              obtain ⟨R6, p1, p2, p3⟩ := R5.ungrd h0 no (fun z => nmt (z.w i51.symm)) (fun z => R1.st0 (by rw [← i51]; exact z))
              have e4 : wipe σ4 vs = wipe σ vs := q4.trans wipe_idem
              have R7 := R6.wiped vs
              rw [e4] at R7
              refine ⟨R7, p1, p2, fun j ys ej sj => ?_⟩
              obtain ⟨z1, z2⟩ := wipeE_some ej
              rw [← e4, wipe_get z2] at sj
              exact p3 j ys z1 sj
            split at hl
            · rename_i e5 w5 h5
              split at hl
              · rename_i y5 e6 w6 h6
                refine ⟨C.grd D (.lst vacc), G3, e3, w2', _, _, _, R4, h5, fun G5 H5 R5 s5 i5 => ?_⟩
                refine iteT ⟨C.grd D (.lst vacc), G5, e5, w5, _, _, _, R5, h6, fun v G6 H6 R6 s6 i6 a6 => ?_⟩
                obtain ⟨R7, p1, p2, p3⟩ := back R6 (i6.trans i5)
                have hlen := dpA_len dA
                refine ⟨vacc, p1, by omega, G6, wipeE e6 vs, w6, acc ++ [y5], vacc ++ [v], ?_, upd_same, dpA_app (dpA_mono (ex.gg.trans (s5.trans s6)) dA) (.cons a6 .nil), p2, p3, s2.trans (ex.gg.trans (s5.trans s6)), i6.trans (i5.trans i2), by simp; omega, hl⟩
                -- the list at D has grown
                have hz6 : C.H0 D = none := h0
                refine ⟨fun b o e => ?_, R7.len, fun j sd e => ?_, R7.sep, fun s e => ?_, R7.st0, fun b o e m => ?_, R7.gr, R7.tb.hset p1, R7.tb0⟩
                · rw [upd_ne]
                  · exact R7.sub b o e
                  · rintro rfl
                    rw [p2] at e; cases e
                · obtain ⟨v', z1, z2⟩ := R7.slot j sd e
                  refine ⟨v', z1, ?_⟩
                  cases sd with
                  | d x => exact z2
                  | own zs =>
                    obtain ⟨b, ws, rfl, hb, hd', hg', h0'⟩ := z2
                    refine ⟨b, ws, rfl, ?_, hd', hg', h0'⟩
                    rw [upd_ne]
                    · exact hb
                    · rintro rfl
                      exact p3 j zs e z1
                  | st => exact z2
                  | dic kvs => exact z2
                  | scr n => exact z2
                  | l x => exact z2
                  | ex b d p => exact z2
                  | od kvs =>
                    obtain ⟨b, ws, rfl, hb, hd', hg', h0'⟩ := z2
                    refine ⟨b, ws, rfl, ?_, hd', hg', h0'⟩
                    rw [upd_ne]
                    · exact hb
                    · rintro rfl
                      rw [p1] at hb; cases hb
                · have q := R7.st s e
                  have ne := R7.own_ne hz6 (by rw [e]; rfl)
                  exact ⟨by rw [upd_ne ne.1.symm]; exact q.sa, by rw [upd_ne ne.2.1.symm]; exact q.la, by rw [upd_ne ne.2.2.symm]; exact q.ca, q.gs, q.gl, q.gc, q.ne, q.tk⟩
                · rw [upd_ne]
                  · exact R7.fr b o e m
                  · rintro rfl
                    rw [hz6] at e; cases e
              · cases hl
            · rename_i e5 w5 h5
              refine ⟨C.grd D (.lst vacc), G3, e3, w2', _, _, _, R4, h5, fun G5 H5 R5 s5 i5 => iteF ?_⟩
              obtain ⟨R7, p1, p2, p3⟩ := back R5 i5
              exact ⟨G5, wipeE e5 vs, w5, acc, vacc, R7, p1, dpA_mono (ex.gg.trans s5) dA, p2, p3, s2.trans (ex.gg.trans s5), i5.trans i2, by omega, hl⟩
            · cases hl
          · cases hl
        · have e : i = ds.length := by omega
          refine .inl ⟨it.stop i G2 H2 e s2 R2.sub, ?_⟩
          rw [e, List.drop_length] at hl
          cases hl
          refine k D vacc G2 H2 (R1.unwiped R2 s2 i2) (s1.trans s2) (i2.trans i1) hD2 dA gD2 h0 fun j ys ej sj => ?_
          have nj : j ∉ vs := fun z => (rst_in z ej).2.1 ys rfl
          rw [rst_out nj] at ej
          exact no2 j ys ej (by rw [wipe_get nj]; exact sj)
    · cases hm
  · cases hm
theorem do_lc {X : Cx} {e : Expr} {mi : Lx} {g : Gx} {tt : Tx} {me : Ex} {vs : List Nat} (h : PE X e (tLc (iD X.K mi) (gD X.K vs g) (tT X.K tt) (tD X.K me) vs)) : DO X e (mLc mi g tt me vs) := PE.weak h fun _ _ _ h => lc_O h
theorem ds_setLc {X : Cx} {s : Stmt} {i : Nat} {mi : Lx} {g : Gx} {tt : Tx} {me : Ex} {vs : List Nat} (h : PS X s (tAsg (tLc (iD X.K mi) (gD X.K vs g) (tT X.K tt) (tD X.K me) vs) (gName i))) : DSt X s (mSet i (mFz (mLc mi g tt me vs))) :=
  ds_set (PS.weak h fun _ _ _ q => lc_O (do_fz q))

def mPar (i j : Nat) (ma mb : Ex) : Sx := fun env w => match mCons ma (mCons mb mNil) env w with
  | some ([r1, r2], e1, w1) => some (.nx, (e1.set i (some r1)).set j (some r2), w1)
  | _ => none
theorem ds_par {X : Cx} {s : Stmt} {i j : Nat} {ma mb : Ex} (h : PS X s (tPar i j (tA X.K (mCons ma (mCons mb mNil))))) : DSt X s (mPar i j ma mb) := PS.weak h fun D σ H ⟨C, G, env, w, fl, env', w', R, hm, k⟩ => by
  unfold mPar at hm
  split at hm
  · rename_i r1 r2 e1 w1 h1
    cases hm
    refine ⟨C, G, env, w, _, _, _, R, h1, fun vs G1 H1 R1 s1 i1 a1 => ?_⟩
    cases a1 with
    | cons a1 b1 =>
      cases b1 with
      | cons a2 b2 =>
        cases b2
        exact ⟨_, _, rfl, k _ G1 H1 ((R1.set a1 i).set a2 j) s1 i1⟩
  · cases hm
def mPar3 (i j l : Nat) (ma mb mc : Ex) : Sx := fun env w => match mCons ma (mCons mb (mCons mc mNil)) env w with
  | some ([r1, r2, r3], e1, w1) => some (.nx, ((e1.set i (some r1)).set j (some r2)).set l (some r3), w1)
  | _ => none
theorem ds_par3 {X : Cx} {s : Stmt} {i j l : Nat} {ma mb mc : Ex} (h : PS X s (tPar3 i j l (tA X.K (mCons ma (mCons mb (mCons mc mNil)))))) : DSt X s (mPar3 i j l ma mb mc) := PS.weak h fun D σ H ⟨C, G, env, w, fl, env', w', R, hm, k⟩ => by
  unfold mPar3 at hm
  split at hm
  · rename_i r1 r2 r3 e1 w1 h1
    cases hm
    refine ⟨C, G, env, w, _, _, _, R, h1, fun vs G1 H1 R1 s1 i1 a1 => ?_⟩
    cases a1 with
    | cons a1 b1 =>
      cases b1 with
      | cons a2 b2 =>
        cases b2 with
        | cons a3 b3 =>
          cases b3
          exact ⟨_, _, _, rfl, k _ G1 H1 (((R1.set a1 i).set a2 j).set a3 l) s1 i1⟩
  · cases hm
/-- xs, b = [..], y: the first an own list -/
def mParO (i j : Nat) (ma : Lx) (mb : Ex) : Sx := fun env w => match ma env w with
  | some (xs, e1, w1) => (match mb e1 w1 with
    | some (r, e2, w2) => some (.nx, (e2.set i (some (.own xs))).set j (some r), w2)
    | none => none)
  | none => none
theorem ds_parO {X : Cx} {s : Stmt} {i j : Nat} {ma : Lx} {mb : Ex} (h : PS X s (tPar i j (tCons (tO X.K ma) (tCons (tD X.K mb) tNil)))) : DSt X s (mParO i j ma mb) := PS.weak h fun D σ H ⟨C, G, env, w, fl, env', w', R, hm, k⟩ => by
  unfold mParO at hm
  split at hm
  · rename_i xs e1 w1 h1
    split at hm
    · rename_i r e2 w2 h2
      cases hm
      refine ⟨C, G, env, w, _, _, _, R, h1, fun a vs G1 H1 R1 s1 i1 ha hd hg h0 hne => ?_⟩
      have no : ∀ ob u, HO.lst vs ≠ .frz ob u := fun _ _ z => by cases z
      refine ⟨C.grd a (.lst vs), G1, e1, w1, _, _, _, R1.grd ha hg h0 hne, h2, fun v G2 H2 R2 s2 i2 a2 => ?_⟩
      obtain ⟨R3, p1, p2, p3⟩ := R2.ungrd h0 no (fun z => R1.not_Mt h0 (z.w i2.symm)) (fun z => R1.st0 (by rw [← i2]; exact z))
      refine ⟨_, _, rfl, k _ G2 H2 ((R3.setO p1 (dpA_mono s2 hd) p2 h0 p3 i).set ?_ j) (s1.trans s2) (i2.trans i1)⟩
      exact a2
    · cases hm
  · cases hm
/-- x op= e -/
def mAug (g : PyData → PyData → Option PyData) (i : Nat) (m : Ex) : Sx := fun env w => match env[i]? with
  | some (some (.d x)) => seqE m (fun y e1 w1 => match g x y with
    | some z => some (.nx, e1.set i (some (.d z)), w1)
    | none => none) env w
  | _ => none
theorem ds_aug {X : Cx} {s : Stmt} {i : Nat} {m : Ex} {op : Operator} {g : PyData → PyData → Option PyData} (ho : OpD X (inplaceOp op) g) (h : PS X s (tAug i (tD X.K m) (rSem X (inplaceOp op)))) : DSt X s (mAug g i m) := PS.weak h fun D σ H ⟨C, G, env, w, fl, env', w', R, hm, k⟩ => by
  unfold mAug at hm
  split at hm
  · rename_i x h0
    obtain ⟨y, e1, w1, h1, hm⟩ := seqE_inv hm
    split at hm
    · rename_i z h2
      cases hm
      obtain ⟨v, q1, q2⟩ := R.slot i _ h0
      refine ⟨v, q1, C, G, env, w, _, _, _, R, h1, fun u G1 H1 R1 s1 i1 a1 => ?_⟩
      intro pins s σ' vv uu I rx ry
      exact ho pins s σ' G1 H1 v u vv uu x y z _ I rx ry R1.sub (dp_mono s1 q2) a1 h2 fun zz G' H' e dz => k _ G' H' ((R1.ext e).set (r := .d z) dz i) (s1.trans e.gg) i1
    · cases hm
  · cases hm
theorem oi_addI {X : Cx} : OpD X (inplaceOp .Add) addI := opD_int0 iop_add fun _ _ _ => .int _
theorem oi_sub {X : Cx} : OpD X (inplaceOp .Sub) subI := opD_int0 iop_sub fun _ _ _ => .int _
theorem oi_addS {X : Cx} : OpD X (inplaceOp .Add) addS := opD_of iop_add_str fun G H x y dx dy dz Q sg hx hy hz k => by
  unfold addS at hz
  split at hz
  · split at hz
    · rename_i hl
      cases hz
      cases hx
      cases hy
      exact ⟨_, _, rfl, rfl, hl, k _ G H (Ext.refl sg) (.str _)⟩
    · cases hz
  · cases hz
end Dn

set_option maxHeartbeats 4000000
namespace Dn
open PySem PySem.Spec PyProof.Rows L2

def MtD (X : Cx) (id : String) (g : PyData → List PyData → Option PyData) : Prop :=
  ∀ (pins : List (Addr × Obj)) (s : Shared) (σ : L2.St) (G H : Hp) (x : V) (v : Value) (xs : List V) (us : List Value) (dx : PyData) (ds : List PyData) (dz : PyData) (Q : VK), Inv X pins σ H s → RelV x v → Vals xs us → Same G H → Dq X.K G x dx → DqA X.K G xs ds → g dx ds = some dz →
    (∀ z G' H', Ext G H G' H' → Dq X.K G' z dz → Q z H') → wpAny (model X.prog X.w) X.A (call (.builtin id) (v :: us)) (EP X pins σ Q) X.xe s
def rSemM (X : Cx) (id : String) : V → List V → Hp → VK → Prop := fun x xs H Q => ∀ (pins : List (Addr × Obj)) (s : Shared) (σ : L2.St) (v : Value) (us : List Value), Inv X pins σ H s → RelV x v → Vals xs us → wpAny (model X.prog X.w) X.A (call (.builtin id) (v :: us)) (EP X pins σ Q) X.xe s
theorem mt_sem {X : Cx} {id : String} : MtR X id (rSemM X id) := fun pins s σ H x xs v us Q I rx r h => h pins s σ v us I rx r
theorem mtD_of {X : Cx} {id : String} {g : PyData → List PyData → Option PyData} {r : V → List V → Hp → VK → Prop} (h : MtR X id r)
    (k : ∀ (G H : Hp) (x : V) (xs : List V) (dx : PyData) (ds : List PyData) (dz : PyData) (Q : VK), Same G H → Dq X.K G x dx → DqA X.K G xs ds → g dx ds = some dz → (∀ z G' H', Ext G H G' H' → Dq X.K G' z dz → Q z H') → r x xs H Q) : MtD X id g :=
  fun pins s σ G H x v xs us dx ds dz Q I rx r sg hx hs hg q => h pins s σ H x xs v us Q I rx r (k G H x xs dx ds dz Q sg hx hs hg q)
/-- a text's method -/
def mMtS (g : PyData → List PyData → Option PyData) (mo : Ex) (ms : Ax) : Ex := seqE mo fun x env w => match x with
  | .str _ => argsD ms (fun ds => optE (g x ds)) env w
  | _ => none
theorem mtS_run {X : Cx} {id : String} {g : PyData → List PyData → Option PyData} {mo : Ex} {ms : Ax} (hc : MtD X id g) {σ : L2.St} {H : Hp} {Q : VK} (h : tD X.K (mMtS g mo ms) σ H Q) : tBM X.K "str" (rSemM X id) (tD X.K mo) (tA X.K ms) σ H Q := by
  obtain ⟨C, G, env, w, r, env', w', R, hm, k⟩ := h
  obtain ⟨x, e1, w1, h1, hm⟩ := seqE_inv hm
  split at hm
  · obtain ⟨rs, ds, e2, w2, h2, h3, hm⟩ := argsD_inv hm
    obtain ⟨z, h4, rfl, rfl, rfl⟩ := optE_inv hm
    refine ⟨C, G, env, w, _, _, _, R, h1, fun v G1 H1 R1 s1 i1 a1 => ?_⟩
    cases a1 with
    | str =>
      refine ⟨rfl, C, G1, e1, w1, _, _, _, R1, h2, fun vs G2 H2 R2 s2 i2 a2 => ?_⟩
      intro pins s σ' v us I rx r
      exact hc pins s σ' G2 H2 _ v vs us _ ds z Q I rx r R2.sub (.str _) (dsOf_ok a2 h3) h4 fun zz G' H' e dz => k zz G' H' (R2.ext e) (s1.trans (s2.trans e.gg)) (i2.trans i1) dz
  · cases hm
section
variable {X : Cx} {o e : Expr} {es : List Expr} {mo : Ex} {ms : Ax} {name : Str} {apos cpos : Pos} {id : String} {g : PyData → List PyData → Option PyData}
theorem de_mtS (slot : Slot "str" name id) (hty : typeOf (.builtin id) = pure (.type "method_descriptor")) (hm : MtD X id g) (ho : DE X o mo) (ha : DA X (e :: es) ms)
    (hbase : attributeBase o name X.env (eval o X.env) = eval o X.env := by rfl)
    (hfew : ((backTo cpos (starEach (e :: es) X.env)).all (fun x => !x.1) && (backToKw cpos (keywordEach [] X.env)).all (fun x => x.1.isSome)
      && decide ((e :: es).length + ([] : List Keyword).length + (if ([] : List Keyword).isEmpty then 0 else 1) < 30)) = true := by rfl)
    (hline : (apos.endLine == cpos.line) = true := by rfl) (hs : starEach (e :: es) X.env = (false, eval e X.env) :: starEach es X.env := by rfl) (hplain : (backTo cpos (starEach es X.env)).any (·.1) = false := by rfl) :
    DE X (.Call (.Attribute o name apos) (e :: es) [] cpos) (mMtS g mo ms) := PE.weak (pe_bm PySem.F.plainAttrs_str slot hty mt_sem ho ha hbase hfew hline hs hplain) fun _ _ _ h => mtS_run hm h
def starts2D : PyData → List PyData → Option PyData
  | .str a, [.str b, .int i] => some (.bool (Txt.startswith3 a b i))
  | _, _ => none
theorem md_starts2 : MtD X "str.startswith" starts2D := mtD_of mt_startswith3 fun G H x xs dx ds dz Q sg hx hs hg k => by
  unfold starts2D at hg
  split at hg
  · cases hg
    obtain ⟨v, u, rfl, h, h'⟩ := dqA2 hs
    cases hx; cases h; cases h'
    exact ⟨_, _, _, rfl, rfl, k _ G H (Ext.refl sg) (.bl _)⟩
  · cases hg
/-- texts out of data -/
def strsOf : List PyData → Option (List Str)
  | [] => some []
  | .str x :: r => (strsOf r).map (x :: ·)
  | _ :: _ => none
theorem strsOf_ok {K : PySem.W.Frag} {G : Hp} : ∀ {vs : List V} {ds : List PyData} {ys : List Str}, DqA K G vs ds → strsOf ds = some ys → vs = ys.map V.str
  | _, _, _, .nil, h => by cases h; rfl
  | _, .str x :: r, ys, .cons a b, h => by
    simp only [strsOf] at h
    cases e : strsOf r with
    | none => rw [e] at h; cases h
    | some zs =>
      rw [e] at h
      cases h
      cases a
      rw [strsOf_ok b e]
      rfl
  | _, .none :: _, _, .cons _ _, h => by cases h
  | _, .bool _ :: _, _, .cons _ _, h => by cases h
  | _, .int _ :: _, _, .cons _ _, h => by cases h
  | _, .list _ :: _, _, .cons _ _, h => by cases h
  | _, .tuple _ :: _, _, .cons _ _, h => by cases h
  | _, .dict _ :: _, _, .cons _ _, h => by cases h
def joinFits (a : Str) (ys : List Str) : Bool := decide ((ys.map (·.length)).sum + ys.length * a.length ≤ 16777216)
def joinD : PyData → List PyData → Option PyData
  | .str a, [x] => (match itemsD x with
    | some ds => (match strsOf ds with
      | some ys => if joinFits a ys then some (.str (Txt.join a ys)) else none
      | none => none)
    | none => none)
  | _, _ => none
theorem md_join : MtD X "str.join" joinD := mtD_of mt_join fun G H x xs dx ds dz Q sg hx hs hg k => by
  unfold joinD at hg
  split at hg
  · split at hg
    · rename_i es h1
      split at hg
      · rename_i ys h2
        split at hg
        · rename_i h3
          cases hg
          obtain ⟨v, rfl, h⟩ := dqA1 hs
          cases hx
          have hz := of_decide_eq_true h3
          cases h with
          | lst q a =>
            cases h1
            have e := strsOf_ok a h2
            subst e
            exact ⟨_, _, ys, rfl, rfl, .inl (SqL.of (sg _ _ q)), hz, k _ G H (Ext.refl sg) (.str _)⟩
          | tup q a =>
            cases h1
            have e := strsOf_ok a h2
            subst e
            exact ⟨_, _, ys, rfl, rfl, .inr (Same.sqT sg q), hz, k _ G H (Ext.refl sg) (.str _)⟩
          | _ => cases h1
        · cases hg
      · cases hg
    · cases hg
  · cases hg
def splitD : PyData → List PyData → Option PyData
  | .str a, [.str b] => if (b.length == 0) = false ∧ a.length + 2 ≤ sizeLine then some (.list ((Txt.split a b).map .str)) else none
  | _, _ => none
theorem md_split : MtD X "str.split" splitD := mtD_of mt_split fun G H x xs dx ds dz Q sg hx hs hg k => by
  unfold splitD at hg
  split at hg
  · split at hg
    · rename_i hl
      cases hg
      obtain ⟨v, rfl, h⟩ := dqA1 hs
      cases hx; cases h
      refine ⟨_, _, rfl, rfl, hl.1, hl.2, fun p hp => ?_⟩
      obtain ⟨ex, dq⟩ := ext_lst (K := X.K) sg hp (dpA_strs _)
      exact k _ _ _ ex dq
    · cases hg
  · cases hg
def partD : PyData → List PyData → Option PyData
  | .str a, [.str b] => if (b.length == 0) = false ∧ a.length ≤ sizeLine then some (.tuple [.str (Txt.partition a b).1, .str (Txt.partition a b).2.1, .str (Txt.partition a b).2.2]) else none
  | _, _ => none
theorem md_part : MtD X "str.partition" partD := mtD_of mt_partition fun G H x xs dx ds dz Q sg hx hs hg k => by
  unfold partD at hg
  split at hg
  · split at hg
    · rename_i hl
      cases hg
      obtain ⟨v, rfl, h⟩ := dqA1 hs
      cases hx; cases h
      refine ⟨_, _, rfl, rfl, hl.1, hl.2, fun p hp => ?_⟩
      obtain ⟨ex, dq⟩ := ext_tup (K := X.K) sg hp (DqA.cons (Dq.str (Txt.partition _ _).1) (.cons (.str (Txt.partition _ _).2.1) (.cons (.str (Txt.partition _ _).2.2) .nil)))
      exact k _ _ _ ex dq
    · cases hg
  · cases hg
def rpart (a b : Str) : Str × Str × Str := match Builtin.Str.lastOccurrence a b 0 a.length with
  | some i => (Builtin.Str.strSub a 0 i, b, Builtin.Str.strSub a (i + b.length) a.length)
  | none => (Str.empty, Str.empty, a)
def rpartD : PyData → List PyData → Option PyData
  | .str a, [.str b] => if (b.length == 0) = false ∧ a.length ≤ sizeLine then some (.tuple [.str (rpart a b).1, .str (rpart a b).2.1, .str (rpart a b).2.2]) else none
  | _, _ => none
theorem mt_rpartition : MtR X "str.rpartition" (fun x xs H Q => ∃ a b, x = .str a ∧ xs = [.str b] ∧ (b.length == 0) = false ∧ a.length ≤ sizeLine ∧
    ∀ p, H p = none → Q (.ref p) (upd H p (.tup [.str (rpart a b).1, .str (rpart a b).2.1, .str (rpart a b).2.2]))) := by
  intro pins s σ H x xs v us Q I rx rs h
  obtain ⟨a, b, rfl, rfl, hb, hz, h⟩ := h
  obtain ⟨t, rfl⟩ := rx
  cases rs with
  | cons r1 rs =>
    cases rs
    obtain ⟨u, rfl⟩ := r1
    refine call_meets F.slot_str_rpartition (typeIs_str _ _ _) F.entry_str_rpartition (F.args_str_rpartition_2 _ _) (meets_str_rpartition a b t u hb hz) ?_
    unfold rpart at h
    revert h
    cases Builtin.Str.lastOccurrence a b 0 a.length with
    | none => intro h; exact laid_parts I h
    | some i => intro h; exact laid_parts I h
theorem md_rpart : MtD X "str.rpartition" rpartD := mtD_of mt_rpartition fun G H x xs dx ds dz Q sg hx hs hg k => by
  unfold rpartD at hg
  split at hg
  · split at hg
    · rename_i hl
      cases hg
      obtain ⟨v, rfl, h⟩ := dqA1 hs
      cases hx; cases h
      refine ⟨_, _, rfl, rfl, hl.1, hl.2, fun p hp => ?_⟩
      obtain ⟨ex, dq⟩ := ext_tup (K := X.K) sg hp (DqA.cons (Dq.str (rpart _ _).1) (.cons (.str (rpart _ _).2.1) (.cons (.str (rpart _ _).2.2) .nil)))
      exact k _ _ _ ex dq
    · cases hg
  · cases hg
end

def idxOf (z : Str) : List Str → Nat → Option Nat
  | [], _ => none
  | y :: r, n => if y = z then some n else idxOf z r (n + 1)
theorem idxOf_ok {z : Str} : ∀ {ys : List Str} {n j : Nat}, idxOf z ys n = some j → n ≤ j ∧ ys[j - n]? = some z ∧ ∀ m, m < j - n → ys[m]? ≠ some z
  | [], _, _, h => by cases h
  | y :: r, n, j, h => by
    unfold idxOf at h
    split at h
    · rename_i e
      cases h
      subst e
      refine ⟨Nat.le_refl _, by simp, fun m hm => ?_⟩
      omega
    · rename_i e
      obtain ⟨h1, h2, h3⟩ := idxOf_ok h
      have hj : j - n = (j - (n + 1)) + 1 := by omega
      refine ⟨by omega, by rw [hj]; simpa using h2, fun m hm => ?_⟩
      cases m with
      | zero => intro q; simp at q; exact e q
      | succ m => intro q; exact h3 m (by omega) (by simpa using q)
def idxD (ys : List Str) (ds : List PyData) : Option PyData := match ds with
  | [.str z] => (idxOf z ys 0).map fun (j : Nat) => .int j
  | _ => none
/-- a tuple of texts of the module -/
structure GTup (K : PySem.W.Frag) (mg : Str → Option Value) (x : Str) (ys : List Str) : Prop where
  ex : ∃ a, mg x = some (.ref a) ∧ (∀ H, SqT K H a (ys.map V.str)) ∧ ∃ o, K.lookup a = some o ∧ o.cls = .type "tuple" ∧ o.dict = none
theorem de_gtup {X : Cx} {x : Str} {ys : List Str} {pos : Pos} (h : GTup X.K X.mg x ys) (hg : Gl X x := by rfl) (hd : (x == ("__debug__" : Str)) = false := by decide) : DE X (.Name x pos) (mC (.tuple (ys.map .str))) := by
  obtain ⟨a, h1, h2, _⟩ := h.ex
  exact de_c (pe_glob (v := .ref a) hg h1 rfl hd) fun G => .tup (h2 G) (dpA_strs ys)
theorem de_gidx {X : Cx} {x : Str} {ys : List Str} {e : Expr} {ms : Ax} {pos apos cpos : Pos} (h : GTup X.K X.mg x ys) (ha : DA X [e] ms) (hg : Gl X x := by rfl) (hd : (x == ("__debug__" : Str)) = false := by decide)
    (hbase : attributeBase (.Name x pos) "index" X.env (eval (.Name x pos) X.env) = eval (.Name x pos) X.env := by rfl)
    (hfew : ((backTo cpos (starEach [e] X.env)).all (fun x => !x.1) && (backToKw cpos (keywordEach [] X.env)).all (fun x => x.1.isSome)
      && decide ([e].length + ([] : List Keyword).length + (if ([] : List Keyword).isEmpty then 0 else 1) < 30)) = true := by rfl)
    (hline : (apos.endLine == cpos.line) = true := by rfl) (hs : starEach [e] X.env = (false, eval e X.env) :: starEach [] X.env := by rfl) (hplain : (backTo cpos (starEach [] X.env)).any (·.1) = false := by rfl) :
    DE X (.Call (.Attribute (.Name x pos) "index" apos) [e] [] cpos) (mB (idxD ys) ms) := by
  obtain ⟨a, h1, h2, o, h3, h4, h5⟩ := h.ex
  refine PE.weak (pe_bm PySem.F.plainAttrs_tuple PySem.F.slot_tuple_index PySem.F.type_tuple_index mt_tup_index (pe_glob (v := .ref a) hg h1 rfl hd) ha hbase hfew hline hs hplain) fun σ H Q ⟨C, G, env, w, r, env', w', R, hm, k⟩ => ?_
  obtain ⟨rs, ds, e1, w1, q1, q2, hm⟩ := argsD_inv hm
  obtain ⟨z, q3, rfl, rfl, rfl⟩ := optE_inv hm
  refine ⟨.inr (.inl ⟨rfl, o, h3, h4, h5⟩), C, G, env, w, _, _, _, R, q1, fun vs G1 H1 R1 s1 i1 a1 => ?_⟩
  have dA := dsOf_ok a1 q2
  unfold idxD at q3
  split at q3
  · rename_i zz
    cases e : idxOf zz ys 0 with
    | none => rw [e] at q3; cases q3
    | some j =>
      rw [e] at q3
      cases q3
      obtain ⟨v, rfl, dv⟩ := dqA1 dA
      cases dv
      obtain ⟨_, p2, p3⟩ := idxOf_ok e
      exact ⟨a, ys, zz, j, rfl, rfl, h2 H1, by simpa using p2, by simpa using p3, k _ G1 H1 R1 s1 i1 (show Dq X.K _ _ _ from .int _)⟩
  · cases q3

def tyN : PyData → String
  | .none => "NoneType"
  | .bool _ => "bool"
  | .int _ => "int"
  | .str _ => "str"
  | .list _ => "list"
  | .tuple _ => "tuple"
  | .dict _ => "dict"
def isStr : PyData → Bool
  | .str _ => true
  | _ => false
def isTup : PyData → Bool
  | .tuple _ => true
  | _ => false
theorem ty_of {K : PySem.W.Frag} {G H : Hp} {v : V} {d : PyData} (s : Same G H) (h : Dq K G v d) : TyX K H v (.type (tyN d)) := by
  cases h with
  | non => exact .base .non
  | bl b => exact .base (.bl b)
  | int i => exact .base (.int i)
  | str x => exact .base (.str x)
  | lst h a => exact .base (.lst (s _ _ h))
  | tup h a =>
    rcases h with (h | ⟨o, h⟩) | ⟨o, its, n, h1, h2, _⟩
    · exact .base (.tup (s _ _ h))
    · exact .fTuple (s _ _ h)
    · exact .kTuple h1 h2
def mIs (f : PyData → Bool) (m : Ex) : Ex := seqE m fun x => optE (some (.bool (f x)))
theorem de_is {X : Cx} {a : Expr} {m : Ex} {p p2 pos : Pos} {f : PyData → Bool} {T : String} {x : Str} (ha : DE X a m) (hf : ∀ K G v d, Dq K G v d → kitB (tyN d) T = some (f d)) (hm : X.mg "isinstance" = none) (hx : X.mg x = none) (hv : bootBuiltins x = some (.type T)) (hg : Gl X "isinstance" := by rfl) (hgx : Gl X x := by rfl)
    (hn : x ≠ "__name__" := by decide) (hdb : (x == ("__debug__" : Str)) = false := by decide) (hs : starEach [a, .Name x p2] X.env = (false, eval a X.env) :: starEach [.Name x p2] X.env := by rfl) :
    DE X (.Call (.Name "isinstance" p) [a, .Name x p2] [] pos) (mIs f m) := PE.weak (pe_callB call_isi hg hm (by decide +kernel) (pa_cons ha (pa_cons (pe_bltn (v := .ty T) hgx hx hv rfl hn hdb) pa_nil) hs) (he := hs)) fun σ H Q ⟨C, G, env, w, r, env', w', R, hm, k⟩ => by
  obtain ⟨y, e1, w1, h1, hm⟩ := seqE_inv hm
  obtain ⟨z, h3, rfl, rfl, rfl⟩ := optE_inv hm
  cases h3
  refine ⟨C, G, env, w, _, _, _, R, h1, fun v G1 H1 R1 s1 i1 a1 => ?_⟩
  exact ⟨v, .ty T, _, _, f y, rfl, .ty T, ty_of R1.sub a1, kit_ty (hf _ _ _ _ a1), k _ G1 H1 R1 s1 i1 (show Dq X.K _ _ _ from .bl _)⟩
theorem kit_str : ∀ (K : PySem.W.Frag) (G : Hp) (v : V) (d : PyData), Dq K G v d → kitB (tyN d) "str" = some (isStr d) := fun K G v d h => by
  cases h with
  | non => decide +kernel
  | bl b => exact (by decide +kernel : kitB "bool" "str" = some false)
  | int i => exact (by decide +kernel : kitB "int" "str" = some false)
  | str x => exact (by decide +kernel : kitB "str" "str" = some true)
  | lst h a => exact (by decide +kernel : kitB "list" "str" = some false)
  | tup h a => exact (by decide +kernel : kitB "tuple" "str" = some false)
theorem kit_tup : ∀ (K : PySem.W.Frag) (G : Hp) (v : V) (d : PyData), Dq K G v d → kitB (tyN d) "tuple" = some (isTup d) := fun K G v d h => by
  cases h with
  | non => decide +kernel
  | bl b => exact (by decide +kernel : kitB "bool" "tuple" = some false)
  | int i => exact (by decide +kernel : kitB "int" "tuple" = some false)
  | str x => exact (by decide +kernel : kitB "str" "tuple" = some false)
  | lst h a => exact (by decide +kernel : kitB "list" "tuple" = some false)
  | tup h a => exact (by decide +kernel : kitB "tuple" "tuple" = some true)

def mStar (m : Ex) (ms : Ax) : Ax := seqE m fun x env w => match itemsD x with
  | some ds => (match ms env w with
    | some (rs, e2, w2) => some (ds.map SD.d ++ rs, e2, w2)
    | none => none)
  | none => none
theorem args_of {K : PySem.W.Frag} {ad : Ad} {w : W} {G : Hp} : ∀ {vs : List V} {ds : List PyData}, DqA K G vs ds → ArgsOk K ad w G (ds.map SD.d) vs
  | _, _, .nil => .nil
  | _, _, .cons a b => .cons a (args_of b)
theorem ArgsOk.app {K : PySem.W.Frag} {ad : Ad} {w : W} {G : Hp} : ∀ {vs us : List V} {rs qs : List SD}, ArgsOk K ad w G rs vs → ArgsOk K ad w G qs us → ArgsOk K ad w G (rs ++ qs) (vs ++ us)
  | _, _, _, _, .nil, h => h
  | _, _, _, _, .cons a b, h => .cons a (b.app h)
theorem da_star {X : Cx} {e : Expr} {es : List Expr} {m : Ex} {ms : Ax} {p : Pos} (he : DE X e m) (hr : DA X es ms) (hs : starEach (.Starred e p :: es) X.env = (true, eval e X.env) :: starEach es X.env := by rfl) : DA X (.Starred e p :: es) (mStar m ms) :=
  PA.weak (StX.pa_star he hr hs) fun σ H Q ⟨C, G, env, w, r, env', w', R, hm, k⟩ => by
  obtain ⟨x, e1, w1, h1, hm⟩ := seqE_inv hm
  split at hm
  · rename_i ds h2
    split at hm
    · rename_i rs e2 w2 h3
      cases hm
      refine ⟨C, G, env, w, _, _, _, R, h1, fun v G1 H1 R1 s1 i1 a1 => ?_⟩
      have fin : ∀ {vs : List V}, DqA X.K G1 vs ds → ∀ us G2 H2, Rel X.K C env' w' σ G2 H2 → Same G1 G2 → Option.isSome w' = Option.isSome w1 → ArgsOk X.K C.ad w' G2 rs us → Q (vs ++ us) H2 := fun {vs} dA us G2 H2 R2 s2 i2 a2 =>
        k _ G2 H2 R2 (s1.trans s2) (i2.trans i1) ((args_of (dpA_mono s2 dA)).app a2)
      cases a1 with
      | lst q a => cases h2; exact ⟨_, _, rfl, .inr (SqL.of (R1.sub _ _ q)), C, G1, e1, w1, _, _, _, R1, h3, fin a⟩
      | tup q a => cases h2; exact ⟨_, _, rfl, .inl (Same.sqT R1.sub q), C, G1, e1, w1, _, _, _, R1, h3, fin a⟩
      | _ => cases h2
    · cases hm
  · cases hm

def fmtD : PyData → Option PyData
  | .str y => if y.length ≤ sizeLine then some (.str y) else none
  | .int i => if i.natAbs.log2 < 1920 then some (.str (toString i)) else none
  | _ => none
def mFmt (m : Ex) : Ex := seqE m fun x => optE (fmtD x)
theorem de_fmt {X : Cx} {e : Expr} {m : Ex} {pos : Pos} (h : DE X e m) : DE X (.FormattedValue e (-1) none pos) (mFmt m) := PE.weak (pe_fmt h) fun σ H Q ⟨C, G, env, w, r, env', w', R, hm, k⟩ => by
  obtain ⟨y, e1, w1, h1, hm⟩ := seqE_inv hm
  obtain ⟨z, h3, rfl, rfl, rfl⟩ := optE_inv hm
  refine ⟨C, G, env, w, _, _, _, R, h1, fun v G1 H1 R1 s1 i1 a1 => ?_⟩
  unfold fmtD at h3
  split at h3
  · split at h3
    · rename_i hl
      cases h3
      cases a1
      exact .inl ⟨_, rfl, hl, k _ G1 H1 R1 s1 i1 (show Dq X.K _ _ _ from .str _)⟩
    · cases h3
  · split at h3
    · rename_i hl
      cases h3
      cases a1
      exact .inr ⟨_, rfl, hl, k _ G1 H1 R1 s1 i1 (show Dq X.K _ _ _ from .str _)⟩
    · cases h3
  · cases h3
def mJs : List Ex → Str → Ex
  | [], acc => fun env w => some (.d (.str acc), env, w)
  | m :: ms, acc => seqE m fun x env w => match x with
    | .str y => if (acc ++ y).length ≤ sizeLine then mJs ms (acc ++ y) env w else none
    | _ => none
inductive DJ (X : Cx) : List Expr → List Ex → Prop where
  | nil : DJ X [] []
  | cons {e : Expr} {m : Ex} {es : List Expr} {ms : List Ex} (h : DE X e m) (r : DJ X es ms) : DJ X (e :: es) (m :: ms)
theorem DJ.pj {X : Cx} {es : List Expr} {ms : List Ex} (h : DJ X es ms) : PJ X es (ms.map (tD X.K)) := by
  induction h with
  | nil => exact .nil
  | cons h _ ih => exact .cons h ih
theorem js_run {K : PySem.W.Frag} : ∀ (ms : List Ex) (acc : Str) (σ : L2.St) (H : Hp) (Q : VK), tD K (mJs ms acc) σ H Q → tJs (ms.map (tD K)) acc σ H fun out H1 => Q (.str out) H1
  | [], acc, σ, H, Q, ⟨C, G, env, w, r, env', w', R, hm, k⟩ => by
    cases hm
    exact k _ G H R (Same.refl G) rfl (show Dq K _ _ _ from .str _)
  | m :: ms, acc, σ, H, Q, ⟨C, G, env, w, r, env', w', R, hm, k⟩ => by
    obtain ⟨y, e1, w1, h1, hm⟩ := seqE_inv hm
    split at hm
    · split at hm
      · rename_i hl
        refine ⟨C, G, env, w, _, _, _, R, h1, fun v G1 H1 R1 s1 i1 a1 => ?_⟩
        cases a1
        exact ⟨_, rfl, hl, js_run ms _ σ H1 Q ⟨C, G1, e1, w1, r, env', w', R1, hm, fun v G2 H2 R2 s2 i2 a2 => k v G2 H2 R2 (s1.trans s2) (i2.trans i1) a2⟩⟩
      · cases hm
    · cases hm
theorem de_js {X : Cx} {v1 v2 : Expr} {rest : List Expr} {ms : List Ex} {pos : Pos} (h : DJ X (v1 :: v2 :: rest) ms) : DE X (.JoinedStr (v1 :: v2 :: rest) pos) (mJs ms Str.empty) := PE.weak (pe_joined h.pj) fun σ H Q q => js_run ms Str.empty σ H Q q

def mAndV (ma mb : Ex) : Ex := seqE ma fun x env w => match x with
  | .bool true => mb env w
  | .bool false => some (.d (.bool false), env, w)
  | _ => none
def mOrV (ma mb : Ex) : Ex := seqE ma fun x env w => match x with
  | .bool true => some (.d (.bool true), env, w)
  | .bool false => mb env w
  | _ => none
section
variable {X : Cx} {a b : Expr} {ma mb : Ex} {pos : Pos} {rest : List Expr}
theorem de_one {op : BoolOp} (h : DE X a ma) : DE X (.BoolOp op [a] pos) ma := pe_one h
theorem de_and (ha : DE X a ma) (hb : DE X (.BoolOp .And (b :: rest) pos) mb) : DE X (.BoolOp .And (a :: b :: rest) pos) (mAndV ma mb) := PE.weak (pe_and ha hb) fun σ H Q ⟨C, G, env, w, r, env', w', R, hm, k⟩ => by
  obtain ⟨x, e1, w1, h1, hm⟩ := seqE_inv hm
  refine ⟨C, G, env, w, _, _, _, R, h1, fun v G1 H1 R1 s1 i1 a1 => ?_⟩
  split at hm
  · cases a1
    exact ⟨true, rfl, iteT ⟨C, G1, e1, w1, r, env', w', R1, hm, fun v G2 H2 R2 s2 i2 a2 => k v G2 H2 R2 (s1.trans s2) (i2.trans i1) a2⟩⟩
  · cases a1
    cases hm
    exact ⟨false, rfl, iteF (k _ G1 H1 R1 s1 i1 (show Dq X.K _ _ _ from .bl _))⟩
  · cases hm
/-- constants of the module -/
theorem de_gint {x : Str} {i : Int} (h : ∃ t, X.mg x = some (.int i t)) (hg : Gl X x := by rfl) (hd : (x == ("__debug__" : Str)) = false := by decide) : DE X (.Name x pos) (mC (.int i)) := by
  obtain ⟨t, h⟩ := h
  exact de_c (pe_glob (v := .int i) hg h ⟨t, rfl⟩ hd) fun _ => .int i
theorem de_gstr {x i : Str} (h : ∃ t, X.mg x = some (.str i t)) (hg : Gl X x := by rfl) (hd : (x == ("__debug__" : Str)) = false := by decide) : DE X (.Name x pos) (mC (.str i)) := by
  obtain ⟨t, h⟩ := h
  exact de_c (pe_glob (v := .str i) hg h ⟨t, rfl⟩ hd) fun _ => .str i
end
def mListO (ms : Ax) : Lx := argsD ms fun ds env w => match ds with
  | [x] => (itemsD x).map fun xs => (xs, env, w)
  | _ => none
theorem do_list {X : Cx} {e : Expr} {p pos : Pos} {ms : Ax} (hm : X.mg "list" = none) (ha : DA X [e] ms) (hg : Gl X "list" := by rfl) (hs : starEach [e] X.env = (false, eval e X.env) :: starEach [] X.env := by rfl) : DO X (.Call (.Name "list" p) [e] [] pos) (mListO ms) :=
  PE.weak (pe_callTy call_list_of hg hm (by decide +kernel) ha (he := hs)) fun σ H Q ⟨C, G, env, w, r, env', w', R, hm, k⟩ => by
  obtain ⟨rs, ds, e1, w1, h1, h2, hm⟩ := argsD_inv hm
  split at hm
  · rename_i x
    cases e : itemsD x with
    | none => rw [e] at hm; cases hm
    | some ys =>
      rw [e] at hm
      cases hm
      refine ⟨C, G, env, w, _, _, _, R, h1, fun vs G1 H1 R1 s1 i1 a1 => ?_⟩
      obtain ⟨v, rfl, dv⟩ := dqA1 (dsOf_ok a1 h2)
      have fin : ∀ {us : List V}, DqA X.K G1 us r → ∀ l, H1 l = none → Q (.ref l) (upd H1 l (.lst us)) := fun {us} dA l hl => by
        obtain ⟨R2, q1, q2, q3, q4⟩ := new_O (vs := us) R1 hl
        exact k l us G1 _ R2 s1 i1 q1 dA q2 q3 q4
      cases dv with
      | lst q a => cases e; exact ⟨_, _, rfl, .inl (SqL.of (R1.sub _ _ q)), fin a⟩
      | tup q a => cases e; exact ⟨_, _, rfl, .inr (Same.sqT R1.sub q), fin a⟩
      | _ => cases e
  · cases hm
def mCatO (ma mb : Ex) : Lx := seqE ma fun x => seqE mb fun y env w => match x, y with
  | .list xs, .list ys => if xs.length + ys.length ≤ sizeLine then some (xs ++ ys, env, w) else none
  | _, _ => none
theorem do_cat {X : Cx} {a b : Expr} {ma mb : Ex} {pos : Pos} (ha : DE X a ma) (hb : DE X b mb) : DO X (.BinOp a .Add b pos) (mCatO ma mb) := PE.weak (pe_op op_cat ha hb) fun σ H Q ⟨C, G, env, w, r, env', w', R, hm, k⟩ => by
  obtain ⟨x, e1, w1, h1, hm⟩ := seqE_inv hm
  obtain ⟨y, e2, w2, h2, hm⟩ := seqE_inv hm
  split at hm
  · split at hm
    · rename_i hl
      cases hm
      refine ⟨C, G, env, w, _, e1, w1, R, h1, fun v G1 H1 R1 s1 i1 a1 => ?_⟩
      refine ⟨C, G1, e1, w1, _, _, _, R1, h2, fun u G2 H2 R2 s2 i2 a2 => ?_⟩
      have a1 := dp_mono s2 a1
      cases a1 with
      | lst q1 d1 =>
        cases a2 with
        | lst q2 d2 =>
          refine ⟨_, _, _, _, rfl, rfl, R2.sub _ _ q1, R2.sub _ _ q2, by rw [dpA_len d1, dpA_len d2]; exact hl, fun p hp => ?_⟩
          obtain ⟨R3, p1, p2, p3, p4⟩ := new_O (vs := _) R2 hp
          exact k p _ G2 _ R3 (s1.trans s2) (i2.trans i1) p1 (dpA_app d1 d2) p2 p3 p4
    · cases hm
  · cases hm
/-- (a, b) = a list -/
def mgUnl (n : Nat) (b : Gsx) : Gx := fun d env => match d with
  | .list ds => if ds.length = n then b ds env else none
  | _ => none
theorem dg_unl {X : Cx} {vs : List Nat} {e : Expr} {n : Nat} {b : Gsx} (h : PG X e (gUnl X.K n (gsD X.K vs b))) : DG X vs e (mgUnl n b) := PG.weak h fun v σ H Q ⟨C, G, env, w, d, env', R, hd, hm, k⟩ => by
  cases hd with
  | lst hs ha =>
    simp only [mgUnl] at hm
    split at hm
    · rename_i hl
      exact ⟨_, _, rfl, SqL.of (R.sub _ _ hs), by rw [dpA_len ha]; exact hl, C, G, env, w, _, env', R, ha, hm, k⟩
    · cases hm
  | _ => cases hm
/-- tuple(text) -/
def signsD (z : Str) : List PyData := z.cps.toList.map fun c => .str ⟨#[c]⟩
def tupStrD : List PyData → Option PyData
  | [.str z] => if z.length ≤ sizeLine then some (.tuple (signsD z)) else none
  | _ => none
theorem cd_tupStr {X : Cx} (hc : X.calm = true) : CallD X (.type "tuple") tupStrD := fun pins s σ G H xs us ds dz Q I rx sg hx hg k => by
  unfold tupStrD at hg
  split at hg
  · rename_i z
    split at hg
    · rename_i hl
      cases hg
      obtain ⟨v, rfl, dv⟩ := dqA1 hx
      cases dv
      obtain ⟨u, rfl, t, rfl⟩ := vals1 rx
      refine call_tuple_str (I.ok.hd hc) z t (fun h' tk acc hk hacc => ?_) hl
      have I1 : Inv X pins σ H { s with heap := h', toks := tk } := I.kept hk
      have hv : Vals (z.cps.toList.map fun c => V.str ⟨#[c]⟩) acc.toList := by
        obtain ⟨h1, h2⟩ := hacc
        have all : ∀ (cs : List Nat) (us : List Value), us.length = cs.length → (∀ (j : Nat) (v : Value), us[j]? = some v → ∃ c u, cs[j]? = some c ∧ v = .str ⟨#[c]⟩ u) → Vals (cs.map fun c => V.str ⟨#[c]⟩) us := by
          intro cs
          induction cs with
          | nil =>
            intro us hl _
            cases us with
            | nil => exact .nil
            | cons _ _ => cases hl
          | cons c cs ih =>
            intro us hl hu
            cases us with
            | nil => cases hl
            | cons v us =>
              obtain ⟨c', u, e1, e2⟩ := hu 0 v rfl
              simp at e1
              subst e1
              refine .cons ⟨u, e2⟩ (ih us (by simpa using hl) fun j v' hj => ?_)
              obtain ⟨c', u', e3, e4⟩ := hu (j + 1) v' (by simpa using hj)
              exact ⟨c', u', by simpa using e3, e4⟩
        refine all z.cps.toList acc.toList (by simpa using h1) fun j v hj => ?_
        obtain ⟨c, u, e1, e2⟩ := h2 j v (by simpa using hj)
        exact ⟨c, u, by simpa using e1, e2⟩
      have hlen : (z.cps.toList.map fun c => V.str ⟨#[c]⟩).length ≤ sizeLine := by
        rw [List.length_map, Array.length_toList]
        exact hl
      have I2 : Inv X pins σ (upd H h'.objs.size (.tup (z.cps.toList.map fun c => V.str ⟨#[c]⟩))) { s with heap := h'.push { cls := .type "tuple", data := .seq acc }, toks := tk } :=
        I1.laid (t' := tk) (fun b o e => Heap.get?_push_of_some _ e) (Nat.le_refl _) (show ObjOk X.prog X.w _ _ _ (.tup _) from ⟨hlen, acc.toList, hv, ⟨_, Heap.get?_push_size _ rfl, rfl, 0, by simp⟩⟩)
      have dA : DqA X.K G (z.cps.toList.map fun c => V.str ⟨#[c]⟩) (signsD z) := by
        have : ∀ cs : List Nat, DqA X.K G (cs.map fun c => V.str ⟨#[c]⟩) (cs.map fun c => PyData.str ⟨#[c]⟩) := by
          intro cs
          induction cs with
          | nil => exact .nil
          | cons c cs ih => exact .cons (.str _) ih
        exact this _
      obtain ⟨ex, dq⟩ := ext_tup sg (I1.hok.fresh (Nat.le_refl _)) dA
      exact ⟨.ref h'.objs.size, _, I2, rfl, k _ _ _ ex dq⟩
    · cases hg
  · cases hg
end Dn

set_option maxHeartbeats 4000000
namespace Dn
open PySem PySem.Spec PyProof.Rows L2
def fuel : Nat := 16777300
def mixed (cell k : Int) : Int := ((cell % 2147483647) * (48271 + 2 * k * k) + 69621 * k + 11) % 2147483647 * 69621 % 2147483629
theorem mixed_nn (c k : Int) : 0 ≤ mixed c k := Int.emod_nonneg _ (by decide)
theorem mixed_lt (c k : Int) : mixed c k < 2147483629 := Int.emod_lt_of_pos _ (by decide)
/-- the state is in order, and many draws are left -/
structure DS.Ok (s : DS) : Prop where
  p0 : 0 ≤ s.pos
  p1 : s.pos ≤ 1152921504606846976
  ne : s.cells ≠ []
  ln : s.lefts.length = s.cells.length
  sm : s.cells.length ≤ 1000
def DS.at_ (s : DS) : Nat := (s.pos % (s.cells.length : Int)).toNat
def DS.left (s : DS) : Int := s.lefts.getD s.at_ 0
def DS.cell (s : DS) : Int := s.cells.getD s.at_ 0
def DS.num (s : DS) : Int := mixed (mixed s.cell s.pos) (40 + s.pos)
def DS.val (s : DS) (many : Int) : Int := if 0 < s.left then s.left % many else (s.num * 2147483647 + mixed s.num (7 + s.pos)) / 64 % many
def DS.next (s : DS) (many : Int) : DS := if 0 < s.left then { s with lefts := s.lefts.set s.at_ (s.left / many), pos := s.pos + 1 } else { s with pos := s.pos + 1 }
open Classical in
noncomputable def m__law_draw : List SD → W → Option (SD × W) := fun as w => match as, w with
  | [.st, .d (.int many)], some s => if s.Ok ∧ 0 < many ∧ many < 1073741824 then some (.d (.int (s.val many)), some (s.next many)) else none
  | _, _ => none
theorem DS.at_lt {s : DS} (h : s.Ok) : s.at_ < s.cells.length := by
  have hl : 0 < s.cells.length := List.length_pos_iff.mpr h.ne
  have h1 := Int.emod_nonneg s.pos (show (s.cells.length : Int) ≠ 0 by omega)
  have h2 := Int.emod_lt_of_pos s.pos (show (0 : Int) < s.cells.length by omega)
  unfold DS.at_
  omega
/-- some draws have been done -/
structure Adv (n : Int) (s s' : DS) : Prop where
  cells : s'.cells = s.cells
  ln : s'.lefts.length = s.lefts.length
  lo : s.pos ≤ s'.pos
  hi : s'.pos ≤ s.pos + n
theorem Adv.refl (s : DS) : Adv 0 s s := ⟨rfl, rfl, Int.le_refl _, by omega⟩
theorem Adv.trans {a b : Int} {s t u : DS} (x : Adv a s t) (y : Adv b t u) : Adv (a + b) s u := ⟨y.cells.trans x.cells, y.ln.trans x.ln, Int.le_trans x.lo y.lo, by have := x.hi; have := y.hi; omega⟩
theorem Adv.mono {a b : Int} {s t : DS} (x : Adv a s t) (h : a ≤ b) : Adv b s t := ⟨x.cells, x.ln, x.lo, by have := x.hi; omega⟩
theorem Adv.ok {a : Int} {s t : DS} (x : Adv a s t) (h : s.Ok) (hp : s.pos + a ≤ 1152921504606846976) : t.Ok := ⟨by have := x.lo; have := h.p0; omega, by have := x.hi; omega, by rw [x.cells]; exact h.ne, by rw [x.ln, x.cells]; exact h.ln, by rw [x.cells]; exact h.sm⟩
theorem draw_adv (s : DS) (many : Int) : Adv 1 s (s.next many) := by
  unfold DS.next
  split
  · exact ⟨rfl, by simp, by show s.pos ≤ s.pos + 1; omega, Int.le_refl _⟩
  · exact ⟨rfl, rfl, by show s.pos ≤ s.pos + 1; omega, Int.le_refl _⟩
theorem draw_range (s : DS) {many : Int} (h : 0 < many) : 0 ≤ s.val many ∧ s.val many < many := by
  unfold DS.val
  split
  · exact ⟨Int.emod_nonneg _ (by omega), Int.emod_lt_of_pos _ h⟩
  · exact ⟨Int.emod_nonneg _ (by omega), Int.emod_lt_of_pos _ h⟩
theorem draw_eq {s : DS} {many : Int} (h : s.Ok) (h1 : 0 < many) (h2 : many < 1073741824) : m__law_draw [.st, .d (.int many)] (some s) = some (.d (.int (s.val many)), some (s.next many)) := by
  simp only [m__law_draw]
  rw [if_pos ⟨h, h1, h2⟩]
def spMixed : Sp := fun vs H Q _ => ∃ c k : Int, vs = [.int c, .int k] ∧ 0 ≤ k ∧ k < 2305843009213693952 ∧ Q (.int (mixed c k)) H
def beginCells (ns : List Int) : List Int := if ns = [] then [0] else ns
def beginDS (ns : List Int) : DS := ⟨beginCells ns, (beginCells ns).map fun c => if 1000000000000000000 ≤ c then c else 0, 0, 0⟩
def spBegin (K : PySem.W.Frag) : Sp := fun vs H Q _ => ∃ (a : Addr) (ns : List Int), vs = [.ref a] ∧ SqL K H a (ns.map V.int) ∧ ns.length ≤ 63 ∧
  ∀ (ad : Ad) (H' : Hp), Same H H' → H ad.sa = none → H ad.ca = none → H ad.la = none → ad.ca ≠ ad.la →
    H' ad.sa = some (.dK [(kCells, .ref ad.ca), (kLefts, .ref ad.la), (kAt, .int 0), (kRoom, .int 0)]) → H' ad.la = some (.lst ((beginDS ns).lefts.map V.int)) → H' ad.ca = some (.lst ((beginDS ns).cells.map V.int)) → Q (.ref ad.sa) H'
theorem begin_ok (ns : List Int) (h : ns.length ≤ 63) : (beginDS ns).Ok := by
  have e : (beginCells ns).length ≤ 64 ∧ beginCells ns ≠ [] := by
    unfold beginCells
    split
    · exact ⟨by simp, by simp⟩
    · exact ⟨by omega, by assumption⟩
  exact ⟨Int.le_refl _, by show (0 : Int) ≤ 1152921504606846976; decide, e.2, by simp [beginDS], by have := e.1; show (beginCells ns).length ≤ 1000; omega⟩
theorem putAt {a b c d v : V} : putK [(kCells, a), (kLefts, b), (kAt, c), (kRoom, d)] kAt v = [(kCells, a), (kLefts, b), (kAt, v), (kRoom, d)] := by
  have e1 : ¬ kCells = kAt := by decide +kernel
  have e2 : ¬ kLefts = kAt := by decide +kernel
  have e3 : ¬ kRoom = kAt := by decide +kernel
  simp [putK, e1, e2, e3]
theorem valAt {a b c d : V} : valV [(kCells, a), (kLefts, b), (kAt, c), (kRoom, d)] kAt = some c := by
  have e1 : ¬ kCells = kAt := by decide +kernel
  have e2 : ¬ kLefts = kAt := by decide +kernel
  rw [valV_neg e1, valV_neg e2, valV_pos rfl]
theorem valLefts {a b c d : V} : valV [(kCells, a), (kLefts, b), (kAt, c), (kRoom, d)] kLefts = some b := by
  have e1 : ¬ kCells = kLefts := by decide +kernel
  rw [valV_neg e1, valV_pos rfl]
theorem valCells {a b c d : V} : valV [(kCells, a), (kLefts, b), (kAt, c), (kRoom, d)] kCells = some a := valV_pos rfl
theorem atI_int {ns : List Int} {p : Int} {j : Nat} (hj : j < ns.length) (e : p = (j : Int)) : atI (ns.map V.int) p = some (.int (ns.getD j 0)) := by
  subst e
  refine atI_nat ?_
  rw [List.getElem?_map, List.getElem?_eq_getElem hj]
  simp [List.getD_eq_getElem?_getD, List.getElem?_eq_getElem hj]
theorem merge4 {a b c d : V} : mergeK [] [(kCells, a), (kLefts, b), (kAt, c), (kRoom, d)] = [(kCells, a), (kLefts, b), (kAt, c), (kRoom, d)] := by
  have e1 : ¬ kCells = kLefts := by decide +kernel
  have e2 : ¬ kCells = kAt := by decide +kernel
  have e3 : ¬ kLefts = kAt := by decide +kernel
  have e4 : ¬ kCells = kRoom := by decide +kernel
  have e5 : ¬ kLefts = kRoom := by decide +kernel
  have e6 : ¬ kAt = kRoom := by decide +kernel
  simp [mergeK, putK, e1, e2, e3, e4, e5, e6]
/-- a != b over data -/
def rNeP (K : PySem.W.Frag) : R2 := fun x y H Q => ∃ d e, Dp K H x d ∧ Dp K H y e ∧ d.plain = true ∧ e.plain = true ∧ dOk 60 e = true ∧ Q (.bl (!PyData.eqv d e)) H
theorem op_neP {X : Cx} (hu : X.A.units + 64 < cLine) : OpR X (compareOp .NotEq) (rNeP X.K) := by
  intro pins s σ H x y v u Q I rx ry h
  obtain ⟨d, e, hd, he, p1, p2, dk, q⟩ := h
  obtain ⟨as, r1⟩ := Dp.reads I d x v hd rx
  obtain ⟨bs, r2⟩ := Dp.reads I e y u he ry
  exact PySem.SeqAt.ne_plain r1 r2 p1 p2 (min60 (by rw [dk]; simp) hu) ⟨.bl _, H, I, rfl, q⟩
theorem plain_ints : ∀ ns : List Int, PyData.plainAll (ns.map PyData.int) = true
  | [] => by simp [PyData.plainAll]
  | n :: ns => by simp [PyData.plainAll, PyData.plain, plain_ints ns]
theorem dpAll_ints {K : PySem.W.Frag} {G : Hp} : ∀ (ns : List Int), DpAll K G (ns.map V.int) (ns.map PyData.int)
  | [] => .nil
  | n :: ns => .cons (.int n) (dpAll_ints ns)
end Dn

set_option maxHeartbeats 4000000
namespace Dn
open PySem PySem.Spec PyProof.Rows L2
/-- what is tracked at the start: the script, and the tables, empty -/
structure OnlyT (K : PySem.W.Frag) (H : Hp) : Prop where
  only : ∀ b, H b = none ∨ b ∈ (tabsOf K).map (·.1) ∨ ∃ o xs, H b = some (.frz o (.lst xs))
  tab : ∀ p ∈ tabsOf K, H p.1 = some (.tbl #[])
theorem OnlyT.of {K : PySem.W.Frag} {H : Hp} (h : Only H) (e : tabsOf K = []) : OnlyT K H := ⟨fun b => (h b).elim .inl fun z => .inr (.inr z), fun p hp => by rw [e] at hp; simp at hp⟩
def spLaw (K : PySem.W.Frag) : Sp := fun vs H Q _ => ∃ (a : Addr) (ns : List Int), vs = [.ref a] ∧ ns.length ≤ 63 ∧ OnlyT K H ∧ SqL K H a (ns.map V.int) ∧ ∀ H', Q (.bl true) H'
/-- the slots behind state = _law_begin(script) -/
def env0 (n NN i : Nat) : Ev := (some (SD.scr n) :: List.replicate (NN - 1) none).set i (some SD.st)
theorem law_rest {K : PySem.W.Frag} {H H' : Hp} {a : Addr} {ns : List Int} {ad : Ad} {m : Sx} {N : List Str} {i NN : Nat} {D : Ends} {env' : Ev} {w' : W} (hO : OnlyT K H) (hS : SqL K H a (ns.map V.int)) (hNN : N.length = NN) (h0 : 0 < NN) (hi : i ≠ 0)
    (sm : Same H H') (n1 : H ad.sa = none) (n2 : H ad.ca = none) (n3 : H ad.la = none) (ne : ad.ca ≠ ad.la)
    (e1 : H' ad.sa = some (.dK [(kCells, .ref ad.ca), (kLefts, .ref ad.la), (kAt, .int 0), (kRoom, .int 0)])) (e2 : H' ad.la = some (.lst ((beginDS ns).lefts.map V.int))) (e3 : H' ad.ca = some (.lst ((beginDS ns).cells.map V.int)))
    (hm : m (env0 ns.length NN i) (some (beginDS ns)) = some (.rt (.d (.bool true)), env', w')) (hQ : ∀ H2, D.rt (.bl true) H2) : tS K m D ((L2.start N [.ref a]).set i (some (.ref ad.sa))) H' := by
  have hs : ((L2.start N [.ref a]).set i (some (.ref ad.sa)))[0]? = some (some (.ref a)) := by
    rw [List.getElem?_set_ne hi]
    rfl
  refine ⟨⟨⟨ad.sa, ad.ca, ad.la, tabsOf K⟩, H', fun _ => none⟩, fun _ => none, _, some (beginDS ns), _, env', w', ⟨fun b o e => (by cases e), ?_, fun j sd h => ?_, fun j k xs ys b e _ _ _ => ?_, fun s e => ?_, fun _ => ⟨?_, ?_, ?_⟩, fun b o e _ => e, fun b o e => rfl, ⟨fun p hp => LamX.TabS.nil (sm _ _ (hO.tab p hp)), fun p hp => rfl⟩, fun p hp => (by show H' p.1 ≠ none; rw [sm _ _ (hO.tab p hp)]; exact Option.some_ne_none _)⟩, hm, fun σ2 G2 H2 R2 s2 i2 v av => ?_⟩
  · unfold env0 L2.start
    simp only [List.length_set, List.length_cons, List.length_replicate, List.length_append, List.length_map, List.length_nil]
    omega
  · by_cases hj : i = j
    · subst hj
      have hlt : i < (some (SD.scr ns.length) :: List.replicate (NN - 1) none).length := by
        have := (List.getElem?_eq_some_iff.mp h).1
        unfold env0 at this
        rwa [List.length_set] at this
      unfold env0 at h
      rw [List.getElem?_set_self hlt] at h
      cases h
      refine ⟨_, List.getElem?_set_self ?_, rfl, rfl⟩
      unfold L2.start
      simp only [List.length_cons, List.length_replicate, List.length_append, List.length_map, List.length_nil] at hlt ⊢
      omega
    · unfold env0 at h
      rw [List.getElem?_set_ne hj] at h
      cases j with
      | zero =>
        cases h
        refine ⟨_, hs, a, ns.map V.int, rfl, by rw [List.length_map], ?_⟩
        rcases hS with (hS | ⟨o, hS⟩) | hS
        · rcases hO.only a with z | z | ⟨o, xs, z⟩
          · rw [z] at hS; cases hS
          · obtain ⟨p, hp, rfl⟩ := List.mem_map.mp z
            rw [hO.tab p hp] at hS; cases hS
          · rw [z] at hS; cases hS
        · refine .inl ⟨o, sm _ _ hS, fun z => ?_⟩
          have z : (some (beginDS ns)).isSome = true ∧ (a = ad.sa ∨ a = ad.la) := z.resolve_right fun z => by
            obtain ⟨p, hp, e⟩ := List.mem_map.mp z
            rw [← e, hO.tab p hp] at hS; cases hS
          rcases z.2 with z | z
          · subst z; rw [n1] at hS; cases hS
          · subst z; rw [n3] at hS; cases hS
        · exact .inr fun H1 => .inr hS
      | succ j =>
        rw [List.getElem?_cons_succ, List.getElem?_replicate] at h
        split at h <;> cases h
  · have no : ∀ (l : Nat) (zs : List PyData), (env0 ns.length NN i)[l]? ≠ some (some (.own zs)) := fun l zs h => by
      by_cases hl : i = l
      · subst hl
        have hlt : i < (some (SD.scr ns.length) :: List.replicate (NN - 1) none).length := by
          have := (List.getElem?_eq_some_iff.mp h).1
          unfold env0 at this
          rwa [List.length_set] at this
        unfold env0 at h
        rw [List.getElem?_set_self hlt] at h
        cases h
      · unfold env0 at h
        rw [List.getElem?_set_ne hl] at h
        cases l with
        | zero => cases h
        | succ l =>
          rw [List.getElem?_cons_succ, List.getElem?_replicate] at h
          split at h <;> cases h
    exact absurd e (no j xs)
  · cases e
    exact ⟨e1, e2, e3, rfl, rfl, rfl, ne, rfl⟩
  · show H' ad.sa ≠ none
    rw [e1]; exact Option.some_ne_none _
  · show H' ad.la ≠ none
    rw [e2]; exact Option.some_ne_none _
  · show H' ad.ca ≠ none
    rw [e3]; exact Option.some_ne_none _
  · cases av
    exact hQ H2
end Dn

set_option maxHeartbeats 4000000
namespace Dn
open PySem PySem.Spec PyProof.Rows L2
mutual
def kdB (K : PySem.W.Frag) : Nat → Value → PyData → Bool
  | _, .none, .none => true
  | _, .bool b, .bool c => b == c
  | _, .int i _, .int j => decide (i = j)
  | _, .str x _, .str y => decide (x = y)
  | n + 1, .ref a, .tuple ds => (match K.lookup a with
    | some ⟨.type c, _, .seq its _, _⟩ => decide (c = "tuple") && (decide (its.size ≤ sizeLine) && kdAll K n its.toList ds)
    | _ => false)
  | _, _, _ => false
def kdAll (K : PySem.W.Frag) : Nat → List Value → List PyData → Bool
  | _, [], [] => true
  | n, u :: us, d :: ds => kdB K n u d && kdAll K n us ds
  | _, _, _ => false
end
theorem kdA_of {K : PySem.W.Frag} {n : Nat} (B : ∀ (u : Value) (d : PyData), kdB K n u d = true → ∃ v, RelV v u ∧ ∀ G, Dq K G v d) : ∀ (us : List Value) (ds : List PyData), kdAll K n us ds = true → ∃ vs, Vals vs us ∧ ∀ G, DqA K G vs ds
  | [], [], _ => ⟨[], .nil, fun _ => .nil⟩
  | [], _ :: _, h => by simp [kdAll] at h
  | _ :: _, [], h => by simp [kdAll] at h
  | u :: us, d :: ds, h => by
    simp only [kdAll, Bool.and_eq_true] at h
    obtain ⟨v, r, q⟩ := B u d h.1
    obtain ⟨vs, rs, qs⟩ := kdA_of B us ds h.2
    exact ⟨v :: vs, .cons r rs, fun G => .cons (q G) (qs G)⟩
theorem kdB_ok {K : PySem.W.Frag} : ∀ {n : Nat} {u : Value} {d : PyData}, kdB K n u d = true → ∃ v, RelV v u ∧ ∀ G, Dq K G v d := by
  intro n
  induction n with
  | zero =>
    intro u d h
    unfold kdB at h
    split at h
    · exact ⟨.non, rfl, fun _ => .non⟩
    · rename_i b c
      have e : b = c := by simpa using h
      subst e
      exact ⟨.bl b, rfl, fun _ => .bl b⟩
    · rename_i i t j
      have e : i = j := by simpa using h
      subst e
      exact ⟨.int i, ⟨t, rfl⟩, fun _ => .int i⟩
    · rename_i x t y
      have e : x = y := by simpa using h
      subst e
      exact ⟨.str x, ⟨t, rfl⟩, fun _ => .str x⟩
    · rename_i hz; cases hz
    · cases h
  | succ n ih =>
    intro u d h
    unfold kdB at h
    split at h
    · exact ⟨.non, rfl, fun _ => .non⟩
    · rename_i b c
      have e : b = c := by simpa using h
      subst e
      exact ⟨.bl b, rfl, fun _ => .bl b⟩
    · rename_i i t j
      have e : i = j := by simpa using h
      subst e
      exact ⟨.int i, ⟨t, rfl⟩, fun _ => .int i⟩
    · rename_i x t y
      have e : x = y := by simpa using h
      subst e
      exact ⟨.str x, ⟨t, rfl⟩, fun _ => .str x⟩
    · rename_i m a ds hz
      cases hz
      split at h
      · rename_i c od its m sl q
        rw [Bool.and_eq_true, Bool.and_eq_true] at h
        obtain ⟨h1, h2, h3⟩ := h
        obtain ⟨vs, r, dA⟩ := kdA_of (fun u d => ih) _ _ h3
        exact ⟨.ref a, rfl, fun G => .tup (.inr ⟨_, its, m, q, congrArg Value.type (of_decide_eq_true h1), rfl, of_decide_eq_true h2, r⟩) (dA G)⟩
      · cases h
    · cases h
/-- the module's name x stands for the datum d -/
structure GCon (K : PySem.W.Frag) (mg : Str → Option Value) (x : Str) (d : PyData) : Prop where
  ex : ∃ u v, mg x = some u ∧ RelV v u ∧ ∀ G, Dq K G v d
def conB (K : PySem.W.Frag) (x : Str) (d : PyData) : Bool := match PySem.W.nsIn K mainGlobals x with
  | some (some u) => kdB K 20 u d
  | _ => false
theorem conB_ok {K : PySem.W.Frag} {h : Heap} {mg : Str → Option Value} {x : Str} {d : PyData} (X : K.In h) (G : h.Ns mainGlobals mg) (c : conB K x d = true) : GCon K mg x d := by
  unfold conB at c
  split at c
  · rename_i u q
    obtain ⟨v, r, z⟩ := kdB_ok c
    exact ⟨u, v, PySem.W.mg_of X G q, r, z⟩
  · cases c
def gtB (K : PySem.W.Frag) (x : Str) (ys : List Str) : Bool := match PySem.W.nsIn K mainGlobals x with
  | some (some (.ref a)) => (match K.lookup a with
    | some ⟨.type c, none, .seq its _, _⟩ => decide (c = "tuple") && (decide (its.size ≤ sizeLine) && He.relAll (ys.map V.str) its.toList)
    | _ => false)
  | _ => false
theorem gtB_ok {K : PySem.W.Frag} {h : Heap} {mg : Str → Option Value} {x : Str} {ys : List Str} (X : K.In h) (G : h.Ns mainGlobals mg) (c : gtB K x ys = true) : GTup K mg x ys := by
  unfold gtB at c
  split at c
  · rename_i a q
    split at c
    · rename_i cc its m sl lk
      rw [Bool.and_eq_true, Bool.and_eq_true] at c
      obtain ⟨h1, h2, h3⟩ := c
      have e := of_decide_eq_true h1
      exact ⟨a, PySem.W.mg_of X G q, fun H => .inr ⟨_, its, m, lk, congrArg Value.type e, rfl, of_decide_eq_true h2, He.relAll_ok h3⟩, _, lk, congrArg Value.type e, rfl⟩
    · cases c
  · cases c
/-- one def of the top -/
def mkD (x : Str) (st : Stmt) : He.DefD := ⟨(x, none), x, x, defArgs st, defBody st, defScope st, [], []⟩
theorem def_ok {K : PySem.W.Frag} {h : Heap} {mg : Str → Option Value} {fa : List He.Fa} {fn : List He.DefD} {x : Str} {st : Stmt} (X : K.In h) (G : h.Ns mainGlobals mg) (c : He.SaysD fa fn K) (i j : Nat) (hi : fn[i]? = some (mkD x st)) (hj : fa[j]? = some (.glo x)) :
    ∃ f fd, FunD K x x (defArgs st) (defBody st) (defScope st) [] [] f fd ∧ mg x = some (.ref f) := by
  obtain ⟨fd, F⟩ := c.def_ i hi
  exact ⟨_, fd, F, He.glo_ok X G (c.fact j hj)⟩
theorem con_int {K : PySem.W.Frag} {h : Heap} {mg : Str → Option Value} {x : Str} {n : Int} (X : K.In h) (G : h.Ns mainGlobals mg) (c : conB K x (.int n) = true) : ∃ t, mg x = some (.int n t) := by
  obtain ⟨u, v, h1, h2, h3⟩ := (conB_ok X G c).ex
  cases h3 fun _ => none
  obtain ⟨t, rfl⟩ := h2
  exact ⟨t, h1⟩
theorem con_str {K : PySem.W.Frag} {h : Heap} {mg : Str → Option Value} {x y : Str} (X : K.In h) (G : h.Ns mainGlobals mg) (c : conB K x (.str y) = true) : ∃ t, mg x = some (.str y t) := by
  obtain ⟨u, v, h1, h2, h3⟩ := (conB_ok X G c).ex
  cases h3 fun _ => none
  obtain ⟨t, rfl⟩ := h2
  exact ⟨t, h1⟩
end Dn

set_option maxHeartbeats 4000000
namespace Dn
open PySem PySem.Spec PyProof.Rows L2
def top (i : Nat) : Stmt := PySem.Challenge.pw_pickedrelease_k40_telling_by_hand.main.body.getD i (.Pass ⟨0, 0, 0, 0⟩)
end Dn
set_option maxHeartbeats 0
namespace Dn
open PySem PySem.Spec PyProof.Rows L2
def hfn : List He.DefD := [mkD "number_at" (top 10), mkD "numbers_at" (top 11), mkD "word_at" (top 12), mkD "tail_at" (top 13), mkD "parts_of" (top 14), mkD "based" (top 15), mkD "tail_of" (top 16), mkD "split_tail" (top 17), mkD "key_from" (top 18), mkD "key_of" (top 19), mkD "text_of" (top 20), mkD "following_key" (top 21), mkD "is_version" (top 22), mkD "numbers_text" (top 25), mkD "block_text" (top 26), mkD "near_text" (top 27), mkD "told_keys" (top 30), mkD "shared" (top 31), mkD "padded" (top 32), mkD "common_block" (top 33), mkD "near_key" (top 34), mkD "left_out" (top 35), mkD "first_ways" (top 36), mkD "telling" (top 37), mkD "_law_mixed" (top 39), mkD "_law_begin" (top 40), mkD "_law_draw" (top 41), mkD "_law_of" (top 42), mkD "_law_parts" (top 43), mkD "_law_base" (top 44), mkD "_law_key" (top 45), mkD "_law_is_forerunner" (top 46), mkD "_law_text" (top 47), mkD "_law_in_block" (top 48), mkD "_law_clause_lets" (top 49), mkD "_law_lets" (top 50), mkD "_law_moved" (top 51), mkD "_law_right" (top 52), mkD "_law_rows" (top 53), mkD "law" (top 54)]
def hfa : List He.Fa := [.glo ("number_at" : Str), .glo ("numbers_at" : Str), .glo ("word_at" : Str), .glo ("tail_at" : Str), .glo ("parts_of" : Str), .glo ("based" : Str), .glo ("tail_of" : Str), .glo ("split_tail" : Str), .glo ("key_from" : Str), .glo ("key_of" : Str), .glo ("text_of" : Str), .glo ("following_key" : Str), .glo ("is_version" : Str), .glo ("numbers_text" : Str), .glo ("block_text" : Str), .glo ("near_text" : Str), .glo ("told_keys" : Str), .glo ("shared" : Str), .glo ("padded" : Str), .glo ("common_block" : Str), .glo ("near_key" : Str), .glo ("left_out" : Str), .glo ("first_ways" : Str), .glo ("telling" : Str), .glo ("_law_mixed" : Str), .glo ("_law_begin" : Str), .glo ("_law_draw" : Str), .glo ("_law_of" : Str), .glo ("_law_parts" : Str), .glo ("_law_base" : Str), .glo ("_law_key" : Str), .glo ("_law_is_forerunner" : Str), .glo ("_law_text" : Str), .glo ("_law_in_block" : Str), .glo ("_law_clause_lets" : Str), .glo ("_law_lets" : Str), .glo ("_law_moved" : Str), .glo ("_law_right" : Str), .glo ("_law_rows" : Str), .glo ("law" : Str), .free ("all" : Str), .free ("dict" : Str), .free ("int" : Str), .free ("isinstance" : Str), .free ("len" : Str), .free ("list" : Str), .free ("max" : Str), .free ("min" : Str), .free ("range" : Str), .free ("set" : Str), .free ("sorted" : Str), .free ("str" : Str), .free ("tuple" : Str)]
def hex (K : PySem.W.Frag) : Bool := conB K "DEV" (.str ".dev") && (conB K "FIGURES" (.str "0123456789") && (conB K "MOST_FIGURES" (.int 24) && (conB K "MOST_NUMBERS" (.int 60) && (conB K "MOST_TOLD" (.int 20) && (conB K "POST" (.str ".post") && (conB K "STAR" (.str ".*") && (gtB K "WORDS" ["a", "b", "rc"] && ((tabsOf K).isEmpty && (true)))))))))
abbrev hR : PySem.W.OpenRow := PySem.W.OpenLaw.row PySem.Challenge.rw_pickedrelease_k40_telling_by_hand
def htf : List He.Defn := ([] : List Str).map fun x => (x, none)
abbrev hk : PySem.W.Hook := He.hookX 2 hfa hfn [] htf hex
def hob (s : PySem.W.SharedT) : He.AlX := He.obsX 2 hfa hfn [] htf hex (HandSHeadRun.getT s)
theorem hob_eq (s : PySem.W.SharedT) : hob s = hk.obs s.abs := He.obsX_eq (HandSHeadRun.getT_eq s)
def hloose : List Str := [("PickError" : Str), ("BadQuestion" : Str), ("FIGURES" : Str), ("MOST_FIGURES" : Str), ("MOST_NUMBERS" : Str), ("WORDS" : Str), ("POST" : Str), ("DEV" : Str), ("number_at" : Str), ("numbers_at" : Str), ("word_at" : Str), ("tail_at" : Str), ("parts_of" : Str), ("based" : Str), ("tail_of" : Str), ("split_tail" : Str), ("key_from" : Str), ("key_of" : Str), ("text_of" : Str), ("following_key" : Str), ("is_version" : Str), ("STAR" : Str), ("numbers_text" : Str), ("block_text" : Str), ("near_text" : Str), ("MOST_TOLD" : Str), ("told_keys" : Str), ("shared" : Str), ("padded" : Str), ("common_block" : Str), ("near_key" : Str), ("left_out" : Str), ("first_ways" : Str), ("telling" : Str), ("_law_mixed" : Str), ("_law_begin" : Str), ("_law_draw" : Str), ("_law_of" : Str), ("_law_parts" : Str), ("_law_base" : Str), ("_law_key" : Str), ("_law_is_forerunner" : Str), ("_law_text" : Str), ("_law_in_block" : Str), ("_law_clause_lets" : Str), ("_law_lets" : Str), ("_law_moved" : Str), ("_law_right" : Str), ("_law_rows" : Str)]
end Dn
namespace Dn
open PySem PySem.W PySem.Calls PyProof.Rows HandSHeadRun
theorem hrA (w : World) (os : OsState) : (endF (stepQ (denQ tabQ) hR.prog w) 40000 hR.prog w os).map (fun s => looksF hR.prog (boot_heap w.params) s.abs) = some true := by
  kernel_rfl
theorem hrB (w : World) (os : OsState) : (endF (stepQ (denQ tabQ) hR.prog w) 40000 hR.prog w os).map (fun s => seenQ (PySem.W.view hR.prog [54]) hloose (importedModules hR.prog.main.body) (fun s => xlAt (PySem.W.view hR.prog [54]) [] s && recOk hR.toRowW.records s) s.abs) = some (openGood (PySem.W.view hR.prog [54]) hloose) := by
  kernel_rfl
theorem hrC (w : World) (os : OsState) : (endF (stepQ (denQ tabQ) hR.prog w) 40000 hR.prog w os).map (fun s => hob s) = some (hk.val w) := by
  kernel_rfl
theorem map3 {α β γ δ : Type} {o : Option α} {f : α → β} {g : α → γ} {h : α → δ} {a : β} {b : γ} {c : δ} (h1 : o.map f = some a) (h2 : o.map g = some b) (h3 : o.map h = some c) : o.map (fun s => (f s, g s, h s)) = some (a, b, c) := by
  cases o with
  | none => cases h1
  | some s =>
    rw [Option.map_some, Option.some.injEq] at h1 h2 h3
    rw [Option.map_some, h1, h2, h3]
theorem hrun (w : World) : HandSHeadRun.RunEq hR (PySem.W.view hR.prog [54]) hk hob 40000 hloose w := fun os => map3 (hrA w os) (hrB w os) (hrC w os)
end Dn

set_option maxHeartbeats 4000000
namespace Dn
open PySem PySem.Spec PyProof.Rows L2

section
variable {X : Cx} {pins : List (Addr × Obj)} {σ : L2.St} {H : Hp} {s : Shared}
end
theorem vals_ix {xs : List V} {us : List Value} {i : Nat} {u : Value} (r : Vals xs us) (e : us[i]? = some u) : ∃ x, xs[i]? = some x ∧ RelV x u := by
  have h1 : i < us.length := (List.getElem?_eq_some_iff.mp e).1
  have h2 : i < xs.length := by rw [r.length]; exact h1
  obtain ⟨u', q1, q2⟩ := r.get (List.getElem?_eq_getElem h2)
  rw [e] at q1; cases q1
  exact ⟨_, List.getElem?_eq_getElem h2, q2⟩
theorem Inv.filled {X : Cx} {pins : List (Addr × Obj)} {σ : L2.St} {H : Hp} {s : Shared} {h' : Heap} {t' : Nat} {a k : Addr} {o : HO} (I : Inv X pins σ H s) (fa : FpOk X pins H a) (fk : FpOk X pins H k)
    (keep : ∀ b ob, b ≠ a → b ≠ k → s.heap.get? b = some ob → h'.get? b = some ob) (new : ObjOk X.prog X.w (upd H a o) h' a o) : Inv X pins σ (upd H a o) { s with heap := h', toks := t' } := by
  have nin : ∀ b, b ∉ [a, k] → b ≠ a ∧ b ≠ k := fun b z => ⟨fun e => z (by simp [e]), fun e => z (by simp [e])⟩
  have ne : ∀ b u, H b = some u → b ≠ a ∧ b ≠ k := fun b u e => ⟨fun z => (by rw [z, fa.1] at e; cases e), fun z => (by rw [z, fk.1] at e; cases e)⟩
  refine I.step (g' := s.gens) (d' := s.drawn) (ch := [a, k]) (fun b hb => ?_) (fun b ob _ _ hc e _ => keep b ob (nin b hc).1 (nin b hc).2 e) (fun b ob _ _ hc e _ => ⟨ob.slots, keep b ob (nin b hc).1 (nin b hc).2 e⟩)
    (fun b ob hc _ n => by rw [upd_ne (nin b hc).1]; exact n) (fun b ob hc e => ⟨ob, keep b ob (nin b hc).1 (nin b hc).2 e⟩) (fun b xs e => by rw [upd_ne (ne b _ e).1]; exact e) (fun b ob u e => by rw [upd_ne (ne b _ e).1]; exact e)
    (fun b ps e => ⟨#[], by rw [upd_ne (ne b _ e).1, e]; simp⟩) (fun m hm => ?_) (fun b u e => ?_) I.bare
  · have f : FpOk X pins H b := by
      rcases List.mem_cons.mp hb with rfl | hb
      · exact fa
      · rw [List.mem_singleton.mp hb]; exact fk
    exact ⟨f.2.2.2.1, f.2.1, f.2.2.2.2.1, f.2.2.2.2.2⟩
  · obtain ⟨ob, es, ep, ho, r⟩ := hm
    exact ⟨ob, es, ep, keep _ ob (Ne.symm fa.2.1) (Ne.symm fk.2.1) ho, r⟩
  · by_cases hb : b = a
    · subst hb
      rw [upd_same] at e
      cases e
      exact new
    · rw [upd_ne hb] at e
      refine (I.hok b u e).stay (fun c v hc q => ?_) (fun c q => by rw [upd_ne (ne c _ q).1]; exact q) fun c xs q => by rw [upd_ne (ne c _ q).1]; exact q
      rcases hc with rfl | hc
      · exact keep _ v (ne _ _ e).1 (ne _ _ e).2 q
      · exact keep c v (ne c _ hc).1 (ne c _ hc).2 q

section
variable {X : Cx} {pins : List (Addr × Obj)} {σ : L2.St} {G H : Hp} {a kS : Addr} {e1 : Nat} {m : List SD → W → Option (SD × W)} {f : Addr} {fd : FuncData} {ps : List Str} {j k : Nat}
end

section
variable {X : Cx} {pins : List (Addr × Obj)} {σ : L2.St} {G H : Hp} {s : Shared} {m : List SD → W → Option (SD × W)} {f : Addr} {fd : FuncData} {ps : List Str} {k : Nat} {ds ks : List PyData} {xs : List V} {us : List Value}
end
end Dn

set_option maxHeartbeats 4000000
namespace Dn
open PySem PySem.Spec PyProof.Rows L2

/-- as FnOk, but only where no repr is under way -/
structure OkG (P : Program) (w : World) (K : PySem.W.Frag) (mg : Str → Option Value) (base : Heap) (k : Nat) (f : Addr) (fd : FuncData) (ps : List Str) (sp : Sp) : Prop where
  len : ∀ vs H Q E, sp vs H Q E → vs.length = ps.length
  go : ∀ {A : Around} {outer : List PySem.Env} {s : Shared} {H : Hp} {args : Args} {us : List Value} {vs : List V} {Q : VK} {E : XK}, A.guards = some [] → Room k A → Env0 P w K mg base A outer s H → BindsTo s fd args (ps.zip us) → Vals vs us → sp vs H Q E →
    codeAny (model P w) A (.call (.ref f) args) (CR CX0 outer P w H s Q E) s
section
variable {X : Cx} {x : Str} {e : Expr} {es : List Expr} {p pos : Pos} {m : List SD → W → Option (SD × W)} {ms : Ax} {j k : Nat} {f : Addr} {fd : FuncData} {ps : List Str} {sp : Sp} {pins : List (Addr × Obj)} {σ : L2.St} {H : Hp} {s : Shared} {Q : VK} {us : List Value} {vs : List V}
theorem OkG.call (F : OkG X.prog X.w X.K X.mg X.base k f fd ps sp) (hG : X.A.guards = some []) (hr : Room k X.A) (hb : Binds X.K fd ps []) (I : Inv X pins σ H s) (r : Vals vs us) (h : sp vs H Q E0) :
    wpAny (model X.prog X.w) X.A (call (.ref f) us) (EP X pins σ Q) X.xe s := by
  have hl : (us ++ []).length = ps.length := by rw [List.append_nil, ← r.length]; exact F.len _ _ _ _ h
  have hb' := hb s us I.kIn hl
  rw [List.append_nil] at hb'
  have C := F.go hG hr I.env0 hb' r h
  refine wpAny_call (codeAny_mono C ?_)
  intro res s' q
  match res, q with
  | .error v, q => exact (pass0 (X := X)) pins σ H s v s' I q
  | .ok (.ret _), q => exact I.after q
end
/-- a def by its body -/
theorem OkG.of {P : Program} {w : World} {K : PySem.W.Frag} {mg : Str → Option Value} {base : Heap} {x qual : Str} {params : Arguments} {body : List Stmt} {scope : Scope} {f : Addr} {fd : FuncData} {N ps : List Str} {k : Nat} {sp : Sp}
    (F : FunD K x qual params body scope [] [] f fd) (S : FnScope N ps scope) (hlen : ∀ vs H Q E, sp vs H Q E → vs.length = ps.length)
    (hbody : ∀ (cdv : Value) (A : Around) (outer : List PySem.Env) (s : Shared) (H : Hp) (vs : List V) (Q : VK) (E : XK), A.guards = some [] → Room k (A.deeper (envOfC qual scope s.heap.objs.size f cdv)) → sp vs H Q E →
      ∃ t, PSs (cxOf CX0 P w K mg base N qual scope f cdv A outer s H E) body t ∧ t { nx := fun _ H' => Q .non H', rt := Q } (L2.start N vs) H) : OkG P w K mg base (k + 1) f fd ps sp := by
  obtain ⟨oc, od, dV, kV, doc, pm, an, cdv, ct, osl, rfl, lk, hcd, _, _⟩ := F.ex
  refine ⟨hlen, ?_⟩
  intro A outer s H args us vs Q E hG hr e0 hb r hsp
  have up : ∀ b o, base.get? b = some o → s.heap.get? b = some o := fun b o e => (e0.bs b o e).1
  have inK := e0.mod.kin.keeps up
  have par : ∀ y ∈ ps.zip us, scope.names.lookup y.1 = some .local ∨ (scope.names.lookup y.1 = some .cell ∧ ((cellsFrom (s.heap.objs.size + 1) scope.names []).lookup y.1).isSome = true) := by
    rintro ⟨n, v⟩ hy
    exact (S.par n (List.of_mem_zip hy).1).imp id fun q => ⟨q, PySem.W.cellsFrom_some _ _ _ (.inl q)⟩
  refine codeAny_call_function hr.depth (inK _ _ lk) rfl S.co S.gen rfl (PySem.W.codeRec_of inK hcd) (hb _ _ _ _ (wpAny_newFunctionEnv_cells S.kind par ?_))
  rintro env rfl s1 x1
  refine ⟨(e0.mod.nolimit.keeps up).keeps x1.toInCall.keep, codeAny_func ?_⟩
  obtain ⟨t, ht, hq⟩ := hbody cdv A outer s H vs Q E hG (hr.deeper _) hsp
  have I := inv_start (CX := CX0) (qual := qual) (f := f) (cd := cdv) (E := E) S hr.hd e0 (hlen _ _ _ _ hsp) r x1
  refine wpAny_mono (ht.run [] s1 _ H _ I hq) ?_ fun _ _ q => q
  intro fl s' q
  match fl, q with
  | .ret _, ⟨v, _, H', J, rv, q⟩ => exact ⟨v, H', J.os, J.bare, J.base, J.hok, rv, q⟩
  | .next, ⟨_, H', J, q⟩ => exact ⟨.non, H', J.os, J.bare, J.base, J.hok, rfl, q⟩
  | .brk, ⟨_, _, _, q⟩ => exact q.elim
  | .cont, ⟨_, _, _, q⟩ => exact q.elim
theorem callG {P : Program} {w : World} {K : PySem.W.Frag} {mg mb : Str → Option Value} {k : Nat} {fa a : Addr} {fd : FuncData} {x : Str} {sp : Sp} {s₁ : Shared} {vs : List Value} {ns : List Int}
    (KX : K.In s₁.heap) (hns : s₁.heap.Ns mainGlobals mg) (hb : s₁.heap.Ns builtinsNs mb) (hbb : ∀ x : Str, x ≠ "__name__" → mb x = bootBuiltins x) (hlim : s₁.heap.NoLimit) (hg : s₁.gens = #[])
    (ha : s₁.heap.get? a = some { cls := .type "list", data := .seq vs.toArray }) (hi : IntsAre vs ns) (hl : ns.length ≤ sizeLine) (hr : Room k callerA)
    (F : ∀ base : Heap, K.In base → base.Ns mainGlobals mg → OkG P w K mg base k fa fd [x] sp) (hbind : ∀ (s : Shared) (u : Value), BindsTo s fd ⟨[u], []⟩ [(x, u)])
    (hsp : ∀ H : Hp, Only H → SqL K H a (ns.map V.int) → sp [.ref a] H (fun v _ => v = .bl true) fun _ _ _ => False) :
    codeAny (model P w) callerA (.call (.ref fa) ⟨[.ref a], []⟩) (fun r s' => r = .ok (.ret (.bool true)) ∧ OldK s₁.heap s'.heap ∧ s'.os = s₁.os ∧ AllBare s'.gens) s₁ := by
  have rv := vals_ints hi
  have go : ∀ H : Hp, (∀ b u, H b = some u → b = a ∧ K.lookup a = none ∧ u = .frz { cls := .type "list", data := .seq vs.toArray } (.lst (ns.map V.int))) → SqL K H a (ns.map V.int) → HOk P w H s₁.heap →
      codeAny (model P w) callerA (.call (.ref fa) ⟨[.ref a], []⟩) (fun r s' => r = .ok (.ret (.bool true)) ∧ OldK s₁.heap s'.heap ∧ s'.os = s₁.os ∧ AllBare s'.gens) s₁ := by
    intro H hH hS hok
    have isnone : ∀ {b : Addr}, (∀ u, H b ≠ some u) → H b = none := fun {b} z => by
      cases q : H b with
      | none => rfl
      | some u => exact absurd q (z u)
    have nsH : ∀ {b : Addr} {m : Str → Option Value}, s₁.heap.Ns b m → (hidT s₁.heap H).Ns b m := by
      rintro b m ⟨o, es, ep, e, d, r⟩
      refine ⟨o, es, ep, hidT_get e (isnone fun u q => ?_), d, r⟩
      rw [(hH b u q).1, ha] at e
      cases e
      cases (show Data.seq vs.toArray _ = Data.dict es ep from d)
    have inH : K.In (hidT s₁.heap H) := fun b o e => hidT_get (KX b o e) (isnone fun u q => by
      obtain ⟨rfl, z, _⟩ := hH b u q
      rw [z] at e; cases e)
    obtain ⟨mc, l1, l2⟩ := hlim
    have only : Only H := fun b => by
      cases q : H b with
      | none => exact .inl rfl
      | some u => obtain ⟨_, _, rfl⟩ := hH b u q; exact .inr ⟨_, _, rfl⟩
    have E0' : Env0 P w K mg (hidT s₁.heap H) callerA [] s₁ H := ⟨rfl, ⟨inH, nsH hns, ⟨mb, nsH hb, hbb⟩, ⟨mc, nsH l1, l2⟩⟩, fun _ _ => of_hidT, Nat.le_of_eq (hidT_size _ _), trivial, fun b z => (List.not_mem_nil (show b ∈ [] from z)).elim, hok, .of_eq hg⟩
    have C := (F _ inH (nsH hns)).go (us := [.ref a]) (vs := [.ref a]) (show callerA.guards = some [] from rfl) hr E0' (hbind s₁ (.ref a)) (.cons rfl .nil) (hsp H only hS)
    refine codeAny_mono C ?_
    intro r s' q
    match r, q with
    | .error v, q => exact absurd q id
    | .ok (.ret u), ⟨v, H', os, bare, un, hok', rv', q⟩ =>
      obtain rfl : v = .bl true := q
      obtain rfl : u = Value.bool true := rv'
      refine ⟨rfl, OldK.of_keep ?_, os, bare⟩
      intro b o e
      cases q : H b with
      | none => exact un.keep b o e q (fun z => (List.not_mem_nil (show b ∈ [] from z)).elim) (by simp)
      | some u =>
        obtain ⟨rfl, _, rfl⟩ := hH b u q
        have z := un.frzs _ _ _ q
        rw [ha] at e
        cases e
        exact (hok' _ _ z).1
  cases hk : K.lookup a with
  | some o =>
    have e := KX a o hk
    rw [ha] at e
    cases e
    refine go (fun _ => none) (fun _ _ z => by cases z) (.inr ⟨_, vs.toArray, _, hk, rfl, rfl, rfl, ?_, by simpa using rv⟩) fun _ _ z => by cases z
    rw [List.size_toArray, hi.length]
    exact hl
  | none =>
    refine go (upd (fun _ => none) a (.frz { cls := .type "list", data := .seq vs.toArray } (.lst (ns.map V.int)))) (fun b u z => ?_) (.inl (.inr ⟨_, upd_same⟩)) fun b u z => ?_
    · by_cases hb : b = a
      · subst hb
        rw [upd_same] at z
        cases z
        exact ⟨rfl, hk, rfl⟩
      · rw [upd_ne hb] at z; cases z
    · by_cases hb : b = a
      · subst hb
        rw [upd_same] at z
        cases z
        exact ⟨ha, by rw [List.length_map]; exact hl, vs, _, rv, ha⟩
      · rw [upd_ne hb] at z; cases z
theorem walkG {l : PySem.W.OpenLaw} {n k : Nat} {q : Program} {loose : List Str} {XP : (Str → Option Value) → Heap → Prop} {YP : World → Heap → Prop} {d : DefRec} {x : Str}
    (hn : l.most = some n) (hn2 : n ≤ sizeLine) (hdf : d.params.defaults = []) (hr : Room k callerA)
    (F : ∀ (w : World) (mg : Str → Option Value) (fa : Addr) (h : Heap), YP w h → h.Ns mainGlobals mg → mg d.name = some (.ref fa) →
      ∃ (K : PySem.W.Frag) (fd : FuncData) (sp : Sp), K.In h ∧ (∀ (s : Shared) (u : Value), BindsTo s fd ⟨[u], []⟩ [(x, u)]) ∧
        (∀ (H : Hp) (a : Addr) (ns : List Int), ns.length ≤ n → Only H → SqL K H a (ns.map V.int) → sp [.ref a] H (fun v _ => v = .bl true) fun _ _ _ => False) ∧
        ∀ base : Heap, K.In base → base.Ns mainGlobals mg → OkG l.prog w K mg base k fa fd [x] sp) :
    PySem.W.WalkO q loose XP YP l.row.toRowW d [] (fun f vs => PySem.call f vs) := by
  apply Att.attach_call hn hdf
  intro w s₀ s₁ mg mb fa o pm cd doc a vs ns G Y ho hd hcd hmg hobj hints hlen hg
  obtain ⟨K, fd, sp, KX, hb, hsp, hF⟩ := F w mg fa _ Y G.T.g hmg
  exact callG KX G.T.g G.T.b G.T.builtins G.T.nolimit hg hobj hints (Nat.le_trans hlen hn2) hr hF hb fun H => hsp H a ns hlen
end Dn

set_option maxHeartbeats 4000000
namespace Dn
open PySem PySem.Spec PyProof.Rows L2

section
variable {prog : Program} {w : World} {A : Around} {E : Value → Shared → Prop} {s : Shared}
end
section
variable {h : Heap} {a e it : Addr} {i : Nat} {its : Array Value}
end
/-- enumerate of data -/
def enumL (xs : List PyData) : List PyData := xs.zipIdx.map fun p => .tuple [.int (p.2 : Nat), p.1]
def mEnum (ms : Ax) : Lx := argsD ms fun ds env w => match ds with
  | [x] => (itemsD x).map fun xs => (enumL xs, env, w)
  | _ => none
end Dn

set_option maxHeartbeats 4000000
namespace Dn
open PySem PySem.Spec PyProof.Rows L2

section
variable {X : Cx}
def cmpOk (x y : PyData) : Bool := PySem.W.alike x y && (dOk 60 x || dOk 60 y) && (match x with
  | .none => false
  | .int _ => false
  | _ => true)
def leT (x y : PyData) : Option PyData := if cmpOk x y then some (.bool (!PySem.W.dataLt y x)) else none
def gtT (x y : PyData) : Option PyData := if cmpOk x y then some (.bool (PySem.W.dataLt y x)) else none
def geT (x y : PyData) : Option PyData := if cmpOk x y then some (.bool (!PySem.W.dataLt x y)) else none
def leD (x y : PyData) : Option PyData := match x with
  | .int _ => leI x y
  | _ => leT x y
def gtD (x y : PyData) : Option PyData := match x with
  | .int _ => gtI x y
  | _ => gtT x y
def geD (x y : PyData) : Option PyData := match x with
  | .int _ => geI x y
  | _ => geT x y
theorem cmpOk_inv {x y : PyData} (h : cmpOk x y = true) : PySem.W.alike x y = true ∧ (dOk 60 x || dOk 60 y) = true ∧ x ≠ .none := by
  unfold cmpOk at h
  rw [Bool.and_eq_true, Bool.and_eq_true] at h
  refine ⟨h.1.1, h.1.2, ?_⟩
  rintro rfl
  cases h.2
theorem od_leT (hu : X.A.units + 64 < cLine) : OpD X (compareOp .LtE) leT := fun pins s σ G H x y v u dx dy dz Q I rx ry sg hx hy hg k => by
  unfold leT at hg
  split at hg
  · rename_i hd
    cases hg
    obtain ⟨h1, h2, h3⟩ := cmpOk_inv hd
    obtain ⟨as, r1⟩ := Dp.reads I dx x v (dp_mono sg hx).dp rx
    obtain ⟨bs, r2⟩ := Dp.reads I dy y u (dp_mono sg hy).dp ry
    exact PySem.W.rcLe_alike dx dy X.A s v u as bs r1 r2 h1 h3 (min60 h2 hu) X.prog X.w X.xe _ ⟨.bl _, H, I, rfl, k _ G H (Ext.refl sg) (.bl _)⟩
  · cases hg
theorem od_gtT (hu : X.A.units + 64 < cLine) : OpD X (compareOp .Gt) gtT := fun pins s σ G H x y v u dx dy dz Q I rx ry sg hx hy hg k => by
  unfold gtT at hg
  split at hg
  · rename_i hd
    cases hg
    obtain ⟨h1, h2, h3⟩ := cmpOk_inv hd
    obtain ⟨as, r1⟩ := Dp.reads I dx x v (dp_mono sg hx).dp rx
    obtain ⟨bs, r2⟩ := Dp.reads I dy y u (dp_mono sg hy).dp ry
    exact PySem.W.rcGt_alike dx dy X.A s v u as bs r1 r2 h1 h3 (min60 h2 hu) X.prog X.w X.xe _ ⟨.bl _, H, I, rfl, k _ G H (Ext.refl sg) (.bl _)⟩
  · cases hg
theorem od_geT (hu : X.A.units + 64 < cLine) : OpD X (compareOp .GtE) geT := fun pins s σ G H x y v u dx dy dz Q I rx ry sg hx hy hg k => by
  unfold geT at hg
  split at hg
  · rename_i hd
    cases hg
    obtain ⟨h1, h2, h3⟩ := cmpOk_inv hd
    obtain ⟨as, r1⟩ := Dp.reads I dx x v (dp_mono sg hx).dp rx
    obtain ⟨bs, r2⟩ := Dp.reads I dy y u (dp_mono sg hy).dp ry
    exact PySem.W.rcGe_alike dx dy X.A s v u as bs r1 r2 h1 h3 (min60 h2 hu) X.prog X.w X.xe _ ⟨.bl _, H, I, rfl, k _ G H (Ext.refl sg) (.bl _)⟩
  · cases hg
theorem od_le (hu : X.A.units + 64 < cLine) : OpD X (compareOp .LtE) leD := fun pins s σ G H x y v u dx dy dz Q I rx ry sg hx hy hg k => by
  unfold leD at hg
  split at hg
  · exact od_leI pins s σ G H x y v u _ dy dz Q I rx ry sg hx hy hg k
  · exact od_leT hu pins s σ G H x y v u dx dy dz Q I rx ry sg hx hy hg k
theorem od_gt (hu : X.A.units + 64 < cLine) : OpD X (compareOp .Gt) gtD := fun pins s σ G H x y v u dx dy dz Q I rx ry sg hx hy hg k => by
  unfold gtD at hg
  split at hg
  · exact od_gtI pins s σ G H x y v u _ dy dz Q I rx ry sg hx hy hg k
  · exact od_gtT hu pins s σ G H x y v u dx dy dz Q I rx ry sg hx hy hg k
theorem od_ge (hu : X.A.units + 64 < cLine) : OpD X (compareOp .GtE) geD := fun pins s σ G H x y v u dx dy dz Q I rx ry sg hx hy hg k => by
  unfold geD at hg
  split at hg
  · exact od_geI pins s σ G H x y v u _ dy dz Q I rx ry sg hx hy hg k
  · exact od_geT hu pins s σ G H x y v u dx dy dz Q I rx ry sg hx hy hg k
end

section
variable {prog : Program} {w : World} {A : Around} {E : Value → Shared → Prop} {s : Shared} {Q : Value → Shared → Prop}
open PySem.W in
open PySem.W in
open PySem.W in
end

def alAll (xs : List PyData) : Bool := xs.all (fun x => xs.all fun y => PySem.W.alike x y) && (xs.all (fun x => match x with
  | .none => false
  | _ => true) && dOkAll 59 xs)
theorem alAll_ok {xs : List PyData} (h : alAll xs = true) : PySem.W.AlikeAll xs ∧ PyData.depthAll xs ≤ 59 := by
  unfold alAll at h
  rw [Bool.and_eq_true, Bool.and_eq_true] at h
  refine ⟨⟨fun x hx y hy => List.all_eq_true.mp (List.all_eq_true.mp h.1 x hx) y hy, fun x hx => ?_⟩, dOkAll_depth 59 xs h.2.2⟩
  rintro rfl
  cases List.all_eq_true.mp h.2.1 _ hx
section
variable {X : Cx}
/-- max(xs), xs a list of data -/
def maxLE : List PyData → Option PyData
  | [.list (x :: xs)] => if alAll (x :: xs) then some (PySem.W.maxD x xs) else none
  | _ => none
theorem cd_maxL (hu : X.A.units + 64 < cLine) (hc : X.calm = true) : CallD X (.builtin "max") maxLE := fun pins s σ G H xs us ds dz Q I rx sg hx hg k => by
  unfold maxLE at hg
  split at hg
  · rename_i x ys
    split at hg
    · rename_i ha
      cases hg
      obtain ⟨v, rfl, h1⟩ := dqA1 hx
      obtain ⟨a, rfl, ra⟩ := vals1 rx
      cases h1 with
      | @lst l vs es hs hd =>
        obtain rfl : a = Value.ref l := ra
        have hq : SqL X.K H l vs := SqL.of (sg _ _ hs)
        obtain ⟨its, rv, p, hz⟩ := I.list hq
        obtain ⟨as, r⟩ := Dp.readsAll I _ _ _ (dpA_mono sg hd).dp rv
        obtain ⟨a1, a2⟩ := alAll_ok ha
        refine PySem.W.max_list_data (I.ok.hd hc) p.isList (by simpa using r) a1 (by omega) fun i v h' tk bs hi hr hk => ?_
        have hi' : its[i]? = some v := by simpa using hi
        obtain ⟨z, hz1, hz2⟩ := vals_ix rv hi'
        obtain ⟨d, hd1, hd2⟩ := dpA_get' hd hz1
        have I' : Inv X pins σ H { s with heap := h', toks := tk } := I.kept hk
        obtain ⟨cs, r2⟩ := Dp.reads I' d z v (dp_mono sg hd2).dp hz2
        have e := PySem.SeqAt.plain_unique d _ _ _ _ (dq_plain hd2) r2 hr
        subst e
        exact ⟨_, H, I', hz2, k _ G H (Ext.refl sg) hd2⟩
    · cases hg
  · cases hg
end

def pickL {α : Type} (xs : List α) (k : Int) : List α := (sliceRange (sliceBounds none none (some k) xs.length).1 (sliceBounds none none (some k) xs.length).2.1 (sliceBounds none none (some k) xs.length).2.2).filterMap (xs[·]?)
def stepD (k : Int) : PyData → Option PyData
  | .list xs => if 2 ≤ k then some (.list (pickL xs k)) else if k = -1 then some (.list xs.reverse) else none
  | .tuple xs => if k = -1 then some (.tuple xs.reverse) else none
  | _ => none
def mStep (k : Int) (m : Ex) : Ex := seqE m fun x => optE (stepD k x)
section
variable {prog : Program} {w : World} {A : Around} {E : Value → Shared → Prop} {s : Shared}
end
section
variable {X : Cx}
end

end Dn

set_option maxHeartbeats 4000000
namespace Dn
open PySem PySem.Spec PyProof.Rows L2

def boolsOf : List PyData → Option (List Bool)
  | [] => some []
  | .bool b :: ds => (boolsOf ds).map (b :: ·)
  | _ :: _ => none
theorem boolsOf_dq {K : PySem.W.Frag} {G : Hp} : ∀ {ds : List PyData} {vs : List V} {bs : List Bool}, DqA K G vs ds → boolsOf ds = some bs → vs = bs.map V.bl
  | [], _, _, h, e => by cases h; cases e; rfl
  | .bool b :: ds, _, _, .cons a r, e => by
    obtain ⟨cs, h1, h2⟩ := Option.map_eq_some_iff.mp e
    subst h2
    cases a
    rw [boolsOf_dq r h1]
    rfl
  | .none :: _, _, _, _, e => by cases e
  | .int _ :: _, _, _, _, e => by cases e
  | .str _ :: _, _, _, _, e => by cases e
  | .list _ :: _, _, _, _, e => by cases e
  | .tuple _ :: _, _, _, _, e => by cases e
  | .dict _ :: _, _, _, _, e => by cases e
theorem boolsOf_map : ∀ bs : List Bool, boolsOf (bs.map .bool) = some bs
  | [] => rfl
  | b :: bs => by
    rw [List.map_cons, boolsOf, boolsOf_map bs]
    rfl
def allD : List PyData → Option PyData
  | [.list xs] => (boolsOf xs).map fun bs => .bool (bs.all id)
  | _ => none
theorem cd_all {X : Cx} (hc : X.calm = true) : CallD X (.builtin "all") allD := callD_of (cr_all hc) fun G H xs ds dz Q sg hx hg k => by
  unfold allD at hg
  split at hg
  · obtain ⟨bs, h1, h2⟩ := Option.map_eq_some_iff.mp hg
    subst h2
    obtain ⟨v, rfl, h⟩ := dqA1 hx
    cases h with
    | lst hs ha =>
      rw [boolsOf_dq ha h1] at hs
      exact ⟨_, bs, rfl, SqL.of (sg _ _ hs), k _ G H (Ext.refl sg) (.bl _)⟩
  · cases hg
end Dn

set_option maxHeartbeats 4000000
namespace Dn
open PySem PySem.Spec PyProof.Rows L2

def putS (kvs : List (Str × PyData)) (k : Str) (v : PyData) : List (Str × PyData) := if (kvs.any fun kv => decide (kv.1 = k)) = true then kvs.map (fun kv => if kv.1 = k then (kv.1, v) else kv) else kvs ++ [(k, v)]
def mergeS (kvs more : List (Str × PyData)) : List (Str × PyData) := more.foldl (fun acc kv => putS acc kv.1 kv.2) kvs
def valS (kvs : List (Str × PyData)) (k : Str) : Option PyData := (kvs.find? fun kv => decide (kv.1 = k)).map (·.2)
section
variable {K : PySem.W.Frag} {G : Hp}
theorem DicQ.len : ∀ {vs : List (Key × V)} {ds : List (Str × PyData)}, DicQ K G vs ds → vs.length = ds.length
  | _, _, .nil => rfl
  | _, _, .cons _ b => congrArg Nat.succ b.len
theorem DicQ.app : ∀ {vs us : List (Key × V)} {ds es : List (Str × PyData)}, DicQ K G vs ds → DicQ K G us es → DicQ K G (vs ++ us) (ds ++ es)
  | _, _, _, _, .nil, h => h
  | _, _, _, _, .cons a b, h => .cons a (b.app h)
theorem DicQ.any (k : Str) : ∀ {vs : List (Key × V)} {ds : List (Str × PyData)}, DicQ K G vs ds → (vs.any fun kv => decide (kv.1 = .inr k)) = ds.any fun kv => decide (kv.1 = k)
  | _, _, .nil => rfl
  | _, _, .cons a b => by
    rw [List.any_cons, List.any_cons, b.any k]
    simp
theorem DicQ.upd (k : Str) {v : V} {d : PyData} (h : Dq K G v d) : ∀ {vs : List (Key × V)} {ds : List (Str × PyData)}, DicQ K G vs ds → DicQ K G (vs.map fun kv => if kv.1 = .inr k then (kv.1, v) else kv) (ds.map fun kv => if kv.1 = k then (kv.1, d) else kv)
  | _, _, .nil => .nil
  | _, _, .cons (k := j) a b => by
    rw [List.map_cons, List.map_cons]
    by_cases e : j = k
    · subst e
      rw [if_pos rfl, if_pos rfl]
      exact .cons h (b.upd j h)
    · rw [if_neg (fun z => e (Sum.inr.inj z)), if_neg e]
      exact .cons a (b.upd k h)
theorem DicQ.put {k : Str} {v : V} {d : PyData} {vs : List (Key × V)} {ds : List (Str × PyData)} (h : DicQ K G vs ds) (a : Dq K G v d) : DicQ K G (putK vs (.inr k) v) (putS ds k d) := by
  unfold putK putS
  rw [h.any k]
  split
  · exact h.upd k a
  · exact h.app (.cons a .nil)
theorem DicQ.merge : ∀ {us : List (Key × V)} {es : List (Str × PyData)} {vs : List (Key × V)} {ds : List (Str × PyData)}, DicQ K G us es → DicQ K G vs ds → DicQ K G (mergeK vs us) (mergeS ds es)
  | _, _, _, _, .nil, h => h
  | _, _, vs, ds, .cons (k := k) (v := v) (d := d) (vs := us) (ds := es) a b, h => by
    have e1 : mergeK vs ((.inr k, v) :: us) = mergeK (putK vs (.inr k) v) us := rfl
    have e2 : mergeS ds ((k, d) :: es) = mergeS (putS ds k d) es := rfl
    rw [e1, e2]
    exact b.merge (h.put a)
theorem DicQ.val {k : Str} {d : PyData} : ∀ {vs : List (Key × V)} {ds : List (Str × PyData)}, DicQ K G vs ds → valS ds k = some d → ∃ v, valV vs (.inr k) = some v ∧ Dq K G v d
  | _, _, .nil, e => by cases e
  | _, _, .cons (k := j) (v := v) (ds := ds) a b, e => by
    by_cases hj : j = k
    · subst hj
      unfold valS at e
      rw [List.find?_cons] at e
      simp at e
      subst e
      exact ⟨v, valV_pos rfl, a⟩
    · have e' : valS ds k = some d := by
        unfold valS at e ⊢
        rw [List.find?_cons, decide_eq_false hj] at e
        exact e
      obtain ⟨u, h1, h2⟩ := b.val e'
      exact ⟨u, (valV_neg (fun z => hj (Sum.inr.inj z))).trans h1, h2⟩
end
section
variable {X : Cx}
theorem DicQ.key {K : PySem.W.Frag} {G : Hp} : ∀ {vs : List (Key × V)} {ds : List (Str × PyData)} {i : Nat} {k : Key} {v : V}, DicQ K G vs ds → vs[i]? = some (k, v) → ∃ x, (ds.map fun kv => PyData.str kv.1)[i]? = some (.str x) ∧ k = .inr x
  | _, _, _, _, _, .nil, e => by simp at e
  | _, _, 0, _, _, .cons (k := j) a b, e => by
    simp at e
    obtain ⟨rfl, rfl⟩ := e
    exact ⟨j, rfl, rfl⟩
  | _, _, i + 1, _, _, .cons a b, e => by
    obtain ⟨x, h1, h2⟩ := b.key (i := i) (by simpa using e)
    exact ⟨x, by simpa using h1, h2⟩
end

theorem Rel.poke {K : PySem.W.Frag} {C : Ct} {env : Ev} {w : W} {σ : L2.St} {G H : Hp} {p : Addr} (R : Rel K C env w σ G H) (h0 : C.H0 p = none) (hg : G p = none) (hn : NoOwn env σ p) (hx : ∀ φ, H p ≠ some (.ext φ)) (o : HO) (hod : NoOd env σ p) : Rel K C env w σ G (upd H p o) where
  sub := fun b u e => by
    rw [upd_ne (ne_of_none e hg)]
    exact R.sub b u e
  len := R.len
  slot := fun i sd h => by
    obtain ⟨v, h1, h2⟩ := R.slot i sd h
    refine ⟨v, h1, ?_⟩
    cases sd with
    | d x => exact h2
    | own xs =>
      obtain ⟨a, vs, rfl, ha, r⟩ := h2
      refine ⟨a, vs, rfl, ?_, r⟩
      rw [upd_ne]
      · exact ha
      · rintro rfl
        exact hn i xs h h1
    | st => exact h2
    | scr n => exact h2
    | dic kvs => exact h2
    | l x => exact h2
    | ex b d p => exact h2
    | od kvs =>
      obtain ⟨a, vs, rfl, ha, r⟩ := h2
      refine ⟨a, vs, rfl, ?_, r⟩
      rw [upd_ne]
      · exact ha
      · rintro rfl
        exact hod i kvs h h1
  sep := R.sep
  st := fun s e => by
    have q := R.st s e
    have ne := R.own_ne h0 (by rw [e]; rfl)
    exact ⟨by rw [upd_ne ne.1.symm]; exact q.sa, by rw [upd_ne ne.2.1.symm]; exact q.la, by rw [upd_ne ne.2.2.symm]; exact q.ca, q.gs, q.gl, q.gc, q.ne, q.tk⟩
  st0 := R.st0
  fr := fun b u e m => by
    rw [upd_ne (ne_of_none e h0)]
    exact R.fr b u e m
  gr := R.gr
  tb := R.tb.hoth (R.not_tab h0) hx
  tb0 := R.tb0
def mPairs : List (Str × Ex) → Ev → W → Option (List PyData × Ev × W)
  | [], env, w => some ([], env, w)
  | (_, m) :: l, env, w => (match m env w with
    | some (.d x, e1, w1) => (match mPairs l e1 w1 with
      | some (xs, e2, w2) => some (x :: xs, e2, w2)
      | none => none)
    | _ => none)
theorem pairs_run {K : PySem.W.Frag} {C : Ct} {σ : L2.St} : ∀ (l : List (Str × Ex)) {env : Ev} {w : W} {G H : Hp} {ds : List PyData} {env' : Ev} {w' : W} {Q : List (V × V) → Hp → Prop}, Rel K C env w σ G H → mPairs l env w = some (ds, env', w') →
    (∀ vs G' H', Rel K C env' w' σ G' H' → Same G G' → w'.isSome = w.isSome → DqA K G' vs ds → Q ((l.map fun q => V.str q.1).zip vs) H') → tPairs (l.map fun q => (tC (.str q.1), tD K q.2)) σ H Q
  | [], env, w, G, H, ds, env', w', Q, R, hm, k => by
    cases hm
    exact k [] G H R (Same.refl G) rfl .nil
  | (x, m) :: l, env, w, G, H, ds, env', w', Q, R, hm, k => by
    unfold mPairs at hm
    split at hm
    · rename_i y e1 w1 h1
      split at hm
      · rename_i ys e2 w2 h2
        cases hm
        show tC (.str x) σ H _
        refine ⟨C, G, env, w, _, _, _, R, h1, fun v G1 H1 R1 s1 i1 a1 => ?_⟩
        refine pairs_run l R1 h2 fun vs G2 H2 R2 s2 i2 a2 => ?_
        exact k (v :: vs) G2 H2 R2 (s1.trans s2) (i2.trans i1) (.cons (dp_mono s2 a1) a2)
      · cases hm
    · cases hm
theorem zip_keys {K : PySem.W.Frag} {G : Hp} : ∀ (l : List (Str × Ex)) {vs : List V} {ds : List PyData}, DqA K G vs ds → l.length = ds.length → ∃ kvs : List (Key × V), (l.map fun q => V.str q.1).zip vs = kvs.map (fun kv => (kV kv.1, kv.2)) ∧ kvs.length = l.length ∧ DicQ K G kvs ((l.map (·.1)).zip ds)
  | [], _, _, h, e => by
    cases h with
    | nil => exact ⟨[], rfl, rfl, .nil⟩
    | cons _ _ => simp at e
  | q :: l, _, _, h, e => by
    cases h with
    | nil => simp at e
    | cons a b =>
      obtain ⟨kvs, h1, h2, h3⟩ := zip_keys l b (by simpa using e)
      refine ⟨(.inr q.1, _) :: kvs, ?_, by simp [h2], .cons a h3⟩
      rw [List.map_cons, List.zip_cons_cons, List.map_cons, h1]
      rfl
theorem mPairs_len : ∀ (l : List (Str × Ex)) {env : Ev} {w : W} {ds : List PyData} {env' : Ev} {w' : W}, mPairs l env w = some (ds, env', w') → l.length = ds.length
  | [], env, w, ds, env', w', h => by cases h; rfl
  | (x, m) :: l, env, w, ds, env', w', h => by
    unfold mPairs at h
    split at h
    · split at h
      · rename_i h2
        cases h
        simp [mPairs_len l h2]
      · cases h
    · cases h
def mDisp (l : List (Str × Ex)) (m : Ex) : Ex := fun env w => match mPairs l env w with
  | some (ds, e1, w1) => (match m e1 w1 with
    | some (.d (.str k), e2, w2) => optE (valS (mergeS [] ((l.map (·.1)).zip ds)) k) e2 w2
    | _ => none)
  | none => none
theorem mt_fresh {K : PySem.W.Frag} {C : Ct} {env : Ev} {w : W} {σ : L2.St} {G H : Hp} (R : Rel K C env w σ G H) {p : Addr} (h0 : C.H0 p = none) {w' : W} (hw : w'.isSome = w.isSome) : ¬ Mt C.ad w' p := fun m => R.not_Mt h0 (m.w hw.symm)
theorem noOwn_fresh {K : PySem.W.Frag} {C : Ct} {env : Ev} {w : W} {σ : L2.St} {G H : Hp} (R : Rel K C env w σ G H) {p : Addr} (h : H p = none) : NoOwn env σ p := fun i ys e z => by
  obtain ⟨v, h1, a, vs, rfl, ha, _⟩ := R.slot i _ e
  rw [z] at h1
  cases h1
  rw [h] at ha; cases ha
theorem noOd_fresh {K : PySem.W.Frag} {C : Ct} {env : Ev} {w : W} {σ : L2.St} {G H : Hp} (R : Rel K C env w σ G H) {p : Addr} (h : H p = none) : NoOd env σ p := fun i kvs e z => by
  obtain ⟨v, h1, a, vs, rfl, ha, _⟩ := R.slot i _ e
  rw [z] at h1
  cases h1
  rw [h] at ha; cases ha
theorem noOd_grd {K : PySem.W.Frag} {C : Ct} {env : Ev} {w : W} {σ : L2.St} {G H : Hp} {D : Addr} {o : HO} (R : Rel K (C.grd D o) env w σ G H) : NoOd env σ D := fun i kvs e z => by
  obtain ⟨v, h1, a, vs, rfl, _, _, _, h0⟩ := R.slot i _ e
  rw [z] at h1
  cases h1
  have h0 : upd C.H0 D o D = none := h0
  rw [upd_same] at h0; cases h0
theorem de_disp {X : Cx} {keys : List (Option Expr)} {values : List Expr} {l : List (Str × Ex)} {e : Expr} {m : Ex} {p pos : Pos} (hu : X.A.units + 64 < cLine) (h : PPs X p keys values (l.map fun q => (tC (.str q.1), tD X.K q.2))) (hall : keys.all (·.isSome) = true) (hl : keys.length = values.length) (hkl : keys.length = l.length) (h0 : keys ≠ []) (h15 : keys.length ≤ 15)
    (he : DE X e m) (hs : NoSl e := by exact fun _ _ => rfl) : DE X (.Subscript (.Dict keys values p) e pos) (mDisp l m) := by
  refine PE.weak (pe_dget (by omega) (pe_disp h hall hl h0 h15) he hs) fun σ H Q ⟨C, G, env, w, r, env', w', R, hm, k⟩ => ?_
  unfold mDisp at hm
  split at hm
  · rename_i ds e1 w1 h1
    split at hm
    · rename_i kk e2 w2 h2
      obtain ⟨z, h3, rfl, rfl, rfl⟩ := optE_inv hm
      intro a ha
      have c0 : C.H0 a = none := R.none0 ha
      have g0 : G a = none := R.sub.free ha
      have n0 := noOwn_fresh R ha
      have d0 := noOd_fresh R ha
      have R0 := (R.poke c0 g0 n0 (fun φ z => by rw [ha] at z; cases z) (.dK []) d0).grd upd_same g0 c0 n0 (.inr d0)
      refine pairs_run l R0 h1 fun vs G1 H1 R1 s1 i1 a1 => ?_
      have nm := mt_fresh R c0 i1
      obtain ⟨R1', p1, p2, p3⟩ := R1.ungrd c0 (fun _ _ q => by cases q) nm (fun q => R.st0 (by rw [← i1]; exact q))
      obtain ⟨kvs, z1, z2, z3⟩ := zip_keys l a1 (mPairs_len l h1)
      refine ⟨p1, kvs, z1, by omega, ?_⟩
      have d1 := noOd_grd R1
      have R2 := (R1'.poke c0 p2 p3 (fun φ z => by rw [p1] at z; cases z) (.dK (mergeK [] kvs)) d1).grd upd_same p2 c0 p3 (.inr d1)
      refine ⟨_, G1, _, _, _, _, _, R2, h2, fun u G3 H3 R3 s3 i3 a3 => ?_⟩
      have nm3 := mt_fresh R c0 (i3.trans i1)
      obtain ⟨R3', q1, q2, q3⟩ := R3.ungrd c0 (fun _ _ q => by cases q) nm3 (fun q => R.st0 (by rw [← i1, ← i3]; exact q))
      cases a3
      obtain ⟨y, y1, y2⟩ := (DicQ.merge (z3.mono s3) .nil).val h3
      exact ⟨a, y, rfl, .inl ⟨_, .inr kk, .inl q1, rfl, y1.symm⟩, k _ G3 H3 R3' (s1.trans s3) (i3.trans i1) y2⟩
    · cases hm
  · cases hm
end Dn

set_option maxHeartbeats 4000000
namespace Dn
open PySem PySem.Spec PyProof.Rows L2

section
variable {X : Cx}
end
end Dn

set_option maxHeartbeats 4000000
namespace Bl
open PySem PySem.Calls PyProof.Rows PyProof.V PySem.Spec
section
variable {P : Program} {w : World} {A : Around} {E : Value → Shared → Prop} {s : Shared}
/-- the list that is filled -/
abbrev Holds (h : Heap) (S : Addr) (vs : List Value) : Prop := ∃ c acc, h.get? S = some { cls := .type "list", dict := none, data := .seq acc c, slots := #[] } ∧ acc.toList = vs
/-- J i vs tells of a heap that the iterator at z has given i items, vs, F vs that it is over; neither is about the list at S -/
structure Feeds (P : Program) (w : World) (A : Around) (S z : Addr) (n : Nat) (J : Nat → List Value → Heap → Prop) (F : List Value → Heap → Prop) : Prop where
  stay : ∀ {i vs h h'}, J i vs h → (∀ b o, b ≠ S → h.get? b = some o → h'.get? b = some o) → J i vs h'
  next : ∀ {i vs} {s : Shared} {E : Value → Shared → Prop} {Q : Option Value → Shared → Prop}, i < n → J i vs s.heap → S < s.heap.objs.size → (∀ v h', J (i + 1) (vs ++ [v]) h' → (∀ o, s.heap.get? S = some o → h'.get? S = some o) → Q (some v) { s with heap := h' }) → wpAny (model P w) A (pyNext (.ref z)) Q E s
  done : ∀ {vs} {s : Shared} {E : Value → Shared → Prop} {Q : Option Value → Shared → Prop}, J n vs s.heap → (∀ h', F vs h' → (∀ o, s.heap.get? S = some o → h'.get? S = some o) → Q none { s with heap := h' }) → wpAny (model P w) A (pyNext (.ref z)) Q E s
variable {S z : Addr} {n : Nat} {J : Nat → List Value → Heap → Prop} {F : List Value → Heap → Prop}
/-- the heap ahead of a push, and behind it -/
theorem push {xs : Array Value} {c : Nat} (hS : s.heap.get? S = some { cls := .type "list", dict := none, data := .seq xs c, slots := #[] }) (hn : xs.size ≤ sizeLine) {f : Array Value → Array Value} (hf : (f xs).size ≤ sizeLine + 1) {Q : Unit → Shared → Prop}
    (q : ∀ h', (∀ b o, b ≠ S → s.heap.get? b = some o → h'.get? b = some o) → Holds h' S (f xs).toList → Q () { s with heap := h' }) : wpAny (model P w) A (updateSeq S f) Q E s :=
  wpAny_updateSeq hS rfl (q _ (fun b o hb e => (Heap.get?_update_other _ _ (Ne.symm hb)).trans e) ⟨_, _, Heap.get?_update_self _ hS rfl, rfl⟩) hn hf
theorem loop (G : Feeds P w A.in1 S z n J F) (hn : n ≤ sizeLine) (res : Value) {R : Result → Shared → Prop} {s0 : Shared} (hR : ∀ h' vs, F vs h' → Holds h' S vs → vs.length = n → R (.ok (.ret res)) { s0 with heap := h' }) :
    ∀ (k i : Nat) (h : Heap) (vs : List Value), i + k = n → vs.length = i → J i vs h → Holds h S vs → codeAny (model P w) A (.builtin "list.extend.loop" ⟨[.ref S, .ref z, res], []⟩) R { s0 with heap := h } := by
  intro k
  induction k with
  | zero =>
    intro i h vs hi hl hJ ⟨c, acc, hS, e⟩
    obtain rfl : i = n := hi
    refine codeAny_builtin PySem.F.entry_extend_loop ?_
    rw [Around.under_plainId PySem.F.plain_extend_loop _]
    exact wpAny_bind (m := pyNext (.ref z)) (G.done hJ fun h' hJ' kS => wpAny_pure (hR h' vs hJ' ⟨c, acc, kS _ hS, e⟩ hl))
  | succ k ih =>
    intro i h vs hi hl hJ ⟨c, acc, hS, e⟩
    have sz : acc.size = i := by rw [← hl, ← e, Array.length_toList]
    refine codeAny_builtin PySem.F.entry_extend_loop ?_
    rw [Around.under_plainId PySem.F.plain_extend_loop _]
    refine wpAny_bind (m := pyNext (.ref z)) (G.next (by omega) hJ (Heap.lt_size hS) fun v h' hJ' kS => ?_)
    refine wpAny_bind (m := updateSeq S (·.push v)) (push (s := { s0 with heap := h' }) (kS _ hS) (by omega) (by rw [Array.size_push]; omega) fun h2 k2 hold => ?_)
    exact wpAny_pure ⟨plainId_quiet PySem.F.plain_extend_loop _, ih (i + 1) h2 (vs ++ [v]) (by omega) (by simp [hl]) (G.stay hJ' k2) (by rw [Array.toList_push, e] at hold; exact hold)⟩
end
end Bl

set_option maxHeartbeats 4000000
namespace Zpl
open PySem PySem.Calls PyProof.Rows PyProof.V PySem.Spec
open Sem (wp)
section
variable {prog : Program} {w : World} {A : Around} {E : Value → Shared → Prop} {s : Shared} {z TI TO i1 i2 l1 l2 S : Addr} {xs ys : Array Value}
end
section
variable {prog : Program} {w : World} {A : Around} {E : Value → Shared → Prop} {s : Shared} {z TI TO i1 i2 l1 l2 : Addr} {xs ys : Array Value}
end
end Zpl
namespace Dn
open PySem PySem.Spec PyProof.Rows L2
end Dn

set_option maxHeartbeats 4000000
namespace Bs
open PySem PySem.Spec PyProof.Rows L2
section
variable {P : Program} {w : World}
abbrev Old (h0 h : Heap) : Prop := ∀ b o, h0.get? b = some o → h.get? b = some o
/-- J i tells of a heap that the set at S holds what the first i items make; h0: the heap ahead of the call -/
structure Grows (P : Program) (w : World) (A : Around) (S : Addr) (items : Array Value) (h0 : Heap) (J : Nat → Heap → Prop) : Prop where
  stay : ∀ {i h h'}, J i h → (∀ o, h.get? S = some o → h'.get? S = some o) → Old h0 h' → J i h'
  put : ∀ {i v} {s : Shared} (A' : Around) (E : Value → Shared → Prop) (Q : Bool → Shared → Prop), A'.units ≤ A.units + 8 → items[i]? = some v → J i s.heap → Old h0 s.heap →
    (∀ b h' tk, Heap.SameBut S s.heap h' → J (i + 1) h' → Q b { s with heap := h', toks := tk }) → wpAny (model P w) A' (setAdd S v) Q E s
/-- one turn of the set's loop is what the iterator tells next -/
theorem turn {A : Around} {S I : Addr} {R : Result → Shared → Prop} {s : Shared}
    (h : ∀ E, (∀ e t, E e t = R (.error e) t) → wpAny (model P w) A.in1 (pyNext (.ref I)) (fun x t => match x with
      | none => R (.ok (.ret .none)) t
      | some v => wpAny (model P w) A.in1 (setAdd S v) (fun _ t' => codeAny (model P w) A (.builtin "set.update.loop" ⟨[.ref S, .ref I], []⟩) R t') E t) E s) :
    codeAny (model P w) A (.builtin "set.update.loop" ⟨[.ref S, .ref I], []⟩) R s := by
  refine codeAny_builtin F.entry_set_update_loop ?_
  rw [Around.under_plainId F.plain_set_update_loop _]
  refine wpAny_bind (m := pyNext (.ref I)) (wpAny_mono (h _ fun _ _ => rfl) (fun x t hx => ?_) fun _ _ z => z)
  cases x with
  | none => exact wpAny_pure hx
  | some v => exact wpAny_bind (wpAny_holding (wpAny_mono hx (fun _ t' z => wpAny_pure ⟨plainId_quiet F.plain_set_update_loop _, z⟩) fun _ _ z => z))
variable {A : Around} {S I l : Addr} {items : Array Value} {h0 : Heap} {J : Nat → Heap → Prop}
theorem off {h0 h : Heap} {b c : Addr} (o0 : Old h0 h) (hb : h0.get? b = none) (hc : ∃ o, h0.get? c = some o) : c ≠ b := fun e => by
  obtain ⟨o, ho⟩ := hc
  rw [e, hb] at ho
  cases ho
theorem loops {A0 : Around} (G : Grows P w A0 S items h0 J) (hh : A.in1.handled = none) (hu : A.in1.units ≤ A0.units + 8) (nS : h0.get? S = none) (nI : h0.get? I = none) (ne : S ≠ I) (hl : h0.IsList l items) {R : Result → Shared → Prop} {s0 : Shared}
    (hR : ∀ h' tk, J items.size h' → Old h0 h' → R (.ok (.ret .none)) { s0 with heap := h', toks := tk }) :
    ∀ (k i : Nat) (h : Heap) (tk : Nat), i + k = items.size → J i h → Old h0 h → h.IsListIter I l i → codeAny (model P w) A (.builtin "set.update.loop" ⟨[.ref S, .ref I], []⟩) R { s0 with heap := h, toks := tk } := by
  have hlo : ∃ o, h0.get? l = some o := by obtain ⟨o, ho, _⟩ := hl; exact ⟨o, ho⟩
  intro k
  induction k with
  | zero =>
    intro i h tk hi hJ ho hit
    obtain rfl : i = items.size := hi
    refine turn fun E hE => wpAny_pyNext_list_end hh hit (hl.at fun o e => ho _ o e) (Array.getElem?_eq_none (Nat.le_refl _)) fun h' hx => ?_
    have ho' : Old h0 h' := fun b o e => hx b o (off ho nI ⟨o, e⟩) (ho b o e)
    exact hR h' tk (G.stay hJ (fun o e => hx S o ne e) ho') ho'
  | succ k ih =>
    intro i h tk hi hJ ho hit
    have lt : i < items.size := by omega
    refine turn fun E hE => wpAny_pyNext_list_item hit (hl.at fun o e => ho _ o e) (Array.getElem?_eq_getElem lt) fun h' hit' hx => ?_
    have ho' : Old h0 h' := fun b o e => (hx.2 b (off ho nI ⟨o, e⟩)).trans (ho b o e)
    refine G.put A.in1 E _ hu (Array.getElem?_eq_getElem lt) (G.stay hJ (fun o e => (hx.2 S ne).trans e) ho') ho' fun b h2 tk2 hy hJ2 => ?_
    refine ih (i + 1) h2 tk2 (by omega) hJ2 (fun b o e => (hy.2 b (off ho' nS ⟨o, e⟩)).trans (ho' b o e)) ?_
    obtain ⟨oi, e1, e2⟩ := hit'
    exact ⟨oi, (hy.2 I ne.symm).trans e1, e2⟩
/-- a type is called: made, then told what it is made of -/
theorem made {A : Around} {E : Value → Shared → Prop} {T newId initId : String} {Bi : Builtin} {args : List Value} {Q Q₁ : Value → Shared → Prop} {s : Shared} (ft : TypeCalled T newId initId) (hct : checkTypeCall T ⟨args, []⟩ = pure ()) (entryI : entryFor table initId = some Bi)
    (hnew : codeAny (model P w) A.in1 (.call (.builtin newId) ⟨.type T :: args, []⟩) (wants Q₁ E) s)
    (hnext : ∀ obj s₁, Q₁ obj s₁ → s₁.TypeIs obj T ∧ (∀ M A' E' Q', Q' () s₁ → wpAny M A' (checkBuiltinCall initId ⟨obj :: args, []⟩) Q' E' s₁) ∧
      wpAny (model P w) A.in1.in1 (Bi ⟨obj :: args, []⟩) (fun fin s' => ∃ s₂, fin = .done (.ret .none) ∧ s' = s₂ ∧ Q obj s₂) (fun e s' => E e s') s₁) :
    wpAny (model P w) A (call (.type T) args) Q E s := by
  obtain ⟨top, others, hm⟩ := ft.mro
  have facts := And.intro ft.made (And.intro ft.sub (And.intro ft.notType ft.canCreate))
  obtain ⟨f1, f2, f3, f4⟩ := facts
  refine wpAny_call (codeAny_of_tree (wpAny_pure ⟨Code.quiet_builtin _ (by decide +kernel), codeAny_builtin F.entry_type_call ?_⟩))
  rw [Around.under_plain (weight_type_call_type T args []) rfl]
  repeat (any_goals (first | assumption | wp_step))
  refine codeAny_mono hnew fun
    | .error _, _, h => h
    | .ok (.ret obj), s₁, h => ?_
  obtain ⟨g1, g2, g3⟩ := hnext _ _ h
  have f5 := ft.init.lookup
  have f6 := ft.init.bind obj
  repeat (any_goals (first | assumption | wp_step))
  refine codeAny_mono (codeAny_call_builtin (R := wants (fun r s₂ => r = .none ∧ Q obj s₂) E) ft.init.plain entryI (g2 _ _ _ _ ?_)) fun
    | .error _, _, h => h
    | .ok (.ret _), _, ⟨h1, h2⟩ => ?_
  · refine wpAny_mono g3 (fun fin s' z => ?_) fun _ _ z => z
    obtain ⟨s₂, rfl, rfl, z⟩ := z
    exact ⟨rfl, z⟩
  · subst h1
    repeat (any_goals (first | assumption | wp_step))
abbrev fresh (w : World) : Obj := { cls := .type "set", dict := none, data := .set #[] 0 (.fresh 0 0 (!w.params.followText "set-order")) }
/-- set(l) -/
theorem of_list {A : Around} {E : Value → Shared → Prop} {s : Shared} {l : Addr} {items : Array Value} {J : Nat → Heap → Prop} {Q : Value → Shared → Prop} (hh : A.handled = none) (hl : s.heap.IsList l items)
    (G : Grows P w A s.heap.objs.size items s.heap J) (h0 : ∀ h, h.get? s.heap.objs.size = some (fresh w) → Old s.heap h → J 0 h)
    (hQ : ∀ h' tk, J items.size h' → Old s.heap h' → Q (.ref s.heap.objs.size) { s with heap := h', toks := tk }) : wpAny (model P w) A (call (.type "set") [.ref l]) Q E s := by
  have gone : ∀ b, s.heap.objs.size ≤ b → s.heap.get? b = none := fun b hb => Option.eq_none_iff_forall_not_mem.mpr fun o ho => Nat.not_lt.mpr hb (Heap.lt_size ho)
  refine made F.called_set (F.typeCall_set_1 (.ref l)) F.entry_set_init (code_set_led1 (.ref l) (Q₁ := fun obj s₁ => obj = .ref s.heap.objs.size ∧ s₁ = { s with heap := s.heap.push (fresh w) }) ⟨rfl, rfl⟩) fun obj s₁ e => ?_
  obtain ⟨rfl, rfl⟩ := e
  have at1 : (s.heap.push (fresh w)).get? s.heap.objs.size = some (fresh w) := Heap.get?_push_size _ rfl
  have old1 : Old s.heap (s.heap.push (fresh w)) := fun b o e => Heap.get?_push_of_some _ e
  have ty1 : Shared.TypeIs { s with heap := s.heap.push (fresh w) } (.ref s.heap.objs.size) "set" := ⟨_, at1, rfl⟩
  refine ⟨ty1, fun M A' E' Q' z => check_set_init_1 ty1 z, ?_⟩
  have l1 : (s.heap.push (fresh w)).IsList l items := hl.at fun o e => old1 _ o e
  obtain ⟨ol, q1, q2, q3⟩ := id l1
  unfold Builtin.«set.__init__» noKeywords Builtin.Frozenset.updateFrom
  have f1 := F.sub_list_set
  have f2 := F.sub_list_frozenset
  have f3 : (Value.type "list" == Value.type "dict") = false := by decide
  obtain ⟨oc, od, odt, osl⟩ := ol
  obtain ⟨nl, q3⟩ := q3
  simp only at q2 q3
  subst q2 q3
  generalize hPI : pyIter = PI
  wp_walk
  subst hPI
  refine wpAny_pyIter_list l1 (wpAny_bind (wpAny_runValue ?_))
  have sz : (s.heap.push (fresh w)).objs.size = s.heap.objs.size + 1 := Heap.size_push ..
  have ll : l < s.heap.objs.size := by obtain ⟨o, ho, _⟩ := hl; exact Heap.lt_size ho
  have sz2 : ((s.heap.push (fresh w)).push { cls := .type "list_iterator", data := .fields #[.ref l, .int 0 0] }).get? (s.heap.objs.size + 1) = some { cls := .type "list_iterator", data := .fields #[.ref l, .int 0 0] } := by
    rw [← sz]; exact Heap.get?_push_size _ rfl
  have old2 : Old s.heap ((s.heap.push (fresh w)).push { cls := .type "list_iterator", data := .fields #[.ref l, .int 0 0] }) := fun b o e => Heap.get?_push_of_some _ (old1 b o e)
  have at2 : ((s.heap.push (fresh w)).push { cls := .type "list_iterator", data := .fields #[.ref l, .int 0 0] }).get? s.heap.objs.size = some (fresh w) := Heap.get?_push_of_some _ at1
  rw [show (s.heap.push (fresh w)).objs.size = s.heap.objs.size + 1 from sz]
  refine loops (A := A.in1.in1) (s0 := s) G (by simp [hh]) (by simp only [Around.in1_units]; omega) (gone _ (Nat.le_refl _)) (gone _ (Nat.le_succ _)) (Nat.ne_of_lt (Nat.lt_succ_self _)) hl (fun h' tk z1 z2 => ?_) items.size 0 _ s.toks (Nat.zero_add _) (h0 _ at2 old2) old2 ⟨_, sz2, rfl, rfl⟩
  exact wpAny_pure (wpAny_pure ⟨_, rfl, rfl, hQ h' tk z1 z2⟩)
end
end Bs

set_option maxHeartbeats 4000000
namespace Nst
open PySem PySem.Spec PyProof.Rows L2
mutual
/-- no text in it -/
def bare : NestedKey → Bool
  | .none => true
  | .num _ => true
  | .text _ => false
  | .tup ks => bareAll ks
def bareAll : List NestedKey → Bool
  | [] => true
  | k :: ks => bare k && bareAll ks
end
section
variable {P : Program} {w : World}
def Says {α : Type} (P : Program) (w : World) (s : Shared) (m : Sem α) (x : α) : Prop := ∀ (A : Around) (E : Value → Shared → Prop) (Q : α → Shared → Prop), Q x s → wpAny (model P w) A m Q E s
theorem Says.then {α β : Type} {s : Shared} {m : Sem α} {x : α} {f : α → Sem β} {y : β} (h : Says P w s m x) (g : Says P w s (f x) y) : Says P w s (m >>= f) y := fun A E Q q => wpAny_bind (h A E _ (g A E Q q))
theorem says_pure {α : Type} {s : Shared} (x : α) : Says P w s (pure x) x := fun _ _ _ q => wpAny_pure q
theorem says_all {σ : Type} {s : Shared} {f : Value → σ → Sem (ForInStep σ)} {z : σ} : ∀ {l : List Value}, (∀ v ∈ l, Says P w s (f v z) (.yield z)) → Says P w s (forIn l z f) z
  | [], _ => says_pure z
  | v :: l, h => by
    rw [List.forIn_cons]
    exact (h v (List.mem_cons_self)).then (says_all fun u hu => h u (List.mem_cons_of_mem v hu))
theorem says_each {σ : Type} {s : Shared} {f : Value → σ → Sem (ForInStep σ)} {z : σ} {vs : Array Value} (h : ∀ v ∈ vs.toList, Says P w s (f v z) (.yield z)) : Says P w s (forIn vs z f) z := by
  rw [← Array.forIn_toList]; exact says_all h
theorem says_type {s : Shared} {v : Value} {T : String} (h : s.TypeIs v T) : Says P w s (typeOf v) (.type T) := fun _ _ _ q => wpAny_typeOf h q
theorem says_items {s : Shared} {a : Addr} {o : Obj} {vs : Array Value} {m : Nat} (ho : s.heap.get? a = some o) (hd : o.data = .seq vs m) : Says P w s (seqItems? (.ref a)) (some vs) := fun _ _ _ q => wpAny_seqItems ho hd q
theorem says_hash {s : Shared} {a : Addr} (h : s.TypeIs (.ref a) "tuple") : Says P w s (specialOf (.ref a) (Str.ofString "__hash__")) (some (.builtin "tuple.__hash__")) := fun _ _ _ q => wpAny_specialOf h F.slot_tuple_hash.lookup q
/-- a key is of no class statement, and, without a text, hashed by what it is -/
def Calm (P : Program) (w : World) (n : Nat) (s : Shared) (b : Bool) (v : Value) : Prop := Says P w s (ofAClassStatement n v) false ∧ (b = true → Says P w s (hashByValue n v) true)
theorem calm_tup {n : Nat} {s : Shared} {b : Bool} {a : Addr} {o : Obj} {vs : Array Value} {m : Nat} (ho : s.heap.get? a = some o) (hc : o.cls = .type "tuple") (hd : o.data = .seq vs m) (h : ∀ v ∈ vs.toList, Calm P w n s b v) : Calm P w (n + 1) s b (.ref a) := by
  have ty : s.TypeIs (.ref a) "tuple" := ⟨o, ho, hc⟩
  constructor
  · unfold ofAClassStatement
    refine (says_type ty).then ?_
    show Says P w s ((pure true : Sem Bool) >>= fun u => _) false
    refine (says_pure true).then ((says_items ho hd).then (Says.then (says_each fun v hv => ?_) (says_pure false)))
    exact (h v hv).1.then (says_pure _)
  · intro hb
    unfold hashByValue
    refine (says_hash ty).then ((says_items ho hd).then (Says.then (says_each fun v hv => ?_) (says_pure true)))
    exact ((h v hv).2 hb).then (says_pure _)
mutual
theorem calm_key : ∀ (k : NestedKey) {v : Value} {n : Nat} {s : Shared}, NestedIs s.heap k v → k.depth ≤ n → Calm P w n s (bare k) v
  | .none, _, n, _, x, _ => by cases x; cases n <;> exact ⟨says_pure _, fun _ => says_pure _⟩
  | .num _, _, n, _, x, _ => by cases x <;> cases n <;> exact ⟨says_pure _, fun _ => says_pure _⟩
  | .text _, _, n, _, x, _ => by cases x; cases n <;> exact ⟨says_pure _, fun z => by simp [bare] at z⟩
  | .tup ks, _, 0, _, _, hn => by simp [NestedKey.depth] at hn
  | .tup ks, _, n + 1, s, .tup hg hc hd hk, hn => by
    have hn' : NestedKey.depthAll ks ≤ n := by simpa [NestedKey.depth] using hn
    have r := calm_keys ks hk hn'
    refine calm_tup hg hc hd fun v hv => ?_
    rw [bare]; exact r v hv
theorem calm_keys : ∀ (ks : List NestedKey) {vs : List Value} {n : Nat} {s : Shared}, NestedAll s.heap ks vs → NestedKey.depthAll ks ≤ n → ∀ v ∈ vs, Calm P w n s (bareAll ks) v
  | [], _, _, _, x, _, v, hv => by cases x; simp at hv
  | k :: ks, _, n, s, .cons x1 x2, hn, v, hv => by
    have hd : k.depth ≤ n ∧ NestedKey.depthAll ks ≤ n := by simp only [NestedKey.depthAll] at hn; omega
    have sp : bareAll (k :: ks) = true → bare k = true ∧ bareAll ks = true := by simp [bareAll]
    cases hv with
    | head => exact ⟨(calm_key k x1 hd.1).1, fun z => (calm_key k x1 hd.1).2 (sp z).1⟩
    | tail _ hv => exact ⟨(calm_keys ks x2 hd.2 v hv).1, fun z => (calm_keys ks x2 hd.2 v hv).2 (sp z).2⟩
end
/-- the tuple at an address is the key -/
structure IsN (h : Heap) (k : NestedKey) (a : Addr) : Prop where
  is : NestedIs h k (.ref a)
  dep : k.depth ≤ 8
  br : bare k = true
theorem IsN.keep {h h' : Heap} {k : NestedKey} {a : Addr} (x : IsN h k a) (hk : ∀ c o, h.get? c = some o → h'.get? c = some o) : IsN h' k a := ⟨NestedIs.at (fun b o vs n q _ => hk b o q) k _ x.is, x.dep, x.br⟩
/-- a set that changes is none of the tuples -/
theorem IsN.past {h h' : Heap} {k : NestedKey} {a b : Addr} (x : IsN h k b) (ho : ∃ o es ep t, h.get? a = some o ∧ o.data = .set es ep t) (hs : Heap.SameBut a h h') : IsN h' k b := by
  obtain ⟨o, es, ep, t, ho, hd⟩ := ho
  refine ⟨NestedIs.at (fun c oc vs n q qd => (hs.2 c ?_).trans q) k _ x.is, x.dep, x.br⟩
  rintro rfl
  have same : oc = o := by rw [ho] at q; exact (Option.some.inj q).symm
  subst same
  rw [hd] at qd
  exact Data.noConfusion qd
theorem IsN.quiet {s : Shared} {k : NestedKey} {a : Addr} (x : IsN s.heap k a) : Says P w s (eqIsQuiet 8 (.ref a)) true := fun A E Q q => quiet_key k _ 8 s x.is x.dep A E Q q
theorem IsN.calm {s : Shared} {k : NestedKey} {a : Addr} (x : IsN s.heap k a) : Says P w s (ofAClassStatement 8 (.ref a)) false := (calm_key k x.is x.dep).1
theorem IsN.hashed {s : Shared} {k : NestedKey} {a : Addr} (x : IsN s.heap k a) : Says P w s (hashByValue 8 (.ref a)) true := (calm_key k x.is x.dep).2 x.br
theorem IsN.unseen {s : Shared} {k : NestedKey} {b : Addr} (hk : IsN s.heap k b) {ys : List Value} (hy : ∀ y ∈ ys, ∃ j c, y = Value.ref c ∧ IsN s.heap j c) : Says P w s (searchCouldBeSeen (.ref b) ys) false := by
  unfold searchCouldBeSeen
  refine Says.then (says_all fun y hm => ?_) (says_pure false)
  obtain ⟨j, c, rfl, hc⟩ := hy y hm
  dsimp only
  split
  · exact says_pure _
  · exact hk.quiet.then (hc.quiet.then (hk.calm.then (hc.calm.then (says_pure _))))
abbrev nh (w : World) (k : NestedKey) : Int := k.hash w
/-- a row of the table -/
abbrev row1 (w : World) (p : Addr × NestedKey) : Int × Value := (nh w p.2, Value.ref p.1)
def rowN (w : World) (L : List (Addr × NestedKey)) : List (Int × Value) := L.map (row1 w)
/-- what stands in a table, whatever heap it lies in -/
structure Cont (w : World) (L : List (Addr × NestedKey)) (es : Array (Int × Value)) (t : SetTable) : Prop where
  rows : es.toList = rowN w L
  tab : TabOk t (L.map fun p => nh w p.2)
  nd : (L.map (·.2)).Nodup
  plain : t.plain = true
  led : w.params.followText "set-order" = true ∨ t.led = true
  few : L.length < 64
variable {L : List (Addr × NestedKey)} {es : Array (Int × Value)} {t : SetTable}
theorem Cont.size (C : Cont w L es t) : es.size = L.length := by
  have := congrArg List.length C.rows
  simpa [rowN] using this
theorem Cont.places (C : Cont w L es t) : t.place.toList.length = L.length := by simpa using C.tab.sz
theorem Cont.fits (C : Cont w L es t) (h : L.length ≤ t.mask) : t.fits es.size = true := by
  have e1 : t.place.size = es.size := by rw [C.size]; simpa using C.tab.sz
  have e2 : es.size ≤ t.mask := C.size ▸ h
  simp [SetTable.fits, SetTable.fill, C.tab.dm, e1, e2]
theorem Cont.at (C : Cont w L es t) (i : Nat) : es[i]? = (L[i]?).map (row1 w) := by rw [← Array.getElem?_toList, C.rows, rowN, List.getElem?_map]
structure SetN (w : World) (h : Heap) (a : Addr) (L : List (Addr × NestedKey)) (es : Array (Int × Value)) (ep : Nat) (t : SetTable) : Prop extends Cont w L es t where
  ob : ∃ o, h.get? a = some o ∧ o.ExactSet ∧ o.data = .set es ep t
  tup : ∀ p ∈ L, IsN h p.2 p.1
  room : L.length * 5 < t.mask * 3
variable {A : Around} {E : Value → Shared → Prop} {s : Shared} {a : Addr} {ep : Nat}
theorem SetN.ok (R : SetN w s.heap a L es ep t) : t.fits es.size = true := R.toCont.fits (by have := R.room; omega)
theorem SetN.isSet {h : Heap} (R : SetN w h a L es ep t) : ∃ o es ep t, h.get? a = some o ∧ o.data = .set es ep t := by
  obtain ⟨o, h1, _, h2⟩ := R.ob
  exact ⟨o, es, ep, t, h1, h2⟩
theorem SetN.state (R : SetN w s.heap a L es ep t) : Says P w s (setState a) (es, ep, t) := fun A E Q q => by
  obtain ⟨o, h1, _, h2⟩ := R.ob
  exact wpAny_setState_of h1 h2 R.ok q
/-- hash of the row with a number, as the search asks it -/
abbrev hsh (es : Array (Int × Value)) (i : Nat) : Int := (es[i]?.map (·.1)).getD 0
theorem Cont.hsh (C : Cont w L es t) {i : Nat} {p : Addr × NestedKey} (h : L[i]? = some p) : hsh es i = nh w p.2 := by
  show (es[i]?.map (·.1)).getD 0 = _
  rw [C.at, h] <;> rfl
theorem round (R : SetN w s.heap a L es ep t) {x : Addr} {k : NestedKey} (hx : IsN s.heap k x) (hu : A.units + 8 < cLine) {f : Nat} {stand : Option SetTable.Probe} {Q : SetFound → Shared → Prop}
    (h : (∃ j i p next, t.probe (hsh es) (nh w k) (stand.getD (t.probeStart (nh w k))) = some (.candidate j i next) ∧ t.place.toList[i]? = some j ∧ L[i]? = some p ∧ (p.2 = k → Q (.there none) s) ∧ (p.2 ≠ k → wpAny (model P w) A (setSearchFrom a (.ref x) (nh w k) true f (some next)) Q E s)) ∨
      (∃ j, t.probe (hsh es) (nh w k) (stand.getD (t.probeStart (nh w k))) = some (.empty j none) ∧ Q (.free j false) s)) :
    wpAny (model P w) A (setSearchFrom a (.ref x) (nh w k) true (f + 1) stand) Q E s := by
  rw [setSearchFrom_succ]
  refine wpAny_bind (R.state A E _ ?_)
  have g : t.gaveWay = false := by simp [SetTable.gaveWay, mask_odd R.tab.mok]
  simp only [g, Bool.false_eq_true, if_false]
  rcases h with ⟨j, i, p, next, e, hj, hp, yes, no⟩ | ⟨j, e, q⟩
  · have row : es[i]? = some (row1 w p) := by rw [R.at, hp] <;> rfl
    have there := R.tup p (List.mem_of_getElem? hp)
    have rest : wpAny (model P w) A (searchRest a (.ref x) (nh w k) true f es t j i next) Q E s := by
      unfold searchRest
      simp only [row]
      refine wpAny_bind (wpAny_holding ((nestedKind P w).eqBool (x := p.2) (y := k) hu ⟨there.is, there.dep⟩ ⟨hx.is, hx.dep⟩ (wpAny_bind (R.state A E _ ?_))))
      rcases Classical.em (p.2 = k) with c | c
      · simp only [c, Bool.true_and, decide_true, if_true]
        exact wpAny_pure (yes c)
      · simp only [c, Bool.true_and, decide_false, Bool.false_eq_true, if_false, sameMem, slot_live R.tab.ris hj, if_true, row]
        exact wpAny_bind (wpAny_isSame_ref_self (wpAny_bind (wpAny_pure (no c))))
    simp only [e]
    cases hl : t.led with
    | true => simpa [hl] using rest
    | false =>
      simp only [Bool.not_false, if_true]
      refine wpAny_bind (hx.unseen (fun y hy => ?_) A E _ (by simpa using rest))
      obtain ⟨r, hr, rfl⟩ := List.mem_map.mp hy
      have hr1 : r ∈ es.toList := by simpa using (by simpa using hr : r ∈ es ∧ r.1 = nh w k).1
      rw [R.rows, rowN] at hr1
      obtain ⟨p2, hp2, rfl⟩ := List.mem_map.mp hr1
      exact ⟨p2.2, p2.1, rfl, R.tup p2 hp2⟩
  · simp only [e]
    exact wpAny_pure q
/-- the probe of a key behind c steps -/
abbrev step (w : World) (t : SetTable) (k : NestedKey) (c : Nat) : SetTable.Probe := nth t.mask (runAt t.mask (SetTable.bits (nh w k) % (t.mask + 1)) (SetTable.bits (nh w k))) c
theorem no_dummy (m : Nat) : ∀ (n : Nat) {p : SetTable.Probe}, p.dummy = none → (nth m p n).dummy = none
  | 0, _, h => h
  | n + 1, p, h => no_dummy m n (p := adv m p) (by simp only [adv]; split <;> exact h)
/-- the rows of a key stand on its way, not ahead of c -/
def Ahead (w : World) (L : List (Addr × NestedKey)) (t : SetTable) (k : NestedKey) (K c : Nat) : Prop := ∀ (i : Nat) (p : Addr × NestedKey), L[i]? = some p → p.2 = k → ∃ c', c ≤ c' ∧ c' < K ∧ t.place.toList[i]? = some (way t.mask (nh w k) c')
theorem found_from (R : SetN w s.heap a L es ep t) {x : Addr} {k : NestedKey} (hx : IsN s.heap k x) (hu : A.units + 8 < cLine) {K : Nat} (small : K < 10 * SetTable.turns t.mask) (free : way t.mask (nh w k) K ∉ t.place.toList)
    (full : ∀ c, c < K → way t.mask (nh w k) c ∈ t.place.toList) {Q : SetFound → Shared → Prop} (yes : k ∈ L.map (·.2) → Q (.there none) s) (no : k ∉ L.map (·.2) → Q (.free (way t.mask (nh w k) K) false) s) (n : Nat) :
    ∀ (c f : Nat) (stand : Option SetTable.Probe), c + n = K → n < f → stand.getD (t.probeStart (nh w k)) = step w t k c → Ahead w L t k K c → wpAny (model P w) A (setSearchFrom a (.ref x) (nh w k) true f stand) Q E s := by
  induction n using Nat.strongRecOn with
  | _ n ih =>
    intro c f stand hc hf hst own
    obtain ⟨f, rfl⟩ : ∃ g, f = g + 1 := ⟨f - 1, by omega⟩
    have sh : ∀ q, nth t.mask (step w t k c) q = step w t k (c + q) := fun q => (nth_add t.mask c _ q).symm
    have wy : ∀ q, (nth t.mask (step w t k c) q).j = way t.mask (nh w k) (c + q) := fun q => by rw [sh]
    refine round R hx hu ?_
    rw [hst]
    rcases go_spec t R.tab.ris R.tab.dm (hsh es) (nh w k) (10 * SetTable.turns t.mask) n (step w t k c) (no_dummy t.mask c rfl) (by omega) (fun q hq => by rw [wy]; exact full _ (by omega)) (by rw [wy, hc]; exact free) with ⟨q, i, hq, hi, _, first, e⟩ | ⟨first, e⟩
    · have lt : i < L.length := by rw [← R.places]; exact (List.getElem?_eq_some_iff.mp hi).1
      refine .inl ⟨_, i, L[i], _, e, hi, List.getElem?_eq_getElem lt, fun c1 => yes (List.mem_map.mpr ⟨_, List.getElem_mem lt, c1⟩), fun c1 => ?_⟩
      refine ih (n - (q + 1)) (by omega) (c + (q + 1)) f _ (by omega) (by omega) (sh (q + 1)) fun i0 p0 h0 hk => ?_
      obtain ⟨c0, l0, l1, at0⟩ := own i0 p0 h0 hk
      refine ⟨c0, ?_, l1, at0⟩
      rcases Nat.lt_trichotomy c0 (c + q) with z | z | z
      · refine absurd ?_ (first (c0 - c) i0 (by omega) (by rw [wy, Nat.add_sub_cancel' l0]; exact at0))
        rw [R.toCont.hsh h0, hk]
      · rw [wy, ← z] at hi
        have one := (slot_live R.tab.ris at0).symm.trans (slot_live R.tab.ris hi)
        cases one
        rw [List.getElem?_eq_getElem lt] at h0
        cases h0
        exact absurd hk c1
      · exact z
    · refine .inr ⟨_, e, ?_⟩
      rw [wy, hc]
      refine no fun hm => ?_
      obtain ⟨p0, m0, hk⟩ := List.mem_map.mp hm
      obtain ⟨i0, h0⟩ := List.mem_iff_getElem?.mp m0
      obtain ⟨c0, l0, l1, at0⟩ := own i0 p0 h0 hk
      refine absurd ?_ (first (c0 - c) i0 (by omega) (by rw [wy, Nat.add_sub_cancel' l0]; exact at0))
      rw [R.toCont.hsh h0, hk]
theorem found (R : SetN w s.heap a L es ep t) {x : Addr} {k : NestedKey} (hx : IsN s.heap k x) (hu : A.units + 8 < cLine) {Q : SetFound → Shared → Prop} (yes : k ∈ L.map (·.2) → Q (.there none) s)
    (no : ∀ K, k ∉ L.map (·.2) → way t.mask (nh w k) K ∉ t.place.toList → (∀ c, c < K → way t.mask (nh w k) c ∈ t.place.toList) → Q (.free (way t.mask (nh w k) K) false) s) : wpAny (model P w) A (setSearch a (.ref x) (nh w k) true) Q E s := by
  have below : (L.map fun p => nh w p.2).length ≤ t.mask := by have := R.room; rw [List.length_map]; omega
  obtain ⟨K, small, free, full⟩ := R.tab.first below (nh w k)
  have few : 10 * SetTable.turns t.mask < 100000 := by
    have m : t.mask ≤ 127 := by rcases R.tab.mok with e | e | e <;> omega
    simp only [SetTable.turns]
    omega
  refine found_from R hx hu small free full yes (fun z => no K z free full) K 0 100000 none (Nat.zero_add K) (by omega) rfl fun i p h e => ?_
  have lt : i < t.place.toList.length := by rw [R.places]; exact (List.getElem?_eq_some_iff.mp h).1
  have hi : (L.map fun p => nh w p.2)[i]? = some (nh w k) := by simp [h, e]
  obtain ⟨c, lc, ec⟩ := R.tab.before free hi (List.getElem?_eq_getElem lt)
  exact ⟨c, Nat.zero_le c, lc, by rw [ec]; exact List.getElem?_eq_getElem lt⟩
theorem Cont.put (C : Cont w L es t) {x : Addr} {k : NestedKey} {K : Nat} (hk : k ∉ L.map (·.2)) (free : way t.mask (nh w k) K ∉ t.place.toList) (full : ∀ c, c < K → way t.mask (nh w k) c ∈ t.place.toList) (hf : L.length + 1 < 64) :
    ∃ L1, Cont w L1 (SetTable.insertAt es (t.put (way t.mask (nh w k) K)).2 (nh w k, Value.ref x)) (t.put (way t.mask (nh w k) K)).1 ∧ L1.Perm ((x, k) :: L) ∧ (t.put (way t.mask (nh w k) K)).1.mask = t.mask ∧ (t.put (way t.mask (nh w k) K)).1.fill = L.length + 1 := by
  obtain ⟨e1, _, T, e2, e3, e4, _, _, e5⟩ := C.tab.put free full
  rw [e1]
  refine ⟨L.take (SetTable.below t.place (way t.mask (nh w k) K)) ++ (x, k) :: L.drop (SetTable.below t.place (way t.mask (nh w k) K)), ⟨?_, ?_, ?_, e4.trans C.plain, ?_, ?_⟩, put_perm _ _ _, e2, by simpa using e5⟩
  · simp only [SetTable.toList_insertAt, C.rows, rowN, List.map_append, List.map_cons, List.map_take, List.map_drop]
  · simpa only [List.map_append, List.map_cons, List.map_take, List.map_drop] using T
  · exact ((put_perm L _ (x, k)).map (·.2)).nodup_iff.mpr (List.nodup_cons.mpr ⟨hk, C.nd⟩)
  · rw [e3]; exact C.led
  · rw [(put_perm L _ (x, k)).length_eq]; exact hf
theorem range_map {α : Type} (l : List α) : (List.range l.length).filterMap (fun i => l[i]?) = l := by
  have go : ∀ n, n ≤ l.length → (List.range n).filterMap (fun i => l[i]?) = l.take n := by
    intro n
    induction n with
    | zero => intro _; simp
    | succ n ih =>
      intro hn
      rw [List.range_succ, List.filterMap_append, ih (Nat.le_of_succ_le hn), List.take_succ]
      show _ ++ List.filterMap (fun i => l[i]?) [n] = _
      rw [List.filterMap_cons]
      cases l[n]? <;> rfl
  exact (go l.length (Nat.le_refl _)).trans List.take_length
theorem all_some {α β : Type} {f : α → Option β} {g : α → β} : ∀ {l : List α}, (∀ i ∈ l, f i = some (g i)) → l.filterMap f = l.map g
  | [], _ => rfl
  | i :: l, h => by rw [List.filterMap_cons_some (h i List.mem_cons_self), List.map_cons, all_some fun j hj => h j (List.mem_cons_of_mem i hj)]
theorem Cont.relaid (C : Cont w L es t) {wanted M : Nat} (e1 : SetTable.sizeAbove wanted - 1 = M) (e2 : MaskOk M) (e3 : L.length ≤ M) :
    ∃ t' order L1, t.relaid (es.map (·.1)) wanted = some (t', order) ∧ Cont w L1 (order.filterMap (es[·]?)) t' ∧ L1.Perm L ∧ t'.mask = M := by
  obtain ⟨t', order, e, hp, T, f1, f2, f3, f4⟩ := relaid_ok t (hs := es.map (·.1)) (wanted := wanted) e1 e2 (by rw [Array.size_map, C.size]; exact e3)
  rw [Array.size_map, C.size] at hp
  have pm : (order.toList.filterMap (L[·]?)).Perm L := (hp.filterMap (L[·]?)).trans (by rw [range_map])
  have hin : ∀ i ∈ order.toList, i < L.length := fun i hi => List.mem_range.mp (hp.mem_iff.mp hi)
  have rows : order.toList.filterMap (es[·]?) = rowN w (order.toList.filterMap (L[·]?)) := by
    rw [rowN, List.map_filterMap]
    exact congrFun (congrArg List.filterMap (funext fun i => C.at i)) _
  have hs : (order.toList.filterMap (L[·]?)).map (fun p => nh w p.2) = order.toList.map fun i => (es.map (·.1)).getD i 0 := by
    rw [List.map_filterMap]
    refine all_some fun i hi => ?_
    have lt := hin i hi
    have at1 : es[i]? = some (row1 w L[i]) := by rw [C.at, List.getElem?_eq_getElem lt] <;> rfl
    have at2 : (es.map (·.1))[i]? = some (nh w L[i].2) := by rw [Array.getElem?_map, at1] <;> rfl
    simp [List.getElem?_eq_getElem lt, Array.getD_eq_getD_getElem?, at2]
  refine ⟨t', order, _, e, ⟨by rw [Array.toList_filterMap]; exact rows, by rw [hs]; exact T, (pm.map (·.2)).nodup_iff.mpr C.nd, f3.trans C.plain, by rw [f2]; exact C.led, by rw [pm.length_eq]; exact C.few⟩, pm, f1⟩
/-- rows are written into the set -/
theorem store (ob : ∃ o es0 ep0 t0, s.heap.get? a = some o ∧ o.ExactSet ∧ o.data = .set es0 ep0 t0) {L1 : List (Addr × NestedKey)} {es1 : Array (Int × Value)} {t1 : SetTable} (C : Cont w L1 es1 t1) (hm : L1.length ≤ t1.mask) {Q : Unit → Shared → Prop}
    (q : ∀ h', Heap.SameBut a s.heap h' → (∃ o ep', h'.get? a = some o ∧ o.ExactSet ∧ o.data = .set es1 ep' t1) → Q () { s with heap := h' }) : wpAny (model P w) A (storeSet a es1 t1) Q E s := by
  obtain ⟨o, es0, ep0, t0, h1, h2, h3⟩ := ob
  have big : es1.size ≤ sizeLine := by have := C.few; have := C.size; rw [sizeLine_eq]; omega
  exact wpAny_storeSet_of h1 h3 (q _ (Heap.SameBut.update ..) ⟨_, _, store_at h1 h3, ⟨h2.1, h2.2.1, h2.2.2⟩, rfl⟩) big
theorem relay {ob : ∃ o ep0, s.heap.get? a = some o ∧ o.ExactSet ∧ o.data = .set es ep0 t} (C : Cont w L es t) (hm : L.length ≤ t.mask) (tup : ∀ p ∈ L, IsN s.heap p.2 p.1) {wanted M : Nat} (e1 : SetTable.sizeAbove wanted - 1 = M) (e2 : MaskOk M) (e3 : SetTable.sizeAbove wanted ≤ 128) (e4 : L.length * 5 < M * 3)
    {Q : Unit → Shared → Prop} (q : ∀ h' L' es' ep' t', Heap.SameBut a s.heap h' → SetN w h' a L' es' ep' t' → L'.Perm L → Q () { s with heap := h' }) : wpAny (model P w) A (setRelay a wanted) Q E s := by
  obtain ⟨o, ep0, h1, h2, h3⟩ := ob
  obtain ⟨t', order, L1, e, C1, pm, em⟩ := C.relaid e1 e2 (by omega)
  have same : (order.filterMap (es[·]?)).size = es.size := by rw [C1.size, C.size, pm.length_eq]
  rw [setRelay_eq]
  refine wpAny_bind (wpAny_setState_of h1 h3 (C.fits hm) ?_)
  have notbig : ¬ SetTable.sizeAbove wanted > sizeLine := by rw [sizeLine_eq]; omega
  simp only [notbig, if_false, e, same, bne_self_eq_false, Bool.false_eq_true]
  refine wpAny_bind (wpAny_pure (store ⟨o, es, ep0, t, h1, h2, h3⟩ C1 (by rw [pm.length_eq, em]; omega) fun h' sb ⟨o', ep', ob'⟩ => ?_))
  exact q h' L1 _ ep' t' sb ⟨C1, ⟨o', ob'⟩, fun p hp => (tup p (pm.mem_iff.mp hp)).past ⟨o, es, ep0, t, h1, h3⟩ sb, by rw [pm.length_eq, em]; exact e4⟩ pm
/-- a further key -/
theorem add (R : SetN w s.heap a L es ep t) {x : Addr} {k : NestedKey} (hx : IsN s.heap k x) (hu : A.units + 8 < cLine) (hf : L.length + 1 < 64) {Q : Bool → Shared → Prop}
    (q : ∀ b h' L' es' ep' t', Heap.SameBut a s.heap h' → SetN w h' a L' es' ep' t' → (k ∈ L.map (·.2) ∧ L' = L ∨ k ∉ L.map (·.2) ∧ L'.Perm ((x, k) :: L)) → Q b { s with heap := h' }) :
    wpAny (model P w) A (setAddHashed a (.ref x) (nh w k)) Q E s := by
  have rm := R.room
  unfold setAddHashed
  refine wpAny_holding ?_
  rw [show (100000 : Nat) = 99999 + 1 from rfl, setAddHashedIn_succ]
  refine wpAny_bind (R.state A E _ ?_)
  have nos : byScan (.ref x) es = false := by simp [byScan, Value.scannable]
  simp only [nos, Bool.false_eq_true, if_false]
  refine wpAny_bind (found R hx hu (fun m => wpAny_pure (q _ _ L es ep t (Heap.SameBut.refl a s.heap) R (.inl ⟨m, rfl⟩))) fun K m free full => ?_)
  refine wpAny_bind (R.state A E _ ?_)
  obtain ⟨L1, C1, pm, em, ef⟩ := R.toCont.put (x := x) m free full hf
  generalize t.put (way t.mask (nh w k) K) = tp at C1 em ef ⊢
  obtain ⟨t1, at_⟩ := tp
  have len : L1.length = L.length + 1 := pm.length_eq
  have pl : t1.plain = true := C1.plain
  simp only [pl, if_true]
  refine wpAny_bind (hx.hashed A E _ ?_)
  simp only [if_true]
  have lm : L1.length ≤ t1.mask := by rw [len]; show L.length + 1 ≤ t1.mask; rw [em]; omega
  obtain ⟨o, z1, z2, z3⟩ := R.ob
  refine wpAny_bind (store ⟨o, es, ep, t, z1, z2, z3⟩ C1 lm fun h1 sb ob1 => ?_)
  have tup1 : ∀ p ∈ L1, IsN h1 p.2 p.1 := fun p hp => by
    have old : IsN s.heap p.2 p.1 := by
      cases pm.mem_iff.mp hp with
      | head => exact hx
      | tail _ hp => exact R.tup p hp
    exact old.past R.isSet sb
  have full5 : t1.tooFull = decide ((L.length + 1) * 5 ≥ t.mask * 3) := by
    simp only [SetTable.tooFull, ef]
    rw [show t1.mask = t.mask from em]
  cases hb : t1.tooFull with
  | false =>
    rw [full5, decide_eq_false_iff_not] at hb
    obtain ⟨o1, ep1, ob1⟩ := ob1
    simp only [Bool.not_false, Bool.and_false, Bool.false_eq_true, if_false]
    exact wpAny_bind (wpAny_pure (wpAny_pure (q _ h1 L1 _ ep1 t1 sb ⟨C1, ⟨o1, ob1⟩, tup1, by rw [len]; show _ < t1.mask * 3; rw [em]; omega⟩ (.inr ⟨m, pm⟩))))
  | true =>
    rw [full5, decide_eq_true_eq] at hb
    simp only [Bool.not_false, Bool.and_true, if_true]
    have done : ∀ (M : Nat), SetTable.sizeAbove (SetTable.grown (es.size + 1)) - 1 = M → MaskOk M → SetTable.sizeAbove (SetTable.grown (es.size + 1)) ≤ 128 → L1.length * 5 < M * 3 → wpAny (model P w) A (setRelay a (SetTable.grown (es.size + 1))) (fun _ s' => wpAny (model P w) A (pure true) Q E s') E { s with heap := h1 } := fun M y1 y2 y3 y4 =>
      relay (ob := ob1) C1 lm tup1 y1 y2 y3 y4 fun h2 L2 es2 ep2 t2 sb2 R2 pm2 => wpAny_pure (q _ h2 L2 es2 ep2 t2 (sb.trans sb2) R2 (.inr ⟨m, pm2.trans pm⟩))
    refine wpAny_bind ?_
    have sz := R.toCont.size
    rcases R.tab.mok with e | e | e
    · have l4 : L.length = 4 := by omega
      rw [sz, l4, size_20] at done
      rw [sz, l4]
      exact done 31 rfl (.inr (.inl rfl)) (by decide) (by omega)
    · have l18 : L.length = 18 := by omega
      rw [sz, l18, size_76] at done
      rw [sz, l18]
      exact done 127 rfl (.inr (.inr rfl)) (by decide) (by omega)
    · omega
/-- the set has the first i items -/
structure Has (ks : List (Addr × NestedKey)) (i : Nat) (L : List (Addr × NestedKey)) : Prop where
  sub : ∀ p ∈ L, p ∈ ks.take i
  all : ∀ p ∈ ks.take i, p.2 ∈ L.map (·.2)
  len : L.length ≤ i
theorem Has.next {ks L M : List (Addr × NestedKey)} {i : Nat} {x : Addr × NestedKey} (g : Has ks i L) (h : ks[i]? = some x) (c : x.2 ∈ L.map (·.2) ∧ M = L ∨ x.2 ∉ L.map (·.2) ∧ M.Perm (x :: L)) : Has ks (i + 1) M := by
  have mem : ∀ p, p ∈ ks.take (i + 1) ↔ p ∈ ks.take i ∨ p = x := fun p => by rw [List.take_succ, h]; simp
  rcases c with ⟨c, rfl⟩ | ⟨_, pm⟩
  · exact ⟨fun p hp => (mem p).mpr (.inl (g.sub p hp)), fun p hp => ((mem p).mp hp).elim (g.all p) fun e => e ▸ c, Nat.le_succ_of_le g.len⟩
  · have mp : ∀ p, p ∈ M ↔ p = x ∨ p ∈ L := fun p => by rw [pm.mem_iff, List.mem_cons]
    refine ⟨fun p hp => (mem p).mpr (((mp p).mp hp).symm.imp (g.sub p) id), fun p hp => ?_, by rw [pm.length_eq]; exact Nat.succ_le_succ g.len⟩
    rw [(pm.map (·.2)).mem_iff]
    exact ((mem p).mp hp).elim (fun z => List.mem_cons_of_mem _ (g.all p z)) fun e => e ▸ List.mem_cons_self
theorem SetN.keep {h h' : Heap} (R : SetN w h a L es ep t) (ha : ∀ o, h.get? a = some o → h'.get? a = some o) (ht : ∀ p ∈ L, IsN h' p.2 p.1) : SetN w h' a L es ep t := ⟨R.toCont, R.ob.imp fun o z => ⟨ha o z.1, z.2⟩, ht, R.room⟩
theorem setN_new {h : Heap} {a : Addr} (ho : h.get? a = some (Bs.fresh w)) : SetN w h a [] #[] 0 (.fresh 0 0 (!w.params.followText "set-order")) where
  rows := rfl
  tab := ⟨.nil, rfl, rfl, .inl rfl, nofun, fun i h j hi => by simp at hi⟩
  nd := .nil
  plain := rfl
  led := by show _ ∨ (!w.params.followText "set-order") = true; cases w.params.followText "set-order" <;> simp
  few := by decide
  ob := ⟨_, ho, ⟨rfl, rfl, rfl⟩, rfl⟩
  tup := nofun
  room := by show 0 * 5 < 7 * 3; decide
/-- set(xs) -/
theorem call_set_n {l : Addr} {items : Array Value} (ks : List (Addr × NestedKey)) {Q : Value → Shared → Prop} (hh : A.handled = none) (hl : s.heap.IsList l items) (hit : items.toList = ks.map fun p => Value.ref p.1)
    (hk : ∀ p ∈ ks, IsN s.heap p.2 p.1) (hfew : ks.length < 64) (hu : A.units + 64 < cLine)
    (h : ∀ (h' : Heap) (tk : Nat) L es ep t, SetN w h' s.heap.objs.size L es ep t → Has ks ks.length L → (∀ b o, s.heap.get? b = some o → h'.get? b = some o) → Q (.ref s.heap.objs.size) { s with heap := h', toks := tk }) :
    wpAny (model P w) A (call (.type "set") [.ref l]) Q E s := by
  have sz : items.size = ks.length := by have := congrArg List.length hit; simpa using this
  refine Bs.of_list (J := fun i h' => ∃ L es ep t, SetN w h' s.heap.objs.size L es ep t ∧ Has ks i L ∧ ∀ p ∈ L, IsN s.heap p.2 p.1) hh hl ⟨fun {i h1 h2} ⟨L, es, ep, t, R, g, al⟩ z1 z2 => ⟨L, es, ep, t, R.keep z1 fun p hp => (al p hp).keep z2, g, al⟩, ?_⟩ ?_ ?_
  · intro i v s1 A' E' Q' hu' hv ⟨L, es, ep, t, R, g, al⟩ old q
    have lt : i < ks.length := by rw [← sz]; exact (Array.getElem?_eq_some_iff.mp hv).1
    have ev : v = .ref ks[i].1 := by
      rw [← Array.getElem?_toList, hit, List.getElem?_map, List.getElem?_eq_getElem lt] at hv
      exact (Option.some.inj hv).symm
    subst ev
    have x0 := hk _ (List.getElem_mem lt)
    have x1 := x0.keep old
    unfold setAdd
    refine wpAny_holding (wpAny_bind (pyHash_key ks[i].2 _ _ _ _ x1.is (by have := x1.dep; omega) ?_))
    refine add (s := { s1 with toks := s1.toks + ks[i].2.draws }) R x1 (by omega) (by have := g.len; omega) fun b h' L' es' ep' t' sb R' c => ?_
    refine q b h' _ sb ⟨L', es', ep', t', R', g.next (List.getElem?_eq_getElem lt) c, fun p hp => ?_⟩
    rcases c with ⟨_, rfl⟩ | ⟨_, pm⟩
    · exact al p hp
    · cases pm.mem_iff.mp hp with
      | head => exact x0
      | tail _ hp => exact al p hp
  · exact fun h1 e _ => ⟨[], #[], 0, _, setN_new e, ⟨nofun, by simp, Nat.le_refl _⟩, nofun⟩
  · exact fun h' tk ⟨L, es, ep, t, R, g, _⟩ old => h h' tk L es ep t R (sz ▸ g) old
end
end Nst

set_option maxHeartbeats 4000000
namespace Nst
open PySem PySem.Spec PyProof.Rows L2
section
variable {P : Program} {w : World} {A : Around} {E : Value → Shared → Prop} {s : Shared} {a : Addr} {L : List (Addr × NestedKey)} {es : Array (Int × Value)} {ep : Nat} {t : SetTable}
theorem IsN.one {h : Heap} {k j : NestedKey} {b : Addr} (x : IsN h k b) (y : IsN h j b) : k = j := NestedIs.inj _ _ _ x.is y.is
theorem each_self {α : Type} {R : Value → α → Prop} {f : α → Value} : ∀ {l : List α}, (∀ x ∈ l, R (f x) x) → PySem.W.EachIs R (l.map f) l
  | [], _ => .nil
  | x :: l, h => .cons (h x List.mem_cons_self) (each_self fun y hy => h y (List.mem_cons_of_mem _ hy))
theorem each_ref {l : List (Addr × NestedKey)} {out : List Value} (e : PySem.W.EachIs (fun (v : Value) (p : Addr × NestedKey) => v = .ref p.1) out l) : out = l.map fun p => Value.ref p.1 := by
  induction e with
  | nil => rfl
  | cons h _ ih => rw [List.map_cons, h, ih]
theorem sorted_set_n {Q : Value → Shared → Prop} (R : SetN w s.heap a L es ep t) (hh : A.handled = none) (rd : ∀ p ∈ L, Reads s.heap (.ref p.1) p.2.data []) (al : ∀ p ∈ L, ∀ q ∈ L, PySem.W.alike p.2.data q.2.data = true)
    (tp : ∀ p ∈ L, ∃ x r, p.2.data = .tuple (x :: r)) (hu : ∀ p ∈ L, A.units + 3 + p.2.data.depth < cLine)
    (hQ : ∀ s' p (out : Array Value) (c : Nat) (L' : List (Addr × NestedKey)), (∀ b o, s.heap.get? b = some o → s'.heap.get? b = some o) → s'.gens = s.gens → s'.os = s.os → s.heap.objs.size ≤ p →
      s'.heap.get? p = some (seqObj "list" out c) → out.toList = L'.map (fun q => Value.ref q.1) → L'.Perm L → L'.Pairwise (fun q r => PySem.W.dataLt r.2.data q.2.data = false) → Q (.ref p) s') :
    wpAny (model P w) A (call (.builtin "sorted") [.ref a]) Q E s := by
  obtain ⟨oS, e0, ⟨cS, _, _⟩, dS⟩ := R.ob
  have hfew := R.few
  have rows_are : es.toList.map (·.2) = L.map fun q => Value.ref q.1 := by rw [R.rows, rowN, List.map_map] <;> rfl
  have scan : es.size < scanBound := by have := R.toCont.size; unfold scanBound; omega
  refine Calls.call_function_entry kind_sorted plain_sorted entry_sorted (args_sorted1 _) (wpAny_bind (m := checkCount "sorted" 1 1 _) (wpAny_pure (wpAny_bind (collect_set (A := A.in1) hh ⟨oS, e0, cS, dS⟩ R.ok scan R.tab.ris R.led fun s1 vs k1 hz g1 o1 pm => ?_))))
  rw [rows_are] at pm
  obtain ⟨L1, e1, pL1⟩ : ∃ L1 : List (Addr × NestedKey), vs = L1.map (fun q => Value.ref q.1) ∧ L1.Perm L := by
    obtain ⟨L1, q1, q2⟩ : ∃ L1 : List (Addr × NestedKey), vs = L1.map (fun q => Value.ref q.1) ∧ L1.Perm L := by
      have key : ∀ (us ms : List Value), us.Perm ms → ∀ M : List (Addr × NestedKey), ms = M.map (fun q => Value.ref q.1) → ∃ N : List (Addr × NestedKey), us = N.map (fun q => Value.ref q.1) ∧ N.Perm M := by
        intro us ms h
        induction h with
        | nil => intro M hM; cases M with
          | nil => exact ⟨[], rfl, List.Perm.nil⟩
          | cons x M => cases hM
        | cons x _ ih => intro M hM; cases M with
          | nil => cases hM
          | cons y M =>
            injection hM with h1 h2
            obtain ⟨N, n1, n2⟩ := ih M h2
            exact ⟨y :: N, by rw [List.map_cons, h1, n1], n2.cons y⟩
        | swap x y l => intro M hM; cases M with
          | nil => cases hM
          | cons u M => cases M with
            | nil => cases hM
            | cons v M =>
              injection hM with h1 h2
              injection h2 with h2 h3
              exact ⟨v :: u :: M, by rw [List.map_cons, List.map_cons, h1, h2, h3], List.Perm.swap u v M⟩
        | trans _ _ ih1 ih2 =>
          intro M hM
          obtain ⟨N, n1, n2⟩ := ih2 M hM
          obtain ⟨N', m1, m2⟩ := ih1 N n1
          exact ⟨N', m1, m2.trans n2⟩
      exact key vs _ pm L rfl
    exact ⟨L1, q1, q2⟩
  have hvl : vs.length < 64 := by rw [e1, List.length_map, pL1.length_eq]; exact hfew
  refine wpAny_bind (wpAny_newList ?_ (by rw [sizeLine_eq]; omega))
  have hoL : (s1.heap.push (seqObj "list" vs.toArray 0)).get? s1.heap.objs.size = some (seqObj "list" vs.toArray 0) := Heap.get?_push_size _ rfl
  have inL : ∀ p ∈ L1, p ∈ L := fun p hp => pL1.mem_iff.mp hp
  have er : PySem.W.EachIs (fun (v : Value) (p : Addr × NestedKey) => ∃ as, Reads (s1.heap.push (seqObj "list" vs.toArray 0)) v p.2.data as ∧ s1.heap.objs.size ∉ as) vs L1 := by
    rw [e1]
    refine each_self fun p hp => ?_
    exact ⟨[], PyProof.Rows.Reads.keeps (fun b u q => Heap.get?_push_of_some _ (k1 b u q)) (rd p (inL p hp)), by simp⟩
  refine wpAny_bind (wpAny_holding (PySem.W.list_sort_data (s := { s1 with heap := s1.heap.push (seqObj "list" vs.toArray 0) }) (enc := fun p : Addr × NestedKey => p.2.data) (R := fun v p => v = .ref p.1) hoL (by rw [e1]; exact each_self fun p _ => rfl) er
    (fun d hd' d' hd'' => ?_) (.inl fun d hd' => ?_) (by rw [pL1.length_eq, sizeLine_eq]; omega) (fun p hp => by have := hu p (inL p hp); simp only [Around.in1_units]; omega) fun out ol eo => ?_))
  · obtain ⟨p, hp, rfl⟩ := List.mem_map.mp hd'
    obtain ⟨q, hq, rfl⟩ := List.mem_map.mp hd''
    exact al p (inL p hp) q (inL q hq)
  · obtain ⟨p, hp, rfl⟩ := List.mem_map.mp hd'
    exact tp p (inL p hp)
  · obtain ⟨c, hc⟩ := sortedHeap_at (vs := vs) (out := out.toArray) hoL
    have eo2 := each_ref eo
    have T := PySem.W.sortLe_total (PyProof.Rows.listOrd itemOrd) false fun p : Addr × NestedKey => PySem.W.keyToks p.2.data
    have pw := List.pairwise_mergeSort (le := PySem.W.dataLe false fun p : Addr × NestedKey => p.2.data) T.trans (fun a b => by rw [Bool.or_eq_true]; exact T.total a b) L1
    refine wpAny_pure ⟨_, rfl, hQ _ s1.heap.objs.size out.toArray c (L1.mergeSort (PySem.W.dataLe false fun p => p.2.data)) (fun b u e => ?_) g1 o1 hz hc (by simpa using eo2) ((List.mergeSort_perm _ _).trans pL1) (pw.imp fun {q r} h => ?_)⟩
    · have q := k1 b u e
      have hlt := Heap.lt_size q
      show (sortedHeap (s1.heap.push (seqObj "list" vs.toArray 0)) s1.heap.objs.size vs out.toArray).get? b = some u
      rw [sortedHeap_old (Nat.ne_of_lt hlt) (by rw [size_push']; exact Nat.lt_succ_of_lt hlt)]
      exact Heap.get?_push_of_some _ q
    · rw [PySem.W.dataLe_eq] at h
      simpa using h
end
end Nst

set_option maxHeartbeats 4000000
namespace Dn
open PySem PySem.Spec PyProof.Rows L2 Nst
mutual
/-- nested tuples of ints -/
def okN : Nat → PyData → Bool
  | _, .int _ => true
  | n + 1, .tuple ds => okNs n ds
  | _, _ => false
def okNs : Nat → List PyData → Bool
  | _, [] => true
  | n, d :: ds => okN n d && okNs n ds
end
mutual
def nkD : PyData → NestedKey
  | .int i => .num i
  | .tuple ds => .tup (nkDs ds)
  | _ => .none
def nkDs : List PyData → List NestedKey
  | [] => []
  | d :: ds => nkD d :: nkDs ds
end
mutual
theorem data_nk : ∀ (n : Nat) (d : PyData), okN n d = true → (nkD d).data = d
  | _, .int i, _ => by simp [nkD, NestedKey.data]
  | 0, .tuple ds, h => by simp [okN] at h
  | n + 1, .tuple ds, h => by
    rw [okN] at h
    rw [nkD, NestedKey.data, datas_nk n ds h]
  | 0, .none, h => by simp [okN] at h
  | 0, .bool _, h => by simp [okN] at h
  | 0, .str _, h => by simp [okN] at h
  | 0, .list _, h => by simp [okN] at h
  | 0, .dict _, h => by simp [okN] at h
  | n + 1, .none, h => by simp [okN] at h
  | n + 1, .bool _, h => by simp [okN] at h
  | n + 1, .str _, h => by simp [okN] at h
  | n + 1, .list _, h => by simp [okN] at h
  | n + 1, .dict _, h => by simp [okN] at h
theorem datas_nk : ∀ (n : Nat) (ds : List PyData), okNs n ds = true → NestedKey.datas (nkDs ds) = ds
  | _, [], _ => by simp [nkDs, NestedKey.datas]
  | n, d :: ds, h => by
    rw [okNs, Bool.and_eq_true] at h
    rw [nkDs, NestedKey.datas, data_nk n d h.1, datas_nk n ds h.2]
end
mutual
theorem dep_nk : ∀ (n : Nat) (d : PyData), okN n d = true → (nkD d).depth ≤ n ∧ bare (nkD d) = true ∧ d.depth ≤ n
  | _, .int i, _ => by simp [nkD, NestedKey.depth, bare, PyData.depth]
  | 0, .tuple ds, h => by simp [okN] at h
  | n + 1, .tuple ds, h => by
    rw [okN] at h
    obtain ⟨h1, h2, h3⟩ := deps_nk n ds h
    simp only [nkD, NestedKey.depth, bare, PyData.depth]
    exact ⟨by omega, h2, by omega⟩
  | 0, .none, h => by simp [okN] at h
  | 0, .bool _, h => by simp [okN] at h
  | 0, .str _, h => by simp [okN] at h
  | 0, .list _, h => by simp [okN] at h
  | 0, .dict _, h => by simp [okN] at h
  | n + 1, .none, h => by simp [okN] at h
  | n + 1, .bool _, h => by simp [okN] at h
  | n + 1, .str _, h => by simp [okN] at h
  | n + 1, .list _, h => by simp [okN] at h
  | n + 1, .dict _, h => by simp [okN] at h
theorem deps_nk : ∀ (n : Nat) (ds : List PyData), okNs n ds = true → NestedKey.depthAll (nkDs ds) ≤ n ∧ bareAll (nkDs ds) = true ∧ PyData.depthAll ds ≤ n
  | _, [], _ => by simp [nkDs, NestedKey.depthAll, bareAll, PyData.depthAll]
  | n, d :: ds, h => by
    rw [okNs, Bool.and_eq_true] at h
    obtain ⟨a1, a2, a3⟩ := dep_nk n d h.1
    obtain ⟨b1, b2, b3⟩ := deps_nk n ds h.2
    simp only [nkDs, NestedKey.depthAll, bareAll, PyData.depthAll]
    exact ⟨by omega, by rw [a2, b2]; rfl, by omega⟩
end
section
variable {X : Cx} {pins : List (Addr × Obj)} {σ : L2.St} {G H : Hp} {s : Shared}
mutual
theorem nest_of (I : Inv X pins σ H s) (sg : Same G H) : ∀ (n : Nat) (d : PyData) (v : V) (u : Value), okN n d = true → Dq X.K G v d → RelV v u → NestedIs s.heap (nkD d) u ∧ Reads s.heap u d []
  | _, .int i, v, u, _, hd, r => by
    cases hd
    obtain ⟨t, rfl⟩ := r
    rw [nkD]
    exact ⟨.int i t, .int i t⟩
  | 0, .tuple ds, v, u, h, _, _ => by simp [okN] at h
  | n + 1, .tuple ds, v, u, h, hd, r => by
    rw [okN] at h
    cases hd with
    | @tup a xs _ hs ha =>
      cases r
      obtain ⟨its, rv, ⟨o, ho, hc, m, hdd⟩, hz⟩ := I.tuple (Same.sqT sg hs)
      obtain ⟨q1, q2⟩ := nests_of I sg n ds xs its h ha rv
      rw [nkD]
      exact ⟨.tup ho hc hdd (by simpa using q1), .tuple ho hc hdd (by simpa using q2)⟩
  | 0, .none, _, _, h, _, _ => by simp [okN] at h
  | 0, .bool _, _, _, h, _, _ => by simp [okN] at h
  | 0, .str _, _, _, h, _, _ => by simp [okN] at h
  | 0, .list _, _, _, h, _, _ => by simp [okN] at h
  | 0, .dict _, _, _, h, _, _ => by simp [okN] at h
  | n + 1, .none, _, _, h, _, _ => by simp [okN] at h
  | n + 1, .bool _, _, _, h, _, _ => by simp [okN] at h
  | n + 1, .str _, _, _, h, _, _ => by simp [okN] at h
  | n + 1, .list _, _, _, h, _, _ => by simp [okN] at h
  | n + 1, .dict _, _, _, h, _, _ => by simp [okN] at h
theorem nests_of (I : Inv X pins σ H s) (sg : Same G H) : ∀ (n : Nat) (ds : List PyData) (vs : List V) (us : List Value), okNs n ds = true → DqA X.K G vs ds → Vals vs us → NestedAll s.heap (nkDs ds) us ∧ ReadsAll s.heap us ds []
  | _, [], vs, us, _, hd, r => by
    cases hd
    cases r
    rw [nkDs]
    exact ⟨.nil, .nil⟩
  | n, d :: ds, vs, us, h, hd, r => by
    rw [okNs, Bool.and_eq_true] at h
    cases hd with
    | cons hd1 hd2 =>
      cases r with
      | cons r1 r2 =>
        obtain ⟨a1, a2⟩ := nest_of I sg n d _ _ h.1 hd1 r1
        obtain ⟨b1, b2⟩ := nests_of I sg n ds _ _ h.2 hd2 r2
        rw [nkDs]
        exact ⟨.cons a1 b1, .cons a2 b2⟩
end
theorem isN_of (I : Inv X pins σ H s) (sg : Same G H) {d : PyData} {a : Addr} (h : okN 7 d = true) (hd : Dq X.K G (.ref a) d) : IsN s.heap (nkD d) a ∧ Reads s.heap (.ref a) d [] := by
  obtain ⟨q1, q2⟩ := nest_of I sg 7 d _ (.ref a) h hd rfl
  obtain ⟨p1, p2, _⟩ := dep_nk 7 d h
  exact ⟨⟨q1, by omega, p2⟩, q2⟩
end
/-- the set at a, without its tuples -/
structure SetN0 (w : World) (h : Heap) (a : Addr) (L : List (Addr × NestedKey)) : Prop where
  ex : ∃ (es : Array (Int × Value)) (ep : Nat) (t : SetTable), (∃ o, h.get? a = some o ∧ o.ExactSet ∧ o.data = .set es ep t) ∧ es.toList = rowN w L ∧ TabOk t (L.map fun p => nh w p.2) ∧ (L.map (·.2)).Nodup ∧ t.plain = true ∧ (w.params.followText "set-order" = true ∨ t.led = true) ∧ L.length * 5 < t.mask * 3 ∧ L.length < 64
def SetNO (w : World) (a : Addr) (L : List (Addr × NestedKey)) : HO := .ext fun h => SetN0 w h a L
theorem setN0_of {w : World} {h : Heap} {a : Addr} {L : List (Addr × NestedKey)} {es : Array (Int × Value)} {ep : Nat} {t : SetTable} (R : SetN w h a L es ep t) : SetN0 w h a L := ⟨es, ep, t, R.ob, R.rows, R.tab, R.nd, R.plain, R.led, R.room, R.few⟩
theorem SetN0.full {w : World} {h : Heap} {a : Addr} {L : List (Addr × NestedKey)} (R : SetN0 w h a L) (ht : ∀ p ∈ L, IsN h p.2 p.1) : ∃ es ep t, SetN w h a L es ep t := by
  obtain ⟨es, ep, t, h1, h2, h3, h4, h5, h6, h7, h8⟩ := R.ex
  exact ⟨es, ep, t, ⟨h2, h3, h4, h5, h6, h8⟩, h1, ht, h7⟩
theorem setNO_new {P : Program} {w : World} {H : Hp} {h : Heap} {a : Addr} {L : List (Addr × NestedKey)} (R : SetN0 w h a L) : ObjOk P w H h a (SetNO w a L) := by
  have ⟨_, _, _, ⟨o, ho, _⟩, _⟩ := R.ex
  refine ⟨R, ⟨o, ho⟩, fun h1 h2 p k => ?_⟩
  have ⟨es, ep, t, ⟨o', ho', r'⟩, q'⟩ := SetN0.ex p
  exact ⟨es, ep, t, ⟨o', k o' ho', r'⟩, q'⟩
def tupN : PyData → Bool
  | .tuple (_ :: _) => true
  | _ => false
theorem refs_tups {K : PySem.W.Frag} {G : Hp} : ∀ {vs : List V} {ds : List PyData}, DqA K G vs ds → (∀ d ∈ ds, tupN d = true) → ∃ as : List Addr, vs = as.map V.ref
  | _, _, .nil, _ => ⟨[], rfl⟩
  | _, _, .cons (d := d) a b, h => by
    obtain ⟨as, rfl⟩ := refs_tups b fun e he => h e (by simp [he])
    have hd := h d (by simp)
    cases a with
    | @tup c _ _ hs ha => exact ⟨c :: as, rfl⟩
    | _ => cases hd
theorem refs_vals : ∀ {as : List Addr} {us : List Value}, Vals (as.map V.ref) us → us = as.map Value.ref
  | [], _, .nil => rfl
  | a :: as, _, .cons r t => by
    cases r
    rw [refs_vals t] <;> rfl
/-- what holds of each of two rows beside one another -/
theorem zip_dq2 {K : PySem.W.Frag} {G : Hp} : ∀ {as : List Addr} {ds : List PyData}, DqA K G (as.map V.ref) ds → ∀ p ∈ as.zip (ds.map nkD), ∃ d ∈ ds, p.2 = nkD d ∧ Dq K G (.ref p.1) d
  | [], _, .nil, p, hp => by simp at hp
  | a :: as, d :: ds, .cons h t, p, hp => by
    rw [List.map_cons, List.zip_cons_cons] at hp
    rcases List.mem_cons.mp hp with rfl | hp
    · exact ⟨d, by simp, rfl, h⟩
    · obtain ⟨e, he, q⟩ := zip_dq2 t p hp
      exact ⟨e, by simp [he], q⟩
theorem zip_fst {as : List Addr} {ds : List PyData} (h : as.length = ds.length) : (as.zip (ds.map nkD)).map (fun p => Value.ref p.1) = as.map Value.ref := by
  rw [show (fun p : Addr × NestedKey => Value.ref p.1) = Value.ref ∘ Prod.fst from rfl, ← List.map_map, List.map_fst_zip (by rw [List.length_map]; omega)]
theorem zip_snd {as : List Addr} {ds : List PyData} (h : as.length = ds.length) : (as.zip (ds.map nkD)).map Prod.snd = ds.map nkD := List.map_snd_zip (by rw [List.length_map]; omega)
def rSetN (K : PySem.W.Frag) (w : World) : List V → Hp → VK → Prop := fun xs H Q => ∃ (l : Addr) (as : List Addr) (ds : List PyData) (G : Hp), xs = [V.ref l] ∧ SqL K H l (as.map V.ref) ∧ Same G H ∧ DqA K G (as.map V.ref) ds ∧ (∀ d ∈ ds, okN 7 d = true) ∧ ds.length < 64 ∧
  ∀ a L, H a = none → (∀ p ∈ L, p ∈ as.zip (ds.map nkD)) → (∀ d ∈ ds, nkD d ∈ L.map (·.2)) → (L.map (·.2)).Nodup → L.length < 64 → Q (.ref a) (upd H a (SetNO w a L))
theorem cr_setN {X : Cx} (hc : X.calm = true) (hu : X.A.units + 64 < cLine) : CallR X (.type "set") (rSetN X.K X.w) := by
  intro pins s σ H xs us Q I r h
  obtain ⟨l, as, ds, G, rfl, hl, sg, hd, hk, hf, q⟩ := h
  rw [Vals.ref1 r]
  obtain ⟨its, rv, pl, hz⟩ := I.list hl
  have hal : as.length = ds.length := by have := dpA_len hd; rwa [List.length_map] at this
  have hn : H s.heap.objs.size = none := I.hok.fresh (Nat.le_refl _)
  have hkl : (as.zip (ds.map nkD)).length = ds.length := by rw [List.length_zip, List.length_map]; omega
  refine call_set_n (P := X.prog) (w := X.w) (as.zip (ds.map nkD)) (I.ok.hd hc) pl.isList (by rw [zip_fst hal]; simpa using refs_vals rv) (fun p hp => ?_) (by rw [hkl]; exact hf) hu fun h' tk L es ep t R g k => ?_
  · obtain ⟨d, hd1, e, dq⟩ := zip_dq2 hd p hp
    rw [e]
    exact (isN_of I sg (hk d hd1) dq).1
  · refine ⟨.ref s.heap.objs.size, upd H s.heap.objs.size (SetNO X.w s.heap.objs.size L), I.laid (t' := tk) k (Nat.le_refl _) (setNO_new (setN0_of R)), rfl, q _ L hn (fun p hp => List.mem_of_mem_take (g.sub p hp)) (fun d hd1 => ?_) R.nd R.few⟩
    have m : nkD d ∈ (as.zip (ds.map nkD)).map Prod.snd := by rw [zip_snd hal]; exact List.mem_map.mpr ⟨d, hd1, rfl⟩
    obtain ⟨p, hp, e⟩ := List.mem_map.mp m
    rw [← e]
    exact g.all p (by rw [List.take_length]; exact hp)
def rSortN (K : PySem.W.Frag) (w : World) : List V → Hp → VK → Prop := fun vs H Q => ∃ (a : Addr) (L : List (Addr × NestedKey)) (G : Hp), vs = [V.ref a] ∧ H a = some (SetNO w a L) ∧ Same G H ∧ (∀ p ∈ L, ∃ d, p.2 = nkD d ∧ okN 7 d = true ∧ tupN d = true ∧ Dq K G (.ref p.1) d) ∧
  (∀ p ∈ L, ∀ q ∈ L, PySem.W.alike p.2.data q.2.data = true) ∧ L.length < 64 ∧
  ∀ (L' : List (Addr × NestedKey)) (p : Addr), L'.Perm L → L'.Pairwise (fun q r => PySem.W.dataLt r.2.data q.2.data = false) → H p = none → Q (.ref p) (upd H p (.lst (L'.map fun q => V.ref q.1)))
theorem vals_refsN : ∀ (L : List (Addr × NestedKey)), Vals (L.map fun q => V.ref q.1) (L.map fun q => Value.ref q.1)
  | [] => .nil
  | _ :: L => .cons rfl (vals_refsN L)
theorem cr_sortN {X : Cx} (hc : X.calm = true) (hu : X.A.units + 64 < cLine) : CallR X (.builtin "sorted") (rSortN X.K X.w) := by
  intro pins s σ H vs us Q I r h
  obtain ⟨a, L, G, rfl, ha, sg, hk, al, hf, q⟩ := h
  have R0 : SetN0 X.w s.heap a L := (I.hok a _ ha).1
  obtain ⟨es, ep, t, R⟩ := R0.full fun p hp => by
    obtain ⟨d, e, h1, _, dq⟩ := hk p hp
    rw [e]
    exact (isN_of I sg h1 dq).1
  rw [Vals.ref1 r]
  refine sorted_set_n R (I.ok.hd hc) (fun p hp => ?_) al (fun p hp => ?_) (fun p hp => ?_) fun s' p out c L' k g o hp hg hout pm pw => ?_
  · obtain ⟨d, e, h1, _, dq⟩ := hk p hp
    rw [e, data_nk 7 d h1]
    exact (isN_of I sg h1 dq).2
  · obtain ⟨d, e, h1, h2, dq⟩ := hk p hp
    rw [e, data_nk 7 d h1]
    unfold tupN at h2
    split at h2
    · exact ⟨_, _, rfl⟩
    · cases h2
  · obtain ⟨d, e, h1, _, dq⟩ := hk p hp
    rw [e, data_nk 7 d h1]
    have := (dep_nk 7 d h1).2.2
    omega
  · obtain ⟨_, g', _, _, _⟩ := s'
    cases o
    obtain rfl : g' = s.gens := g
    have few : (L'.map fun q => V.ref q.1).length ≤ sizeLine := by have := pm.length_eq; simp only [List.length_map, sizeLine_eq]; omega
    have free := I.hok.fresh hp
    have lst : ObjOk X.prog X.w (upd H p (.lst (L'.map fun q => V.ref q.1))) _ p (.lst (L'.map fun q => V.ref q.1)) := ⟨few, out.toList, c, by rw [hout]; exact vals_refsN L', hg⟩
    exact ⟨.ref p, _, I.call (ch := []) (Un.laid k hp free) (I.hok.laid k hp lst) I.bare (fun _ z => nomatch z), rfl, q L' p pm pw free⟩

def insD (d : PyData) : List PyData → List PyData
  | [] => [d]
  | e :: r => if PyData.eqv d e = true then e :: r else if PySem.W.dataLt d e = true then d :: e :: r else e :: insD d r
def strB : List PyData → Bool
  | [] => true
  | d :: r => r.all (fun e => PySem.W.dataLt d e && !PySem.W.dataLt e d) && strB r
def sortSetD (ds : List PyData) : Option (List PyData) :=
  if decide (ds.length < 64) && ds.all (okN 7) && ds.all tupN && ds.all (fun d => ds.all fun e => PySem.W.alike d e) && strB (ds.foldr insD []) then some (ds.foldr insD []) else none
mutual
theorem eqv_okN : ∀ (n : Nat) (d e : PyData), okN n d = true → okN n e = true → PyData.eqv d e = true → d = e
  | _, .int i, .int j, _, _, h => by simp [PyData.eqv] at h; rw [h]
  | _, .int i, .tuple _, _, _, h => by simp [PyData.eqv] at h
  | 0, .tuple _, _, h, _, _ => by simp [okN] at h
  | n + 1, .tuple _, .int _, _, _, h => by simp [PyData.eqv] at h
  | n + 1, .tuple xs, .tuple ys, h1, h2, h => by
    rw [okN] at h1 h2
    rw [PyData.eqv] at h
    rw [eqvs_okN n xs ys h1 h2 h]
  | 0, .none, _, h, _, _ => by simp [okN] at h
  | 0, .bool _, _, h, _, _ => by simp [okN] at h
  | 0, .str _, _, h, _, _ => by simp [okN] at h
  | 0, .list _, _, h, _, _ => by simp [okN] at h
  | 0, .dict _, _, h, _, _ => by simp [okN] at h
  | n + 1, .none, _, h, _, _ => by simp [okN] at h
  | n + 1, .bool _, _, h, _, _ => by simp [okN] at h
  | n + 1, .str _, _, h, _, _ => by simp [okN] at h
  | n + 1, .list _, _, h, _, _ => by simp [okN] at h
  | n + 1, .dict _, _, h, _, _ => by simp [okN] at h
  | 0, .int _, .none, _, h, _ => by simp [okN] at h
  | 0, .int _, .bool _, _, h, _ => by simp [okN] at h
  | 0, .int _, .str _, _, h, _ => by simp [okN] at h
  | 0, .int _, .list _, _, h, _ => by simp [okN] at h
  | 0, .int _, .dict _, _, h, _ => by simp [okN] at h
  | n + 1, .int _, .none, _, h, _ => by simp [okN] at h
  | n + 1, .int _, .bool _, _, h, _ => by simp [okN] at h
  | n + 1, .int _, .str _, _, h, _ => by simp [okN] at h
  | n + 1, .int _, .list _, _, h, _ => by simp [okN] at h
  | n + 1, .int _, .dict _, _, h, _ => by simp [okN] at h
  | n + 1, .tuple _, .none, _, h, _ => by simp [okN] at h
  | n + 1, .tuple _, .bool _, _, h, _ => by simp [okN] at h
  | n + 1, .tuple _, .str _, _, h, _ => by simp [okN] at h
  | n + 1, .tuple _, .list _, _, h, _ => by simp [okN] at h
  | n + 1, .tuple _, .dict _, _, h, _ => by simp [okN] at h
theorem eqvs_okN : ∀ (n : Nat) (ds es : List PyData), okNs n ds = true → okNs n es = true → PyData.eqvAll ds es = true → ds = es
  | _, [], [], _, _, _ => rfl
  | _, [], _ :: _, _, _, h => by simp [PyData.eqvAll] at h
  | _, _ :: _, [], _, _, h => by simp [PyData.eqvAll] at h
  | n, d :: ds, e :: es, h1, h2, h => by
    rw [okNs, Bool.and_eq_true] at h1 h2
    rw [PyData.eqvAll, Bool.and_eq_true] at h
    rw [eqv_okN n d e h1.1 h2.1 h.1, eqvs_okN n ds es h1.2 h2.2 h.2]
end
theorem mem_insD {d x : PyData} : ∀ {r : List PyData}, okN 7 d = true → (∀ e ∈ r, okN 7 e = true) → (x ∈ insD d r ↔ x = d ∨ x ∈ r)
  | [], _, _ => by simp [insD]
  | e :: r, hd, hr => by
    unfold insD
    split
    · rename_i h
      have e1 := eqv_okN 7 d e hd (hr e (by simp)) h
      subst e1
      simp
    · split
      · simp
      · have ih := mem_insD (d := d) (x := x) (r := r) hd fun y hy => hr y (by simp [hy])
        rw [List.mem_cons, ih, List.mem_cons]
        constructor
        · rintro (h | h | h)
          · exact .inr (.inl h)
          · exact .inl h
          · exact .inr (.inr h)
        · rintro (h | h | h)
          · exact .inr (.inl h)
          · exact .inl h
          · exact .inr (.inr h)
theorem mem_sortD {x : PyData} : ∀ {ds : List PyData}, (∀ d ∈ ds, okN 7 d = true) → (x ∈ ds.foldr insD [] ↔ x ∈ ds)
  | [], _ => by simp
  | d :: ds, h => by
    have ih : ∀ y, y ∈ ds.foldr insD [] ↔ y ∈ ds := fun y => mem_sortD fun e he => h e (by simp [he])
    rw [List.foldr_cons, mem_insD (h d (by simp)) (fun e he => h e (by simp [(ih e).mp he])), ih, List.mem_cons]
theorem str_unique : ∀ {r out : List PyData}, strB r = true → out.Pairwise (fun a b => PySem.W.dataLt b a = false) → out.Nodup → (∀ x, x ∈ r ↔ x ∈ out) → r = out
  | [], [], _, _, _, _ => rfl
  | [], o :: out, _, _, _, h => by have := (h o).mpr (by simp); simp at this
  | d :: r, [], _, _, _, h => by have := (h d).mp (by simp); simp at this
  | d :: r, o :: out, h1, h2, h3, h => by
    rw [strB, Bool.and_eq_true, List.all_eq_true] at h1
    obtain ⟨ha, hb⟩ := h1
    rw [List.pairwise_cons] at h2
    rw [List.nodup_cons] at h3
    have e : d = o := by
      by_cases q : d = o
      · exact q
      · have m1 : o ∈ r := by
          rcases List.mem_cons.mp ((h o).mpr (by simp)) with z | z
          · exact absurd z.symm q
          · exact z
        have m2 : d ∈ out := by
          rcases List.mem_cons.mp ((h d).mp (by simp)) with z | z
          · exact absurd z q
          · exact z
        have a1 := ha o m1
        have a2 := h2.1 d m2
        rw [Bool.and_eq_true] at a1
        rw [a2] at a1
        exact absurd a1.1 (by simp)
    subst e
    have nd : d ∉ r := fun m => by
      have a1 := ha d m
      cases z : PySem.W.dataLt d d <;> rw [z] at a1 <;> simp at a1
    have ih := str_unique (r := r) (out := out) hb h2.2 h3.2 fun x => by
      constructor
      · intro hx
        rcases List.mem_cons.mp ((h x).mp (by simp [hx])) with z | z
        · exact absurd (z ▸ hx) nd
        · exact z
      · intro hx
        rcases List.mem_cons.mp ((h x).mpr (by simp [hx])) with z | z
        · exact absurd (z ▸ hx) h3.1
        · exact z
    rw [ih]
def mSortSet (ms : Ax) : Lx := argsD ms fun ds env w => match ds with
  | [.list xs] => (sortSetD xs).map fun r => (r, env, w)
  | _ => none
theorem do_sortSet {X : Cx} {e : Expr} {ms : Ax} {p p2 pos2 pos : Pos} (hc : X.calm = true) (hu : X.A.units + 64 < cLine) (hm : X.mg "sorted" = none) (hm2 : X.mg "set" = none) (ha : DA X [e] ms) (hv : bootBuiltins "sorted" = some (.builtin "sorted")) (hv2 : bootBuiltins "set" = some (.type "set")) (hg : Gl X "sorted" := by rfl) (hg2 : Gl X "set" := by rfl)
    (he : starEach [e] X.env = (false, eval e X.env) :: starEach [] X.env := by rfl)
    (he2 : starEach [.Call (.Name "set" p2) [e] [] pos2] X.env = (false, eval (.Call (.Name "set" p2) [e] [] pos2) X.env) :: starEach [] X.env := by rfl) :
    DO X (.Call (.Name "sorted" p) [.Call (.Name "set" p2) [e] [] pos2] [] pos) (mSortSet ms) := by
  refine PE.weak (pe_callB (cr_sortN hc hu) hg hm hv (pa_cons (pe_callTy (cr_setN hc hu) hg2 hm2 hv2 ha (he := he)) pa_nil he2) (he := he2)) fun σ H Q ⟨C, G, env, w, r, env', w', R, hm, k⟩ => ?_
  obtain ⟨rs, ds, e1, w1, h1, h2, hm⟩ := argsD_inv hm
  split at hm
  · rename_i xs
    obtain ⟨r', hr, q⟩ := Option.map_eq_some_iff.mp hm
    cases q
    unfold sortSetD at hr
    split at hr
    · rename_i hcond
      cases hr
      simp only [Bool.and_eq_true, decide_eq_true_eq, List.all_eq_true] at hcond
      obtain ⟨⟨⟨⟨c1, c2⟩, c3⟩, c4⟩, c5⟩ := hcond
      refine ⟨C, G, env, w, _, _, _, R, h1, fun vs G1 H1 R1 s1 i1 a1 => ?_⟩
      obtain ⟨v, rfl, dv⟩ := dqA1 (dsOf_ok a1 h2)
      cases dv with
      | @lst l us _ hs hd =>
        obtain ⟨as, rfl⟩ := refs_tups hd c3
        refine ⟨l, as, xs, G1, rfl, SqL.of (R1.sub _ _ hs), R1.sub, hd, c2, c1, fun a L hn hL hall hnd hf => ?_⟩
        have ex : ∀ p ∈ L, ∃ d ∈ xs, p.2 = nkD d ∧ Dq X.K G1 (.ref p.1) d := fun p hp => zip_dq2 hd p (hL p hp)
        have dat : ∀ p ∈ L, p.2.data ∈ xs ∧ nkD p.2.data = p.2 ∧ Dq X.K G1 (.ref p.1) p.2.data := fun p hp => by
          obtain ⟨d, hd1, e, dq⟩ := ex p hp
          rw [e, data_nk 7 d (c2 d hd1)]
          exact ⟨hd1, rfl, dq⟩
        have sH : Same H1 (upd H1 a (SetNO X.w a L)) := same_upd hn
        refine ⟨a, L, G1, rfl, upd_same, R1.sub.trans sH, fun p hp => ?_, fun p hp q hq => c4 _ (dat p hp).1 _ (dat q hq).1, hf, fun L' pl pm pw hpn => ?_⟩
        · obtain ⟨d, hd1, e, dq⟩ := ex p hp
          exact ⟨d, e, c2 d hd1, c3 d hd1, dq⟩
        · have hpn1 : H1 pl = none := by
            by_cases z : pl = a
            · rw [z]; exact hn
            · rwa [upd_ne z] at hpn
          have inL : ∀ p ∈ L', p ∈ L := fun p hp => pm.mem_iff.mp hp
          have dA : ∀ M : List (Addr × NestedKey), (∀ p ∈ M, p ∈ L) → DqA X.K G1 (M.map fun q => V.ref q.1) (M.map fun q => q.2.data) := by
            intro M
            induction M with
            | nil => intro _; exact .nil
            | cons p M ih => intro hM; exact .cons (dat p (hM p (by simp))).2.2 (ih fun q hq => hM q (by simp [hq]))
          have eq : xs.foldr insD [] = L'.map fun q => q.2.data := by
            refine str_unique c5 (List.pairwise_map.mpr pw) ?_ fun x => ?_
            · have nd' : (L'.map (·.2)).Nodup := (pm.map (·.2)).nodup_iff.mpr hnd
              refine List.pairwise_map.mpr (List.Pairwise.imp_of_mem (fun {p q} hp hq hne e => hne ?_) (List.pairwise_map.mp nd'))
              rw [← (dat p (inL p hp)).2.1, ← (dat q (inL q hq)).2.1, e]
            · rw [mem_sortD c2]
              constructor
              · intro hx
                obtain ⟨p, hp, e⟩ := List.mem_map.mp (hall x hx)
                refine List.mem_map.mpr ⟨p, pm.mem_iff.mpr hp, ?_⟩
                rw [e, data_nk 7 x (c2 x hx)]
              · intro hx
                obtain ⟨p, hp, e⟩ := List.mem_map.mp hx
                rw [← e]
                exact (dat p (inL p hp)).1
          have R2 := R1.ext (Ext.drop R1.sub sH)
          obtain ⟨R3, q1, q2, q3, q4⟩ := new_O (vs := L'.map fun q => V.ref q.1) R2 hpn
          exact k pl _ G1 _ R3 s1 i1 q1 (by rw [eq]; exact dA L' inL) q2 q3 q4
    · cases hr
  · cases hm
end Dn

set_option maxHeartbeats 4000000
namespace Dn
open PySem PySem.Spec PyProof.Rows L2
theorem tmul_same (l : Addr) (items : Array Value) (n : Nat) (dd : Option Addr) (sl : Array (Option Value)) (x : Int) (u : Tok) (c0 : (decide (x < -(2 ^ 63)) || decide (x ≥ 2 ^ 63)) = false) (c1 : (items.isEmpty || x == 1) = true) :
    Meets (Builtin.«tuple.__mul__» ⟨[.ref l, .int x u], []⟩) (fun _ R s => s.heap.get? l = some { cls := .type "tuple", dict := dd, data := .seq items n, slots := sl } ∧ R (.ok (.ret (Value.ref l))) s) :=
  .of_wp fun prog w A R s h => by
    obtain ⟨hp, g, d, tk, os⟩ := s
    obtain ⟨hl, h⟩ := h
    have f1 := AutoSeq1.idx_int
    wp_walk using wpAny_loadPart' hl
    repeat (first
      | (refine wpAny_ite_false (decide_eq_false (by rw [c0]; exact Bool.false_ne_true)) ?_; wp_walk using wpAny_loadPart' hl)
      | (refine wpAny_ite_true (decide_eq_true (by rw [c1])) ?_; wp_walk using wpAny_loadPart' hl))
    exact ⟨_, rfl, h⟩
theorem tmul_none (l : Addr) (items : Array Value) (n : Nat) (dd : Option Addr) (sl : Array (Option Value)) (x : Int) (u : Tok) (c0 : (decide (x < -(2 ^ 63)) || decide (x ≥ 2 ^ 63)) = false) (c1 : (items.isEmpty || x == 1) = false) (c2 : (decide (x ≤ 0) || items.isEmpty) = true) :
    Meets (Builtin.«tuple.__mul__» ⟨[.ref l, .int x u], []⟩) (fun _ R s => s.heap.get? l = some { cls := .type "tuple", dict := dd, data := .seq items n, slots := sl } ∧ R (.ok (.ret (Value.ref s.heap.objs.size))) { s with heap := s.heap.push { cls := Value.type "tuple", data := Data.seq #[] }, toks := s.toks }) :=
  .of_wp fun prog w A R s h => by
    obtain ⟨hp, g, d, tk, os⟩ := s
    obtain ⟨hl, h⟩ := h
    have f1 := AutoSeq1.idx_int
    wp_walk using wpAny_loadPart' hl
    repeat (first
      | (refine wpAny_ite_false (decide_eq_false (by rw [c0]; exact Bool.false_ne_true)) ?_; wp_walk using wpAny_loadPart' hl)
      | (refine wpAny_ite_false (decide_eq_false (by rw [c1]; exact Bool.false_ne_true)) ?_; wp_walk using wpAny_loadPart' hl)
      | (refine wpAny_ite_true (decide_eq_true (by rw [c2])) ?_; wp_walk using wpAny_loadPart' hl))
    exact ⟨_, rfl, h⟩
def mulT : PyData → PyData → Option PyData
  | .tuple xs, .int k => if -1000 ≤ k ∧ k ≤ 1000 ∧ xs.length ≤ 1000 then some (.tuple (List.replicate k.toNat xs).flatten) else none
  | _, _ => none
theorem flat_nil {α : Type} : ∀ n : Nat, (List.replicate n ([] : List α)).flatten = []
  | 0 => rfl
  | n + 1 => by rw [List.replicate_succ, List.flatten_cons, flat_nil n]; rfl
variable {X : Cx}
theorem od_mulT : OpD X (binaryOp .Mult) mulT := fun pins s σ G H x y v u dx dy dz Q I rx ry sg hx hy hg k => by
  unfold mulT at hg
  split at hg
  · rename_i ds c
    split at hg
    · rename_i hl
      cases hg
      cases hx with
      | @tup l xs _ hs ha =>
        cases hy
        have hq := Same.sqT sg hs
        by_cases c1 : xs = [] ∨ c = 1
        · -- the very tuple
          have e : (List.replicate c.toNat ds).flatten = ds := by
            rcases c1 with rfl | rfl
            · cases ha
              exact flat_nil _
            · rw [show (1 : Int).toNat = 1 from rfl]
              simp
          rw [e] at k
          cases rx
          obtain ⟨t, rfl⟩ := ry
          obtain ⟨its, r, ⟨⟨cls, dd, data, sl⟩, ho, hc, n, hd⟩, hsz⟩ := I.tuple hq
          simp only at hc hd
          subst hc hd
          have c0 : (decide (c < -(2 ^ 63)) || decide (c ≥ 2 ^ 63)) = false := by
            rw [decide_eq_false (by omega), decide_eq_false (by omega)] <;> rfl
          have c1' : (its.toArray.isEmpty || c == 1) = true := by
            rcases c1 with rfl | rfl
            · have : its = [] := by
                have := r.length
                exact List.eq_nil_of_length_eq_zero this.symm
              subst this
              rfl
            · simp
          refine wpAny_binaryOp_repeat_ref (T := "tuple") (U := "int") (by decide) ⟨_, ho, rfl⟩ (fun s' => typeIs_int s' c t) noFill_tuple_mul F.fills_int_mul F.slot_int_rmul repeat_tuple F.slot_int_index.lookup
            (call_meets F.slot_int_rmul (typeIs_int s c t) F.entry_int_rmul (F.args_int_rmul_2 _ _) (int_rmul_tuple c t l its.toArray n dd sl)
              ⟨ho, rfl, ⟨_, ho, rfl⟩, call_meets F.slot_tuple_mul ⟨_, ho, rfl⟩ F.entry_tuple_mul (F.args_tuple_mul_2 _ _) (tmul_same l its.toArray n dd sl c t c0 c1') ⟨ho, ?_⟩⟩)
          exact ⟨.ref l, H, I, rfl, k _ G H (Ext.refl sg) (.tup hs ha)⟩
        · rw [not_or] at c1
          obtain ⟨hne, hc1⟩ := c1
          by_cases c2 : c ≤ 0
          · -- the empty one
            have e : (List.replicate c.toNat ds).flatten = [] := by
              rw [show c.toNat = 0 by omega]
              rfl
            rw [e] at k
            cases rx
            obtain ⟨t, rfl⟩ := ry
            obtain ⟨its, r, ⟨⟨cls, dd, data, sl⟩, ho, hc, n, hd⟩, hsz⟩ := I.tuple hq
            simp only at hc hd
            subst hc hd
            have hn : its ≠ [] := fun e => hne (by
              have := r.length
              rw [e] at this
              exact List.eq_nil_of_length_eq_zero this)
            have hi : its.toArray.isEmpty = false := by
              cases its with
              | nil => exact absurd rfl hn
              | cons a b => rfl
            have c0 : (decide (c < -(2 ^ 63)) || decide (c ≥ 2 ^ 63)) = false := by
              rw [decide_eq_false (by omega), decide_eq_false (by omega)] <;> rfl
            have c1' : (its.toArray.isEmpty || c == 1) = false := by
              rw [hi, Bool.false_or]
              exact beq_eq_false_iff_ne.mpr hc1
            have c2' : (decide (c ≤ 0) || its.toArray.isEmpty) = true := by rw [decide_eq_true c2]; rfl
            refine wpAny_binaryOp_repeat_ref (T := "tuple") (U := "int") (by decide) ⟨_, ho, rfl⟩ (fun s' => typeIs_int s' c t) noFill_tuple_mul F.fills_int_mul F.slot_int_rmul repeat_tuple F.slot_int_index.lookup
              (call_meets F.slot_int_rmul (typeIs_int s c t) F.entry_int_rmul (F.args_int_rmul_2 _ _) (int_rmul_tuple c t l its.toArray n dd sl)
                ⟨ho, rfl, ⟨_, ho, rfl⟩, call_meets F.slot_tuple_mul ⟨_, ho, rfl⟩ F.entry_tuple_mul (F.args_tuple_mul_2 _ _) (tmul_none l its.toArray n dd sl c t c0 c1' c2') ⟨ho, ?_⟩⟩)
            have hp : H s.heap.objs.size = none := I.hok.fresh (Nat.le_refl _)
            obtain ⟨ex, dq⟩ := ext_tup (K := X.K) sg hp (DqA.nil)
            refine ⟨.ref s.heap.objs.size, _, I.laid (t' := s.toks) (o := .tup []) (fun b ob q => Heap.get?_push_of_some _ q) (Nat.le_refl _) ?_, rfl, k _ _ _ ex dq⟩
            exact ⟨Nat.zero_le _, [], .nil, IsTup.new _ _⟩
          · -- a new one
            refine op_repT pins s σ H (.ref l) (.int c) v u Q I rx ry ⟨l, c, xs, rfl, rfl, hq, hne, by omega, hl.2.1, by rw [dpA_len ha]; exact hl.2.2, fun p hp => ?_⟩
            obtain ⟨ex, dq⟩ := ext_tup (K := X.K) sg hp (dqA_rep ha c.toNat)
            exact k _ _ _ ex dq
    · cases hg
  · cases hg
def mulE (x y : PyData) : Option PyData := match x with
  | .tuple _ => mulT x y
  | _ => mulD x y
theorem od_mulE : OpD X (binaryOp .Mult) mulE := fun pins s σ G H x y v u dx dy dz Q I rx ry sg hx hy hg k => by
  unfold mulE at hg
  split at hg
  · exact od_mulT pins s σ G H x y v u _ dy dz Q I rx ry sg hx hy hg k
  · exact od_mul pins s σ G H x y v u _ dy dz Q I rx ry sg hx hy hg k
end Dn

set_option maxHeartbeats 4000000
namespace Dn
open PySem PySem.Spec PyProof.Rows L2
variable {X : Cx}
end Dn

set_option maxHeartbeats 4000000
namespace Dn
open PySem PySem.Spec PyProof.Rows L2

def idxB (b : Bool) : List PyData → Option Nat
  | .bool c :: ds => if c = b then (if ds.all isBl then some 0 else none) else (idxB b ds).map (· + 1)
  | _ => none
where isBl : PyData → Bool
  | .bool _ => true
  | _ => false
def mIdxB (b : Bool) (m : Ex) : Ex := seqE m fun x => optE (match x with
  | .list ds => (idxB b ds).map (fun n : Nat => PyData.int (n : Int))
  | _ => none)
theorem flat_bls {K : PySem.W.Frag} {G : Hp} : ∀ {ds : List PyData} {vs : List V}, DqA K G vs ds → ds.all idxB.isBl = true → vs.all flatV = true
  | [], _, .nil, _ => rfl
  | d :: ds, _, .cons a b, h => by
    rw [List.all_cons, Bool.and_eq_true] at h ⊢
    refine ⟨?_, flat_bls b h.2⟩
    cases a with
    | bl c => rfl
    | non => cases h.1
    | int i => cases h.1
    | str x => cases h.1
    | lst _ _ => cases h.1
    | tup _ _ => cases h.1
theorem idxB_ok {K : PySem.W.Frag} {G : Hp} {b : Bool} : ∀ {ds : List PyData} {vs : List V} {n : Nat}, DqA K G vs ds → idxB b ds = some n → vs.all flatV = true ∧ ∃ z, vs[n]? = some z ∧ eqV z (.bl b) = true ∧ ∀ m z', m < n → vs[m]? = some z' → eqV z' (.bl b) = false
  | [], _, _, .nil, h => by cases h
  | d :: ds, _, n, .cons (v := v) (vs := vs) a q, h => by
    cases a with
    | bl c =>
      unfold idxB at h
      split at h
      · rename_i hc
        split at h
        · rename_i ha
          cases h
          refine ⟨?_, .bl c, rfl, ?_, fun m z' hm => absurd hm (by omega)⟩
          · rw [List.all_cons, flat_bls q ha]; rfl
          · subst hc
            show (c == c) = true
            exact beq_self_eq_true c
        · cases h
      · rename_i hc
        obtain ⟨k, h1, h2⟩ := Option.map_eq_some_iff.mp h
        subst h2
        obtain ⟨f, z, h3, h4, h5⟩ := idxB_ok q h1
        refine ⟨?_, z, by simpa using h3, h4, fun m z' hm e => ?_⟩
        · rw [List.all_cons, f]; rfl
        · cases m with
          | zero =>
            have : z' = .bl c := by simpa using e.symm
            subst this
            show (c == b) = false
            exact beq_eq_false_iff_ne.mpr hc
          | succ m => exact h5 m z' (by omega) (by simpa using e)
    | non => cases h
    | int i => cases h
    | str x => cases h
    | lst _ _ => cases h
    | tup _ _ => cases h
theorem de_idxB {X : Cx} {mo : Ex} {b : Bool} {x' : Expr} (h : PE X x' (tBM X.K "list" (rIndex X.K) (tD X.K mo) (tCons (tC (.bl b)) tNil))) : DE X x' (mIdxB b mo) := PE.weak h fun σ H Q ⟨C, G, env, w, r, env', w', R, hm, k⟩ => by
  obtain ⟨x, e1, w1, h1, hm⟩ := seqE_inv hm
  obtain ⟨z, h3, rfl, rfl, rfl⟩ := optE_inv hm
  split at h3
  · rename_i ds
    obtain ⟨n, h4, h5⟩ := Option.map_eq_some_iff.mp h3
    subst h5
    refine ⟨C, G, env, w, _, _, _, R, h1, fun v G1 H1 R1 s1 i1 a1 => ?_⟩
    have a1 : Dq X.K G1 v (.list ds) := a1
    cases a1 with
    | @lst a vs _ hs ha =>
      have hq : SqL X.K H1 a vs := SqL.of (R1.sub _ _ hs)
      obtain ⟨f, z, q1, q2, q3⟩ := idxB_ok ha h4
      exact ⟨.inl ⟨rfl, vs, hq⟩, a, vs, .bl b, n, z, rfl, rfl, hq, rfl, f, q1, q2, q3, k _ G1 H1 R1 s1 i1 (.int _)⟩
  · cases h3

def lenL : PyData → Option Nat
  | .list xs => some xs.length
  | _ => none
def minLd : List PyData → PyData → PyData
  | [], x => x
  | y :: ys, x => minLd ys (if (lenL y).getD 0 < (lenL x).getD 0 then y else x)
def minLenD : PyData → Option PyData
  | .list (x :: xs) => if (x :: xs).all (fun y => (lenL y).isSome) then some (minLd xs x) else none
  | _ => none
def mMinLen (m : Ex) : Ex := seqE m fun x => optE (minLenD x)
theorem argBest_min (f : Nat → Nat) (ds : List PyData) (x : PyData) (xs : List PyData) (hx : ds = x :: xs) (hf : ∀ i d, ds[i]? = some d → (lenL d).getD 0 = f i) : ∀ k, k ≤ xs.length → argBest (fun i j => decide (f i < f j)) k ≤ k ∧ ds[argBest (fun i j => decide (f i < f j)) k]? = some (minLd (xs.take k) x)
  | 0, _ => by
    subst hx
    exact ⟨Nat.le_refl _, rfl⟩
  | k + 1, hk => by
    obtain ⟨h1, h2⟩ := argBest_min f ds x xs hx hf k (by omega)
    have go : ∀ (l : List PyData) (y z : PyData), minLd (l ++ [y]) z = if (lenL y).getD 0 < (lenL (minLd l z)).getD 0 then y else minLd l z := by
      intro l
      induction l with
      | nil => intro y z; rfl
      | cons q l ih => intro y z; exact ih y _
    have hlt : k < xs.length := by omega
    have e1 : xs.take (k + 1) = xs.take k ++ [xs[k]] := by rw [List.take_succ, List.getElem?_eq_getElem hlt]; rfl
    have e2 : ds[k + 1]? = some xs[k] := by
      subst hx
      rw [List.getElem?_cons_succ, List.getElem?_eq_getElem hlt]
    rw [e1, go, argBest]
    rw [hf _ _ e2, hf _ _ h2]
    by_cases c : f (k + 1) < f (argBest (fun i j => decide (f i < f j)) k)
    · rw [if_pos (by simpa using c), if_pos c]
      exact ⟨Nat.le_refl _, e2⟩
    · rw [if_neg (by simpa using c), if_neg c]
      exact ⟨by omega, h2⟩
section
variable {X : Cx}
theorem min_lists {pins : List (Addr × Obj)} {s : Shared} {σ : L2.St} {H G : Hp} {Q : L2.VK} (I : Inv X pins σ H s) (hc : X.calm = true) (sg : Same G H) {l : Addr} {vs : List V} {x : PyData} {xs : List PyData} (hs : G l = some (.lst vs)) (ha : DqA X.K G vs (x :: xs)) (hall : (x :: xs).all (fun y => (lenL y).isSome) = true)
    (k : ∀ v, Dq X.K G v (minLd xs x) → Q v H) : wpAny (model X.prog X.w) X.A (call (.builtin "min") [.ref l] [(Str.ofString "key", .builtin "len")]) (EP X pins σ Q) X.xe s := by
  have hq : SqL X.K H l vs := SqL.of (sg _ _ hs)
  obtain ⟨its, rv, p, hz⟩ := I.list hq
  have hlen : vs.length = xs.length + 1 := dpA_len ha
  have hil := rv.length
  let f : Nat → Nat := fun i => match (x :: xs)[i]? with
    | some d => (lenL d).getD 0
    | none => 0
  have hf : ∀ i d, (x :: xs)[i]? = some d → (lenL d).getD 0 = f i := fun i d e => by
    show _ = (match (x :: xs)[i]? with | some d => (lenL d).getD 0 | none => 0)
    rw [e]
  refine PySem.call_min_walkKB (PySem.W.iter_listW (A := X.A.in1) (I.ok.hd hc) p.isList fun s₂ e W st hfp hw hk => ?_)
  refine ⟨_, _, _, _, _, _, _, fun s' => (∃ h' tk, s' = { s with heap := h', toks := tk }) ∧ ∀ b o, s.heap.get? b = some o → s'.heap.get? b = some o, fun i v s' => ∃ t, v = .int (f i : Nat) t, fun i j => decide (f i < f j), rfl, W, st, hfp, ?_, ⟨?_, ?_, ?_, ?_⟩, ?_, ?_⟩
  · show 0 < its.toArray.size
    simp
    omega
  · rintro s1 s' ⟨⟨h1, t1, rfl⟩, j2⟩ m
    refine ⟨⟨s'.heap, s'.toks, ?_⟩, fun b o eb => m.heap b o (fun hb => ?_) (j2 b o eb)⟩
    · obtain ⟨hp, g, d, tk, os⟩ := s'
      have g1 : g = s.gens := m.gens
      have g2 : d = s.drawn := m.drawn
      have g3 : os = s.os := m.os
      subst g1 g2 g3
      rfl
    · have lt := Heap.lt_size eb
      rcases List.mem_cons.mp hb with h | h
      · subst e
        have e2 : b = (s.heap.push { cls := .type "list_iterator", data := .fields #[.ref l, .int 0 0] }).objs.size := h
        rw [Heap.size_push] at e2
        rw [e2] at lt
        exact Nat.lt_irrefl _ (Nat.lt_trans (Nat.lt_succ_self _) lt)
      · exact hw b o eb h
  · rintro i v s1 s' ⟨t, rfl⟩ _
    exact ⟨t, rfl⟩
  · rintro i v s1 o Q1 E1 hi hP ⟨⟨h1, t1, rfl⟩, j2⟩ hst hS hQ
    have hP' : its[i]? = some v := by simpa using hP
    obtain ⟨z, hz1, hz2⟩ := vals_ix rv hP'
    obtain ⟨d, hd1, hd2⟩ := dpA_get' ha hz1
    have hsome := List.all_eq_true.mp hall d (List.mem_of_getElem? hd1)
    cases hd2 with
    | @lst a ws ds hs2 ha2 =>
      obtain rfl : v = Value.ref a := hz2
      have hq2 : SqL X.K H a ws := SqL.of (sg _ _ hs2)
      obtain ⟨it2, rv2, p2, hz3⟩ := I.list hq2
      have hl2 : h1.IsList a it2.toArray := p2.isList.at fun o e => j2 a o e
      have e3 : it2.length = f i := by
        rw [← hf i _ hd1, ← rv2.length, dpA_len ha2]
        rfl
      have := sizeLine_eq
      refine Calls.call_len_list (s := { s with heap := h1, toks := t1 }) hl2 (by simp; rw [← rv2.length]; omega) ?_
      refine hQ _ _ ⟨⟨h1, t1 + 1 + 1, rfl⟩, j2⟩ ?_ hS ⟨t1 + 1, by simp [e3]⟩ fun _ _ q => q
      exact hst
    | non => cases hsome
    | bl _ => cases hsome
    | int _ => cases hsome
    | str _ => cases hsome
    | tup _ _ => cases hsome
  · rintro i j ki kj s1 Q1 E1 hJ ⟨t, rfl⟩ ⟨u, rfl⟩ hQ
    exact wpAny_lt_int (by
      have e : decide (((f i : Nat) : Int) < ((f j : Nat) : Int)) = decide (f i < f j) := by simp
      rw [e]
      exact hQ)
  · subst e
    exact ⟨⟨_, s.toks, rfl⟩, fun b o eb => Heap.get?_push_of_some _ eb⟩
  · rintro v s' hP ⟨⟨h1, t1, rfl⟩, j2⟩
    have hsz : its.toArray.size - 1 = xs.length := by simp; omega
    rw [hsz] at hP
    have hb := (argBest_min f (x :: xs) x xs rfl hf xs.length (Nat.le_refl _)).2
    rw [List.take_length] at hb
    have hP' : its[argBest (fun i j => decide (f i < f j)) xs.length]? = some v := by simpa using hP
    obtain ⟨z, hz1, hz2⟩ := vals_ix rv hP'
    obtain ⟨d, hd1, hd2⟩ := dpA_get' ha hz1
    rw [hb] at hd1
    cases hd1
    exact ⟨z, H, I.kept j2, hz2, k z hd2⟩
theorem de_minLen {x y : Str} {e : Expr} {m : Ex} {p pos p2 kpos : Pos} (hc : X.calm = true) (hm : X.mg x = none) (hv : bootBuiltins x = some (.builtin "min")) (hm2 : X.mg y = none) (hv2 : bootBuiltins y = some (.builtin "len"))
    (ha : DE X e m) (hg : Gl X x := by rfl) (hgy : Gl X y := by rfl) (hny : y ≠ "__name__" := by decide) (hdy : (y == ("__debug__" : Str)) = false := by decide) (hn : x ≠ "__name__" := by decide) (hdb : (x == ("__debug__" : Str)) = false := by decide)
    (he : backTo pos (starEach [e] X.env) = (false, eval e X.env) :: backTo pos (starEach [] X.env) := by rfl) (hpl : (backTo pos (starEach [e] X.env)).any (·.1) = false := by rfl) (hs : starEach [e] X.env = (false, eval e X.env) :: starEach [] X.env := by rfl) :
    DE X (.Call (.Name x p) [e] [⟨some "key", .Name y p2, kpos⟩] pos) (mMinLen m) := by
  refine ⟨fun pins s σ H Q I h => ?_⟩
  obtain ⟨C, G, env, w, r, env', w', R, hmm, k⟩ := h
  obtain ⟨z, e1, w1, h1, hmm⟩ := seqE_inv hmm
  obtain ⟨zz, h3, rfl, rfl, rfl⟩ := optE_inv hmm
  unfold minLenD at h3
  split at h3
  · rename_i q qs
    split at h3
    · rename_i hall
      cases h3
      refine wpAny_Call_Name_kw (ld_blt I hg hm hv ?_ hn hdb)
      have PAe : PA X [e] (tCons (tD X.K m) tNil) := pa_cons ha pa_nil hs
      refine PyProof.Rows.callWith_kw (thn (PAe.run pos pins s σ H (fun us H1 => ∃ l vs G1, us = [.ref l] ∧ Rel X.K C env' w' σ G1 H1 ∧ Same G G1 ∧ w'.isSome = w.isSome ∧ G1 l = some (.lst vs) ∧ DqA X.K G1 vs (q :: qs)) I ?_) fun us s1 ⟨vs, H1, I1, r1, q1⟩ => ?_) he hpl rfl rfl
      · refine ⟨C, G, env, w, _, _, _, R, h1, fun v G1 H1 R1 s1 i1 a1 => ?_⟩
        have a1 : Dq X.K G1 v (.list (q :: qs)) := a1
        cases a1 with
        | @lst a vs _ hs ha => exact ⟨a, vs, G1, rfl, R1, s1, i1, hs, ha⟩
      · obtain ⟨l, ws, G1, rfl, R1, s1', i1', g1, ha1⟩ := q1
        obtain rfl := Vals.ref1 r1
        show wpAny _ _ (evalAll [(do let v ← eval (.Name y p2) X.env; standAt pos; pure v)]) _ _ s1
        refine wpAny_evalAll_cons (wpAny_bind (ld_blt I1 hgy hm2 hv2 (wpAny_bind (wpAny_standAt (wpAny_pure ?_))) hny hdy))
        refine wpAny_evalAll_nil ?_
        exact min_lists I1 hc R1.sub g1 ha1 hall fun v hv => k v G1 H1 R1 s1' i1' hv
    · cases h3
  · cases h3
end
end Dn

set_option maxHeartbeats 4000000
namespace Dn
open PySem PySem.Spec PyProof.Rows L2
def txtsOf : List PyData → Option (List Str)
  | [] => some []
  | .str x :: r => (txtsOf r).map (x :: ·)
  | _ => none
def keysT : List PyData → Option (List (List Str))
  | [] => some []
  | .tuple [.tuple ks, _] :: ds => (match txtsOf ks, keysT ds with
    | some k, some r => some (k :: r)
    | _, _ => none)
  | _ => none
def ddpA {α β : Type} [DecidableEq α] (acc : List (α × β)) (l : List (α × β)) : List (α × β) := l.foldl (fun acc p => if p.1 ∈ acc.map (·.1) then acc else acc ++ [p]) acc
def ddp {α : Type} [DecidableEq α] (l : List α) : List α := l.foldl (fun acc k => if k ∈ acc then acc else acc ++ [k]) []
theorem ddpA_cons {α β : Type} [DecidableEq α] (acc : List (α × β)) (p : α × β) (l : List (α × β)) : ddpA acc (p :: l) = ddpA (if p.1 ∈ acc.map (·.1) then acc else acc ++ [p]) l := rfl
theorem ddpA_mem {α β : Type} [DecidableEq α] : ∀ {l acc : List (α × β)} {p : α × β}, p ∈ ddpA acc l → p ∈ acc ∨ p ∈ l
  | [], _, _, h => .inl h
  | q :: l, acc, p, h => by
    rw [ddpA_cons] at h
    rcases ddpA_mem h with h | h
    · split at h
      · exact .inl h
      · rcases List.mem_append.mp h with h | h
        · exact .inl h
        · exact .inr (by rw [List.mem_singleton.mp h]; simp)
    · exact .inr (by simp [h])
theorem ddpA_len {α β : Type} [DecidableEq α] : ∀ (l acc : List (α × β)), (ddpA acc l).length ≤ acc.length + l.length
  | [], acc => Nat.le_refl _
  | q :: l, acc => by
    rw [ddpA_cons]
    refine Nat.le_trans (ddpA_len l _) ?_
    rw [List.length_cons]
    split
    · omega
    · rw [List.length_append, List.length_singleton]; omega
theorem ddpA_fst {α β γ : Type} [DecidableEq α] [DecidableEq γ] {f : γ → α} (hf : ∀ {a b}, f a = f b → a = b) : ∀ (l acc : List (α × β)) (ks ac : List γ), l.map (·.1) = ks.map f → acc.map (·.1) = ac.map f → (ddpA acc l).map (·.1) = (ks.foldl (fun acc k => if k ∈ acc then acc else acc ++ [k]) ac).map f
  | [], acc, [], ac, _, h => h
  | [], _, _ :: _, _, h, _ => by simp at h
  | _ :: _, _, [], _, h, _ => by simp at h
  | p :: l, acc, k :: ks, ac, h, h2 => by
    rw [List.map_cons, List.map_cons] at h
    obtain ⟨e1, e2⟩ := List.cons.inj h
    rw [ddpA_cons, List.foldl_cons]
    have hm : p.1 ∈ acc.map (·.1) ↔ k ∈ ac := by
      rw [h2, e1]
      constructor
      · intro q
        obtain ⟨j, q1, q2⟩ := List.mem_map.mp q
        rw [← hf q2]
        exact q1
      · exact fun q => List.mem_map.mpr ⟨k, q, rfl⟩
    refine ddpA_fst hf l _ ks _ e2 ?_
    by_cases c : k ∈ ac
    · rw [if_pos (hm.mpr c), if_pos c]; exact h2
    · rw [if_neg (fun z => c (hm.mp z)), if_neg c, List.map_append, List.map_append, h2]
      simp [e1]
/-- what is stored: keys and their objects -/
theorem stored_ddp {K : Type} [DecidableEq K] : ∀ (ps xs : List (K × Addr × Value)), (PySem.storedAllH xs ps).map (fun x => (x.1, x.2.1)) = ddpA (xs.map fun x => (x.1, x.2.1)) (ps.map fun x => (x.1, x.2.1))
  | [], xs => rfl
  | p :: ps, xs => by
    have e : PySem.storedAllH xs (p :: ps) = PySem.storedAllH (PySem.storedH xs p.1 p.2.1 p.2.2) ps := rfl
    rw [e, stored_ddp ps, List.map_cons, ddpA_cons]
    congr 1
    have hm : (PySem.atKey xs p.1).isSome = true ↔ p.1 ∈ (xs.map fun x => (x.1, x.2.1)).map (·.1) := by
      unfold PySem.atKey
      rw [Option.isSome_map, List.find?_isSome, List.map_map]
      constructor
      · rintro ⟨x, h1, h2⟩
        exact List.mem_map.mpr ⟨x, h1, by simpa using h2⟩
      · intro h
        obtain ⟨x, h1, h2⟩ := List.mem_map.mp h
        exact ⟨x, h1, by simpa using h2⟩
    unfold PySem.storedH
    by_cases c : (PySem.atKey xs p.1).isSome = true
    · rw [if_pos c, if_pos (hm.mp c), List.map_map]
      refine List.map_congr_left fun x _ => ?_
      show ((PySem.putAt p.1 p.2.2 x).1, (PySem.putAt p.1 p.2.2 x).2.1) = _
      unfold PySem.putAt
      split <;> rfl
    · rw [if_neg c, if_neg (fun z => c (hm.mpr z)), List.map_append]
      rfl
/-- pairs of a tuple of texts and anything -/
inductive KPs (K : PySem.W.Frag) (H : Hp) : List Addr → List (List Key × Addr × V) → Prop
  | nil : KPs K H [] []
  | cons {p b : Addr} {k : List Key} {v : V} {ps : List Addr} {r : List (List Key × Addr × V)} : SqT K H p [.ref b, v] → SqT K H b (k.map kV) → KPs K H ps r → KPs K H (p :: ps) ((k, b, v) :: r)
theorem strs_dq {K : PySem.W.Frag} {G : Hp} : ∀ {ds : List PyData} {vs : List V} {ks : List Str}, DqA K G vs ds → txtsOf ds = some ks → vs = (ks.map Sum.inr).map kV ∧ ds = ks.map .str
  | [], _, ks, .nil, h => by cases h; exact ⟨rfl, rfl⟩
  | d :: ds, _, ks, .cons (v := v) a b, h => by
    unfold txtsOf at h
    split at h
    · rename_i heq; cases heq
    · rename_i x r heq
      cases heq
      obtain ⟨q, h1, h2⟩ := Option.map_eq_some_iff.mp h
      subst h2
      obtain ⟨e1, e2⟩ := strs_dq b h1
      subst e1 e2
      cases a
      exact ⟨rfl, rfl⟩
    · cases h
theorem keysT_ok {K : PySem.W.Frag} {G : Hp} : ∀ {ds : List PyData} {vs : List V} {ks : List (List Str)}, DqA K G vs ds → keysT ds = some ks → ∃ (ps : List Addr) (r : List (List Key × Addr × V)), vs = ps.map V.ref ∧ KPs K G ps r ∧ r.map (·.1) = ks.map (fun k => k.map Sum.inr) ∧ ∀ x ∈ r, ∃ k : List Str, x.1 = k.map Sum.inr ∧ Dq K G (.ref x.2.1) (.tuple (k.map .str))
  | [], _, ks, .nil, h => by
    cases h
    exact ⟨[], [], rfl, .nil, rfl, fun x hx => by simp at hx⟩
  | d :: ds, _, ks, .cons (v := v) (vs := vs) a b, h => by
    unfold keysT at h
    split at h
    · rename_i heq; cases heq
    · rename_i ts u r heq
      cases heq
      split at h
      · rename_i k r' h1 h2
        cases h
        obtain ⟨ps, q, rfl, h3, h4, h5⟩ := keysT_ok b h2
        cases a with
        | @tup p zs es hs ha =>
          obtain ⟨u1, u2, rfl, c1, c2⟩ := dqA2 ha
          cases c1 with
          | @tup c ws _ hs2 ha2 =>
            obtain ⟨e1, e2⟩ := strs_dq ha2 h1
            subst e1 e2
            refine ⟨p :: ps, (k.map Sum.inr, c, u2) :: q, rfl, .cons hs hs2 h3, by rw [List.map_cons, List.map_cons, h4], fun x hx => ?_⟩
            rcases List.mem_cons.mp hx with rfl | hx
            · exact ⟨k, rfl, .tup hs2 ha2⟩
            · exact h5 x hx
      · cases h
    · cases h
theorem KPs.mono {K : PySem.W.Frag} {G H : Hp} (s : Same G H) : ∀ {ps : List Addr} {r : List (List Key × Addr × V)}, KPs K G ps r → KPs K H ps r
  | _, _, .nil => .nil
  | _, _, .cons a b c => .cons (Same.sqT s a) (Same.sqT s b) (c.mono s)
section
variable {X : Cx}
theorem kps_raw {pins : List (Addr × Obj)} {σ : L2.St} {H : Hp} {s : Shared} (I : Inv X pins σ H s) : ∀ {ps : List Addr} {r : List (List Key × Addr × V)}, KPs X.K H ps r →
    ∃ prs : List (List Key × Addr × Value), prs.length = ps.length ∧ prs.map (fun x => (x.1, x.2.1)) = r.map (fun x => (x.1, x.2.1)) ∧ (∀ x ∈ prs, (tupleKind (mixKind X.prog X.w)).is s.heap x.1 x.2.1) ∧ ∀ (j : Nat) (q : List Key × Addr × Value), prs[j]? = some q → ∃ p, ps[j]? = some p ∧ s.heap.IsTuple p #[.ref q.2.1, q.2.2]
  | _, _, .nil => ⟨[], rfl, rfl, fun x hx => by simp at hx, fun j q e => by simp at e⟩
  | _, _, .cons (p := p) (b := b) (k := k) (v := v) h h2 t => by
    obtain ⟨prs, hl, hm, hi, hp⟩ := kps_raw I t
    obtain ⟨its, rv, ht, _⟩ := I.tuple h
    obtain ⟨u, y, ei, ru, ry⟩ := vals2 rv
    subst ei
    obtain rfl : u = Value.ref b := ru
    obtain ⟨it2, rv2, ⟨o, ho, hc, n, hd⟩, _⟩ := I.tuple h2
    refine ⟨(k, b, y) :: prs, by rw [List.length_cons, List.length_cons, hl], by rw [List.map_cons, List.map_cons, hm], fun x hx => ?_, fun j q e => ?_⟩
    · rcases List.mem_cons.mp hx with rfl | hx
      · exact ⟨o, it2.toArray, n, ho, hc, hd, by simpa using items_are rv2⟩
      · exact hi x hx
    · cases j with
      | zero =>
        have e' : (k, b, y) = q := Option.some.inj e
        subst e'
        exact ⟨p, rfl, ht⟩
      | succ j =>
        obtain ⟨b', e1, e2⟩ := hp j q (by simpa using e)
        exact ⟨b', by simpa using e1, e2⟩
/-- the dict at a: its keys' objects -/
def DicF (a : Addr) (bs : List Addr) (h : Heap) : Prop := (a == sysModules) = false ∧ ∃ o es ep, h.get? a = some o ∧ o.ExactDict ∧ o.data = .dict es ep ∧ es.toList.map (·.key) = bs.map Value.ref
def DicO (a : Addr) (bs : List Addr) : HO := .ext (DicF a bs)
theorem dicO_new {P : Program} {w : World} {H : Hp} {h : Heap} {a : Addr} {bs : List Addr} (R : DicF a bs h) : ObjOk P w H h a (DicO a bs) := by
  have ⟨_, o, es, ep, ho, _⟩ := R
  refine ⟨R, ⟨o, ho⟩, fun h1 h2 p k => ?_⟩
  obtain ⟨q, o', es', ep', ho', r'⟩ := p
  exact ⟨q, o', es', ep', k o' ho', r'⟩
def rDictT (K : PySem.W.Frag) : List V → Hp → L2.VK → Prop := fun xs H Q => ∃ (l : Addr) (ps : List Addr) (r : List (List Key × Addr × V)), xs = [V.ref l] ∧ SqL K H l (ps.map V.ref) ∧ KPs K H ps r ∧
  ∀ a, H a = none → Q (.ref a) (upd H a (DicO a ((ddpA [] (r.map fun x => (x.1, x.2.1))).map (·.2))))
theorem cr_dictT (hc : X.calm = true) (hu : X.A.units + 64 < cLine) : CallR X (.type "dict") (rDictT X.K) := by
  intro pins s σ H xs us Q I rr h
  obtain ⟨l, ps, r, rfl, hl, hk, q⟩ := h
  rw [Vals.ref1 rr]
  obtain ⟨its, rv, pl, hz⟩ := I.list hl
  have ei := refs_at rv
  subst ei
  rw [List.length_map] at hz
  obtain ⟨prs, h1, h2, h3, h4⟩ := kps_raw I hk
  obtain ⟨o, n, ho, hoc, hod, hdat⟩ := pl
  have hm : (s.heap.objs.size == sysModules) = false := beq_eq_false_iff_ne.mpr (Nat.ne_of_gt I.big)
  refine PySem.call_dict_pairsH (knd := tupleKind (mixKind X.prog X.w)) (ps := prs) (PySem.PairArg.list l (ps.map Value.ref).toArray (fun j => ps.getD j 0) (prs.map fun x => (Value.ref x.2.1, x.2.2))) (I.ok.hd hc) ?_ ⟨⟨o, n, ho, hoc, hod, hdat⟩, ?_, ?_⟩ ⟨?_, ?_⟩ ?_ ?_ fun h' tk hd' k => ?_
  · show X.A.units + 1 + 1 < cLine
    omega
  · simp [h1]
  · intro j k v e
    rw [List.getElem?_map] at e
    obtain ⟨x, e1, e2⟩ := Option.map_eq_some_iff.mp e
    cases e2
    obtain ⟨p, e3, e4⟩ := h4 j x e1
    have e5 : ps.getD j 0 = p := by rw [List.getD_eq_getElem?_getD, e3]; rfl
    show _ = some (Value.ref (ps.getD j 0)) ∧ PySem.PairAt s.heap (ps.getD j 0) _ _
    rw [e5]
    exact ⟨by simp [e3], .inl e4⟩
  · simp
  · intro i key v e
    have e : (prs.map fun x => (Value.ref x.2.1, x.2.2))[i]? = some (key, v) := e
    rw [List.getElem?_map] at e
    obtain ⟨x, e1, e2⟩ := Option.map_eq_some_iff.mp e
    cases e2
    exact ⟨x.1, x.2.1, e1, rfl⟩
  · intro h' hk' x hx
    exact PySem.tupleKind_stays.stays (fun b o' vs n' e _ => hk' b o' (Nat.ne_of_lt (Heap.lt_size e)) (by simp) e) (h3 x hx)
  · simp [h1]
    exact hz
  · refine ⟨.ref s.heap.objs.size, _, I.laid (t' := tk) (o := DicO s.heap.objs.size ((ddpA [] (r.map fun x => (x.1, x.2.1))).map (·.2))) (fun b o' e => k b o' (by simp) e) (Nat.le_refl _) (dicO_new ⟨hm, ?_⟩), rfl, q _ (I.hok.fresh (Nat.le_refl _))⟩
    obtain ⟨od, es, ep, z1, z2, z3, z4, _, _⟩ := hd'
    refine ⟨od, es, ep, z1, z2, z3, ?_⟩
    rw [z4, List.map_map]
    have e := stored_ddp prs ([] : List (List Key × Addr × Value))
    rw [h2, List.map_nil] at e
    rw [← e, List.map_map, List.map_map]
    rfl
def rListT : List V → Hp → L2.VK → Prop := fun xs H Q => ∃ (a : Addr) (bs : List Addr), xs = [V.ref a] ∧ H a = some (DicO a bs) ∧ bs.length ≤ sizeLine ∧ ∀ p, H p = none → Q (.ref p) (upd H p (.lst (bs.map V.ref)))
theorem cr_listT (hc : X.calm = true) : CallR X (.type "list") rListT := by
  intro pins s σ H xs us Q I r h
  obtain ⟨d, bs, rfl, hd, hz, q⟩ := h
  rw [Vals.ref1 r]
  obtain ⟨hs, o, es, ep, ho, hx, hdt, he⟩ := (show DicF d bs s.heap from (I.hok d _ hd).1)
  have l1 : es.size = bs.length := by
    have := congrArg List.length he
    simpa using this
  refine PySem.W.kdl_call (kdl_raw hs hx hdt) (I.ok.hd hc) ho (by omega) fun h' tk acc' c' kp e it => ?_
  have ea : acc'.toList = bs.map Value.ref := by
    have hl : acc'.toList.length = bs.length := by rw [Array.length_toList, it.1]; exact l1
    rw [← he]
    apply List.ext_getElem?
    intro j
    rw [List.getElem?_map]
    cases hj : acc'.toList[j]? with
    | none =>
      have h1 := List.getElem?_eq_none_iff.mp hj
      have h2 : es.toList.length ≤ j := by rw [Array.length_toList]; omega
      rw [List.getElem?_eq_none h2]
      rfl
    | some v =>
      obtain ⟨en, hen, hv⟩ := it.2 j v (by rw [← Array.getElem?_toList]; exact hj)
      have hen' : es.toList[j]? = some en := by rw [Array.getElem?_toList]; exact hen
      rw [hen', hv]
      rfl
  have rv : Vals (bs.map V.ref) acc'.toList := by rw [ea]; exact vals_refs _
  refine ⟨.ref s.heap.objs.size, _, I.laid (t' := tk) (o := .lst (bs.map V.ref)) kp (Nat.le_refl _) ?_, rfl, q _ (I.hok.fresh (Nat.le_refl _))⟩
  exact ⟨by rw [List.length_map]; exact hz, acc'.toList, c', rv, by rw [Array.toArray_toList]; exact e⟩
def mListDict (ms : Ax) : Lx := argsD ms fun ds env w => match ds with
  | [.list xs] => (match keysT xs with
    | some ks => if xs.length ≤ 1000000 then some ((ddp ks).map (fun k => .tuple (k.map .str)), env, w) else none
    | none => none)
  | _ => none
theorem KPs.len {K : PySem.W.Frag} {H : Hp} : ∀ {ps : List Addr} {r : List (List Key × Addr × V)}, KPs K H ps r → r.length = ps.length
  | _, _, .nil => rfl
  | _, _, .cons _ _ c => congrArg Nat.succ c.len
theorem do_listDict {e : Expr} {ms : Ax} {p p2 pos2 pos : Pos} (hc : X.calm = true) (hu : X.A.units + 64 < cLine) (hm : X.mg "list" = none) (hm2 : X.mg "dict" = none) (ha : DA X [e] ms) (hv : bootBuiltins "list" = some (.type "list")) (hv2 : bootBuiltins "dict" = some (.type "dict")) (hg : Gl X "list" := by rfl) (hg2 : Gl X "dict" := by rfl)
    (he : starEach [e] X.env = (false, eval e X.env) :: starEach [] X.env := by rfl) (hpl : (backTo pos2 (starEach [] X.env)).any (·.1) = false := by rfl)
    (he2 : starEach [.Call (.Name "dict" p2) [e] [] pos2] X.env = (false, eval (.Call (.Name "dict" p2) [e] [] pos2) X.env) :: starEach [] X.env := by rfl) (hpl2 : (backTo pos (starEach [] X.env)).any (·.1) = false := by rfl) :
    DO X (.Call (.Name "list" p) [.Call (.Name "dict" p2) [e] [] pos2] [] pos) (mListDict ms) := by
  refine PE.weak (pe_callTy (cr_listT hc) hg hm hv (pa_cons (pe_callTy (cr_dictT hc hu) hg2 hm2 hv2 ha (he := he)) pa_nil he2) (he := he2)) fun σ H Q ⟨C, G, env, w, r, env', w', R, hm, k⟩ => ?_
  obtain ⟨rs, ds, e1, w1, h1, h2, hm⟩ := argsD_inv hm
  split at hm
  · rename_i xs
    split at hm
    · rename_i ks hks
      split at hm
      · rename_i hlen
        cases hm
        refine ⟨C, G, env, w, _, _, _, R, h1, fun vs G1 H1 R1 s1 i1 a1 => ?_⟩
        obtain ⟨v, rfl, dv⟩ := dqA1 (dsOf_ok a1 h2)
        cases dv with
        | @lst l us _ hs hd =>
          obtain ⟨ps, q, rfl, hk, hf, hdat⟩ := keysT_ok hd hks
          refine ⟨l, ps, q, rfl, SqL.of (R1.sub _ _ hs), hk.mono R1.sub, fun a hn => ?_⟩
          have hl1 := dpA_len hd
          rw [List.length_map] at hl1
          have hl2 := hk.len
          have sH : Same H1 (upd H1 a (DicO a ((ddpA [] (q.map fun x => (x.1, x.2.1))).map (·.2)))) := same_upd hn
          refine ⟨a, _, rfl, upd_same, ?_, fun pl hpn => ?_⟩
          · have := ddpA_len (q.map fun x => (x.1, x.2.1)) ([] : List (List Key × Addr))
            rw [List.length_map] at this ⊢
            rw [sizeLine_eq]
            simp only [List.length_nil] at this
            omega
          · have R2 := R1.ext (Ext.drop R1.sub sH)
            obtain ⟨R3, q1, q2, q3, q4⟩ := new_O (vs := ((ddpA [] (q.map fun x => (x.1, x.2.1))).map (·.2)).map V.ref) R2 hpn
            refine k pl _ G1 _ R3 s1 i1 q1 ?_ q2 q3 q4
            have e0 : (ddpA [] (q.map fun x => (x.1, x.2.1))).map (·.1) = (ddp ks).map (fun k => k.map Sum.inr) := by
              refine ddpA_fst (f := fun k : List Str => (k.map Sum.inr : List Key)) (fun {a b} h => ?_) _ _ _ _ ?_ rfl
              · exact List.map_inj_right (fun _ _ => Sum.inr.inj) |>.mp h
              · rw [List.map_map]; exact hf
            have go : ∀ (L : List (List Key × Addr)) (M : List (List Str)), L.map (·.1) = M.map (fun k => k.map Sum.inr) → (∀ y ∈ L, ∃ k : List Str, y.1 = k.map Sum.inr ∧ Dq X.K G1 (.ref y.2) (.tuple (k.map .str))) → DqA X.K G1 ((L.map (·.2)).map V.ref) (M.map fun k => .tuple (k.map .str)) := by
              intro L
              induction L with
              | nil =>
                intro M hM _
                cases M with
                | nil => exact .nil
                | cons _ _ => simp at hM
              | cons y L ih =>
                intro M hM hy
                cases M with
                | nil => simp at hM
                | cons k0 M =>
                  rw [List.map_cons, List.map_cons] at hM
                  obtain ⟨f1, f2⟩ := List.cons.inj hM
                  obtain ⟨k1, g1, g2⟩ := hy y (by simp)
                  have : k1 = k0 := by
                    rw [g1] at f1
                    exact List.map_inj_right (fun _ _ => Sum.inr.inj) |>.mp f1
                  subst this
                  exact .cons g2 (ih M f2 fun z hz => hy z (by simp [hz]))
            refine go _ _ e0 fun y hy => ?_
            rcases ddpA_mem hy with z | z
            · simp at z
            · obtain ⟨x, hx, e⟩ := List.mem_map.mp z
              cases e
              exact hdat x hx
      · cases hm
    · cases hm
  · cases hm
end
end Dn

set_option maxHeartbeats 4000000
namespace Dn
open PySem PySem.Spec PyProof.Rows L2
noncomputable section
def cW1_number_at : Tx :=
 (mAnd (mTru (mOp neD (mSl (mVar 0) (mPart (mVar 2)) (mPart (mOp addD (mVar 2) (mC (.int 1))))) (mC (.str "")))) (mTru (mOp inD (mOp ixD (mVar 0) (mVar 2)) (mC (.str "0123456789")))))
def bW2_number_at : Sx :=
 (mAug addI 2 (mC (.int 1)))
def b_number_at : Sx :=
 (mSeq (mSet 2 (mVar 1))
 (mSeq (mWhile cW1_number_at bW2_number_at fuel)
 (mSeq (mSet 3 (mSl (mVar 0) (mPart (mVar 1)) (mPart (mVar 2))))
 (mSeq (mIf (mOr (mTru (mOp eqD (mVar 3) (mC (.str "")))) (mOr (mTru (mOp gtI (mB lenD (mCons (mVar 3) mNil)) (mC (.int 24)))) (mAnd (mTru (mOp eqD (mOp ixD (mVar 3) (mC (.int 0))) (mC (.str "0")))) (mTru (mOp neD (mVar 3) (mC (.str "0"))))))) (mRet (mC .none)) mNx)
 (mRet (mTup (mCons (mB intD (mCons (mVar 3) mNil)) (mCons (mVar 2) mNil))))))))
def m_number_at : List SD → W → Option (SD × W) := mFn 2 4 b_number_at
def cW1_numbers_at : Tx :=
 (mTru (mC (.bool true)))
def bW2_numbers_at : Sx :=
 (mSeq (mSet 4 (mCall m_number_at (mCons (mVar 0) (mCons (mVar 3) mNil))))
 (mSeq (mIf (mTru (mOp isD (mVar 4) (mC .none))) (mRet (mC .none)) mNx)
 (mSeq (mAppend 2 (mOp ixD (mVar 4) (mC (.int 0))))
 (mSeq (mSet 3 (mOp ixD (mVar 4) (mC (.int 1))))
 (mSeq (mIf (mOr (mTru (mOp neD (mSl (mVar 0) (mPart (mVar 3)) (mPart (mOp addD (mVar 3) (mC (.int 1))))) (mC (.str ".")))) (mTru (mOp notInD (mSl (mVar 0) (mPart (mOp addD (mVar 3) (mC (.int 1)))) (mPart (mOp addD (mVar 3) (mC (.int 2))))) (mB tupStrD (mCons (mC (.str "0123456789")) mNil))))) (mRet (mIf (mTru (mOp leI (mPkLen 2) (mC (.int 60)))) (mTup (mCons (mB tupleD (mCons (mVar 2) mNil)) (mCons (mVar 3) mNil))) (mC .none))) mNx)
 (mAug addI 3 (mC (.int 1))))))))
def b_numbers_at : Sx :=
 (mSeq (mParO 2 3 (mLst mNil) (mVar 1))
 (mWhile cW1_numbers_at bW2_numbers_at fuel))
def m_numbers_at : List SD → W → Option (SD × W) := mFn 2 5 b_numbers_at
def bF1_word_at : Sx :=
 (mIf (mTru (mMtS starts2D (mVar 0) (mCons (mVar 3) (mCons (mVar 1) mNil)))) (mSeq (mSet 4 (mCall m_number_at (mCons (mVar 0) (mCons (mOp addD (mVar 1) (mB lenD (mCons (mVar 3) mNil))) mNil))))
 (mRet (mIf (mTru (mOp isD (mVar 4) (mC .none))) (mC .none) (mTup (mCons (mTup (mCons (mVar 3) (mCons (mOp ixD (mVar 4) (mC (.int 0))) mNil))) (mCons (mOp ixD (mVar 4) (mC (.int 1))) mNil)))))) mNx)
def b_word_at : Sx :=
 (mSeq (mFor (mItems (mVar 2)) (mgName 3) bF1_word_at)
 (mRet (mTup (mCons (mC .none) (mCons (mVar 1) mNil)))))
def m_word_at : List SD → W → Option (SD × W) := mFn 3 5 b_word_at
def bF1_tail_at : Sx :=
 (mSeq (mSet 5 (mCall m_word_at (mCons (mVar 0) (mCons (mVar 3) (mCons (mVar 4) mNil)))))
 (mSeq (mIf (mTru (mOp isD (mVar 5) (mC .none))) (mRet (mC .none)) mNx)
 (mSeq (mAppend 2 (mOp ixD (mVar 5) (mC (.int 0))))
 (mSet 3 (mOp ixD (mVar 5) (mC (.int 1)))))))
def b_tail_at : Sx :=
 (mSeq (mParO 2 3 (mLst mNil) (mVar 1))
 (mSeq (mFor (mItems (mTup (mCons (mC (.tuple ((["a", "b", "rc"] : List Str).map .str))) (mCons (mTup (mCons (mC (.str ".post")) mNil)) (mCons (mTup (mCons (mC (.str ".dev")) mNil)) mNil))))) (mgName 4) bF1_tail_at)
 (mSeq (mIf (mTru (mOp neD (mVar 3) (mB lenD (mCons (mVar 0) mNil)))) (mRet (mC .none)) mNx)
 (mSeq (mAsg (mVar 2) (mgUnl 3 (mgCons (mgName 6) (mgCons (mgName 7) (mgCons (mgName 8) mgNil)))))
 (mRet (mTup (mCons (mVar 6) (mCons (mIf (mTru (mOp isD (mVar 7) (mC .none))) (mC .none) (mOp ixD (mVar 7) (mC (.int 1)))) (mCons (mIf (mTru (mOp isD (mVar 8) (mC .none))) (mC .none) (mOp ixD (mVar 8) (mC (.int 1)))) mNil)))))))))
def m_tail_at : List SD → W → Option (SD × W) := mFn 2 9 b_tail_at
def b_parts_of : Sx :=
 (mSeq (mIf (mNot (mTru (mIs isStr (mVar 0)))) (mRet (mC .none)) mNx)
 (mSeq (mAsg (mTup (mCons (mC (.int 0)) (mCons (mC (.int 0)) mNil))) (mgTup 2 (mgCons (mgName 1) (mgCons (mgName 2) mgNil))))
 (mSeq (mIf (mTru (mOp inD (mC (.str "!")) (mVar 0))) (mSeq (mSet 3 (mCall m_number_at (mCons (mVar 0) (mCons (mC (.int 0)) mNil))))
 (mSeq (mIf (mOr (mTru (mOp isD (mVar 3) (mC .none))) (mTru (mOp neD (mOp ixD (mVar 0) (mOp ixD (mVar 3) (mC (.int 1)))) (mC (.str "!"))))) (mRet (mC .none)) mNx)
 (mPar 1 2 (mOp ixD (mVar 3) (mC (.int 0))) (mOp addD (mOp ixD (mVar 3) (mC (.int 1))) (mC (.int 1)))))) mNx)
 (mSeq (mSet 4 (mCall m_numbers_at (mCons (mVar 0) (mCons (mVar 2) mNil))))
 (mSeq (mIf (mTru (mOp isD (mVar 4) (mC .none))) (mRet (mC .none)) mNx)
 (mSeq (mSet 5 (mCall m_tail_at (mCons (mVar 0) (mCons (mOp ixD (mVar 4) (mC (.int 1))) mNil))))
 (mRet (mIf (mTru (mOp isD (mVar 5) (mC .none))) (mC .none) (mTup (mCons (mVar 1) (mCons (mOp ixD (mVar 4) (mC (.int 0))) (mStar (mVar 5) mNil))))))))))))
def m_parts_of : List SD → W → Option (SD × W) := mFn 1 6 b_parts_of
def cW1_based : Tx :=
 (mAnd (mTru (mOp gtI (mVar 1) (mC (.int 0)))) (mTru (mOp eqD (mOp ixD (mVar 0) (mOp subI (mVar 1) (mC (.int 1)))) (mC (.int 0)))))
def bW2_based : Sx :=
 (mAug subI 1 (mC (.int 1)))
def b_based : Sx :=
 (mSeq (mSet 1 (mB lenD (mCons (mVar 0) mNil)))
 (mSeq (mWhile cW1_based bW2_based fuel)
 (mRet (mSl (mVar 0) mNo (mPart (mVar 1))))))
def m_based : List SD → W → Option (SD × W) := mFn 1 2 b_based
def b_tail_of : Sx :=
 (mSeq (mSet 3 (mIf (mTru (mOp isD (mVar 2) (mC .none))) (mTup (mCons (mC (.int 1)) mNil)) (mTup (mCons (mC (.int 0)) (mCons (mVar 2) mNil)))))
 (mSeq (mIf (mTru (mOp isNotD (mVar 0) (mC .none))) (mSeq (mSet 4 (mTup (mCons (mC (.int 1)) (mCons (mB (idxD ["a", "b", "rc"]) (mCons (mOp ixD (mVar 0) (mC (.int 0))) mNil)) (mCons (mOp ixD (mVar 0) (mC (.int 1))) mNil)))))
 (mRet (mIf (mTru (mOp isD (mVar 1) (mC .none))) (mOp addD (mVar 4) (mVar 3)) (mOp addD (mOp addD (mVar 4) (mTup (mCons (mC (.int 2)) (mCons (mVar 1) mNil)))) (mVar 3))))) mNx)
 (mSeq (mIf (mTru (mOp isNotD (mVar 1) (mC .none))) (mRet (mOp addD (mTup (mCons (mC (.int 3)) (mCons (mVar 1) mNil))) (mVar 3))) mNx)
 (mRet (mIf (mTru (mOp isD (mVar 2) (mC .none))) (mTup (mCons (mC (.int 2)) mNil)) (mVar 3))))))
def m_tail_of : List SD → W → Option (SD × W) := mFn 3 5 b_tail_of
def b_split_tail : Sx :=
 (mSeq (mPar3 1 2 3 (mC .none) (mC .none) (mVar 0))
 (mSeq (mIf (mTru (mOp eqD (mVar 0) (mTup (mCons (mC (.int 2)) mNil)))) (mRet (mTup (mCons (mC .none) (mCons (mC .none) (mCons (mC .none) mNil))))) mNx)
 (mSeq (mIf (mTru (mOp eqD (mOp ixD (mVar 0) (mC (.int 0))) (mC (.int 1)))) (mPar 1 3 (mTup (mCons (mOp ixD (mC (.tuple ((["a", "b", "rc"] : List Str).map .str))) (mOp ixD (mVar 0) (mC (.int 1)))) (mCons (mOp ixD (mVar 0) (mC (.int 2))) mNil))) (mSl (mVar 0) (mPart (mC (.int 3))) mNo)) mNx)
 (mSeq (mIf (mTru (mOp inD (mOp ixD (mVar 3) (mC (.int 0))) (mTup (mCons (mC (.int 2)) (mCons (mC (.int 3)) mNil))))) (mPar 2 3 (mOp ixD (mVar 3) (mC (.int 1))) (mSl (mVar 3) (mPart (mC (.int 2))) mNo)) mNx)
 (mRet (mTup (mCons (mVar 1) (mCons (mVar 2) (mCons (mIf (mTru (mOp eqD (mOp ixD (mVar 3) (mC (.int 0))) (mC (.int 1)))) (mC .none) (mOp ixD (mVar 3) (mC (.int 1)))) mNil)))))))))
def m_split_tail : List SD → W → Option (SD × W) := mFn 1 4 b_split_tail
def b_key_from : Sx :=
 (mSeq (mAsg (mVar 0) (mgTup 5 (mgCons (mgName 1) (mgCons (mgName 2) (mgCons (mgName 3) (mgCons (mgName 4) (mgCons (mgName 5) mgNil)))))))
 (mRet (mTup (mCons (mVar 1) (mCons (mCall m_based (mCons (mVar 2) mNil)) (mCons (mCall m_tail_of (mCons (mVar 3) (mCons (mVar 4) (mCons (mVar 5) mNil)))) mNil))))))
def m_key_from : List SD → W → Option (SD × W) := mFn 1 6 b_key_from
def eC1_text_of : Ex :=
 (mB strD (mCons (mVar 8) mNil))
def b_text_of : Sx :=
 (mSeq (mAsg (mVar 0) (mgTup 3 (mgCons (mgName 1) (mgCons (mgName 2) (mgCons (mgName 3) mgNil)))))
 (mSeq (mAsg (mCall m_split_tail (mCons (mVar 3) mNil)) (mgTup 3 (mgCons (mgName 4) (mgCons (mgName 5) (mgCons (mgName 6) mgNil)))))
 (mSeq (mSet 7 (mIf (mTru (mOp eqD (mVar 1) (mC (.int 0)))) (mC (.str "")) (mJs [(mFmt (mVar 1)), (mC (.str "!"))] Str.empty)))
 (mSeq (mAug addS 7 (mIf (mTru (mOp neD (mVar 2) (mTup mNil))) (mMtS joinD (mC (.str ".")) (mCons (mFz (mLc (mItems (mVar 2)) (mgName 8) mYes eC1_text_of [8])) mNil)) (mC (.str "0"))))
 (mSeq (mIf (mTru (mOp isNotD (mVar 4) (mC .none))) (mAug addS 7 (mJs [(mFmt (mOp ixD (mVar 4) (mC (.int 0)))), (mFmt (mOp ixD (mVar 4) (mC (.int 1))))] Str.empty)) mNx)
 (mSeq (mIf (mTru (mOp isNotD (mVar 5) (mC .none))) (mAug addS 7 (mJs [(mFmt (mC (.str ".post"))), (mFmt (mVar 5))] Str.empty)) mNx)
 (mRet (mIf (mTru (mOp isD (mVar 6) (mC .none))) (mVar 7) (mJs [(mFmt (mVar 7)), (mFmt (mC (.str ".dev"))), (mFmt (mVar 6))] Str.empty)))))))))
def m_text_of : List SD → W → Option (SD × W) := mFn 1 9 b_text_of
def b_following_key : Sx :=
 (mSeq (mAsg (mVar 0) (mgTup 3 (mgCons (mgName 1) (mgCons (mgName 2) (mgCons (mgName 3) mgNil)))))
 (mSeq (mAsg (mCall m_split_tail (mCons (mVar 3) mNil)) (mgTup 3 (mgCons (mgName 4) (mgCons (mgName 5) (mgCons (mgName 6) mgNil)))))
 (mSeq (mIf (mTru (mOp isNotD (mVar 6) (mC .none))) (mRet (mTup (mCons (mVar 1) (mCons (mVar 2) (mCons (mCall m_tail_of (mCons (mVar 4) (mCons (mVar 5) (mCons (mOp addD (mVar 6) (mC (.int 1))) mNil)))) mNil))))) mNx)
 (mRet (mTup (mCons (mVar 1) (mCons (mVar 2) (mCons (mCall m_tail_of (mCons (mVar 4) (mCons (mIf (mTru (mOp isD (mVar 5) (mC .none))) (mC (.int 0)) (mOp addD (mVar 5) (mC (.int 1)))) (mCons (mC (.int 0)) mNil)))) mNil))))))))
def m_following_key : List SD → W → Option (SD × W) := mFn 1 7 b_following_key
def b_is_version : Sx :=
 (mRet (mOp isNotD (mCall m_parts_of (mCons (mVar 0) mNil)) (mC .none)))
def m_is_version : List SD → W → Option (SD × W) := mFn 1 1 b_is_version
def b_key_of : Sx :=
 (mRet (mCall m_key_from (mCons (mCall m_parts_of (mCons (mVar 0) mNil)) mNil)))
def m_key_of : List SD → W → Option (SD × W) := mFn 1 1 b_key_of
end
end Dn

set_option maxHeartbeats 4000000
namespace Dn
open PySem PySem.Spec PyProof.Rows L2
noncomputable section
end
end Dn

set_option maxHeartbeats 4000000
namespace Dn
open PySem PySem.Spec PyProof.Rows L2
noncomputable section
end
end Dn

set_option maxHeartbeats 4000000
namespace Dn
open PySem PySem.Spec PyProof.Rows L2 SX
open TL (numL)

def dig (c : Nat) : Bool := decide (48 ≤ c) && decide (c ≤ 57)
/-- short enough for all operations -/
abbrev Sh (l : List Nat) : Prop := l.length ≤ 100000
theorem sh_line {l : List Nat} (h : Sh l) : (S l).length ≤ sizeLine := by rw [S_len, sizeLine_eq]; unfold Sh at h; omega
theorem cutS_nat (l : List Nat) (a b : Nat) : cutS (S l) (some (a : Int)) (some (b : Int)) = S ((l.drop a).take (b - a)) := by
  unfold cutS
  rw [HT.sIx_nat, HT.sIx_nat, S_len]
  refine congrArg S ?_
  show (l.drop (min a l.length)).take (min b l.length - min a l.length) = _
  by_cases ha : a ≤ l.length
  · rw [Nat.min_eq_left ha]
    by_cases hb : b ≤ l.length
    · rw [Nat.min_eq_left hb]
    · rw [Nat.min_eq_right (by omega), List.take_of_length_le (by rw [List.length_drop]; omega), List.take_of_length_le (by rw [List.length_drop]; omega)]
  · rw [Nat.min_eq_right (a := a) (by omega), List.drop_eq_nil_of_le (Nat.le_refl _), List.drop_eq_nil_of_le (by omega)]
    simp
theorem slD_S {l : List Nat} (h : Sh l) (a b : Nat) : slD (.str (S l)) (some (a : Int)) (some (b : Int)) = some (.str (S ((l.drop a).take (b - a)))) := by
  unfold slD
  dsimp only
  rw [if_pos (sh_line h), cutS_nat]
theorem atI_nat {α : Type} (l : List α) (a : Nat) : atI l (a : Int) = l[a]? := by
  unfold atI ixN
  rw [if_pos (by omega)]
  split
  · rename_i h
    rw [Int.toNat_natCast]
    rfl
  · rename_i h
    exact (List.getElem?_eq_none_iff.mpr (by omega)).symm
theorem ixD_S {l : List Nat} (h : Sh l) {a c : Nat} (e : l[a]? = some c) : ixD (.str (S l)) (.int (a : Int)) = some (.str (S [c])) := by
  unfold ixD
  dsimp only
  rw [if_pos (sh_line h)]
  show (atI l (a : Int)).map _ = _
  rw [atI_nat, e]
  rfl
theorem eq_S (a b : List Nat) : PyData.eqv (.str (S a)) (.str (S b)) = decide (a = b) := by
  rw [PyData.eqv]
  exact S_beq_eq
theorem eqD_S (a b : List Nat) : eqD (.str (S a)) (.str (S b)) = some (.bool (decide (a = b))) := by
  unfold eqD
  rw [eq_S]
  rfl
theorem neD_S (a b : List Nat) : neD (.str (S a)) (.str (S b)) = some (.bool (!decide (a = b))) := by
  unfold neD
  rw [eq_S]
  rfl
theorem inD_one (c : Nat) (b : List Nat) : inD (.str (S [c])) (.str (S b)) = some (.bool (decide (c ∈ b))) := by
  unfold inD inS
  rw [Option.map_some, in_one]
theorem lenD_S {l : List Nat} (h : Sh l) : lenD [.str (S l)] = some (.int (l.length : Int)) := by
  unfold lenD
  dsimp only
  rw [if_pos (sh_line h), S_len]
theorem add_nat (a b : Nat) : addD (.int (a : Int)) (.int (b : Int)) = some (.int ((a + b : Nat) : Int)) := by
  unfold addD addI int2
  simp
theorem addI_nat (a b : Nat) : addI (.int (a : Int)) (.int (b : Int)) = some (.int ((a + b : Nat) : Int)) := by
  unfold addI int2
  simp
theorem addD1 (a : Nat) : addD (.int (a : Int)) (.int 1) = some (.int ((a + 1 : Nat) : Int)) := add_nat a 1
theorem addD2 (a : Nat) : addD (.int (a : Int)) (.int 2) = some (.int ((a + 2 : Nat) : Int)) := add_nat a 2
theorem addI1 (a : Nat) : addI (.int (a : Int)) (.int 1) = some (.int ((a + 1 : Nat) : Int)) := addI_nat a 1
theorem gtI_nat (a b : Nat) : gtI (.int (a : Int)) (.int (b : Int)) = some (.bool (decide (b < a))) := by
  unfold gtI int2
  simp
theorem gtI_int (a b : Int) : gtI (.int a) (.int b) = some (.bool (decide (b < a))) := rfl
theorem leI_int (a b : Int) : leI (.int a) (.int b) = some (.bool (decide (a ≤ b))) := rfl
theorem ixS0 {c : Nat} {r : List Nat} (h : Sh (c :: r)) : ixD (.str (S (c :: r))) (.int 0) = some (.str (S [c])) := ixD_S h (a := 0) rfl
theorem intS {F : List Nat} (h : NumText.AllDigits F) (h1 : F ≠ []) (h2 : F.length ≤ 24) : intD [.str (S F)] = some (.int ((NumText.digitsVal F : Nat) : Int)) := by
  unfold intD
  dsimp only
  rw [PySem.intText_digits (x := S F) h h1 (by rw [S_len]; omega)]
  dsimp only
  rw [if_pos (by rw [S_len]; omega)]
theorem eqD_int (a b : Int) : eqD (.int a) (.int b) = some (.bool (decide (a = b))) := by
  unfold eqD PyData.eqv
  simp [dOk]
  rfl
theorem neD_int (a b : Int) : neD (.int a) (.int b) = some (.bool (!decide (a = b))) := by
  unfold neD PyData.eqv
  simp [dOk]
  rfl
theorem str0 : (("" : String) : Str) = S [] := by decide +kernel
theorem strN : (("0" : String) : Str) = S [48] := by decide +kernel
theorem strDot : (("." : String) : Str) = S [46] := by decide +kernel
theorem strBang : (("!" : String) : Str) = S [33] := by decide +kernel
theorem figs : (("0123456789" : String) : Str) = S [48, 49, 50, 51, 52, 53, 54, 55, 56, 57] := by decide +kernel
theorem mem_figs (c : Nat) : decide (c ∈ [48, 49, 50, 51, 52, 53, 54, 55, 56, 57]) = dig c := by
  unfold dig
  rw [← Bool.decide_and]
  refine decide_eq_decide.mpr ?_
  simp
  omega
theorem sub_self1 (a : Nat) : a + 1 - a = 1 := by omega

theorem while_go {c : Tx} {b : Sx} {n : Nat} {env : Ev} {w : W} {e1 : Ev} {w1 : W} {e2 : Ev} {w2 : W} (hc : c env w = some (true, e1, w1)) (hb : b e1 w1 = some (.nx, e2, w2)) : mWhile c b (n + 1) env w = mWhile c b n e2 w2 := by
  simp only [mWhile, hc, hb]
theorem while_end {c : Tx} {b : Sx} {n : Nat} {env : Ev} {w : W} {e1 : Ev} {w1 : W} (hc : c env w = some (false, e1, w1)) : mWhile c b (n + 1) env w = some (.nx, e1, w1) := by
  simp only [mWhile, hc]
theorem while_rt {c : Tx} {b : Sx} {n : Nat} {env : Ev} {w : W} {e1 : Ev} {w1 : W} {e2 : Ev} {w2 : W} {r : SD} (hc : c env w = some (true, e1, w1)) (hb : b e1 w1 = some (.rt r, e2, w2)) : mWhile c b (n + 1) env w = some (.rt r, e2, w2) := by
  simp only [mWhile, hc, hb]
theorem loop_go {g : Gx} {b : Sx} {d : PyData} {ds : List PyData} {env : Ev} {w : W} {e1 e2 : Ev} {w2 : W} (hg : g d env = some e1) (hb : b e1 w = some (.nx, e2, w2)) : mLoop g b (d :: ds) env w = mLoop g b ds e2 w2 := by
  simp only [mLoop, hg, hb]
theorem loop_rt {g : Gx} {b : Sx} {d : PyData} {ds : List PyData} {env : Ev} {w : W} {e1 e2 : Ev} {w2 : W} {r : SD} (hg : g d env = some e1) (hb : b e1 w = some (.rt r, e2, w2)) : mLoop g b (d :: ds) env w = some (.rt r, e2, w2) := by
  simp only [mLoop, hg, hb]
theorem loop_nil {g : Gx} {b : Sx} {env : Ev} {w : W} : mLoop g b [] env w = some (.nx, env, w) := rfl
theorem lc_nil {g : Gx} {tt : Tx} {me : Ex} {vs : List Nat} {acc : List PyData} {env : Ev} {w : W} : lcLoop g tt me vs [] acc env w = some (acc, env, w) := rfl
theorem lc_go {g : Gx} {tt : Tx} {me : Ex} {vs : List Nat} {d : PyData} {ds acc : List PyData} {env : Ev} {w : W} {e1 e2 e3 : Ev} {w2 w3 : W} {y : PyData} (hg : g d env = some e1) (ht : tt e1 w = some (true, e2, w2)) (hm : me e2 w2 = some (.d y, e3, w3)) :
    lcLoop g tt me vs (d :: ds) acc env w = lcLoop g tt me vs ds (acc ++ [y]) (wipeE e3 vs) w3 := by
  rw [lcLoop, hg]
  dsimp only
  rw [ht]
  dsimp only
  rw [hm]
theorem lc_skip {g : Gx} {tt : Tx} {me : Ex} {vs : List Nat} {d : PyData} {ds acc : List PyData} {env : Ev} {w : W} {e1 e2 : Ev} {w2 : W} (hg : g d env = some e1) (ht : tt e1 w = some (false, e2, w2)) :
    lcLoop g tt me vs (d :: ds) acc env w = lcLoop g tt me vs ds acc (wipeE e2 vs) w2 := by
  rw [lcLoop, hg]
  dsimp only
  rw [ht]
theorem fn_rt {n N : Nat} {b : Sx} {as : List SD} {w w' : W} {r : SD} {e' : Ev} (hn : as.length = n) (h : b (as.map some ++ List.replicate (N - as.length) none) w = some (.rt r, e', w')) : mFn n N b as w = some (r, w') := by
  unfold mFn
  rw [if_pos hn, h]
theorem seq_nx {a b : Sx} {env : Ev} {w : W} {e1 : Ev} {w1 : W} (h : a env w = some (.nx, e1, w1)) : mSeq a b env w = b e1 w1 := by
  unfold mSeq
  rw [h]
theorem seq_rt {a b : Sx} {env : Ev} {w : W} {e1 : Ev} {w1 : W} {r : SD} (h : a env w = some (.rt r, e1, w1)) : mSeq a b env w = some (.rt r, e1, w1) := by
  unfold mSeq
  rw [h]

theorem if_t {α : Type} {t : Tx} {a b : Ev → W → Option α} {env : Ev} {w : W} {e1 : Ev} {w1 : W} (h : t env w = some (true, e1, w1)) : mIf t a b env w = a e1 w1 := by
  simp only [mIf, h]
theorem if_f {α : Type} {t : Tx} {a b : Ev → W → Option α} {env : Ev} {w : W} {e1 : Ev} {w1 : W} (h : t env w = some (false, e1, w1)) : mIf t a b env w = b e1 w1 := by
  simp only [mIf, h]
theorem or_t {a b : Tx} {env : Ev} {w : W} {e1 : Ev} {w1 : W} (h : a env w = some (true, e1, w1)) : mOr a b env w = some (true, e1, w1) := by
  simp only [mOr, h]
theorem or_f {a b : Tx} {env : Ev} {w : W} {e1 : Ev} {w1 : W} (h : a env w = some (false, e1, w1)) : mOr a b env w = b e1 w1 := by
  simp only [mOr, h]
theorem ex_nx {a b : Sx} {env : Ev} {w : W} {e1 : Ev} {w1 w' : W} {r : Fl} (h : a env w = some (.nx, e1, w1)) (k : ∃ e, b e1 w1 = some (r, e, w')) : ∃ e, mSeq a b env w = some (r, e, w') := by
  obtain ⟨e, k⟩ := k
  exact ⟨e, (seq_nx h).trans k⟩
theorem ex_rt {a b : Sx} {env : Ev} {w : W} {e1 : Ev} {w1 : W} {r : SD} (h : a env w = some (.rt r, e1, w1)) : ∃ e, mSeq a b env w = some (.rt r, e, w1) := ⟨e1, seq_rt h⟩
theorem fn_ex {n N : Nat} {b : Sx} {as : List SD} {w w' : W} {r : SD} (hn : as.length = n) (h : ∃ e, b (as.map some ++ List.replicate (N - as.length) none) w = some (.rt r, e, w')) : mFn n N b as w = some (r, w') := by
  obtain ⟨e, h⟩ := h
  exact fn_rt hn h
theorem tup_ok {ms : Ax} {env e1 : Ev} {w w1 : W} {rs : List SD} {ds : List PyData} (h : ms env w = some (rs, e1, w1)) (hd : dsOf rs = some ds) (hl : ds.length ≤ 1000) : mTup ms env w = some (.d (.tuple ds), e1, w1) := by
  simp only [mTup, argsD, h, hd, tupD, hl, if_true, optE]
theorem cons_ok {a : Ex} {b : Ax} {env e1 e2 : Ev} {w w1 w2 : W} {r : SD} {rs : List SD} (h1 : a env w = some (r, e1, w1)) (h2 : b e1 w1 = some (rs, e2, w2)) : mCons a b env w = some (r :: rs, e2, w2) := by
  simp only [mCons, h1, h2]
theorem nil_ok {env : Ev} {w : W} : mNil env w = some ([], env, w) := rfl
theorem ret_ok {m : Ex} {env e1 : Ev} {w w1 : W} {r : SD} (h : m env w = some (r, e1, w1)) : mRet m env w = some (.rt r, e1, w1) := by
  simp only [mRet, h]
theorem ixT0 (x : PyData) (r : List PyData) : ixD (.tuple (x :: r)) (.int 0) = some x := atI_nat (x :: r) 0
theorem ixT1 (x y : PyData) (r : List PyData) : ixD (.tuple (x :: y :: r)) (.int 1) = some y := atI_nat (x :: y :: r) 1
theorem ixT2 (x y z : PyData) (r : List PyData) : ixD (.tuple (x :: y :: z :: r)) (.int 2) = some z := atI_nat (x :: y :: z :: r) 2
theorem ixL0 (x : PyData) (r : List PyData) : ixD (.list (x :: r)) (.int 0) = some x := atI_nat (x :: r) 0
theorem ixL1 (x y : PyData) (r : List PyData) : ixD (.list (x :: y :: r)) (.int 1) = some y := atI_nat (x :: y :: r) 1
theorem ixL2 (x y z : PyData) (r : List PyData) : ixD (.list (x :: y :: z :: r)) (.int 2) = some z := atI_nat (x :: y :: z :: r) 2
theorem isD_nn : isD .none .none = some (.bool true) := rfl
theorem isD_in (i : Int) : isD (.int i) .none = some (.bool false) := rfl
theorem isD_sn (i : Str) : isD (.str i) .none = some (.bool false) := rfl
theorem isD_tn (i : List PyData) : isD (.tuple i) .none = some (.bool false) := rfl
theorem isN_nn : isNotD .none .none = some (.bool false) := rfl
theorem isN_in (i : Int) : isNotD (.int i) .none = some (.bool true) := rfl
theorem isN_sn (i : Str) : isNotD (.str i) .none = some (.bool true) := rfl
theorem isN_tn (i : List PyData) : isNotD (.tuple i) .none = some (.bool true) := rfl
end Dn

set_option maxHeartbeats 4000000
namespace Dn
open PySem PySem.Spec PyProof.Rows L2 SX
open TL (numL)
def numR (r : List Nat) : Option (Nat × Nat) := if r.takeWhile dig = [] ∨ 24 < (r.takeWhile dig).length ∨ ((r.takeWhile dig).head? = some 48 ∧ r.takeWhile dig ≠ [48]) then none else some (NumText.digitsVal (r.takeWhile dig), (r.takeWhile dig).length)
def numD (a : Nat) (r : List Nat) : PyData := match numR r with
  | none => .none
  | some (n, k) => .tuple [.int (n : Int), .int ((a + k : Nat) : Int)]
theorem drop_at {l : List Nat} {b c : Nat} (e : l[b]? = some c) : l.drop b = c :: l.drop (b + 1) := by
  have hc : b < l.length := (List.getElem?_eq_some_iff.mp e).1
  rw [List.drop_eq_getElem_cons hc, (List.getElem?_eq_some_iff.mp e).2]
theorem cW_number {l : List Nat} (h : Sh l) (x : Option SD) (w : W) (b : Nat) : cW1_number_at [some (.d (.str (S l))), x, some (.d (.int (b : Int))), none] w =
    some (match l[b]? with | some c => dig c | none => false, [some (.d (.str (S l))), x, some (.d (.int (b : Int))), none], w) := by
  unfold cW1_number_at
  cases e : l[b]? with
  | none =>
    have e2 : l.drop b = [] := List.drop_eq_nil_of_le (List.getElem?_eq_none_iff.mp e)
    simp only [mSeq, mSet, mVar, mC, mOp, seqE, optE, mTru, mAnd, mOr, mNot, mIf, mBl, mNil, mCons, mCall, mTup, argsD, dsOf, tupD, mFz, mLst, mRet, mDrop, mNx, mBk, mCt, mFail, mItems, itemsD, mRng, mgName, mgNil, mgCons, mgTup, mAsg, mFor, mNo, mPart, mSl, mB, mSetO, mAppend, mPop, mPkOp, mPkIx, mPkLen, mScrLen, mYes, mPar, mPar3, mParO, mAug, mMtS, mIs, mStar, mFmt, mJs, mAndV, mOrV, mListO, mCatO, mgUnl, truD, pk, mEnum, mStep, stepD, List.getElem?_cons_zero, List.getElem?_cons_succ, List.set_cons_zero, List.set_cons_succ, List.length_cons, List.length_nil, Option.map_some, Option.map_none, List.map_cons, List.map_nil, List.cons_append, List.nil_append, List.replicate, Nat.zero_add, Nat.reduceAdd, Nat.reduceSub, Nat.reduceLeDiff, if_true, if_false, Bool.not_true, Bool.not_false, reduceCtorEq, reduceIte, decide_true, decide_false, Bool.false_eq_true, List.isEmpty_cons, List.isEmpty_nil, ixT0, ixT1, ixT2, ixL0, ixL1, ixL2, isD_nn, isD_in, isD_sn, isD_tn, isN_nn, isN_in, isN_sn, isN_tn, Int.cast_ofNat_Int, Int.reduceEq, Int.reduceLT, Int.reduceLE, Bool.and_false, Bool.and_true, Bool.true_and, Bool.false_and, Bool.or_false, Bool.or_true, Bool.true_or, Bool.false_or, slD_S h, addD1, str0, neD_S, sub_self1, e2, List.take_nil]
  | some c => simp only [mSeq, mSet, mVar, mC, mOp, seqE, optE, mTru, mAnd, mOr, mNot, mIf, mBl, mNil, mCons, mCall, mTup, argsD, dsOf, tupD, mFz, mLst, mRet, mDrop, mNx, mBk, mCt, mFail, mItems, itemsD, mRng, mgName, mgNil, mgCons, mgTup, mAsg, mFor, mNo, mPart, mSl, mB, mSetO, mAppend, mPop, mPkOp, mPkIx, mPkLen, mScrLen, mYes, mPar, mPar3, mParO, mAug, mMtS, mIs, mStar, mFmt, mJs, mAndV, mOrV, mListO, mCatO, mgUnl, truD, pk, mEnum, mStep, stepD, List.getElem?_cons_zero, List.getElem?_cons_succ, List.set_cons_zero, List.set_cons_succ, List.length_cons, List.length_nil, Option.map_some, Option.map_none, List.map_cons, List.map_nil, List.cons_append, List.nil_append, List.replicate, Nat.zero_add, Nat.reduceAdd, Nat.reduceSub, Nat.reduceLeDiff, if_true, if_false, Bool.not_true, Bool.not_false, reduceCtorEq, reduceIte, decide_true, decide_false, Bool.false_eq_true, List.isEmpty_cons, List.isEmpty_nil, ixT0, ixT1, ixT2, ixL0, ixL1, ixL2, isD_nn, isD_in, isD_sn, isD_tn, isN_nn, isN_in, isN_sn, isN_tn, Int.cast_ofNat_Int, Int.reduceEq, Int.reduceLT, Int.reduceLE, Bool.and_false, Bool.and_true, Bool.true_and, Bool.false_and, Bool.or_false, Bool.or_true, Bool.true_or, Bool.false_or, slD_S h, addD1, str0, neD_S, sub_self1, drop_at e, List.take_succ_cons, List.take_zero, ixD_S h e, figs, inD_one, mem_figs]
theorem loop_number {l : List Nat} (h : Sh l) (x : Option SD) (w : W) : ∀ (f b : Nat), l.length < b + f → b ≤ l.length →
    mWhile cW1_number_at bW2_number_at f [some (.d (.str (S l))), x, some (.d (.int (b : Int))), none] w = some (.nx, [some (.d (.str (S l))), x, some (.d (.int ((b + ((l.drop b).takeWhile dig).length : Nat) : Int))), none], w)
  | 0, b, hf, hb => by omega
  | f + 1, b, hf, hb => by
    have hc := cW_number h x w b
    cases e : l[b]? with
    | none =>
      rw [e] at hc
      have e2 : l.drop b = [] := List.drop_eq_nil_of_le (List.getElem?_eq_none_iff.mp e)
      rw [while_end hc, e2]
      rfl
    | some c =>
      rw [e] at hc
      dsimp only at hc
      have hlt : b < l.length := (List.getElem?_eq_some_iff.mp e).1
      cases hd : dig c with
      | false =>
        rw [hd] at hc
        rw [while_end hc, drop_at e, List.takeWhile_cons, hd]
        rfl
      | true =>
        rw [hd] at hc
        rw [while_go hc (e2 := [some (.d (.str (S l))), x, some (.d (.int ((b + 1 : Nat) : Int))), none]) (w2 := w) (by unfold bW2_number_at; simp only [mSeq, mSet, mVar, mC, mOp, seqE, optE, mTru, mAnd, mOr, mNot, mIf, mBl, mNil, mCons, mCall, mTup, argsD, dsOf, tupD, mFz, mLst, mRet, mDrop, mNx, mBk, mCt, mFail, mItems, itemsD, mRng, mgName, mgNil, mgCons, mgTup, mAsg, mFor, mNo, mPart, mSl, mB, mSetO, mAppend, mPop, mPkOp, mPkIx, mPkLen, mScrLen, mYes, mPar, mPar3, mParO, mAug, mMtS, mIs, mStar, mFmt, mJs, mAndV, mOrV, mListO, mCatO, mgUnl, truD, pk, mEnum, mStep, stepD, List.getElem?_cons_zero, List.getElem?_cons_succ, List.set_cons_zero, List.set_cons_succ, List.length_cons, List.length_nil, Option.map_some, Option.map_none, List.map_cons, List.map_nil, List.cons_append, List.nil_append, List.replicate, Nat.zero_add, Nat.reduceAdd, Nat.reduceSub, Nat.reduceLeDiff, if_true, if_false, Bool.not_true, Bool.not_false, reduceCtorEq, reduceIte, decide_true, decide_false, Bool.false_eq_true, List.isEmpty_cons, List.isEmpty_nil, ixT0, ixT1, ixT2, ixL0, ixL1, ixL2, isD_nn, isD_in, isD_sn, isD_tn, isN_nn, isN_in, isN_sn, isN_tn, Int.cast_ofNat_Int, Int.reduceEq, Int.reduceLT, Int.reduceLE, Bool.and_false, Bool.and_true, Bool.true_and, Bool.false_and, Bool.or_false, Bool.or_true, Bool.true_or, Bool.false_or, addI1]), loop_number h x w f (b + 1) (by omega) (by omega), drop_at e, List.takeWhile_cons, if_pos hd, List.length_cons, show b + 1 + ((l.drop (b + 1)).takeWhile dig).length = b + (((l.drop (b + 1)).takeWhile dig).length + 1) by omega]
theorem tw_dig (r : List Nat) : NumText.AllDigits (r.takeWhile dig) := fun c hc => by
  have := List.all_eq_true.mp (List.all_takeWhile (p := dig) (l := r)) c hc
  unfold dig at this
  simpa using this
theorem tw_take (r : List Nat) : r.take (r.takeWhile dig).length = r.takeWhile dig := by
  conv => lhs; arg 2; rw [← List.takeWhile_append_dropWhile (p := dig) (l := r)]
  exact List.take_left
theorem run_number {l : List Nat} (h : Sh l) {a : Nat} (ha : a ≤ l.length) (w : W) : m_number_at [.d (.str (S l)), .d (.int (a : Int))] w = some (.d (numD a (l.drop a)), w) := by
  have hlen : (l.drop a).takeWhile dig = (l.drop a).takeWhile dig := rfl
  have hshf : Sh ((l.drop a).takeWhile dig) := by
    have h1 := (List.takeWhile_prefix (p := dig) (l := l.drop a)).length_le
    rw [List.length_drop] at h1
    unfold Sh at h ⊢
    omega
  refine fn_rt (e' := [some (.d (.str (S l))), some (.d (.int (a : Int))), some (.d (.int ((a + ((l.drop a).takeWhile dig).length : Nat) : Int))), some (.d (.str (S ((l.drop a).takeWhile dig))))]) rfl ?_
  unfold b_number_at
  refine (seq_nx (by simp only [mSeq, mSet, mVar, mC, mOp, seqE, optE, mTru, mAnd, mOr, mNot, mIf, mBl, mNil, mCons, mCall, mTup, argsD, dsOf, tupD, mFz, mLst, mRet, mDrop, mNx, mBk, mCt, mFail, mItems, itemsD, mRng, mgName, mgNil, mgCons, mgTup, mAsg, mFor, mNo, mPart, mSl, mB, mSetO, mAppend, mPop, mPkOp, mPkIx, mPkLen, mScrLen, mYes, mPar, mPar3, mParO, mAug, mMtS, mIs, mStar, mFmt, mJs, mAndV, mOrV, mListO, mCatO, mgUnl, truD, pk, mEnum, mStep, stepD, List.getElem?_cons_zero, List.getElem?_cons_succ, List.set_cons_zero, List.set_cons_succ, List.length_cons, List.length_nil, Option.map_some, Option.map_none, List.map_cons, List.map_nil, List.cons_append, List.nil_append, List.replicate, Nat.zero_add, Nat.reduceAdd, Nat.reduceSub, Nat.reduceLeDiff, if_true, if_false, Bool.not_true, Bool.not_false, reduceCtorEq, reduceIte, decide_true, decide_false, Bool.false_eq_true, List.isEmpty_cons, List.isEmpty_nil, ixT0, ixT1, ixT2, ixL0, ixL1, ixL2, isD_nn, isD_in, isD_sn, isD_tn, isN_nn, isN_in, isN_sn, isN_tn, Int.cast_ofNat_Int, Int.reduceEq, Int.reduceLT, Int.reduceLE, Bool.and_false, Bool.and_true, Bool.true_and, Bool.false_and, Bool.or_false, Bool.or_true, Bool.true_or, Bool.false_or]; rfl)).trans ?_
  refine (seq_nx (loop_number h _ w fuel a (by unfold fuel; unfold Sh at h; omega) ha)).trans ?_
  refine (seq_nx (e1 := [some (.d (.str (S l))), some (.d (.int (a : Int))), some (.d (.int ((a + ((l.drop a).takeWhile dig).length : Nat) : Int))), some (.d (.str (S ((l.drop a).takeWhile dig))))]) (w1 := w) (by simp only [mSeq, mSet, mVar, mC, mOp, seqE, optE, mTru, mAnd, mOr, mNot, mIf, mBl, mNil, mCons, mCall, mTup, argsD, dsOf, tupD, mFz, mLst, mRet, mDrop, mNx, mBk, mCt, mFail, mItems, itemsD, mRng, mgName, mgNil, mgCons, mgTup, mAsg, mFor, mNo, mPart, mSl, mB, mSetO, mAppend, mPop, mPkOp, mPkIx, mPkLen, mScrLen, mYes, mPar, mPar3, mParO, mAug, mMtS, mIs, mStar, mFmt, mJs, mAndV, mOrV, mListO, mCatO, mgUnl, truD, pk, mEnum, mStep, stepD, List.getElem?_cons_zero, List.getElem?_cons_succ, List.set_cons_zero, List.set_cons_succ, List.length_cons, List.length_nil, Option.map_some, Option.map_none, List.map_cons, List.map_nil, List.cons_append, List.nil_append, List.replicate, Nat.zero_add, Nat.reduceAdd, Nat.reduceSub, Nat.reduceLeDiff, if_true, if_false, Bool.not_true, Bool.not_false, reduceCtorEq, reduceIte, decide_true, decide_false, Bool.false_eq_true, List.isEmpty_cons, List.isEmpty_nil, ixT0, ixT1, ixT2, ixL0, ixL1, ixL2, isD_nn, isD_in, isD_sn, isD_tn, isN_nn, isN_in, isN_sn, isN_tn, Int.cast_ofNat_Int, Int.reduceEq, Int.reduceLT, Int.reduceLE, Bool.and_false, Bool.and_true, Bool.true_and, Bool.false_and, Bool.or_false, Bool.or_true, Bool.true_or, Bool.false_or, slD_S h, Nat.add_sub_cancel_left, tw_take])).trans ?_
  unfold numD numR
  generalize hF : (l.drop a).takeWhile dig = F at hshf ⊢
  have hdg : NumText.AllDigits F := hF ▸ tw_dig _
  by_cases c1 : F = []
  · subst c1
    refine (seq_rt (by simp only [mSeq, mSet, mVar, mC, mOp, seqE, optE, mTru, mAnd, mOr, mNot, mIf, mBl, mNil, mCons, mCall, mTup, argsD, dsOf, tupD, mFz, mLst, mRet, mDrop, mNx, mBk, mCt, mFail, mItems, itemsD, mRng, mgName, mgNil, mgCons, mgTup, mAsg, mFor, mNo, mPart, mSl, mB, mSetO, mAppend, mPop, mPkOp, mPkIx, mPkLen, mScrLen, mYes, mPar, mPar3, mParO, mAug, mMtS, mIs, mStar, mFmt, mJs, mAndV, mOrV, mListO, mCatO, mgUnl, truD, pk, mEnum, mStep, stepD, List.getElem?_cons_zero, List.getElem?_cons_succ, List.set_cons_zero, List.set_cons_succ, List.length_cons, List.length_nil, Option.map_some, Option.map_none, List.map_cons, List.map_nil, List.cons_append, List.nil_append, List.replicate, Nat.zero_add, Nat.reduceAdd, Nat.reduceSub, Nat.reduceLeDiff, if_true, if_false, Bool.not_true, Bool.not_false, reduceCtorEq, reduceIte, decide_true, decide_false, Bool.false_eq_true, List.isEmpty_cons, List.isEmpty_nil, ixT0, ixT1, ixT2, ixL0, ixL1, ixL2, isD_nn, isD_in, isD_sn, isD_tn, isN_nn, isN_in, isN_sn, isN_tn, Int.cast_ofNat_Int, Int.reduceEq, Int.reduceLT, Int.reduceLE, Bool.and_false, Bool.and_true, Bool.true_and, Bool.false_and, Bool.or_false, Bool.or_true, Bool.true_or, Bool.false_or, str0, eqD_S]; rfl)).trans ?_
    rfl
  by_cases c2 : 24 < F.length
  · have c2' : (24 : Int) < (F.length : Int) := by omega
    refine (seq_rt (by simp only [mSeq, mSet, mVar, mC, mOp, seqE, optE, mTru, mAnd, mOr, mNot, mIf, mBl, mNil, mCons, mCall, mTup, argsD, dsOf, tupD, mFz, mLst, mRet, mDrop, mNx, mBk, mCt, mFail, mItems, itemsD, mRng, mgName, mgNil, mgCons, mgTup, mAsg, mFor, mNo, mPart, mSl, mB, mSetO, mAppend, mPop, mPkOp, mPkIx, mPkLen, mScrLen, mYes, mPar, mPar3, mParO, mAug, mMtS, mIs, mStar, mFmt, mJs, mAndV, mOrV, mListO, mCatO, mgUnl, truD, pk, mEnum, mStep, stepD, List.getElem?_cons_zero, List.getElem?_cons_succ, List.set_cons_zero, List.set_cons_succ, List.length_cons, List.length_nil, Option.map_some, Option.map_none, List.map_cons, List.map_nil, List.cons_append, List.nil_append, List.replicate, Nat.zero_add, Nat.reduceAdd, Nat.reduceSub, Nat.reduceLeDiff, if_true, if_false, Bool.not_true, Bool.not_false, reduceCtorEq, reduceIte, decide_true, decide_false, Bool.false_eq_true, List.isEmpty_cons, List.isEmpty_nil, ixT0, ixT1, ixT2, ixL0, ixL1, ixL2, isD_nn, isD_in, isD_sn, isD_tn, isN_nn, isN_in, isN_sn, isN_tn, Int.cast_ofNat_Int, Int.reduceEq, Int.reduceLT, Int.reduceLE, Bool.and_false, Bool.and_true, Bool.true_and, Bool.false_and, Bool.or_false, Bool.or_true, Bool.true_or, Bool.false_or, str0, eqD_S, c1, lenD_S hshf, gtI_int, c2']; rfl)).trans ?_
    rw [if_pos (.inr (.inl c2))]
  have c2' : ¬ (24 : Int) < (F.length : Int) := by omega
  obtain ⟨c, F', rfl⟩ := List.exists_cons_of_ne_nil c1
  rw [List.length_cons] at c2'
  by_cases c3 : c = 48
  · subst c3
    by_cases c4 : F' = []
    · subst c4
      rw [if_neg (by simp)]
      refine (seq_nx (by simp only [mSeq, mSet, mVar, mC, mOp, seqE, optE, mTru, mAnd, mOr, mNot, mIf, mBl, mNil, mCons, mCall, mTup, argsD, dsOf, tupD, mFz, mLst, mRet, mDrop, mNx, mBk, mCt, mFail, mItems, itemsD, mRng, mgName, mgNil, mgCons, mgTup, mAsg, mFor, mNo, mPart, mSl, mB, mSetO, mAppend, mPop, mPkOp, mPkIx, mPkLen, mScrLen, mYes, mPar, mPar3, mParO, mAug, mMtS, mIs, mStar, mFmt, mJs, mAndV, mOrV, mListO, mCatO, mgUnl, truD, pk, mEnum, mStep, stepD, List.getElem?_cons_zero, List.getElem?_cons_succ, List.set_cons_zero, List.set_cons_succ, List.length_cons, List.length_nil, Option.map_some, Option.map_none, List.map_cons, List.map_nil, List.cons_append, List.nil_append, List.replicate, Nat.zero_add, Nat.reduceAdd, Nat.reduceSub, Nat.reduceLeDiff, if_true, if_false, Bool.not_true, Bool.not_false, reduceCtorEq, reduceIte, decide_true, decide_false, Bool.false_eq_true, List.isEmpty_cons, List.isEmpty_nil, ixT0, ixT1, ixT2, ixL0, ixL1, ixL2, isD_nn, isD_in, isD_sn, isD_tn, isN_nn, isN_in, isN_sn, isN_tn, Int.cast_ofNat_Int, Int.reduceEq, Int.reduceLT, Int.reduceLE, Bool.and_false, Bool.and_true, Bool.true_and, Bool.false_and, Bool.or_false, Bool.or_true, Bool.true_or, Bool.false_or, str0, eqD_S, lenD_S hshf, gtI_int, c2', ixS0 hshf, strN, neD_S, List.cons_ne_nil]; rfl)).trans ?_
      simp only [mSeq, mSet, mVar, mC, mOp, seqE, optE, mTru, mAnd, mOr, mNot, mIf, mBl, mNil, mCons, mCall, mTup, argsD, dsOf, tupD, mFz, mLst, mRet, mDrop, mNx, mBk, mCt, mFail, mItems, itemsD, mRng, mgName, mgNil, mgCons, mgTup, mAsg, mFor, mNo, mPart, mSl, mB, mSetO, mAppend, mPop, mPkOp, mPkIx, mPkLen, mScrLen, mYes, mPar, mPar3, mParO, mAug, mMtS, mIs, mStar, mFmt, mJs, mAndV, mOrV, mListO, mCatO, mgUnl, truD, pk, mEnum, mStep, stepD, List.getElem?_cons_zero, List.getElem?_cons_succ, List.set_cons_zero, List.set_cons_succ, List.length_cons, List.length_nil, Option.map_some, Option.map_none, List.map_cons, List.map_nil, List.cons_append, List.nil_append, List.replicate, Nat.zero_add, Nat.reduceAdd, Nat.reduceSub, Nat.reduceLeDiff, if_true, if_false, Bool.not_true, Bool.not_false, reduceCtorEq, reduceIte, decide_true, decide_false, Bool.false_eq_true, List.isEmpty_cons, List.isEmpty_nil, ixT0, ixT1, ixT2, ixL0, ixL1, ixL2, isD_nn, isD_in, isD_sn, isD_tn, isN_nn, isN_in, isN_sn, isN_tn, Int.cast_ofNat_Int, Int.reduceEq, Int.reduceLT, Int.reduceLE, Bool.and_false, Bool.and_true, Bool.true_and, Bool.false_and, Bool.or_false, Bool.or_true, Bool.true_or, Bool.false_or, intS hdg c1 (by simp)]
    · have c5 : ¬ (48 :: F' = [48]) := by simpa using c4
      refine (seq_rt (by simp only [mSeq, mSet, mVar, mC, mOp, seqE, optE, mTru, mAnd, mOr, mNot, mIf, mBl, mNil, mCons, mCall, mTup, argsD, dsOf, tupD, mFz, mLst, mRet, mDrop, mNx, mBk, mCt, mFail, mItems, itemsD, mRng, mgName, mgNil, mgCons, mgTup, mAsg, mFor, mNo, mPart, mSl, mB, mSetO, mAppend, mPop, mPkOp, mPkIx, mPkLen, mScrLen, mYes, mPar, mPar3, mParO, mAug, mMtS, mIs, mStar, mFmt, mJs, mAndV, mOrV, mListO, mCatO, mgUnl, truD, pk, mEnum, mStep, stepD, List.getElem?_cons_zero, List.getElem?_cons_succ, List.set_cons_zero, List.set_cons_succ, List.length_cons, List.length_nil, Option.map_some, Option.map_none, List.map_cons, List.map_nil, List.cons_append, List.nil_append, List.replicate, Nat.zero_add, Nat.reduceAdd, Nat.reduceSub, Nat.reduceLeDiff, if_true, if_false, Bool.not_true, Bool.not_false, reduceCtorEq, reduceIte, decide_true, decide_false, Bool.false_eq_true, List.isEmpty_cons, List.isEmpty_nil, ixT0, ixT1, ixT2, ixL0, ixL1, ixL2, isD_nn, isD_in, isD_sn, isD_tn, isN_nn, isN_in, isN_sn, isN_tn, Int.cast_ofNat_Int, Int.reduceEq, Int.reduceLT, Int.reduceLE, Bool.and_false, Bool.and_true, Bool.true_and, Bool.false_and, Bool.or_false, Bool.or_true, Bool.true_or, Bool.false_or, str0, eqD_S, lenD_S hshf, gtI_int, c2', ixS0 hshf, strN, neD_S, List.cons_ne_nil, c5]; rfl)).trans ?_
      rw [if_pos (.inr (.inr ⟨rfl, c5⟩))]
      rfl
  · have c5 : ¬ ([c] = [48]) := by simpa using c3
    rw [if_neg (by
      rintro (z | z | z)
      · exact c1 z
      · exact c2 z
      · exact c3 (by simpa using z.1))]
    refine (seq_nx (by simp only [mSeq, mSet, mVar, mC, mOp, seqE, optE, mTru, mAnd, mOr, mNot, mIf, mBl, mNil, mCons, mCall, mTup, argsD, dsOf, tupD, mFz, mLst, mRet, mDrop, mNx, mBk, mCt, mFail, mItems, itemsD, mRng, mgName, mgNil, mgCons, mgTup, mAsg, mFor, mNo, mPart, mSl, mB, mSetO, mAppend, mPop, mPkOp, mPkIx, mPkLen, mScrLen, mYes, mPar, mPar3, mParO, mAug, mMtS, mIs, mStar, mFmt, mJs, mAndV, mOrV, mListO, mCatO, mgUnl, truD, pk, mEnum, mStep, stepD, List.getElem?_cons_zero, List.getElem?_cons_succ, List.set_cons_zero, List.set_cons_succ, List.length_cons, List.length_nil, Option.map_some, Option.map_none, List.map_cons, List.map_nil, List.cons_append, List.nil_append, List.replicate, Nat.zero_add, Nat.reduceAdd, Nat.reduceSub, Nat.reduceLeDiff, if_true, if_false, Bool.not_true, Bool.not_false, reduceCtorEq, reduceIte, decide_true, decide_false, Bool.false_eq_true, List.isEmpty_cons, List.isEmpty_nil, ixT0, ixT1, ixT2, ixL0, ixL1, ixL2, isD_nn, isD_in, isD_sn, isD_tn, isN_nn, isN_in, isN_sn, isN_tn, Int.cast_ofNat_Int, Int.reduceEq, Int.reduceLT, Int.reduceLE, Bool.and_false, Bool.and_true, Bool.true_and, Bool.false_and, Bool.or_false, Bool.or_true, Bool.true_or, Bool.false_or, str0, eqD_S, lenD_S hshf, gtI_int, c2', ixS0 hshf, strN, neD_S, List.cons_ne_nil, c5]; rfl)).trans ?_
    simp only [mSeq, mSet, mVar, mC, mOp, seqE, optE, mTru, mAnd, mOr, mNot, mIf, mBl, mNil, mCons, mCall, mTup, argsD, dsOf, tupD, mFz, mLst, mRet, mDrop, mNx, mBk, mCt, mFail, mItems, itemsD, mRng, mgName, mgNil, mgCons, mgTup, mAsg, mFor, mNo, mPart, mSl, mB, mSetO, mAppend, mPop, mPkOp, mPkIx, mPkLen, mScrLen, mYes, mPar, mPar3, mParO, mAug, mMtS, mIs, mStar, mFmt, mJs, mAndV, mOrV, mListO, mCatO, mgUnl, truD, pk, mEnum, mStep, stepD, List.getElem?_cons_zero, List.getElem?_cons_succ, List.set_cons_zero, List.set_cons_succ, List.length_cons, List.length_nil, Option.map_some, Option.map_none, List.map_cons, List.map_nil, List.cons_append, List.nil_append, List.replicate, Nat.zero_add, Nat.reduceAdd, Nat.reduceSub, Nat.reduceLeDiff, if_true, if_false, Bool.not_true, Bool.not_false, reduceCtorEq, reduceIte, decide_true, decide_false, Bool.false_eq_true, List.isEmpty_cons, List.isEmpty_nil, ixT0, ixT1, ixT2, ixL0, ixL1, ixL2, isD_nn, isD_in, isD_sn, isD_tn, isN_nn, isN_in, isN_sn, isN_tn, Int.cast_ofNat_Int, Int.reduceEq, Int.reduceLT, Int.reduceLE, Bool.and_false, Bool.and_true, Bool.true_and, Bool.false_and, Bool.or_false, Bool.or_true, Bool.true_or, Bool.false_or, intS hdg c1 (by omega)]

def nxt (r : List Nat) : Bool := match r with
  | 46 :: c :: _ => dig c
  | _ => false
def numsR : Nat → List Nat → Option (List Nat × Nat)
  | 0, _ => none
  | f + 1, r => match numR r with
    | none => none
    | some (n, k) => if nxt (r.drop k) then (match numsR f (r.drop (k + 1)) with
      | some (ns, j) => some (n :: ns, k + 1 + j)
      | none => none) else some ([n], k)
def intsD (ns : List Nat) : List PyData := ns.map fun n : Nat => .int (n : Int)
def figT : List PyData := [48, 49, 50, 51, 52, 53, 54, 55, 56, 57].map fun c => .str (S [c])
theorem figTup : tupStrD [.str "0123456789"] = some (.tuple figT) := by
  rfl
theorem notIn_fig (x : List Nat) : notInD (.str (S x)) (.tuple figT) = some (.bool (match x with | [c] => !dig c | _ => true)) := by
  unfold notInD inS figT
  simp only [dOk, Bool.true_or, if_true, Option.map_some, List.any_map]
  refine congrArg some (congrArg PyData.bool ?_)
  have e : ∀ c : Nat, ((fun y => PyData.eqv y (.str (S x))) ∘ fun c => PyData.str (S [c])) c = decide ([c] = x) := fun c => eq_S [c] x
  rw [show ((fun y => PyData.eqv y (.str (S x))) ∘ fun c => PyData.str (S [c])) = fun c => decide ([c] = x) from funext e]
  match x with
  | [] => simp
  | [c] =>
    dsimp only
    rw [← mem_figs]
    refine congrArg (!·) ?_
    rw [Bool.eq_iff_iff]
    simp
    omega
  | c :: d :: r => simp
theorem numR_bound {r : List Nat} {n k : Nat} (h : numR r = some (n, k)) : 0 < k ∧ k ≤ r.length := by
  unfold numR at h
  split at h
  · cases h
  · rename_i hn
    cases h
    have h1 := (List.takeWhile_prefix (p := dig) (l := r)).length_le
    refine ⟨List.length_pos_iff.mpr fun z => hn (.inl z), h1⟩
theorem take_two (r : List Nat) : r.take 1 ≠ [46] ∨ (r.take 1 = [46] ∧ ∃ q, r = 46 :: q) := by
  cases r with
  | nil => exact .inl (by simp)
  | cons c q =>
    by_cases h : c = 46
    · subst h; exact .inr ⟨rfl, q, rfl⟩
    · exact .inl (by simpa using h)
/-- the end of one turn -/
def numsEnd (acc : List Nat) (p : Nat) : PyData := if acc.length ≤ 60 then .tuple [.tuple (intsD acc), .int (p : Int)] else .none
theorem bW_numbers {l : List Nat} (h : Sh l) {p : Nat} (hp : p ≤ l.length) (x y : Option SD) (acc : List Nat) (hacc : acc.length ≤ p) (w : W) : ∃ e,
    bW2_numbers_at [some (.d (.str (S l))), x, some (.own (intsD acc)), some (.d (.int (p : Int))), y] w = match numR (l.drop p) with
      | none => some (.rt (.d .none), e, w)
      | some (n, k) => if nxt (l.drop (p + k)) then some (.nx, [some (.d (.str (S l))), x, some (.own (intsD (acc ++ [n]))), some (.d (.int ((p + k + 1 : Nat) : Int))), some (.d (numD p (l.drop p)))], w)
        else some (.rt (.d (numsEnd (acc ++ [n]) (p + k))), e, w) := by
  unfold bW2_numbers_at
  rw [seq_nx (e1 := [some (.d (.str (S l))), x, some (.own (intsD acc)), some (.d (.int (p : Int))), some (.d (numD p (l.drop p)))]) (w1 := w) (by push_cast [run_number h hp])]
  cases hn : numR (l.drop p) with
  | none =>
    have e : numD p (l.drop p) = .none := by unfold numD; rw [hn]
    rw [e]
    exact ⟨_, seq_rt (by push_cast)⟩
  | some q =>
    obtain ⟨n, k⟩ := q
    have e : numD p (l.drop p) = .tuple [.int (n : Int), .int ((p + k : Nat) : Int)] := by unfold numD; rw [hn]
    rw [e]
    have hk := numR_bound hn
    rw [List.length_drop] at hk
    have hpk : p + k ≤ l.length := by omega
    have hal : (intsD acc).length < sizeLine := by
      unfold intsD
      rw [List.length_map, sizeLine_eq]
      unfold Sh at h
      omega
    have ei : intsD acc ++ [.int (n : Int)] = intsD (acc ++ [n]) := by unfold intsD; simp
    rw [seq_nx (e1 := [some (.d (.str (S l))), x, some (.own (intsD acc)), some (.d (.int (p : Int))), some (.d (.tuple [.int (n : Int), .int ((p + k : Nat) : Int)]))]) (w1 := w) (by push_cast),
      seq_nx (e1 := [some (.d (.str (S l))), x, some (.own (intsD (acc ++ [n]))), some (.d (.int (p : Int))), some (.d (.tuple [.int (n : Int), .int ((p + k : Nat) : Int)]))]) (w1 := w) (by push_cast [hal, ei]),
      seq_nx (e1 := [some (.d (.str (S l))), x, some (.own (intsD (acc ++ [n]))), some (.d (.int ((p + k : Nat) : Int))), some (.d (.tuple [.int (n : Int), .int ((p + k : Nat) : Int)]))]) (w1 := w) (by push_cast)]
    dsimp only
    have t1 : p + k + 2 - (p + k + 1) = 1 := by omega
    have t0 : p + k + 1 - (p + k) = 1 := by omega
    have hlen : (intsD (acc ++ [n])).length = (acc ++ [n]).length := by unfold intsD; rw [List.length_map]
    -- what is told
    have fin : ∃ e, mRet (mIf (mTru (mOp leI (mPkLen 2) (mC (.int 60)))) (mTup (mCons (mB tupleD (mCons (mVar 2) mNil)) (mCons (mVar 3) mNil))) (mC .none))
        [some (.d (.str (S l))), x, some (.own (intsD (acc ++ [n]))), some (.d (.int ((p + k : Nat) : Int))), some (.d (.tuple [.int (n : Int), .int ((p + k : Nat) : Int)]))] w = some (.rt (.d (numsEnd (acc ++ [n]) (p + k))), e, w) := by
      unfold numsEnd
      by_cases c : (acc ++ [n]).length ≤ 60
      · have c' : ((intsD (acc ++ [n])).length : Int) ≤ 60 := by rw [hlen]; omega
        rw [if_pos c]
        exact ⟨_, by push_cast [leI_int, c', tupleD]⟩
      · have c' : ¬ ((intsD (acc ++ [n])).length : Int) ≤ 60 := by rw [hlen]; omega
        rw [if_neg c]
        exact ⟨_, by push_cast [leI_int, c', tupleD]⟩
    obtain ⟨e0, fin⟩ := fin
    refine ⟨e0, ?_⟩
    rcases take_two (l.drop (p + k)) with hd | ⟨hd, q, hq⟩
    · have hx : nxt (l.drop (p + k)) = false := by
        unfold nxt
        split
        · rename_i z
          rw [z] at hd
          exact absurd rfl hd
        · rfl
      rw [hx]
      have hd' : ¬ ((l.drop (p + k)).take 1 = [46]) := hd
      exact seq_rt ((if_t (or_t (by push_cast [slD_S h, addD1, t0, strDot, neD_S, hd']))).trans fin)
    · have o1 : mTru (mOp neD (mSl (mVar 0) (mPart (mVar 3)) (mPart (mOp addD (mVar 3) (mC (.int 1))))) (mC (.str "."))) [some (.d (.str (S l))), x, some (.own (intsD (acc ++ [n]))), some (.d (.int ((p + k : Nat) : Int))), some (.d (.tuple [.int (n : Int), .int ((p + k : Nat) : Int)]))] w
          = some (false, [some (.d (.str (S l))), x, some (.own (intsD (acc ++ [n]))), some (.d (.int ((p + k : Nat) : Int))), some (.d (.tuple [.int (n : Int), .int ((p + k : Nat) : Int)]))], w) := by push_cast [slD_S h, addD1, t0, strDot, neD_S, hd]
      have hq1 : l.drop (p + k + 1) = q := by
        rw [show p + k + 1 = (p + k) + 1 from rfl, ← List.drop_drop, hq]
        rfl
      have o2 : mTru (mOp notInD (mSl (mVar 0) (mPart (mOp addD (mVar 3) (mC (.int 1)))) (mPart (mOp addD (mVar 3) (mC (.int 2))))) (mB tupStrD (mCons (mC (.str "0123456789")) mNil))) [some (.d (.str (S l))), x, some (.own (intsD (acc ++ [n]))), some (.d (.int ((p + k : Nat) : Int))), some (.d (.tuple [.int (n : Int), .int ((p + k : Nat) : Int)]))] w
          = some (!nxt (l.drop (p + k)), [some (.d (.str (S l))), x, some (.own (intsD (acc ++ [n]))), some (.d (.int ((p + k : Nat) : Int))), some (.d (.tuple [.int (n : Int), .int ((p + k : Nat) : Int)]))], w) := by
        have e3 : (match q.take 1 with | [c] => !dig c | _ => true) = !nxt (l.drop (p + k)) := by
          rw [hq]
          cases q with
          | nil => rfl
          | cons c q' => rfl
        simp only [mSeq, mSet, mVar, mC, mOp, seqE, optE, mTru, mAnd, mOr, mNot, mIf, mBl, mNil, mCons, mCall, mTup, argsD, dsOf, tupD, mFz, mLst, mRet, mDrop, mNx, mBk, mCt, mFail, mItems, itemsD, mRng, mgName, mgNil, mgCons, mgTup, mAsg, mFor, mNo, mPart, mSl, mB, mSetO, mAppend, mPop, mPkOp, mPkIx, mPkLen, mScrLen, mYes, mPar, mPar3, mParO, mAug, mMtS, mIs, mStar, mFmt, mJs, mAndV, mOrV, mListO, mCatO, mgUnl, truD, pk, mEnum, mStep, stepD, List.getElem?_cons_zero, List.getElem?_cons_succ, List.set_cons_zero, List.set_cons_succ, List.length_cons, List.length_nil, Option.map_some, Option.map_none, List.map_cons, List.map_nil, List.cons_append, List.nil_append, List.replicate, Nat.zero_add, Nat.reduceAdd, Nat.reduceSub, Nat.reduceLeDiff, if_true, if_false, Bool.not_true, Bool.not_false, reduceCtorEq, reduceIte, decide_true, decide_false, Bool.false_eq_true, List.isEmpty_cons, List.isEmpty_nil, ixT0, ixT1, ixT2, ixL0, ixL1, ixL2, isD_nn, isD_in, isD_sn, isD_tn, isN_nn, isN_in, isN_sn, isN_tn, Int.cast_ofNat_Int, Int.reduceEq, Int.reduceLT, Int.reduceLE, Bool.and_false, Bool.and_true, Bool.true_and, Bool.false_and, Bool.or_false, Bool.or_true, Bool.true_or, Bool.false_or, slD_S h, addD1, addD2, t1, figTup, notIn_fig, hq1, e3]
      cases hx : nxt (l.drop (p + k)) with
      | false =>
        rw [hx] at o2
        exact seq_rt ((if_t ((or_f o1).trans o2)).trans fin)
      | true =>
        rw [hx] at o2
        refine (seq_nx ((if_f ((or_f o1).trans o2)).trans rfl)).trans ?_
        push_cast [addI1]
theorem numsR_bound : ∀ {f : Nat} {r ns : List Nat} {j : Nat}, numsR f r = some (ns, j) → j ≤ r.length ∧ ns ≠ []
  | 0, _, _, _, h => by cases h
  | f + 1, r, ns, j, h => by
    unfold numsR at h
    split at h
    · cases h
    · rename_i n k hn
      have hk := numR_bound hn
      split at h
      · rename_i hx
        split at h
        · rename_i ms i hr
          cases h
          have h1 := numsR_bound hr
          rw [List.length_drop] at h1
          have : k + 1 ≤ r.length := by
            unfold nxt at hx
            split at hx
            · rename_i z
              have := congrArg List.length z
              rw [List.length_drop] at this
              simp at this
              omega
            · cases hx
          exact ⟨by omega, by simp⟩
        · cases h
      · cases h
        exact ⟨hk.2, by simp⟩
theorem cW_true (env : Ev) (w : W) : cW1_numbers_at env w = some (true, env, w) := by
  unfold cW1_numbers_at
  push_cast
theorem loop_numbers {l : List Nat} (h : Sh l) (x : Option SD) (w : W) : ∀ (f F p : Nat) (acc : List Nat) (y : Option SD), l.length < p + f → f ≤ F → p ≤ l.length → acc.length ≤ p → ∃ e,
    mWhile cW1_numbers_at bW2_numbers_at F [some (.d (.str (S l))), x, some (.own (intsD acc)), some (.d (.int (p : Int))), y] w = some (.rt (.d (match numsR f (l.drop p) with
      | none => .none
      | some (ns, j) => numsEnd (acc ++ ns) (p + j))), e, w)
  | 0, F, p, acc, y, hf, hF, hp, ha => by omega
  | f + 1, F, p, acc, y, hf, hF, hp, ha => by
    obtain ⟨F', rfl⟩ : ∃ F', F = F' + 1 := ⟨F - 1, by omega⟩
    obtain ⟨e, he⟩ := bW_numbers h hp x y acc ha w
    unfold numsR
    cases hn : numR (l.drop p) with
    | none =>
      rw [hn] at he
      exact ⟨e, while_rt (cW_true _ _) he⟩
    | some q =>
      obtain ⟨n, k⟩ := q
      rw [hn] at he
      dsimp only at he ⊢
      have hk := numR_bound hn
      rw [List.length_drop] at hk
      rw [List.drop_drop, List.drop_drop]
      cases hx : nxt (l.drop (p + k)) with
      | false =>
        rw [hx] at he
        exact ⟨e, while_rt (cW_true _ _) he⟩
      | true =>
        rw [hx] at he
        have hlt : p + k + 1 ≤ l.length := by
          unfold nxt at hx
          split at hx
          · rename_i z
            have := congrArg List.length z
            rw [List.length_drop] at this
            simp at this
            omega
          · cases hx
        obtain ⟨e', h'⟩ := loop_numbers h x w f F' (p + k + 1) (acc ++ [n]) (some (.d (numD p (l.drop p)))) (by omega) (by omega) hlt (by simp; omega)
        refine ⟨e', (while_go (cW_true _ _) he).trans (h'.trans ?_)⟩
        rw [show p + (k + 1) = p + k + 1 from rfl]
        cases hr : numsR f (l.drop (p + k + 1)) with
        | none => rfl
        | some q =>
          obtain ⟨ns, j⟩ := q
          dsimp only
          rw [List.append_assoc, show p + k + 1 + j = p + (k + 1 + j) by omega]
          rfl
/-- what numbers_at tells -/
def numsD (a : Nat) (r : List Nat) : PyData := match numsR (r.length + 1) r with
  | none => .none
  | some (ns, j) => numsEnd ns (a + j)
theorem run_numbers {l : List Nat} (h : Sh l) {a : Nat} (ha : a ≤ l.length) (w : W) : m_numbers_at [.d (.str (S l)), .d (.int (a : Int))] w = some (.d (numsD a (l.drop a)), w) := by
  obtain ⟨e, he⟩ := loop_numbers h (some (.d (.int (a : Int)))) w ((l.drop a).length + 1) fuel a [] none (by rw [List.length_drop]; omega) (by rw [List.length_drop]; unfold fuel; unfold Sh at h; omega) ha (Nat.zero_le _)
  refine fn_rt (e' := e) rfl ?_
  unfold b_numbers_at
  refine (seq_nx (by push_cast)).trans ?_
  refine he.trans ?_
  unfold numsD
  rfl
end Dn

set_option maxHeartbeats 4000000
namespace Dn
open PySem PySem.Spec PyProof.Rows L2 SX
open TL (numL pre)

theorem starts3 (l b : List Nat) (hb : b ≠ []) {a : Nat} : Txt.startswith3 (S l) (S b) (a : Int) = pre b (l.drop a) := by
  unfold Txt.startswith3
  have e : fromIndex (S l).length (a : Int) = a := by
    unfold fromIndex
    rw [if_neg (by omega)]
    omega
  rw [e]
  have q := TL.at_iff (x := S l) (y := S b) hb a
  unfold PySem.StrLaws.At at q
  rw [Bool.eq_iff_iff, Bool.and_eq_true, decide_eq_true_iff]
  exact q
def wordR : List (List Nat) → List Nat → Option (Option (List Nat × Nat) × Nat)
  | [], _ => some (none, 0)
  | x :: xs, r => if pre x r then (match numR (r.drop x.length) with
    | none => none
    | some (n, k) => some (some (x, n), x.length + k)) else wordR xs r
def foD : Option (List Nat × Nat) → PyData
  | none => .none
  | some (x, n) => .tuple [.str (S x), .int (n : Int)]
def wordD (a : Nat) (xs : List (List Nat)) (r : List Nat) : PyData := match wordR xs r with
  | none => .none
  | some (o, k) => .tuple [foD o, .int ((a + k : Nat) : Int)]
def Wok (x : List Nat) : Prop := x ≠ [] ∧ x.length ≤ 10
theorem bF_word {l : List Nat} (h : Sh l) {a : Nat} (ha : a ≤ l.length) (z y : Option SD) (x : List Nat) (hx : Wok x) (w : W) : ∃ e,
    bF1_word_at [some (.d (.str (S l))), some (.d (.int (a : Int))), z, some (.d (.str (S x))), y] w = if pre x (l.drop a) then some (.rt (.d (match numR ((l.drop a).drop x.length) with
      | none => .none
      | some (n, k) => .tuple [foD (some (x, n)), .int ((a + (x.length + k) : Nat) : Int)])), e, w) else some (.nx, [some (.d (.str (S l))), some (.d (.int (a : Int))), z, some (.d (.str (S x))), y], w) := by
  unfold bF1_word_at
  have hs : Sh x := by have := hx.2; unfold Sh; omega
  cases hp : pre x (l.drop a) with
  | false =>
    refine ⟨[], ?_⟩
    rw [if_f (e1 := [some (.d (.str (S l))), some (.d (.int (a : Int))), z, some (.d (.str (S x))), y]) (w1 := w) (by push_cast [starts2D, starts3 l x hx.1, hp])]
    push_cast
  | true =>
    have hlen : a + x.length ≤ l.length := by
      have e := congrArg List.length (eq_of_beq hp)
      rw [List.length_take, List.length_drop] at e
      omega
    have hadd : addD (.int (a : Int)) (.int (x.length : Int)) = some (.int ((a + x.length : Nat) : Int)) := add_nat a x.length
    simp only [if_true]
    rw [if_t (e1 := [some (.d (.str (S l))), some (.d (.int (a : Int))), z, some (.d (.str (S x))), y]) (w1 := w) (by push_cast [starts2D, starts3 l x hx.1, hp]),
      seq_nx (e1 := [some (.d (.str (S l))), some (.d (.int (a : Int))), z, some (.d (.str (S x))), some (.d (numD (a + x.length) (l.drop (a + x.length))))]) (w1 := w) (by push_cast [lenD_S hs, hadd, run_number h hlen])]
    rw [List.drop_drop]
    unfold numD
    cases hn : numR (l.drop (a + x.length)) with
    | none => exact ⟨_, by push_cast⟩
    | some q =>
      obtain ⟨n, k⟩ := q
      dsimp only
      rw [show a + (x.length + k) = a + x.length + k by omega]
      exact ⟨_, by push_cast [foD]⟩
theorem loop_word {l : List Nat} (h : Sh l) {a : Nat} (ha : a ≤ l.length) (z : Option SD) (w : W) : ∀ (xs : List (List Nat)) (y u : Option SD), (∀ x ∈ xs, Wok x) → ∃ e y',
    mLoop (mgName 3) bF1_word_at (xs.map fun x => .str (S x)) [some (.d (.str (S l))), some (.d (.int (a : Int))), z, y, u] w = match wordR xs (l.drop a) with
      | some (none, _) => some (.nx, [some (.d (.str (S l))), some (.d (.int (a : Int))), z, y', u], w)
      | some (some q, k) => some (.rt (.d (.tuple [foD (some q), .int ((a + k : Nat) : Int)])), e, w)
      | none => some (.rt (.d .none), e, w)
  | [], y, u, hx => ⟨[], y, rfl⟩
  | x :: xs, y, u, hx => by
    obtain ⟨e, he⟩ := bF_word h ha z u x (hx x (by simp)) w
    unfold wordR
    cases hp : pre x (l.drop a) with
    | true =>
      rw [hp, if_pos rfl] at he
      refine ⟨e, none, ?_⟩
      rw [List.map_cons, loop_rt (by push_cast) he]
      simp only [if_true]
      cases hn : numR ((l.drop a).drop x.length) with
      | none => rfl
      | some q => rfl
    | false =>
      rw [hp] at he
      simp only [Bool.false_eq_true, if_false] at he ⊢
      obtain ⟨e', y', h'⟩ := loop_word h ha z w xs (some (.d (.str (S x)))) u fun x hm => hx x (List.mem_cons_of_mem _ hm)
      refine ⟨e', y', ?_⟩
      rw [List.map_cons, loop_go (by push_cast) he]
      exact h'
theorem wordR_none {xs : List (List Nat)} {r : List Nat} : ∀ {k : Nat}, wordR xs r = some (none, k) → k = 0 := by
  induction xs with
  | nil => intro k h; cases h; rfl
  | cons x xs ih =>
    intro k h
    unfold wordR at h
    split at h
    · split at h <;> cases h
    · exact ih h
theorem run_word {l : List Nat} (h : Sh l) {a : Nat} (ha : a ≤ l.length) (xs : List (List Nat)) (hx : ∀ x ∈ xs, Wok x) (w : W) : m_word_at [.d (.str (S l)), .d (.int (a : Int)), .d (.tuple (xs.map fun x => .str (S x)))] w = some (.d (wordD a xs (l.drop a)), w) := by
  obtain ⟨e, y', he⟩ := loop_word h ha (some (.d (.tuple (xs.map fun x => .str (S x))))) w xs none none hx
  unfold wordD
  cases hq : wordR xs (l.drop a) with
  | none =>
    rw [hq] at he
    refine fn_rt (e' := e) rfl ?_
    unfold b_word_at
    refine (seq_rt ?_).trans rfl
    simp only [mFor, mItems, seqE, mVar, itemsD, Option.map_some, List.map_cons, List.map_nil, List.cons_append, List.nil_append, List.getElem?_cons_zero, List.getElem?_cons_succ]
    exact he
  | some q =>
    obtain ⟨o, k⟩ := q
    cases o with
    | none =>
      rw [hq] at he
      rw [wordR_none hq]
      refine fn_rt (e' := [some (.d (.str (S l))), some (.d (.int (a : Int))), some (.d (.tuple (xs.map fun x => .str (S x)))), y', none]) rfl ?_
      unfold b_word_at
      refine (seq_nx (e1 := [some (.d (.str (S l))), some (.d (.int (a : Int))), some (.d (.tuple (xs.map fun x => .str (S x)))), y', none]) (w1 := w) ?_).trans (by push_cast [foD, Nat.add_zero])
      simp only [mFor, mItems, seqE, mVar, itemsD, Option.map_some, List.map_cons, List.map_nil, List.cons_append, List.nil_append, List.getElem?_cons_zero, List.getElem?_cons_succ]
      exact he
    | some q =>
      rw [hq] at he
      refine fn_rt (e' := e) rfl ?_
      unfold b_word_at
      refine (seq_rt ?_).trans rfl
      simp only [mFor, mItems, seqE, mVar, itemsD, Option.map_some, List.map_cons, List.map_nil, List.cons_append, List.nil_append, List.getElem?_cons_zero, List.getElem?_cons_succ]
      exact he
theorem wordR_bound : ∀ {xs : List (List Nat)} {r : List Nat} {o : Option (List Nat × Nat)} {k : Nat}, wordR xs r = some (o, k) → k ≤ r.length
  | [], r, o, k, h => by cases h; exact Nat.zero_le _
  | x :: xs, r, o, k, h => by
    unfold wordR at h
    split at h
    · rename_i hp
      split at h
      · cases h
      · rename_i n j hn
        cases h
        have h1 := (numR_bound hn).2
        have e := congrArg List.length (eq_of_beq hp)
        rw [List.length_take] at e
        rw [List.length_drop] at h1
        omega
    · exact wordR_bound h

def WS : List (List Nat) := [[97], [98], [114, 99]]
def POSTS : List Nat := [46, 112, 111, 115, 116]
def DEVS : List Nat := [46, 100, 101, 118]
def tailR (r : List Nat) : Option (Option (List Nat × Nat) × Option Nat × Option Nat) := match wordR WS r with
  | none => none
  | some (f, k1) => match wordR [POSTS] (r.drop k1) with
    | none => none
    | some (p, k2) => match wordR [DEVS] (r.drop (k1 + k2)) with
      | none => none
      | some (d, k3) => if k1 + k2 + k3 = r.length then some (f, p.map Prod.snd, d.map Prod.snd) else none
def onD : Option Nat → PyData
  | none => .none
  | some n => .int (n : Int)
def tailD (r : List Nat) : PyData := match tailR r with
  | none => .none
  | some (f, p, d) => .tuple [foD f, onD p, onD d]
theorem bF_tail {l : List Nat} (h : Sh l) {a : Nat} (ha : a ≤ l.length) (x y : Option SD) (acc : List PyData) (hacc : acc.length < 10) (xs : List (List Nat)) (hx : ∀ x ∈ xs, Wok x) (w : W) : ∃ e,
    bF1_tail_at [some (.d (.str (S l))), x, some (.own acc), some (.d (.int (a : Int))), some (.d (.tuple (xs.map fun x => .str (S x)))), y, none, none, none] w = match wordR xs (l.drop a) with
      | none => some (.rt (.d .none), e, w)
      | some (o, k) => some (.nx, [some (.d (.str (S l))), x, some (.own (acc ++ [foD o])), some (.d (.int ((a + k : Nat) : Int))), some (.d (.tuple (xs.map fun x => .str (S x)))), some (.d (wordD a xs (l.drop a))), none, none, none], w) := by
  unfold bF1_tail_at
  rw [seq_nx (e1 := [some (.d (.str (S l))), x, some (.own acc), some (.d (.int (a : Int))), some (.d (.tuple (xs.map fun x => .str (S x)))), some (.d (wordD a xs (l.drop a))), none, none, none]) (w1 := w) (by push_cast [run_word h ha xs hx])]
  have hal : acc.length < sizeLine := by rw [sizeLine_eq]; omega
  unfold wordD
  cases hq : wordR xs (l.drop a) with
  | none => exact ⟨_, seq_rt (by push_cast)⟩
  | some q =>
    obtain ⟨o, k⟩ := q
    refine ⟨[], ?_⟩
    dsimp only
    refine (seq_nx (by push_cast)).trans ?_
    refine (seq_nx (by push_cast [hal])).trans ?_
    push_cast
theorem ws_data : ((["a", "b", "rc"] : List Str).map PyData.str) = WS.map fun x => .str (S x) := by
  unfold WS
  rfl
theorem ws_ok : ∀ x ∈ WS, Wok x := by
  unfold WS Wok
  simp
theorem post_data : PyData.str ".post" = .str (S POSTS) := rfl
theorem dev_data : PyData.str ".dev" = .str (S DEVS) := rfl
theorem post_ok : ∀ x ∈ [POSTS], Wok x := by
  unfold POSTS Wok
  simp
theorem dev_ok : ∀ x ∈ [DEVS], Wok x := by
  unfold DEVS Wok
  simp
def wordsD (xs : List (List Nat)) : PyData := .tuple (xs.map fun x => .str (S x))
theorem tails_it : ∀ (env : Ev) (w : W), mItems (mTup (mCons (mC (.tuple ((["a", "b", "rc"] : List Str).map .str))) (mCons (mTup (mCons (mC (.str ".post")) mNil)) (mCons (mTup (mCons (mC (.str ".dev")) mNil)) mNil)))) env w = some ([wordsD WS, wordsD [POSTS], wordsD [DEVS]], env, w) := by
  intro env w
  rw [ws_data]
  simp only [mSeq, mSet, mVar, mC, mOp, seqE, optE, mTru, mAnd, mOr, mNot, mIf, mBl, mNil, mCons, mCall, mTup, argsD, dsOf, tupD, mFz, mLst, mRet, mDrop, mNx, mBk, mCt, mFail, mItems, itemsD, mRng, mgName, mgNil, mgCons, mgTup, mAsg, mFor, mNo, mPart, mSl, mB, mSetO, mAppend, mPop, mPkOp, mPkIx, mPkLen, mScrLen, mYes, mPar, mPar3, mParO, mAug, mMtS, mIs, mStar, mFmt, mJs, mAndV, mOrV, mListO, mCatO, mgUnl, truD, pk, mEnum, mStep, stepD, List.getElem?_cons_zero, List.getElem?_cons_succ, List.set_cons_zero, List.set_cons_succ, List.length_cons, List.length_nil, Option.map_some, Option.map_none, List.map_cons, List.map_nil, List.cons_append, List.nil_append, List.replicate, Nat.zero_add, Nat.reduceAdd, Nat.reduceSub, Nat.reduceLeDiff, if_true, if_false, Bool.not_true, Bool.not_false, reduceCtorEq, reduceIte, decide_true, decide_false, Bool.false_eq_true, List.isEmpty_cons, List.isEmpty_nil, ixT0, ixT1, ixT2, ixL0, ixL1, ixL2, isD_nn, isD_in, isD_sn, isD_tn, isN_nn, isN_in, isN_sn, isN_tn, Int.cast_ofNat_Int, Int.reduceEq, Int.reduceLT, Int.reduceLE, Bool.and_false, Bool.and_true, Bool.true_and, Bool.false_and, Bool.or_false, Bool.or_true, Bool.true_or, Bool.false_or, wordsD, post_data, dev_data]
theorem pick2 (o : Option (List Nat × Nat)) (i : Nat) (env : Ev) (w : W) (h : env[i]? = some (some (.d (foD o)))) : mIf (mTru (mOp isD (mVar i) (mC .none))) (mC .none) (mOp ixD (mVar i) (mC (.int 1))) env w = some (.d (onD (o.map Prod.snd)), env, w) := by
  cases o with
  | none =>
    simp only [mSeq, mSet, mVar, mC, mOp, seqE, optE, mTru, mAnd, mOr, mNot, mIf, mBl, mNil, mCons, mCall, mTup, argsD, dsOf, tupD, mFz, mLst, mRet, mDrop, mNx, mBk, mCt, mFail, mItems, itemsD, mRng, mgName, mgNil, mgCons, mgTup, mAsg, mFor, mNo, mPart, mSl, mB, mSetO, mAppend, mPop, mPkOp, mPkIx, mPkLen, mScrLen, mYes, mPar, mPar3, mParO, mAug, mMtS, mIs, mStar, mFmt, mJs, mAndV, mOrV, mListO, mCatO, mgUnl, truD, pk, mEnum, mStep, stepD, List.getElem?_cons_zero, List.getElem?_cons_succ, List.set_cons_zero, List.set_cons_succ, List.length_cons, List.length_nil, Option.map_some, Option.map_none, List.map_cons, List.map_nil, List.cons_append, List.nil_append, List.replicate, Nat.zero_add, Nat.reduceAdd, Nat.reduceSub, Nat.reduceLeDiff, if_true, if_false, Bool.not_true, Bool.not_false, reduceCtorEq, reduceIte, decide_true, decide_false, Bool.false_eq_true, List.isEmpty_cons, List.isEmpty_nil, ixT0, ixT1, ixT2, ixL0, ixL1, ixL2, isD_nn, isD_in, isD_sn, isD_tn, isN_nn, isN_in, isN_sn, isN_tn, Int.cast_ofNat_Int, Int.reduceEq, Int.reduceLT, Int.reduceLE, Bool.and_false, Bool.and_true, Bool.true_and, Bool.false_and, Bool.or_false, Bool.or_true, Bool.true_or, Bool.false_or, h, foD]
    rfl
  | some q =>
    obtain ⟨x, n⟩ := q
    simp only [mSeq, mSet, mVar, mC, mOp, seqE, optE, mTru, mAnd, mOr, mNot, mIf, mBl, mNil, mCons, mCall, mTup, argsD, dsOf, tupD, mFz, mLst, mRet, mDrop, mNx, mBk, mCt, mFail, mItems, itemsD, mRng, mgName, mgNil, mgCons, mgTup, mAsg, mFor, mNo, mPart, mSl, mB, mSetO, mAppend, mPop, mPkOp, mPkIx, mPkLen, mScrLen, mYes, mPar, mPar3, mParO, mAug, mMtS, mIs, mStar, mFmt, mJs, mAndV, mOrV, mListO, mCatO, mgUnl, truD, pk, mEnum, mStep, stepD, List.getElem?_cons_zero, List.getElem?_cons_succ, List.set_cons_zero, List.set_cons_succ, List.length_cons, List.length_nil, Option.map_some, Option.map_none, List.map_cons, List.map_nil, List.cons_append, List.nil_append, List.replicate, Nat.zero_add, Nat.reduceAdd, Nat.reduceSub, Nat.reduceLeDiff, if_true, if_false, Bool.not_true, Bool.not_false, reduceCtorEq, reduceIte, decide_true, decide_false, Bool.false_eq_true, List.isEmpty_cons, List.isEmpty_nil, ixT0, ixT1, ixT2, ixL0, ixL1, ixL2, isD_nn, isD_in, isD_sn, isD_tn, isN_nn, isN_in, isN_sn, isN_tn, Int.cast_ofNat_Int, Int.reduceEq, Int.reduceLT, Int.reduceLE, Bool.and_false, Bool.and_true, Bool.true_and, Bool.false_and, Bool.or_false, Bool.or_true, Bool.true_or, Bool.false_or, h, foD]
    rfl
theorem run_tail {l : List Nat} (h : Sh l) {a : Nat} (ha : a ≤ l.length) (w : W) : m_tail_at [.d (.str (S l)), .d (.int (a : Int))] w = some (.d (tailD (l.drop a)), w) := by
  suffices hs : ∃ e, b_tail_at [some (.d (.str (S l))), some (.d (.int (a : Int))), none, none, none, none, none, none, none] w = some (.rt (.d (tailD (l.drop a))), e, w) by
    obtain ⟨e, he⟩ := hs
    exact fn_rt (e' := e) rfl he
  unfold b_tail_at
  rw [seq_nx (e1 := [some (.d (.str (S l))), some (.d (.int (a : Int))), some (.own []), some (.d (.int (a : Int))), none, none, none, none, none]) (w1 := w) (by push_cast)]
  have hfor : ∀ (b : Sx) (env : Ev) (w : W), mFor (mItems (mTup (mCons (mC (.tuple ((["a", "b", "rc"] : List Str).map .str))) (mCons (mTup (mCons (mC (.str ".post")) mNil)) (mCons (mTup (mCons (mC (.str ".dev")) mNil)) mNil))))) (mgName 4) b env w = mLoop (mgName 4) b [wordsD WS, wordsD [POSTS], wordsD [DEVS]] env w := by
    intro b env w
    unfold mFor
    rw [tails_it]
  unfold tailD tailR
  obtain ⟨e1, h1⟩ := bF_tail h ha (some (.d (.int (a : Int)))) none [] (by simp) WS ws_ok w
  cases q1 : wordR WS (l.drop a) with
  | none =>
    rw [q1] at h1
    exact ⟨e1, seq_rt ((hfor _ _ _).trans (loop_rt (by push_cast) h1))⟩
  | some z1 =>
    obtain ⟨f, k1⟩ := z1
    rw [q1] at h1
    have b1 := wordR_bound q1
    rw [List.length_drop] at b1
    obtain ⟨e2, h2⟩ := bF_tail h (a := a + k1) (by omega) (some (.d (.int (a : Int)))) (some (.d (wordD a WS (l.drop a)))) [foD f] (by simp) [POSTS] post_ok w
    dsimp only
    rw [List.drop_drop]
    cases q2 : wordR [POSTS] (l.drop (a + k1)) with
    | none =>
      rw [q2] at h2
      exact ⟨e2, seq_rt ((hfor _ _ _).trans ((loop_go (by push_cast) h1).trans (loop_rt (by push_cast) h2)))⟩
    | some z2 =>
      obtain ⟨p, k2⟩ := z2
      rw [q2] at h2
      have b2 := wordR_bound q2
      rw [List.length_drop] at b2
      obtain ⟨e3, h3⟩ := bF_tail h (a := a + k1 + k2) (by omega) (some (.d (.int (a : Int)))) (some (.d (wordD (a + k1) [POSTS] (l.drop (a + k1))))) [foD f, foD p] (by simp) [DEVS] dev_ok w
      dsimp only
      rw [List.drop_drop, show a + (k1 + k2) = a + k1 + k2 by omega]
      cases q3 : wordR [DEVS] (l.drop (a + k1 + k2)) with
      | none =>
        rw [q3] at h3
        exact ⟨e3, seq_rt ((hfor _ _ _).trans ((loop_go (by push_cast) h1).trans ((loop_go (by push_cast) h2).trans (loop_rt (by push_cast) h3))))⟩
      | some z3 =>
        obtain ⟨d, k3⟩ := z3
        rw [q3] at h3
        have b3 := wordR_bound q3
        rw [List.length_drop] at b3
        dsimp only
        rw [seq_nx ((hfor _ _ _).trans ((loop_go (by push_cast) h1).trans ((loop_go (by push_cast) h2).trans ((loop_go (by push_cast) h3).trans loop_nil))))]
        rw [List.length_drop]
        by_cases c : k1 + k2 + k3 = l.length - a
        · rw [if_pos c]
          have c' : ((a + k1 + k2 + k3 : Nat) : Int) = (l.length : Int) := by omega
          refine ex_nx (by push_cast [lenD_S h, neD_int, c']) ?_
          refine ex_nx (by push_cast) ?_
          exact ⟨_, ret_ok (tup_ok (cons_ok (by push_cast) (cons_ok (pick2 p 7 _ _ rfl) (cons_ok (pick2 d 8 _ _ rfl) nil_ok))) rfl (by simp))⟩
        · rw [if_neg c]
          have c' : ¬ ((a + k1 + k2 + k3 : Nat) : Int) = (l.length : Int) := by omega
          exact ⟨_, seq_rt (by push_cast [lenD_S h, neD_int, c'])⟩

structure Pt where
  ep : Nat
  ns : List Nat
  fo : Option (List Nat × Nat)
  po : Option Nat
  dv : Option Nat
def restR (e : Nat) (r : List Nat) : Option Pt := match numsR (r.length + 1) r with
  | none => none
  | some (ns, j) => if ns.length ≤ 60 then (match tailR (r.drop j) with
    | none => none
    | some (f, p, d) => some ⟨e, ns, f, p, d⟩) else none
def partsR (l : List Nat) : Option Pt := if 33 ∈ l then (match numR l with
  | none => none
  | some (n, k) => if l[k]? = some 33 then restR n (l.drop (k + 1)) else none) else restR 0 l
def ptD (p : Pt) : PyData := .tuple [.int (p.ep : Int), .tuple (intsD p.ns), foD p.fo, onD p.po, onD p.dv]
def opD (f : Pt → PyData) : Option Pt → PyData
  | none => .none
  | some p => f p
theorem numR_stop {l : List Nat} {n k : Nat} (hb : 33 ∈ l) (h : numR l = some (n, k)) : k < l.length := by
  unfold numR at h
  split at h
  · cases h
  · cases h
    have hp := List.takeWhile_prefix (p := dig) (l := l)
    rcases Nat.lt_or_ge (l.takeWhile dig).length l.length with q | q
    · exact q
    · have e : l.takeWhile dig = l := hp.eq_of_length (Nat.le_antisymm hp.length_le q)
      have hm : 33 ∈ l.takeWhile dig := by rw [e]; exact hb
      have := tw_dig l 33 hm
      omega
theorem rest_parts {l : List Nat} (h : Sh l) {a e : Nat} (ha : a ≤ l.length) (y : Option SD) (w : W) : ∃ e',
    mSeq (mSet 4 (mCall m_numbers_at (mCons (mVar 0) (mCons (mVar 2) mNil))))
     (mSeq (mIf (mTru (mOp isD (mVar 4) (mC .none))) (mRet (mC .none)) mNx)
     (mSeq (mSet 5 (mCall m_tail_at (mCons (mVar 0) (mCons (mOp ixD (mVar 4) (mC (.int 1))) mNil))))
     (mRet (mIf (mTru (mOp isD (mVar 5) (mC .none))) (mC .none) (mTup (mCons (mVar 1) (mCons (mOp ixD (mVar 4) (mC (.int 0))) (mStar (mVar 5) mNil)))))))) [some (.d (.str (S l))), some (.d (.int (e : Int))), some (.d (.int (a : Int))), y, none, none] w = some (.rt (.d (opD ptD (restR e (l.drop a)))), e', w) := by
  refine ex_nx (e1 := [some (.d (.str (S l))), some (.d (.int (e : Int))), some (.d (.int (a : Int))), y, some (.d (numsD a (l.drop a))), none]) (w1 := w) (by push_cast [run_numbers h ha]) ?_
  unfold numsD restR
  cases hq : numsR ((l.drop a).length + 1) (l.drop a) with
  | none => exact ex_rt (by push_cast)
  | some q =>
    obtain ⟨ns, j⟩ := q
    have hj := (numsR_bound hq).1
    rw [List.length_drop] at hj
    dsimp only
    unfold numsEnd
    by_cases c : ns.length ≤ 60
    · rw [if_pos c, if_pos c, List.drop_drop]
      refine ex_nx (by push_cast) ?_
      refine ex_nx (e1 := [some (.d (.str (S l))), some (.d (.int (e : Int))), some (.d (.int (a : Int))), y, some (.d (.tuple [.tuple (intsD ns), .int ((a + j : Nat) : Int)])), some (.d (tailD (l.drop (a + j))))]) (w1 := w) (by push_cast [run_tail h (a := a + j) (by omega)]) ?_
      unfold tailD
      cases ht : tailR (l.drop (a + j)) with
      | none => exact ⟨_, by push_cast [opD]⟩
      | some q =>
        obtain ⟨f, p, d⟩ := q
        exact ⟨_, by push_cast [opD, ptD]⟩
    · rw [if_neg c, if_neg c]
      exact ex_rt (by push_cast)
theorem run_parts {l : List Nat} (h : Sh l) (w : W) : m_parts_of [.d (.str (S l))] w = some (.d (opD ptD (partsR l)), w) := by
  refine fn_ex rfl ?_
  unfold b_parts_of
  refine ex_nx (e1 := [some (.d (.str (S l))), none, none, none, none, none]) (w1 := w) (by push_cast [isStr]) ?_
  refine ex_nx (e1 := [some (.d (.str (S l))), some (.d (.int ((0 : Nat) : Int))), some (.d (.int ((0 : Nat) : Int))), none, none, none]) (w1 := w) (by push_cast) ?_
  unfold partsR
  by_cases hb : 33 ∈ l
  · rw [if_pos hb]
    have hin : inD (.str "!") (.str (S l)) = some (.bool true) := by rw [strBang, inD_one, decide_eq_true hb]
    have r0 := run_number h (a := 0) (Nat.zero_le _) w
    rw [List.drop_zero] at r0
    have hz : (((0 : Nat) : Int)) = 0 := rfl
    rw [hz] at r0
    have st : mSet 3 (mCall m_number_at (mCons (mVar 0) (mCons (mC (.int 0)) mNil))) [some (.d (.str (S l))), some (.d (.int ((0 : Nat) : Int))), some (.d (.int ((0 : Nat) : Int))), none, none, none] w = some (.nx, [some (.d (.str (S l))), some (.d (.int ((0 : Nat) : Int))), some (.d (.int ((0 : Nat) : Int))), some (.d (numD 0 l)), none, none], w) := by
      push_cast [r0]
    unfold numD at st
    cases hn : numR l with
    | none =>
      rw [hn] at st
      exact ex_rt ((if_t (by push_cast [hin])).trans ((seq_nx st).trans (seq_rt (by push_cast))))
    | some q =>
      obtain ⟨n, k⟩ := q
      rw [hn] at st
      have hk := numR_stop hb hn
      obtain ⟨c, hc⟩ : ∃ c, l[k]? = some c := ⟨_, List.getElem?_eq_getElem hk⟩
      have hix : ixD (.str (S l)) (.int (k : Int)) = some (.str (S [c])) := ixD_S h hc
      dsimp only at st ⊢
      rw [hc]
      by_cases c33 : c = 33
      · subst c33
        rw [if_pos rfl]
        have hb' := hin
        refine ex_nx (e1 := [some (.d (.str (S l))), some (.d (.int (n : Int))), some (.d (.int ((k + 1 : Nat) : Int))), some (.d (.tuple [.int (n : Int), .int ((0 + k : Nat) : Int)])), none, none]) (w1 := w) ((if_t (e1 := [some (.d (.str (S l))), some (.d (.int ((0 : Nat) : Int))), some (.d (.int ((0 : Nat) : Int))), none, none, none]) (w1 := w) (by push_cast [hin])).trans ((seq_nx st).trans ((seq_nx (e1 := [some (.d (.str (S l))), some (.d (.int ((0 : Nat) : Int))), some (.d (.int ((0 : Nat) : Int))), some (.d (.tuple [.int (n : Int), .int ((0 + k : Nat) : Int)])), none, none]) (w1 := w) (by push_cast [hix, strBang, neD_S])).trans (by push_cast [addD1, Nat.zero_add])))) ?_
        exact rest_parts h (by omega) _ w
      · have c33' : ¬ (some c = some 33) := by simpa using c33
        have c34 : ¬ ([c] = [33]) := by simpa using c33
        rw [if_neg c33']
        exact ex_rt ((if_t (by push_cast [hin])).trans ((seq_nx st).trans (seq_rt (by push_cast [hix, strBang, neD_S, c34, opD]))))
  · rw [if_neg hb]
    have hin : inD (.str "!") (.str (S l)) = some (.bool false) := by rw [strBang, inD_one, decide_eq_false hb]
    refine ex_nx (e1 := [some (.d (.str (S l))), some (.d (.int ((0 : Nat) : Int))), some (.d (.int ((0 : Nat) : Int))), none, none, none]) (w1 := w) ((if_f (by push_cast [hin])).trans rfl) ?_
    exact rest_parts h (Nat.zero_le _) _ w
end Dn

set_option maxHeartbeats 4000000
namespace Dn
open PySem PySem.Spec PyProof.Rows L2 SX
open TL (numL pre joinL)

def bas (ns : List Nat) : List Nat := (ns.reverse.dropWhile (· == 0)).reverse
theorem bas_zero (ns : List Nat) : bas (ns ++ [0]) = bas ns := by
  unfold bas
  rw [List.reverse_append]
  rfl
theorem bas_pos (ns : List Nat) {n : Nat} (h : n ≠ 0) : bas (ns ++ [n]) = ns ++ [n] := by
  unfold bas
  rw [List.reverse_append, List.reverse_singleton, List.singleton_append, List.dropWhile_cons, if_neg (by simpa using h), List.reverse_cons, List.reverse_reverse]
theorem bas_pre (ns : List Nat) : bas ns <+: ns := by
  unfold bas
  have h := List.dropWhile_suffix (l := ns.reverse) (· == 0)
  have h2 := List.reverse_prefix.mpr h
  rwa [List.reverse_reverse] at h2
theorem bas_take (ns : List Nat) : ns.take (bas ns).length = bas ns := (List.prefix_iff_eq_take.mp (bas_pre ns)).symm
theorem intsD_len (ns : List Nat) : (intsD ns).length = ns.length := by unfold intsD; rw [List.length_map]
theorem intsD_get (ns : List Nat) (i : Nat) : (intsD ns)[i]? = ns[i]?.map fun n : Nat => .int (n : Int) := by unfold intsD; rw [List.getElem?_map]
theorem loop_based (ns : List Nat) (w : W) : ∀ (m f : Nat), m ≤ ns.length → m < f →
    mWhile cW1_based bW2_based f [some (.d (.tuple (intsD ns))), some (.d (.int (m : Int)))] w = some (.nx, [some (.d (.tuple (intsD ns))), some (.d (.int (((bas (ns.take m)).length : Nat) : Int)))], w)
  | m, 0, _, hf => by omega
  | 0, f + 1, _, _ => by
    rw [while_end (e1 := [some (.d (.tuple (intsD ns))), some (.d (.int ((0 : Nat) : Int)))]) (w1 := w) (by unfold cW1_based; push_cast [gtI_int])]
    rfl
  | m + 1, f + 1, hm, hf => by
    have h1 : (0 : Int) < ((m + 1 : Nat) : Int) := by omega
    have h2 : subI (.int ((m + 1 : Nat) : Int)) (.int 1) = some (.int (m : Int)) := by
      unfold subI int2
      dsimp only
      rw [show ((m + 1 : Nat) : Int) - 1 = (m : Int) by omega]
    obtain ⟨x, hx⟩ : ∃ x, ns[m]? = some x := ⟨_, List.getElem?_eq_getElem (by omega)⟩
    have h3 : ixD (.tuple (intsD ns)) (.int (m : Int)) = some (.int (x : Int)) := by
      show atI (intsD ns) (m : Int) = _
      rw [atI_nat, intsD_get, hx]
      rfl
    have hs : ns.take (m + 1) = ns.take m ++ [x] := by rw [List.take_add_one, hx]; rfl
    by_cases hz : x = 0
    · subst hz
      rw [while_go (e1 := [some (.d (.tuple (intsD ns))), some (.d (.int ((m + 1 : Nat) : Int)))]) (w1 := w) (e2 := [some (.d (.tuple (intsD ns))), some (.d (.int (m : Int)))]) (w2 := w) (by unfold cW1_based; push_cast [gtI_int, h1, h2, h3, eqD_int]) (by unfold bW2_based; push_cast [h2]),
        loop_based ns w m f (by omega) (by omega), hs, bas_zero]
    · have hz' : ¬ ((x : Int) = 0) := by omega
      rw [while_end (e1 := [some (.d (.tuple (intsD ns))), some (.d (.int ((m + 1 : Nat) : Int)))]) (w1 := w) (by unfold cW1_based; push_cast [gtI_int, h1, h2, h3, eqD_int, hz']), hs, bas_pos _ hz, ← hs, List.length_take, Nat.min_eq_left hm]
theorem run_based {ns : List Nat} (h : ns.length ≤ 1000) (w : W) : m_based [.d (.tuple (intsD ns))] w = some (.d (.tuple (intsD (bas ns))), w) := by
  refine fn_ex rfl ?_
  unfold b_based
  refine ex_nx (e1 := [some (.d (.tuple (intsD ns))), some (.d (.int (ns.length : Int)))]) (w1 := w) (by push_cast [lenD, intsD_len]) ?_
  refine ex_nx (loop_based ns w ns.length fuel (Nat.le_refl _) (by unfold fuel; omega)) ?_
  rw [List.take_length]
  have hc : cutL (intsD ns) none (some (((bas ns).length : Nat) : Int)) = intsD (bas ns) := by
    unfold cutL
    rw [HT.sIx_none, HT.sIx_nat, intsD_len, List.drop_zero, Nat.sub_zero, Nat.min_eq_left (bas_pre ns).length_le]
    unfold intsD
    rw [← List.map_take, bas_take]
  exact ⟨_, by push_cast [slD, hc]⟩

def widx (x : List Nat) : Nat := if x = [97] then 0 else if x = [98] then 1 else 2
def ownK : Option Nat → List Nat
  | none => [1]
  | some d => [0, d]
def tailK (fo : Option (List Nat × Nat)) (po dv : Option Nat) : List Nat := match fo, po with
  | some (x, n), none => [1, widx x, n] ++ ownK dv
  | some (x, n), some p => [1, widx x, n] ++ [2, p] ++ ownK dv
  | none, some p => [3, p] ++ ownK dv
  | none, none => (match dv with
    | none => [2]
    | some d => [0, d])
theorem idx_ws {x : List Nat} (h : x ∈ WS) : idxD ["a", "b", "rc"] [.str (S x)] = some (.int ((widx x : Nat) : Int)) := by
  unfold WS at h
  simp only [List.mem_cons, List.not_mem_nil, or_false] at h
  rcases h with rfl | rfl | rfl <;> rfl
theorem run_tailof {fo : Option (List Nat × Nat)} (hf : ∀ x n, fo = some (x, n) → x ∈ WS) (po dv : Option Nat) (w : W) : m_tail_of [.d (foD fo), .d (onD po), .d (onD dv)] w = some (.d (.tuple (intsD (tailK fo po dv))), w) := by
  refine fn_ex rfl ?_
  unfold b_tail_of
  have sz : ∀ a b : Nat, a + b ≤ 20 → a + b ≤ sizeLine := fun a b h => by rw [sizeLine_eq]; omega
  cases fo with
  | none =>
    cases po <;> cases dv
    · exact ⟨_, by push_cast [foD, onD, tailK, intsD]⟩
    · exact ⟨_, by push_cast [foD, onD, tailK, intsD]⟩
    · exact ⟨_, by push_cast [foD, onD, tailK, intsD, ownK, addD, addT, sizeLine_eq]⟩
    · exact ⟨_, by push_cast [foD, onD, tailK, intsD, ownK, addD, addT, sizeLine_eq]⟩
  | some q =>
    obtain ⟨x, n⟩ := q
    have hi := idx_ws (hf x n rfl)
    cases po <;> cases dv <;> exact ⟨_, by push_cast [foD, onD, tailK, intsD, ownK, addD, addT, sizeLine_eq, hi]⟩

theorem ws_ix {x : List Nat} (h : x ∈ WS) : ixD (.tuple ((["a", "b", "rc"] : List Str).map .str)) (.int ((widx x : Nat) : Int)) = some (.str (S x)) := by
  unfold WS at h
  simp only [List.mem_cons, List.not_mem_nil, or_false] at h
  rcases h with rfl | rfl | rfl <;> rfl
theorem cut3 (a b c : PyData) (r : List PyData) : cutL (a :: b :: c :: r) (some 3) none = r := by
  unfold cutL
  rw [HT.sIx_none, show (3 : Int) = ((3 : Nat) : Int) from rfl, HT.sIx_nat]
  have : min 3 (a :: b :: c :: r).length = 3 := by simp
  rw [this]
  simp
theorem cut2 (a b : PyData) (r : List PyData) : cutL (a :: b :: r) (some 2) none = r := by
  unfold cutL
  rw [HT.sIx_none, show (2 : Int) = ((2 : Nat) : Int) from rfl, HT.sIx_nat]
  have : min 2 (a :: b :: r).length = 2 := by simp
  rw [this]
  simp
theorem eqv_i (a b : Int) : PyData.eqv (.int a) (.int b) = decide (a = b) := by
  have h := eqD_int a b
  unfold eqD at h
  rw [if_pos (by rfl)] at h
  cases h
  rfl
theorem inD_23 (a : Int) : inD (.int a) (.tuple [.int 2, .int 3]) = some (.bool (decide (a = 2) || decide (a = 3))) := by
  unfold inD inS
  simp only [dOk, Bool.true_or, if_true, Option.map_some, List.any_cons, List.any_nil, eqv_i, Bool.or_false]
  rw [show decide (2 = a) = decide (a = 2) from decide_eq_decide.mpr ⟨Eq.symm, Eq.symm⟩, show decide (3 = a) = decide (a = 3) from decide_eq_decide.mpr ⟨Eq.symm, Eq.symm⟩]
theorem eqD_t2 (xs : List PyData) : eqD (.tuple xs) (.tuple [.int 2]) = some (.bool (PyData.eqvAll xs [.int 2])) := by
  unfold eqD
  rw [PyData.eqv, if_pos]
  rw [Bool.or_eq_true]
  exact .inr rfl
theorem eqA_t2 (a : Int) (xs : List PyData) : PyData.eqvAll (.int a :: xs) [.int 2] = (decide (a = 2) && xs.isEmpty) := by
  rw [PyData.eqvAll, eqv_i]
  cases xs <;> rfl
theorem run_split {fo : Option (List Nat × Nat)} (hf : ∀ x n, fo = some (x, n) → x ∈ WS) (po dv : Option Nat) (w : W) : m_split_tail [.d (.tuple (intsD (tailK fo po dv)))] w = some (.d (.tuple [foD fo, onD po, onD dv]), w) := by
  refine fn_ex rfl ?_
  unfold b_split_tail
  cases fo with
  | none =>
    cases po <;> cases dv
    · exact ⟨_, by push_cast [foD, onD, tailK, intsD, eqD_t2, eqA_t2]⟩
    · exact ⟨_, by push_cast [foD, onD, tailK, intsD, eqD_t2, eqA_t2, eqD_int, inD_23, Bool.or_false]⟩
    · exact ⟨_, by push_cast [foD, onD, tailK, intsD, ownK, eqD_t2, eqA_t2, eqD_int, inD_23, slD, cut2]⟩
    · exact ⟨_, by push_cast [foD, onD, tailK, intsD, ownK, eqD_t2, eqA_t2, eqD_int, inD_23, slD, cut2]⟩
  | some q =>
    obtain ⟨x, n⟩ := q
    have hi := ws_ix (hf x n rfl)
    rw [ws_data] at hi ⊢
    cases po <;> cases dv <;> exact ⟨_, by push_cast [foD, onD, tailK, intsD, ownK, eqD_t2, eqA_t2, eqD_int, inD_23, slD, cut2, cut3, hi]⟩

abbrev Sm (n : Nat) : Prop := n < 10 ^ 24
theorem sm_log {n : Nat} (h : Sm n) : (n : Int).natAbs.log2 < 1920 := by
  rw [Int.natAbs_natCast]
  by_cases hz : n = 0
  · subst hz; decide
  · have h1 : n < 2 ^ 80 := Nat.lt_of_lt_of_le h (by decide)
    exact Nat.lt_trans ((Nat.log2_lt hz).mpr h1) (by decide)
theorem strD_num {n : Nat} (h : Sm n) : strD [.int (n : Int)] = some (.str (S (numL n))) := by
  unfold strD
  dsimp only
  rw [if_pos (sm_log h), num_S]
theorem fmtD_num {n : Nat} (h : Sm n) : fmtD (.int (n : Int)) = some (.str (S (numL n))) := by
  unfold fmtD
  dsimp only
  rw [if_pos (sm_log h), num_S]
theorem fmtD_S {l : List Nat} (h : Sh l) : fmtD (.str (S l)) = some (.str (S l)) := by
  unfold fmtD
  dsimp only
  rw [if_pos (sh_line h)]
theorem addS_S {a b : List Nat} (h : Sh (a ++ b)) : addS (.str (S a)) (.str (S b)) = some (.str (S (a ++ b))) := by
  unfold addS
  dsimp only
  rw [if_pos (by rw [S_len, S_len, sizeLine_eq]; unfold Sh at h; rw [List.length_append] at h; omega), S_cat]
theorem addD_S {a b : List Nat} (h : Sh (a ++ b)) : addD (.str (S a)) (.str (S b)) = some (.str (S (a ++ b))) := addS_S h
theorem num24 {n : Nat} (h : Sm n) : (numL n).length ≤ 24 := TL.numL_len (by decide) h
theorem js_one {ms : List Ex} {m : Ex} {acc x : List Nat} {env : Ev} {w : W} (h : m env w = some (.d (.str (S x)), env, w)) (hs : Sh (acc ++ x)) : mJs (m :: ms) (S acc) env w = mJs ms (S (acc ++ x)) env w := by
  rw [mJs, seqE_of h]
  dsimp only
  rw [S_cat, if_pos (sh_line hs)]
theorem js_nil {acc : Str} {env : Ev} {w : W} : mJs [] acc env w = some (.d (.str acc), env, w) := rfl
theorem emp_S : Str.empty = S [] := rfl
/-- the texts of numbers -/
def numsS (ns : List Nat) : List PyData := ns.map fun n => .str (S (numL n))
theorem strsOf_nums : ∀ ns : List Nat, strsOf (numsS ns) = some ((ns.map numL).map S)
  | [] => rfl
  | n :: ns => by
    show strsOf (PyData.str (S (numL n)) :: numsS ns) = _
    unfold strsOf
    rw [strsOf_nums ns]
    rfl
theorem lens_nums : ∀ {ns : List Nat}, (∀ n ∈ ns, Sm n) → ((ns.map numL).map fun x => x.length).sum ≤ 24 * ns.length
  | [], _ => by simp
  | n :: ns, h => by
    have h1 := num24 (h n (by simp))
    have h2 := lens_nums (ns := ns) fun m hm => h m (by simp [hm])
    simp only [List.map_cons, List.sum_cons, List.length_cons]
    omega
theorem join_num {ns : List Nat} (h : ∀ n ∈ ns, Sm n) (hl : ns.length ≤ 1000) : joinD (.str (S [46])) [.list (numsS ns)] = some (.str (S (joinL [46] (ns.map numL)))) := by
  unfold joinD
  simp only [itemsD, strsOf_nums]
  rw [if_pos, join_S]
  unfold joinFits
  rw [decide_eq_true_iff, lens, S_len, List.length_map, List.length_map, List.length_singleton]
  have := lens_nums h
  omega
end Dn

set_option maxHeartbeats 4000000
namespace Dn
open PySem PySem.Spec PyProof.Rows L2 SX
open TL (numL pre joinL)

structure Pt.Wf (p : Pt) : Prop where
  ne : p.ns ≠ []
  len : p.ns.length ≤ 60
  sm : ∀ n ∈ p.ns, Sm n
  ep : Sm p.ep
  fo : ∀ x n, p.fo = some (x, n) → x ∈ WS ∧ Sm n
  po : ∀ n, p.po = some n → Sm n
  dv : ∀ n, p.dv = some n → Sm n
def epS (b : Bool) (e : Nat) : List Nat := if e = 0 ∧ b = false then [] else numL e ++ [33]
def foS : Option (List Nat × Nat) → List Nat
  | none => []
  | some (x, n) => x ++ numL n
def poS : Option Nat → List Nat
  | none => []
  | some n => POSTS ++ numL n
def dvS : Option Nat → List Nat
  | none => []
  | some n => DEVS ++ numL n
def nsS (ns : List Nat) : List Nat := joinL [46] (ns.map numL)
def prB (b : Bool) (p : Pt) : List Nat := epS b p.ep ++ (nsS p.ns ++ (foS p.fo ++ (poS p.po ++ dvS p.dv)))
def nrm (p : Pt) : Pt := { p with ns := if bas p.ns = [] then [0] else bas p.ns }
theorem nsS_len : ∀ {ns : List Nat}, (∀ n ∈ ns, Sm n) → (nsS ns).length ≤ 25 * ns.length
  | [], _ => by simp [nsS, joinL]
  | [n], h => by
    have := num24 (h n (by simp))
    simp only [nsS, List.map_cons, List.map_nil, joinL, List.length_cons, List.length_nil]
    omega
  | n :: m :: ns, h => by
    have h1 := num24 (h n (by simp))
    have h2 := nsS_len (ns := m :: ns) fun k hk => h k (List.mem_cons_of_mem _ hk)
    simp only [nsS, List.map_cons, joinL, List.length_append, List.length_cons, List.length_nil] at h2 ⊢
    omega
theorem epS_len {b : Bool} {e : Nat} (h : Sm e) : (epS b e).length ≤ 25 := by
  unfold epS
  split
  · simp
  · have := num24 h
    simp only [List.length_append, List.length_cons, List.length_nil]
    omega
theorem ws_len {x : List Nat} (h : x ∈ WS) : x.length ≤ 2 := by
  unfold WS at h
  simp only [List.mem_cons, List.not_mem_nil, or_false] at h
  rcases h with rfl | rfl | rfl <;> decide
theorem foS_len {p : Pt} (h : p.Wf) : (foS p.fo).length ≤ 26 := by
  have q := h.fo
  cases e : p.fo with
  | none => simp [foS]
  | some z =>
    obtain ⟨x, n⟩ := z
    have h1 := ws_len (q x n e).1
    have h2 := num24 (q x n e).2
    simp only [foS, List.length_append]
    omega
theorem poS_len {p : Pt} (h : p.Wf) : (poS p.po).length ≤ 29 := by
  have q := h.po
  cases e : p.po with
  | none => simp [poS]
  | some n =>
    have h2 := num24 (q n e)
    simp only [poS, POSTS, List.length_append, List.length_cons, List.length_nil]
    omega
theorem dvS_len {p : Pt} (h : p.Wf) : (dvS p.dv).length ≤ 28 := by
  have q := h.dv
  cases e : p.dv with
  | none => simp [dvS]
  | some n =>
    have h2 := num24 (q n e)
    simp only [dvS, DEVS, List.length_append, List.length_cons, List.length_nil]
    omega
theorem prB_len {b : Bool} {p : Pt} (h : p.Wf) : (prB b p).length ≤ 2000 := by
  have h1 := epS_len (b := b) h.ep
  have h2 := nsS_len h.sm
  have h3 := foS_len h
  have h4 := poS_len h
  have h5 := dvS_len h
  have h6 := h.len
  unfold prB
  simp only [List.length_append]
  omega
theorem prB_sh {b : Bool} {p : Pt} (h : p.Wf) : Sh (prB b p) := by
  have := prB_len (b := b) h
  unfold Sh
  omega

def keyD (p : Pt) : PyData := .tuple [.int (p.ep : Int), .tuple (intsD (bas p.ns)), .tuple (intsD (tailK p.fo p.po p.dv))]
theorem run_key {p : Pt} (h : p.Wf) (w : W) : m_key_from [.d (ptD p)] w = some (.d (keyD p), w) := by
  refine fn_ex rfl ?_
  unfold b_key_from ptD
  have h1 := run_based (ns := p.ns) (by have := h.len; omega) w
  have h2 := run_tailof (fo := p.fo) (fun x n e => (h.fo x n e).1) p.po p.dv w
  refine ex_nx (by push_cast) ?_
  exact ⟨_, by push_cast [h1, h2, keyD]⟩

theorem lc_nums (w : W) (a b c d e f g h' : Option SD) : ∀ (ns : List Nat) (acc : List PyData), (∀ n ∈ ns, Sm n) →
    lcLoop (mgName 8) mYes eC1_text_of [8] (intsD ns) acc [a, b, c, d, e, f, g, h', none] w = some (acc ++ numsS ns, [a, b, c, d, e, f, g, h', none], w)
  | [], acc, _ => by
    unfold intsD numsS
    rw [List.map_nil, lc_nil, List.map_nil, List.append_nil]
  | n :: ns, acc, hn => by
    have hs := strD_num (hn n (by simp))
    have ih := lc_nums w a b c d e f g h' ns (acc ++ [.str (S (numL n))]) fun m hm => hn m (by simp [hm])
    show lcLoop (mgName 8) mYes eC1_text_of [8] (.int (n : Int) :: intsD ns) acc [a, b, c, d, e, f, g, h', none] w = _
    rw [lc_go (e1 := [a, b, c, d, e, f, g, h', some (.d (.int (n : Int)))]) (e2 := [a, b, c, d, e, f, g, h', some (.d (.int (n : Int)))]) (e3 := [a, b, c, d, e, f, g, h', some (.d (.int (n : Int)))]) (w2 := w) (w3 := w) (y := .str (S (numL n))) (by push_cast) (by push_cast) (by unfold eC1_text_of; push_cast [hs])]
    refine ih.trans ?_
    rw [List.append_assoc]
    rfl
theorem bas_mem {ns : List Nat} {n : Nat} (h : n ∈ bas ns) : n ∈ ns := (bas_pre ns).subset h
theorem ne_tup (xs : List Nat) : neD (.tuple (intsD xs)) (.tuple []) = some (.bool (!xs.isEmpty)) := by
  unfold neD
  rw [PyData.eqv, if_pos (by rw [Bool.or_eq_true]; exact .inr rfl)]
  cases xs with
  | nil => rfl
  | cons x xs => rfl
theorem aug_ok {g : PyData → PyData → Option PyData} {i : Nat} {m : Ex} {env e1 : Ev} {w w1 : W} {x y z : PyData} (h0 : env[i]? = some (some (.d x))) (hm : m env w = some (.d y, e1, w1)) (hz : g x y = some z) : mAug g i m env w = some (.nx, e1.set i (some (.d z)), w1) := by
  simp only [mAug, h0, seqE, hm, hz]
theorem sh_le {l : List Nat} (h : l.length ≤ 2000) : Sh l := by unfold Sh; omega
theorem run_text {p : Pt} (h : p.Wf) (w : W) : m_text_of [.d (keyD p)] w = some (.d (.str (S (prB false (nrm p)))), w) := by
  refine fn_ex rfl ?_
  unfold b_text_of keyD
  have L1 := epS_len (b := false) h.ep
  have L2 := nsS_len (ns := bas p.ns) fun n hn => h.sm n (bas_mem hn)
  have L2' := (bas_pre p.ns).length_le
  have L3 := foS_len h
  have L4 := poS_len h
  have L5 := dvS_len h
  have L6 := h.len
  have hsp := run_split (fo := p.fo) (fun x n e => (h.fo x n e).1) p.po p.dv w
  refine ex_nx (by push_cast) ?_
  refine ex_nx (by push_cast [hsp]) ?_
  refine ex_nx (e1 := [some (.d (.tuple [.int (p.ep : Int), .tuple (intsD (bas p.ns)), .tuple (intsD (tailK p.fo p.po p.dv))])), some (.d (.int (p.ep : Int))), some (.d (.tuple (intsD (bas p.ns)))), some (.d (.tuple (intsD (tailK p.fo p.po p.dv)))), some (.d (foD p.fo)), some (.d (onD p.po)), some (.d (onD p.dv)), some (.d (.str (S (epS false p.ep)))), none]) (w1 := w) ?_ ?_
  · unfold epS
    by_cases c : p.ep = 0
    · have c' : (p.ep : Int) = 0 := by omega
      rw [if_pos ⟨c, rfl⟩]
      push_cast [eqD_int, c', str0]
    · have c' : ¬ (p.ep : Int) = 0 := by omega
      rw [if_neg (fun z => c z.1)]
      have hj : ∀ (env : Ev), env[1]? = some (some (.d (.int (p.ep : Int)))) → mJs [(mFmt (mVar 1)), (mC (.str "!"))] Str.empty env w = some (.d (.str (S (numL p.ep ++ [33]))), env, w) := fun env he => by
        rw [emp_S, js_one (x := numL p.ep) (by simp only [mFmt, seqE, mVar, he, fmtD_num h.ep, optE]) (sh_le (by have := num24 h.ep; simp only [List.length_append, List.length_nil]; omega)),
          js_one (x := [33]) (by rw [strBang]; rfl) (sh_le (by have := num24 h.ep; simp only [List.length_append, List.length_nil, List.length_cons]; omega)), js_nil]
        rfl
      unfold mSet
      rw [if_f (e1 := [some (.d (.tuple [.int (p.ep : Int), .tuple (intsD (bas p.ns)), .tuple (intsD (tailK p.fo p.po p.dv))])), some (.d (.int (p.ep : Int))), some (.d (.tuple (intsD (bas p.ns)))), some (.d (.tuple (intsD (tailK p.fo p.po p.dv)))), some (.d (foD p.fo)), some (.d (onD p.po)), some (.d (onD p.dv)), none, none]) (w1 := w) (by push_cast [eqD_int, c']), hj _ rfl]
      rfl
  -- the numbers
  have hnsS : nsS (nrm p).ns = if bas p.ns = [] then [48] else nsS (bas p.ns) := by
    unfold nrm nsS
    dsimp only
    split
    · exact TL.numL_lt (n := 0) (by decide)
    · rfl
  refine ex_nx (e1 := [some (.d (.tuple [.int (p.ep : Int), .tuple (intsD (bas p.ns)), .tuple (intsD (tailK p.fo p.po p.dv))])), some (.d (.int (p.ep : Int))), some (.d (.tuple (intsD (bas p.ns)))), some (.d (.tuple (intsD (tailK p.fo p.po p.dv)))), some (.d (foD p.fo)), some (.d (onD p.po)), some (.d (onD p.dv)), some (.d (.str (S (epS false p.ep ++ nsS (nrm p).ns)))), none]) (w1 := w) ?_ ?_
  · rw [hnsS]
    by_cases c : bas p.ns = []
    · rw [if_pos c]
      have hs := addS_S (a := epS false p.ep) (b := [48]) (sh_le (by simp only [List.length_append, List.length_cons, List.length_nil]; omega))
      push_cast [ne_tup, c, strN, hs]
    · rw [if_neg c]
      have hs := addS_S (a := epS false p.ep) (b := nsS (bas p.ns)) (sh_le (by simp only [List.length_append]; omega))
      have hl := lc_nums w (some (.d (.tuple [.int (p.ep : Int), .tuple (intsD (bas p.ns)), .tuple (intsD (tailK p.fo p.po p.dv))]))) (some (.d (.int (p.ep : Int)))) (some (.d (.tuple (intsD (bas p.ns))))) (some (.d (.tuple (intsD (tailK p.fo p.po p.dv))))) (some (.d (foD p.fo))) (some (.d (onD p.po))) (some (.d (onD p.dv))) (some (.d (.str (S (epS false p.ep))))) (bas p.ns) [] fun n hn => h.sm n (bas_mem hn)
      have hj : joinD (.str (S [46])) [.list (numsS (bas p.ns))] = some (.str (S (nsS (bas p.ns)))) := join_num (ns := bas p.ns) (fun n hn => h.sm n (bas_mem hn)) (by omega)
      have hb : (bas p.ns).isEmpty = false := by
        cases q : bas p.ns with
        | nil => exact absurd q c
        | cons _ _ => rfl
      have hw : ∀ a b c d e f g h' i : Option SD, wipeE [a, b, c, d, e, f, g, h', i] [8] = [a, b, c, d, e, f, g, h', none] := fun _ _ _ _ _ _ _ _ _ => rfl
      have hr : ∀ a b c d e f g h' : Option SD, rst [a, b, c, d, e, f, g, h', none] [a, b, c, d, e, f, g, h', none] [8] = [a, b, c, d, e, f, g, h', none] := fun _ _ _ _ _ _ _ _ => rfl
      rw [List.nil_append] at hl
      push_cast [ne_tup, hb, strDot, mLc, hw, hl, hr, hj, hs]
  -- what stands behind
  unfold prB
  have Ln : (nsS (nrm p).ns).length ≤ 1501 := by
    rw [hnsS]
    split
    · simp
    · omega
  generalize hA : nsS (nrm p).ns = A at Ln ⊢
  show ∃ e, _ = some (Fl.rt (SD.d (.str (S (epS false p.ep ++ (A ++ (foS p.fo ++ (poS p.po ++ dvS p.dv))))))), e, w)
  refine ex_nx (e1 := [some (.d (.tuple [.int (p.ep : Int), .tuple (intsD (bas p.ns)), .tuple (intsD (tailK p.fo p.po p.dv))])), some (.d (.int (p.ep : Int))), some (.d (.tuple (intsD (bas p.ns)))), some (.d (.tuple (intsD (tailK p.fo p.po p.dv)))), some (.d (foD p.fo)), some (.d (onD p.po)), some (.d (onD p.dv)), some (.d (.str (S (epS false p.ep ++ (A ++ foS p.fo))))), none]) (w1 := w) ?_ ?_
  · cases hf : p.fo with
    | none => push_cast [foD, foS, List.append_nil]
    | some z =>
      obtain ⟨x, n⟩ := z
      have hw := h.fo x n hf
      rw [hf] at L3
      have l1 := ws_len hw.1
      have l2 := num24 hw.2
      have f1 := fmtD_S (sh_le (l := x) (by omega))
      have f2 := fmtD_num hw.2
      have s0 : ([] ++ x).length ≤ 2000 := by simp only [List.nil_append]; omega
      have s1 : ([] ++ x ++ numL n).length ≤ 2000 := by simp only [List.nil_append, List.length_append]; omega
      have hs := addS_S (a := epS false p.ep ++ A) (b := x ++ numL n) (sh_le (by simp only [List.length_append]; omega))
      have hj : ∀ (env : Ev), env[4]? = some (some (.d (.tuple [.str (S x), .int (n : Int)]))) → mJs [(mFmt (mOp ixD (mVar 4) (mC (.int 0)))), (mFmt (mOp ixD (mVar 4) (mC (.int 1))))] Str.empty env w = some (.d (.str (S (x ++ numL n))), env, w) := fun env he => by
        rw [emp_S, js_one (x := x) (by simp only [mFmt, mOp, mC, seqE, mVar, he, ixT0, f1, optE]) (sh_le s0), js_one (x := numL n) (by simp only [mFmt, mOp, mC, seqE, mVar, he, ixT1, f2, optE]) (sh_le s1), js_nil]
        rfl
      have e4 : foD (some (x, n)) = .tuple [.str (S x), .int (n : Int)] := rfl
      rw [e4, if_t (e1 := [some (.d (.tuple [.int (p.ep : Int), .tuple (intsD (bas p.ns)), .tuple (intsD (tailK (some (x, n)) p.po p.dv))])), some (.d (.int (p.ep : Int))), some (.d (.tuple (intsD (bas p.ns)))), some (.d (.tuple (intsD (tailK (some (x, n)) p.po p.dv)))), some (.d (.tuple [.str (S x), .int (n : Int)])), some (.d (onD p.po)), some (.d (onD p.dv)), some (.d (.str (S (epS false p.ep ++ A)))), none]) (w1 := w) (by push_cast)]
      refine (aug_ok rfl (hj _ rfl) hs).trans ?_
      simp only [foS, List.append_assoc]
      rfl
  refine ex_nx (e1 := [some (.d (.tuple [.int (p.ep : Int), .tuple (intsD (bas p.ns)), .tuple (intsD (tailK p.fo p.po p.dv))])), some (.d (.int (p.ep : Int))), some (.d (.tuple (intsD (bas p.ns)))), some (.d (.tuple (intsD (tailK p.fo p.po p.dv)))), some (.d (foD p.fo)), some (.d (onD p.po)), some (.d (onD p.dv)), some (.d (.str (S (epS false p.ep ++ (A ++ (foS p.fo ++ poS p.po)))))), none]) (w1 := w) ?_ ?_
  · cases hf : p.po with
    | none => push_cast [onD, poS, List.append_nil]
    | some n =>
      have hw := h.po n hf
      rw [hf] at L4
      have l2 := num24 hw
      have f1 := fmtD_S (sh_le (l := POSTS) (by decide))
      have f2 := fmtD_num hw
      have s0 : ([] ++ POSTS).length ≤ 2000 := by decide
      have s1 : ([] ++ POSTS ++ numL n).length ≤ 2000 := by
        have : POSTS.length = 5 := rfl
        simp only [List.nil_append, List.length_append]; omega
      have hs := addS_S (a := epS false p.ep ++ (A ++ foS p.fo)) (b := POSTS ++ numL n) (sh_le (by have : POSTS.length = 5 := rfl; simp only [List.length_append]; omega))
      have hj : ∀ (env : Ev), env[5]? = some (some (.d (.int (n : Int)))) → mJs [(mFmt (mC (.str ".post"))), (mFmt (mVar 5))] Str.empty env w = some (.d (.str (S (POSTS ++ numL n))), env, w) := fun env he => by
        rw [emp_S, post_data, js_one (x := POSTS) (by simp only [mFmt, mC, seqE, f1, optE]) (sh_le s0), js_one (x := numL n) (by simp only [mFmt, seqE, mVar, he, f2, optE]) (sh_le s1), js_nil]
        rfl
      have e4 : onD (some n) = .int (n : Int) := rfl
      rw [e4, if_t (e1 := [some (.d (.tuple [.int (p.ep : Int), .tuple (intsD (bas p.ns)), .tuple (intsD (tailK p.fo (some n) p.dv))])), some (.d (.int (p.ep : Int))), some (.d (.tuple (intsD (bas p.ns)))), some (.d (.tuple (intsD (tailK p.fo (some n) p.dv)))), some (.d (foD p.fo)), some (.d (.int (n : Int))), some (.d (onD p.dv)), some (.d (.str (S (epS false p.ep ++ (A ++ foS p.fo))))), none]) (w1 := w) (by push_cast)]
      refine (aug_ok rfl (hj _ rfl) hs).trans ?_
      simp only [poS, List.append_assoc]
      rfl
  cases hf : p.dv with
  | none => exact ⟨_, by push_cast [onD, dvS, List.append_nil]⟩
  | some n =>
    have hw := h.dv n hf
    rw [hf] at L5
    have l2 := num24 hw
    have lA : (epS false p.ep ++ (A ++ (foS p.fo ++ poS p.po))).length ≤ 1600 := by simp only [List.length_append]; omega
    have f0 := fmtD_S (sh_le (l := epS false p.ep ++ (A ++ (foS p.fo ++ poS p.po))) (by omega))
    have f1 := fmtD_S (sh_le (l := DEVS) (by decide))
    have f2 := fmtD_num hw
    have l4 : DEVS.length = 4 := rfl
    have hj : ∀ (env : Ev), env[7]? = some (some (.d (.str (S (epS false p.ep ++ (A ++ (foS p.fo ++ poS p.po))))))) → env[6]? = some (some (.d (.int (n : Int)))) →
        mJs [(mFmt (mVar 7)), (mFmt (mC (.str ".dev"))), (mFmt (mVar 6))] Str.empty env w = some (.d (.str (S (epS false p.ep ++ (A ++ (foS p.fo ++ poS p.po)) ++ DEVS ++ numL n))), env, w) := fun env he he2 => by
      rw [emp_S, dev_data, js_one (x := epS false p.ep ++ (A ++ (foS p.fo ++ poS p.po))) (by simp only [mFmt, mVar, he, seqE, f0, optE]) (sh_le (by rw [List.nil_append]; omega)), js_one (x := DEVS) (by simp only [mFmt, mC, seqE, f1, optE]) (sh_le (by rw [List.nil_append, List.length_append]; omega)), js_one (x := numL n) (by simp only [mFmt, seqE, mVar, he2, f2, optE]) (sh_le (by rw [List.nil_append, List.length_append, List.length_append]; omega)), js_nil]
      rfl
    have e4 : onD (some n) = .int (n : Int) := rfl
    have et : epS false p.ep ++ (A ++ (foS p.fo ++ (poS p.po ++ dvS (some n)))) = epS false p.ep ++ (A ++ (foS p.fo ++ poS p.po)) ++ DEVS ++ numL n := by simp only [dvS, List.append_assoc]
    rw [e4, et]
    exact ⟨_, ret_ok ((if_f (e1 := [some (.d (.tuple [.int (p.ep : Int), .tuple (intsD (bas p.ns)), .tuple (intsD (tailK p.fo p.po (some n)))])), some (.d (.int (p.ep : Int))), some (.d (.tuple (intsD (bas p.ns)))), some (.d (.tuple (intsD (tailK p.fo p.po (some n))))), some (.d (foD p.fo)), some (.d (onD p.po)), some (.d (.int (n : Int))), some (.d (.str (S (epS false p.ep ++ (A ++ (foS p.fo ++ poS p.po)))))), none]) (w1 := w) (by push_cast)).trans (hj _ rfl rfl))⟩

theorem run_isv {l : List Nat} (hl : Sh l) {p : Pt} (e : partsR l = some p) (w : W) : m_is_version [.d (.str (S l))] w = some (.d (.bool true), w) := by
  refine fn_ex rfl ?_
  unfold b_is_version
  have h1 := run_parts hl w
  rw [e] at h1
  have h1' : m_parts_of [.d (.str (S l))] w = some (.d (ptD p), w) := h1
  have h3 : isNotD (ptD p) .none = some (.bool true) := rfl
  exact ⟨_, by push_cast [h1', h3]⟩
end Dn

set_option maxHeartbeats 4000000
namespace Dn
open PySem PySem.Spec PyProof.Rows L2 SX
open TL (numL pre joinL)

/-- no figure comes first -/
def NoFig (r : List Nat) : Prop := ∀ c, r.head? = some c → dig c = false
theorem noFig_nil : NoFig [] := fun c h => by simp at h
theorem noFig_cons {c : Nat} {r : List Nat} (h : dig c = false) : NoFig (c :: r) := fun d e => by
  simp at e
  subst e
  exact h
theorem numL_dig (n : Nat) : ∀ c ∈ numL n, dig c = true := fun c hc => by
  have := TL.numL_digits n c hc
  unfold dig
  simpa using this
theorem tw_all {p : Nat → Bool} : ∀ {a r : List Nat}, (∀ c ∈ a, p c = true) → (∀ c, r.head? = some c → p c = false) → (a ++ r).takeWhile p = a
  | [], r, _, h => by
    rw [List.nil_append]
    cases r with
    | nil => rfl
    | cons c r => rw [List.takeWhile_cons, h c rfl]; rfl
  | x :: a, r, ha, h => by
    rw [List.cons_append, List.takeWhile_cons, ha x (by simp), if_pos rfl, tw_all (fun c hc => ha c (by simp [hc])) h]
theorem numL_head : ∀ (n : Nat), n ≠ 0 → (numL n).head? ≠ some 48 := by
  intro n
  induction n using Nat.strongRecOn with
  | ind n ih =>
    intro hn
    by_cases h : n < 10
    · rw [TL.numL_lt h]
      simp
      omega
    · have h1 := ih (n / 10) (by omega) (by omega)
      rw [TL.numL_step (by omega)]
      cases q : numL (n / 10) with
      | nil => exact absurd q (TL.numL_ne _)
      | cons c r =>
        rw [q] at h1
        exact h1
theorem numR_print {n : Nat} (h : Sm n) {r : List Nat} (hr : NoFig r) : numR (numL n ++ r) = some (n, (numL n).length) := by
  unfold numR
  rw [tw_all (numL_dig n) hr, TL.numL_val, if_neg]
  have h1 := num24 h
  rintro (z | z | z)
  · exact TL.numL_ne n z
  · omega
  · by_cases hn : n = 0
    · subst hn
      exact z.2 (TL.numL_lt (n := 0) (by decide))
    · exact numL_head n hn z.1
theorem drop_app (a b : List Nat) : (a ++ b).drop a.length = b := List.drop_left
theorem noFig_dot (r : List Nat) : NoFig (46 :: r) := noFig_cons (by decide)
theorem numL_cons (n : Nat) : ∃ c r, numL n = c :: r ∧ dig c = true := by
  cases q : numL n with
  | nil => exact absurd q (TL.numL_ne n)
  | cons c r => exact ⟨c, r, rfl, numL_dig n c (by rw [q]; simp)⟩
theorem nsS_cons (n m : Nat) (ns : List Nat) : nsS (n :: m :: ns) = numL n ++ (46 :: nsS (m :: ns)) := rfl
theorem nsS_one (n : Nat) : nsS [n] = numL n := rfl
theorem nsS_head (n : Nat) (ns : List Nat) : ∃ c r, nsS (n :: ns) = c :: r ∧ dig c = true := by
  obtain ⟨c, r, e, h⟩ := numL_cons n
  cases ns with
  | nil => exact ⟨c, r, by rw [nsS_one, e], h⟩
  | cons m ns => exact ⟨c, r ++ (46 :: nsS (m :: ns)), by rw [nsS_cons, e]; rfl, h⟩
theorem numsR_print : ∀ (ns : List Nat) {f : Nat} {r : List Nat}, ns ≠ [] → (∀ n ∈ ns, Sm n) → ns.length ≤ f → NoFig r → nxt r = false → numsR f (nsS ns ++ r) = some (ns, (nsS ns).length)
  | [], _, _, h, _, _, _, _ => absurd rfl h
  | [n], 0, _, _, _, hf, _, _ => by simp at hf
  | [n], f + 1, r, _, hs, _, hr, hx => by
    unfold numsR
    rw [nsS_one, numR_print (hs n (by simp)) hr]
    dsimp only
    rw [drop_app, hx]
    rfl
  | n :: m :: ns, 0, _, _, _, hf, _, _ => by simp at hf
  | n :: m :: ns, f + 1, r, _, hs, hf, hr, hx => by
    have ih := numsR_print (m :: ns) (f := f) (r := r) (by simp) (fun k hk => hs k (List.mem_cons_of_mem _ hk)) (by simp at hf ⊢; omega) hr hx
    unfold numsR
    rw [nsS_cons, List.append_assoc, List.cons_append, numR_print (hs n (by simp)) (noFig_dot _)]
    dsimp only
    obtain ⟨c, q, e, hd⟩ := nsS_head m ns
    have hn : nxt (46 :: (nsS (m :: ns) ++ r)) = true := by
      rw [e]
      exact hd
    have hd1 : (numL n ++ 46 :: (nsS (m :: ns) ++ r)).drop ((numL n).length + 1) = nsS (m :: ns) ++ r := by
      rw [← List.drop_drop, drop_app]
      rfl
    rw [drop_app, hn, if_pos rfl, hd1, ih]
    simp
    omega

def Dot0 (r : List Nat) : Prop := r = [] ∨ ∃ q, r = 46 :: q
theorem dot0_fig {r : List Nat} (h : Dot0 r) : NoFig r := by
  rcases h with rfl | ⟨q, rfl⟩
  · exact noFig_nil
  · exact noFig_dot q
theorem poS_dot (po dv : Option Nat) : Dot0 (poS po ++ dvS dv) := by
  cases po with
  | some n => exact .inr ⟨_, rfl⟩
  | none =>
    cases dv with
    | some n => exact .inr ⟨_, rfl⟩
    | none => exact .inl rfl
theorem dvS_dot (dv : Option Nat) : Dot0 (dvS dv) := poS_dot none dv
theorem pre_head {s c : Nat} {S r : List Nat} (h : c ≠ s) : pre (s :: S) (c :: r) = false := TL.pre_of_head S r h
theorem word_fore {fo : Option (List Nat × Nat)} (hf : ∀ x n, fo = some (x, n) → x ∈ WS ∧ Sm n) {r : List Nat} (hr : Dot0 r) : wordR WS (foS fo ++ r) = some (fo, (foS fo).length) := by
  cases fo with
  | none =>
    show wordR WS r = some (none, 0)
    rcases hr with rfl | ⟨q, rfl⟩
    · rfl
    · unfold WS
      simp only [wordR, pre_head (c := 46) (s := 97) (by decide), pre_head (c := 46) (s := 98) (by decide), pre_head (c := 46) (s := 114) (by decide), Bool.false_eq_true, if_false]
  | some q =>
    obtain ⟨x, n⟩ := q
    obtain ⟨h1, h2⟩ := hf x n rfl
    have hn := numR_print h2 (dot0_fig hr)
    unfold WS at h1
    simp only [List.mem_cons, List.not_mem_nil, or_false] at h1
    have key : ∀ y : List Nat, (y ++ (numL n ++ r)).drop y.length = numL n ++ r := fun y => drop_app y _
    rcases h1 with rfl | rfl | rfl
    · show wordR WS ([97] ++ numL n ++ r) = _
      rw [List.append_assoc]
      unfold WS wordR
      rw [TL.pre_self, if_pos rfl, key, hn]
      simp [foS]
      omega
    · show wordR WS ([98] ++ numL n ++ r) = _
      rw [List.append_assoc]
      unfold WS wordR
      rw [show pre [97] ([98] ++ (numL n ++ r)) = false from pre_head (by decide)]
      unfold wordR
      rw [TL.pre_self, if_pos rfl, key, hn]
      simp [foS]
      omega
    · show wordR WS ([114, 99] ++ numL n ++ r) = _
      rw [List.append_assoc]
      unfold WS wordR
      rw [show pre [97] ([114, 99] ++ (numL n ++ r)) = false from pre_head (by decide)]
      unfold wordR
      rw [show pre [98] ([114, 99] ++ (numL n ++ r)) = false from pre_head (by decide)]
      unfold wordR
      rw [TL.pre_self, if_pos rfl, key, hn]
      simp [foS]
      omega
theorem word_one {y : List Nat} {n : Nat} (h : Sm n) {r : List Nat} (hr : Dot0 r) : wordR [y] (y ++ numL n ++ r) = some (some (y, n), (y ++ numL n).length) := by
  have hn := numR_print h (dot0_fig hr)
  rw [List.append_assoc]
  unfold wordR
  rw [TL.pre_self, if_pos rfl, drop_app, hn, List.length_append]
theorem word_post {po : Option Nat} (hp : ∀ n, po = some n → Sm n) (dv : Option Nat) : wordR [POSTS] (poS po ++ dvS dv) = some (po.map fun n => (POSTS, n), (poS po).length) := by
  cases po with
  | some n => exact word_one (hp n rfl) (dvS_dot dv)
  | none =>
    cases dv with
    | none => rfl
    | some d =>
      show wordR [POSTS] (DEVS ++ numL d) = some (none, 0)
      have : pre POSTS (DEVS ++ numL d) = false := by
        unfold POSTS DEVS pre
        simp
      unfold wordR
      rw [this]
      rfl
theorem word_dev {dv : Option Nat} (hp : ∀ n, dv = some n → Sm n) : wordR [DEVS] (dvS dv) = some (dv.map fun n => (DEVS, n), (dvS dv).length) := by
  cases dv with
  | none => rfl
  | some n =>
    have := word_one (y := DEVS) (hp n rfl) (r := []) (.inl rfl)
    rw [List.append_nil] at this
    exact this
theorem tail_print {p : Pt} (h : p.Wf) : tailR (foS p.fo ++ (poS p.po ++ dvS p.dv)) = some (p.fo, p.po, p.dv) := by
  unfold tailR
  rw [word_fore h.fo (poS_dot p.po p.dv)]
  dsimp only
  rw [drop_app, word_post h.po]
  dsimp only
  rw [← List.drop_drop, drop_app, drop_app, word_dev h.dv]
  dsimp only
  rw [if_pos (by simp only [List.length_append]; omega)]
  cases p.po <;> cases p.dv <;> rfl

def tlS (p : Pt) : List Nat := foS p.fo ++ (poS p.po ++ dvS p.dv)
theorem tlS_cases {p : Pt} (h : p.Wf) : tlS p = [] ∨ ∃ c q, tlS p = c :: q ∧ dig c = false ∧ (c = 46 → ∃ d q', q = d :: q' ∧ dig d = false) := by
  unfold tlS
  have hf := h.fo
  cases e : p.fo with
  | some z =>
    obtain ⟨x, n⟩ := z
    have hx := (hf x n e).1
    unfold WS at hx
    simp only [List.mem_cons, List.not_mem_nil, or_false] at hx
    rcases hx with rfl | rfl | rfl
    · exact .inr ⟨97, _, rfl, by decide, fun z => absurd z (by decide)⟩
    · exact .inr ⟨98, _, rfl, by decide, fun z => absurd z (by decide)⟩
    · exact .inr ⟨114, _, rfl, by decide, fun z => absurd z (by decide)⟩
  | none =>
    cases p.po with
    | some n => exact .inr ⟨46, _, rfl, by decide, fun _ => ⟨112, _, rfl, by decide⟩⟩
    | none =>
      cases p.dv with
      | some n => exact .inr ⟨46, _, rfl, by decide, fun _ => ⟨100, _, rfl, by decide⟩⟩
      | none => exact .inl rfl
theorem tlS_fig {p : Pt} (h : p.Wf) : NoFig (tlS p) := by
  rcases tlS_cases h with e | ⟨c, q, e, hc, _⟩
  · rw [e]; exact noFig_nil
  · rw [e]; exact noFig_cons hc
theorem tlS_nxt {p : Pt} (h : p.Wf) : nxt (tlS p) = false := by
  rcases tlS_cases h with e | ⟨c, q, e, hc, hd⟩
  · rw [e]; rfl
  · rw [e]
    unfold nxt
    split
    · rename_i z
      cases z
      obtain ⟨d, q', e', hd'⟩ := hd rfl
      cases e'
      exact hd'
    · rfl
theorem rest_print {p : Pt} (h : p.Wf) : restR p.ep (nsS p.ns ++ tlS p) = some p := by
  have hl : p.ns.length ≤ (nsS p.ns).length := by
    have : ∀ ns : List Nat, ns.length ≤ (nsS ns).length := by
      intro ns
      induction ns with
      | nil => exact Nat.zero_le _
      | cons n ns ih =>
        obtain ⟨c, r, e, _⟩ := numL_cons n
        cases ns with
        | nil => rw [nsS_one, e]; simp
        | cons m ns =>
          rw [nsS_cons, e]
          simp only [List.length_append, List.length_cons] at ih ⊢
          omega
    exact this _
  unfold restR
  rw [numsR_print p.ns h.ne h.sm (by rw [List.length_append]; omega) (tlS_fig h) (tlS_nxt h)]
  dsimp only
  rw [if_pos h.len, drop_app]
  unfold tlS
  rw [tail_print h]
theorem bang_num (n : Nat) : 33 ∉ numL n := TL.numL_free (.inl (by decide))
theorem bang_ns : ∀ ns : List Nat, 33 ∉ nsS ns
  | [] => by simp [nsS, joinL]
  | [n] => bang_num n
  | n :: m :: ns => by
    rw [nsS_cons]
    have h1 := bang_num n
    have h2 := bang_ns (m :: ns)
    simp [h1, h2]
theorem bang_tl {p : Pt} (h : p.Wf) : 33 ∉ tlS p := by
  unfold tlS
  have hf : 33 ∉ foS p.fo := by
    have q := h.fo
    cases e : p.fo with
    | none => simp [foS]
    | some z =>
      obtain ⟨x, n⟩ := z
      have hx := (q x n e).1
      have h1 := bang_num n
      unfold WS at hx
      simp only [List.mem_cons, List.not_mem_nil, or_false] at hx
      rcases hx with rfl | rfl | rfl <;> simp [foS, h1]
  have hp : 33 ∉ poS p.po := by
    cases p.po with
    | none => simp [poS]
    | some n => simp [poS, POSTS, bang_num n]
  have hd : 33 ∉ dvS p.dv := by
    cases p.dv with
    | none => simp [dvS]
    | some n => simp [dvS, DEVS, bang_num n]
  simp [hf, hp, hd]
theorem parts_print (b : Bool) {p : Pt} (h : p.Wf) : partsR (prB b p) = some p := by
  have hb : 33 ∉ nsS p.ns ++ tlS p := by
    have h1 := bang_ns p.ns
    have h2 := bang_tl h
    simp [h1, h2]
  have ep : prB b p = epS b p.ep ++ (nsS p.ns ++ tlS p) := rfl
  rw [ep]
  unfold partsR epS
  by_cases c : p.ep = 0 ∧ b = false
  · rw [if_pos c, List.nil_append, if_neg hb]
    have := rest_print h
    rw [c.1] at this
    exact this
  · rw [if_neg c, if_pos (by simp), List.append_assoc, numR_print h.ep (r := [33] ++ (nsS p.ns ++ tlS p)) (noFig_cons (by decide))]
    dsimp only
    have hg : (numL p.ep ++ ([33] ++ (nsS p.ns ++ tlS p)))[(numL p.ep).length]? = some 33 := by
      rw [List.getElem?_append_right (Nat.le_refl _), Nat.sub_self]
      rfl
    rw [hg, if_pos rfl, ← List.drop_drop, drop_app]
    exact rest_print h
theorem nrm_wf {p : Pt} (h : p.Wf) : (nrm p).Wf := by
  have hl := (bas_pre p.ns).length_le
  have h6 := h.len
  refine ⟨?_, ?_, ?_, h.ep, h.fo, h.po, h.dv⟩
  · unfold nrm
    dsimp only
    split
    · simp
    · assumption
  · unfold nrm
    dsimp only
    split
    · simp
    · omega
  · unfold nrm
    dsimp only
    split
    · intro n hn
      simp at hn
      subst hn
      decide
    · exact fun n hn => h.sm n (bas_mem hn)
theorem snoc_ind {α : Type} {P : List α → Prop} (h0 : P []) (hs : ∀ xs x, P xs → P (xs ++ [x])) (l : List α) : P l := by
  have h : ∀ m : List α, P m.reverse := fun m => by
    induction m with
    | nil => exact h0
    | cons x m ih => rw [List.reverse_cons]; exact hs _ _ ih
  have := h l.reverse
  rwa [List.reverse_reverse] at this
theorem bas_bas (ns : List Nat) : bas (bas ns) = bas ns := by
  have key : ∀ xs : List Nat, bas xs = [] ∨ ∃ ys n, bas xs = ys ++ [n] ∧ n ≠ 0 := by
    refine snoc_ind (.inl rfl) fun ys n ih => ?_
    by_cases hn : n = 0
    · subst hn; rw [bas_zero]; exact ih
    · rw [bas_pos _ hn]; exact .inr ⟨ys, n, rfl, hn⟩
  rcases key ns with e | ⟨ys, n, e, hn⟩
  · rw [e]; rfl
  · rw [e, bas_pos _ hn]
theorem bas_nrm (p : Pt) : bas (nrm p).ns = bas p.ns := by
  unfold nrm
  dsimp only
  split
  · rename_i h
    rw [h]
    rfl
  · exact bas_bas _
end Dn

set_option maxHeartbeats 4000000
namespace Dn
open PySem PySem.Spec PyProof.Rows L2
noncomputable section
def b__law_of : Sx :=
 (mRet (mOp ixD (mVar 1) (mCall m__law_draw (mCons (mVar 0) (mCons (mB lenD (mCons (mVar 1) mNil)) mNil)))))
def m__law_of : List SD → W → Option (SD × W) := mFn 2 2 b__law_of
def eC1__law_text : Ex :=
 (mB strD (mCons (mVar 6) mNil))
def b__law_text : Sx :=
 (mSeq (mSet 5 (mOp addD (mIf (mTru (mOp gtI (mVar 0) (mC (.int 0)))) (mOp addD (mB strD (mCons (mVar 0) mNil)) (mC (.str "!"))) (mC (.str ""))) (mMtS joinD (mC (.str ".")) (mCons (mFz (mLc (mItems (mVar 1)) (mgName 6) mYes eC1__law_text [6])) mNil))))
 (mSeq (mSet 5 (mOp addD (mVar 5) (mIf (mTru (mOp neD (mVar 2) (mFz (mLst mNil)))) (mOp addD (mOp ixD (mVar 2) (mC (.int 0))) (mB strD (mCons (mOp ixD (mVar 2) (mC (.int 1))) mNil))) (mC (.str "")))))
 (mSeq (mSet 5 (mOp addD (mVar 5) (mIf (mTru (mOp neD (mVar 3) (mFz (mLst mNil)))) (mOp addD (mC (.str ".post")) (mB strD (mCons (mOp ixD (mVar 3) (mC (.int 0))) mNil))) (mC (.str "")))))
 (mRet (mOp addD (mVar 5) (mIf (mTru (mOp neD (mVar 4) (mFz (mLst mNil)))) (mOp addD (mC (.str ".dev")) (mB strD (mCons (mOp ixD (mVar 4) (mC (.int 0))) mNil))) (mC (.str ""))))))))
def m__law_text : List SD → W → Option (SD × W) := mFn 5 7 b__law_text
def bF1__law_parts : Sx :=
 (mIf (mAnd (mTru (mOp eqD (mVar 6) (mFz (mLst mNil)))) (mTru (mOp inD (mVar 7) (mVar 3)))) (mSeq (mAsg (mMtS partD (mVar 3) (mCons (mVar 7) mNil)) (mgTup 3 (mgCons (mgName 3) (mgCons (mgName 2) (mgCons (mgName 8) mgNil)))))
 (mSet 6 (mFz (mLst (mCons (mVar 7) (mCons (mB intD (mCons (mVar 8) mNil)) mNil)))))) mNx)
def eC2__law_parts : Ex :=
 (mB intD (mCons (mVar 8) mNil))
def b__law_parts : Sx :=
 (mSeq (mAsg (mMtS rpartD (mVar 0) (mCons (mC (.str "!")) mNil)) (mgTup 3 (mgCons (mgName 1) (mgCons (mgName 2) (mgCons (mgName 3) mgNil)))))
 (mSeq (mAsg (mMtS partD (mVar 3) (mCons (mC (.str ".dev")) mNil)) (mgTup 3 (mgCons (mgName 3) (mgCons (mgName 2) (mgCons (mgName 4) mgNil)))))
 (mSeq (mAsg (mMtS partD (mVar 3) (mCons (mC (.str ".post")) mNil)) (mgTup 3 (mgCons (mgName 3) (mgCons (mgName 2) (mgCons (mgName 5) mgNil)))))
 (mSeq (mSet 6 (mFz (mLst mNil)))
 (mSeq (mFor (mItems (mTup (mCons (mC (.str "rc")) (mCons (mC (.str "b")) (mCons (mC (.str "a")) mNil))))) (mgName 7) bF1__law_parts)
 (mSeq (mSet 9 (mFz (mLc (mItems (mMtS splitD (mVar 3) (mCons (mC (.str ".")) mNil))) (mgName 8) mYes eC2__law_parts [8])))
 (mRet (mTup (mCons (mB intD (mCons (mOp addD (mC (.str "0")) (mVar 1)) mNil)) (mCons (mVar 9) (mCons (mVar 6) (mCons (mIf (mTru (mOp neD (mVar 5) (mC (.str "")))) (mFz (mLst (mCons (mB intD (mCons (mVar 5) mNil)) mNil))) (mFz (mLst mNil))) (mCons (mIf (mTru (mOp neD (mVar 4) (mC (.str "")))) (mFz (mLst (mCons (mB intD (mCons (mVar 4) mNil)) mNil))) (mFz (mLst mNil))) mNil)))))))))))))
def m__law_parts : List SD → W → Option (SD × W) := mFn 1 10 b__law_parts
def cW1__law_base : Tx :=
 (mAnd (mTru (mPkOp neD 1 (mFz (mLst mNil)))) (mTru (mOp eqD (mPkIx 1 (mNeg (mC (.int 1)))) (mC (.int 0)))))
def b__law_base : Sx :=
 (mSeq (mSetO 1 (mListO (mCons (mOp ixD (mVar 0) (mC (.int 1))) mNil)))
 (mSeq (mWhile cW1__law_base (mPop 1) fuel)
 (mRet (mTup (mCons (mOp ixD (mVar 0) (mC (.int 0))) (mCons (mVar 1) mNil))))))
def m__law_base : List SD → W → Option (SD × W) := mFn 1 2 b__law_base
def b__law_key : Sx :=
 (mSeq (mSet 1 (mCall m__law_parts (mCons (mVar 0) mNil)))
 (mSeq (mAsg (mVar 1) (mgTup 5 (mgCons (mgName 2) (mgCons (mgName 3) (mgCons (mgName 4) (mgCons (mgName 5) (mgCons (mgName 6) mgNil)))))))
 (mSeq (mSet 7 (mIf (mTru (mOp neD (mVar 4) (mFz (mLst mNil)))) (mOp addD (mFz (mLst (mCons (mC (.int 1)) mNil))) (mVar 4)) (mFz (mLst (mCons (mIf (mAnd (mTru (mOp eqD (mVar 5) (mFz (mLst mNil)))) (mTru (mOp neD (mVar 6) (mFz (mLst mNil))))) (mC (.int 0)) (mC (.int 2))) mNil)))))
 (mRet (mTup (mCons (mCall m__law_base (mCons (mVar 1) mNil)) (mCons (mVar 7) (mCons (mIf (mTru (mOp neD (mVar 5) (mFz (mLst mNil)))) (mVar 5) (mFz (mLst (mCons (mNeg (mC (.int 1))) mNil)))) (mCons (mIf (mTru (mOp neD (mVar 6) (mFz (mLst mNil)))) (mOp addD (mFz (mLst (mCons (mC (.int 0)) mNil))) (mVar 6)) (mFz (mLst (mCons (mC (.int 1)) mNil)))) mNil)))))))))
def m__law_key : List SD → W → Option (SD × W) := mFn 1 8 b__law_key
def b__law_in_block : Sx :=
 (mSeq (mSet 3 (mOp addD (mOp ixD (mVar 0) (mC (.int 1))) (mOp mulD (mFz (mLst (mCons (mC (.int 0)) mNil))) (mB lenD (mCons (mVar 1) mNil)))))
 (mRet (mAndV (mOp eqD (mOp ixD (mVar 0) (mC (.int 0))) (mVar 2)) (mOp eqD (mSl (mVar 3) mNo (mPart (mB lenD (mCons (mVar 1) mNil)))) (mVar 1)))))
def m__law_in_block : List SD → W → Option (SD × W) := mFn 3 4 b__law_in_block
def b__law_clause_lets : Sx :=
 (mSeq (mAsg (mVar 0) (mgTup 2 (mgCons (mgName 2) (mgCons (mgName 3) mgNil))))
 (mSeq (mPar 4 5 (mCall m__law_key (mCons (mVar 1) mNil)) (mCall m__law_parts (mCons (mVar 1) mNil)))
 (mSeq (mSet 6 (mCall m__law_parts (mCons (mIf (mTru (mOp eqD (mSl (mVar 3) (mPart (mNeg (mC (.int 2)))) mNo) (mC (.str ".*")))) (mSl (mVar 3) mNo (mPart (mNeg (mC (.int 2))))) (mVar 3)) mNil)))
 (mSeq (mIf (mTru (mOp eqD (mSl (mVar 3) (mPart (mNeg (mC (.int 2)))) mNo) (mC (.str ".*")))) (mRet (mOp eqD (mCall m__law_in_block (mCons (mVar 5) (mCons (mOp ixD (mVar 6) (mC (.int 1))) (mCons (mOp ixD (mVar 6) (mC (.int 0))) mNil)))) (mOp eqD (mVar 2) (mC (.str "=="))))) mNx)
 (mSeq (mIf (mTru (mOp inD (mVar 2) (mTup (mCons (mC (.str "<")) (mCons (mC (.str ">")) mNil))))) (mSeq (mPar 7 8 (mCall m__law_base (mCons (mVar 5) mNil)) (mCall m__law_base (mCons (mVar 6) mNil)))
 (mRet (mIf (mTru (mOp eqD (mVar 2) (mC (.str "<")))) (mOp ltD (mVar 7) (mVar 8)) (mOp gtD (mVar 7) (mVar 8))))) mNx)
 (mSeq (mSet 9 (mCall m__law_key (mCons (mVar 3) mNil)))
 (mSeq (mIf (mTru (mOp eqD (mVar 2) (mC (.str "~=")))) (mRet (mAndV (mOp geD (mVar 4) (mVar 9)) (mCall m__law_in_block (mCons (mVar 5) (mCons (mSl (mOp ixD (mVar 6) (mC (.int 1))) mNo (mPart (mNeg (mC (.int 1))))) (mCons (mOp ixD (mVar 6) (mC (.int 0))) mNil)))))) mNx)
 (mRet (mDisp [(">=", (mOp geD (mVar 4) (mVar 9))), ("<=", (mOp leD (mVar 4) (mVar 9))), ("==", (mOp eqD (mVar 4) (mVar 9))), ("!=", (mOp neD (mVar 4) (mVar 9)))] (mVar 2))))))))))
def m__law_clause_lets : List SD → W → Option (SD × W) := mFn 2 10 b__law_clause_lets
def tC1__law_lets : Tx :=
 (mNot (mTru (mCall m__law_clause_lets (mCons (mVar 2) (mCons (mVar 1) mNil)))))
def eC2__law_lets : Ex :=
 (mC (.int 1))
def b__law_lets : Sx :=
 (mRet (mOp eqD (mFz (mLc (mItems (mVar 0)) (mgName 2) tC1__law_lets eC2__law_lets [2])) (mFz (mLst mNil))))
def m__law_lets : List SD → W → Option (SD × W) := mFn 2 3 b__law_lets
end
end Dn

set_option maxHeartbeats 4000000
namespace Dn
open PySem PySem.Spec PyProof.Rows L2 SX
open TL (numL pre joinL)

theorem pre_one (c : Nat) (l : List Nat) : pre [c] l = true ↔ l.head? = some c := by
  cases l with
  | nil => simp [pre]
  | cons d r => simp [pre]
theorem at_one (l : List Nat) (c i : Nat) : PySem.StrLaws.At (S l) (S [c]) (S l).length i ↔ l[i]? = some c := by
  rw [TL.at_iff (x := S l) (y := S [c]) (by simp) i]
  show pre [c] (l.drop i) = true ↔ _
  rw [pre_one, List.head?_drop]
theorem rpart_none {r : List Nat} (h : 33 ∉ r) : rpart (S r) (S [33]) = (S [], S [], S r) := by
  unfold rpart
  rcases PySem.StrLaws.last_spec (S r) (S [33]) with ⟨e, _⟩ | ⟨i, e, ha, _⟩
  · rw [e]
    rfl
  · rw [at_one] at ha
    exact absurd (List.mem_of_getElem? ha) h
theorem rpart_some {a r : List Nat} (h : 33 ∉ r) : rpart (S (a ++ 33 :: r)) (S [33]) = (S a, S [33], S r) := by
  have hat : (a ++ 33 :: r)[a.length]? = some 33 := by
    rw [List.getElem?_append_right (Nat.le_refl _), Nat.sub_self]
    rfl
  unfold rpart
  rcases PySem.StrLaws.last_spec (S (a ++ 33 :: r)) (S [33]) with ⟨e, hn⟩ | ⟨i, e, ha, hl⟩
  · exact absurd ((at_one _ _ _).mpr hat) (hn a.length)
  · rw [at_one] at ha
    have hi : i = a.length := by
      rcases Nat.lt_trichotomy i a.length with q | q | q
      · exact absurd ((at_one _ _ _).mpr hat) (hl a.length q)
      · exact q
      · rw [List.getElem?_append_right (by omega)] at ha
        obtain ⟨j, hj⟩ : ∃ j, i - a.length = j + 1 := ⟨i - a.length - 1, by omega⟩
        rw [hj, List.getElem?_cons_succ] at ha
        exact absurd (List.mem_of_getElem? ha) h
    rw [e]
    dsimp only
    subst hi
    have e1 : Builtin.Str.strSub (S (a ++ 33 :: r)) 0 a.length = S a := by
      refine TL.ext_tl ?_
      rw [TL.tl_strSub]
      show ((a ++ 33 :: r).drop 0).take (a.length - 0) = a
      rw [List.drop_zero, Nat.sub_zero, List.take_left]
    have e2 : Builtin.Str.strSub (S (a ++ 33 :: r)) (a.length + (S [33]).length) (S (a ++ 33 :: r)).length = S r := by
      refine TL.ext_tl ?_
      rw [TL.tl_strSub_end]
      show (a ++ 33 :: r).drop (a.length + 1) = r
      rw [← List.drop_drop, drop_app]
      rfl
    rw [e1, e2]
theorem rpartD_S {l a m r : List Nat} (hl : Sh l) (h : rpart (S l) (S [33]) = (S a, S m, S r)) : rpartD (.str (S l)) [.str (S [33])] = some (.tuple [.str (S a), .str (S m), .str (S r)]) := by
  unfold rpartD
  dsimp only
  rw [if_pos ⟨rfl, sh_line hl⟩, h]
theorem partD_some {l y a r : List Nat} (hl : Sh l) (hy : y ≠ []) (h : TL.par y [] l = some (a, r)) : partD (.str (S l)) [.str (S y)] = some (.tuple [.str (S a), .str (S y), .str (S r)]) := by
  unfold partD
  dsimp only
  rw [if_pos ⟨by rw [S_len]; cases y with | nil => exact absurd rfl hy | cons _ _ => rfl, sh_line hl⟩, SX.partition_some hy h]
theorem partD_none {l y : List Nat} (hl : Sh l) (hy : y ≠ []) (h : TL.par y [] l = none) : partD (.str (S l)) [.str (S y)] = some (.tuple [.str (S l), .str (S []), .str (S [])]) := by
  unfold partD
  dsimp only
  rw [if_pos ⟨by rw [S_len]; cases y with | nil => exact absurd rfl hy | cons _ _ => rfl, sh_line hl⟩, SX.partition_none hy h]
theorem pre_two {s t : Nat} {Z : List Nat} {l : List Nat} (h : pre (s :: t :: Z) l = true) : ∃ r, l = s :: t :: r := by
  have e := eq_of_beq h
  cases l with
  | nil => simp at e
  | cons a l =>
    cases l with
    | nil => simp at e
    | cons b l =>
      simp only [List.length_cons, List.take_succ_cons, List.cons.injEq] at e
      exact ⟨l, by rw [e.1, e.2.1]⟩
/-- the second sign of sep is not in p -/
theorem free_two {s t : Nat} {Z : List Nat} (hst : t ≠ s) : ∀ {p : List Nat}, t ∉ p → SX.free (s :: t :: Z) p = true
  | [], _ => rfl
  | c :: r, h => by
    have ih := free_two (Z := Z) hst (p := r) fun z => h (List.mem_cons_of_mem _ z)
    unfold SX.free
    rw [ih, Bool.and_true]
    cases q : pre (s :: t :: Z) (c :: (r ++ s :: t :: Z)) with
    | false => rfl
    | true =>
      obtain ⟨r', e⟩ := pre_two q
      cases r with
      | nil =>
        simp at e
        exact absurd e.2.1.symm hst
      | cons d r =>
        simp at e
        exact absurd (by rw [e.2.1]; simp) h
theorem par_two {s t : Nat} {Z p : List Nat} (q : List Nat) (hst : t ≠ s) (h : t ∉ p) : TL.par (s :: t :: Z) [] (p ++ (s :: t :: Z ++ q)) = some (p, q) := SX.par_free q (by simp) (free_two hst h)
theorem par_two_none {s t : Nat} {Z p : List Nat} (h : t ∉ p) : TL.par (s :: t :: Z) [] p = none := by
  refine TL.par_none fun i hi => ?_
  cases q : pre (s :: t :: Z) (p.drop i) with
  | false => rfl
  | true =>
    obtain ⟨r', e⟩ := pre_two q
    have : t ∈ p.drop i := by rw [e]; simp
    exact absurd (List.mem_of_mem_drop this) h
theorem inD_not {c : Nat} {s l : List Nat} (h : c ∉ l) : inD (.str (S (c :: s))) (.str (S l)) = some (.bool false) := by
  unfold inD inS
  rw [Option.map_some]
  refine congrArg some (congrArg PyData.bool ?_)
  cases q : (!(Builtin.Str.occurrences (S l) (S (c :: s)) 0 (S l).length 1).isEmpty) with
  | false => rfl
  | true =>
    obtain ⟨i, h1, h2⟩ := (PySem.StrLaws.found_iff (S l) (S (c :: s))).mp q
    have h3 := (TL.at_iff (x := S l) (y := S (c :: s)) (by simp) i).mp ⟨h1, h2⟩
    have e : (l.drop i).take (c :: s).length = c :: s := eq_of_beq h3
    have : c ∈ (l.drop i).take (c :: s).length := by rw [e]; simp
    exact absurd (List.mem_of_mem_drop (List.mem_of_mem_take this)) h
theorem inD_yes {x p q : List Nat} (hx : x ≠ []) : inD (.str (S x)) (.str (S (p ++ (x ++ q)))) = some (.bool true) := by
  unfold inD inS
  rw [Option.map_some]
  refine congrArg some (congrArg PyData.bool ?_)
  refine (PySem.StrLaws.found_iff _ _).mpr ⟨p.length, ?_⟩
  refine (TL.at_iff (x := S (p ++ (x ++ q))) (y := S x) hx p.length).mpr ?_
  show pre x ((p ++ (x ++ q)).drop p.length) = true
  rw [drop_app]
  exact TL.pre_self x q
theorem numL_all (n : Nat) : NumText.AllDigits (numL n) := TL.numL_digits n
theorem intD_num {n : Nat} (h : Sm n) : intD [.str (S (numL n))] = some (.int (n : Int)) := by
  rw [intS (numL_all n) (TL.numL_ne n) (num24 h), TL.numL_val]
theorem intD_0num {n : Nat} (h : Sm n) : intD [.str (S (48 :: numL n))] = some (.int (n : Int)) := by
  have h1 : NumText.AllDigits (48 :: numL n) := fun c hc => by
    rcases List.mem_cons.mp hc with rfl | hc
    · omega
    · exact numL_all n c hc
  have h2 := num24 h
  unfold intD
  dsimp only
  rw [PySem.intText_digits (x := S (48 :: numL n)) h1 (by simp) (by rw [S_len, List.length_cons]; omega)]
  dsimp only
  rw [if_pos (by rw [S_len, List.length_cons]; omega)]
  have e : NumText.digitsVal (48 :: numL n) = n := by
    have := TL.numL_val n
    unfold NumText.digitsVal at this ⊢
    exact this
  show some (PyData.int ((NumText.digitsVal (48 :: numL n) : Nat) : Int)) = _
  rw [e]
theorem intD_0 : intD [.str (S [48])] = some (.int 0) := by
  have := intD_num (n := 0) (by decide)
  rw [TL.numL_lt (n := 0) (by decide)] at this
  exact this

def foL : Option (List Nat × Nat) → PyData
  | none => .list []
  | some (x, n) => .list [.str (S x), .int (n : Int)]
def onL : Option Nat → PyData
  | none => .list []
  | some n => .list [.int (n : Int)]
def lpD (p : Pt) : PyData := .tuple [.int (p.ep : Int), .list (intsD p.ns), foL p.fo, onL p.po, onL p.dv]
theorem eqD_nil0 : eqD (.list []) (.list []) = some (.bool true) := rfl
theorem eqD_nil1 (x : PyData) (xs : List PyData) : eqD (.list (x :: xs)) (.list []) = some (.bool false) := by
  unfold eqD
  rw [PyData.eqv, if_pos (by rw [Bool.or_eq_true]; exact .inr rfl)]
  rfl
theorem neD_nil0 : neD (.list []) (.list []) = some (.bool false) := rfl
theorem neD_nil1 (x : PyData) (xs : List PyData) : neD (.list (x :: xs)) (.list []) = some (.bool true) := by
  unfold neD
  rw [PyData.eqv, if_pos (by rw [Bool.or_eq_true]; exact .inr rfl)]
  rfl
section
variable (t e m d p : Option SD) (u v z : Option SD) (w : W)
theorem lp_skip1 {c : Nat} {x r : List Nat} (h : c ∉ r) : bF1__law_parts [t, e, m, some (.d (.str (S r))), d, p, some (.d (.list [])), some (.d (.str (S (c :: x)))), v, z] w = some (.nx, [t, e, m, some (.d (.str (S r))), d, p, some (.d (.list [])), some (.d (.str (S (c :: x)))), v, z], w) := by
  unfold bF1__law_parts
  push_cast [eqD_nil0, inD_not h]
theorem lp_skip2 {y : PyData} {ys : List PyData} {x r : List Nat} : bF1__law_parts [t, e, m, some (.d (.str (S r))), d, p, some (.d (.list (y :: ys))), some (.d (.str (S x))), v, z] w = some (.nx, [t, e, m, some (.d (.str (S r))), d, p, some (.d (.list (y :: ys))), some (.d (.str (S x))), v, z], w) := by
  unfold bF1__law_parts
  push_cast [eqD_nil1]
theorem lp_hit {c : Nat} {x r : List Nat} {n : Nat} (hn : Sm n) (h : c ∉ r) (hs : Sh (r ++ (c :: x ++ numL n))) : bF1__law_parts [t, e, m, some (.d (.str (S (r ++ (c :: x ++ numL n))))), d, p, some (.d (.list [])), some (.d (.str (S (c :: x)))), v, z] w
    = some (.nx, [t, e, some (.d (.str (S (c :: x)))), some (.d (.str (S r))), d, p, some (.d (.list [.str (S (c :: x)), .int (n : Int)])), some (.d (.str (S (c :: x)))), some (.d (.str (S (numL n)))), z], w) := by
  have h1 := partD_some hs (y := c :: x) (by simp) (SX.par_head (sep := x) (numL n) h)
  have h2 : inD (.str (S (c :: x))) (.str (S (r ++ (c :: x ++ numL n)))) = some (.bool true) := inD_yes (by simp)
  generalize r ++ (c :: x ++ numL n) = l at h1 h2 ⊢
  unfold bF1__law_parts
  rw [if_t (e1 := [t, e, m, some (.d (.str (S l))), d, p, some (.d (.list [])), some (.d (.str (S (c :: x)))), v, z]) (w1 := w) (by push_cast [eqD_nil0, h2])]
  exact (seq_nx (e1 := [t, e, some (.d (.str (S (c :: x)))), some (.d (.str (S r))), d, p, some (.d (.list [])), some (.d (.str (S (c :: x)))), some (.d (.str (S (numL n)))), z]) (w1 := w) (by push_cast [h1])).trans (by push_cast [intD_num hn])
theorem sign_free {s : Nat} (hs : s = 97 ∨ s = 98 ∨ s = 114) : ∀ ns : List Nat, s ∉ nsS ns
  | [] => by simp [nsS, joinL]
  | [n] => TL.numL_free (.inr (by omega))
  | n :: k :: ns => by
    rw [nsS_cons]
    have h1 : s ∉ numL n := TL.numL_free (.inr (by omega))
    have h2 := sign_free hs (k :: ns)
    simp only [List.mem_append, List.mem_cons, not_or]
    exact ⟨h1, by omega, h2⟩
theorem lp_loop {ns : List Nat} {fo : Option (List Nat × Nat)} (hf : ∀ x n, fo = some (x, n) → x ∈ WS ∧ Sm n) (hs : Sh (nsS ns ++ foS fo)) : ∃ m' u' v',
    mLoop (mgName 7) bF1__law_parts [.str (S [114, 99]), .str (S [98]), .str (S [97])] [t, e, m, some (.d (.str (S (nsS ns ++ foS fo)))), d, p, some (.d (.list [])), u, v, z] w = some (.nx, [t, e, m', some (.d (.str (S (nsS ns)))), d, p, some (.d (foL fo)), u', v', z], w) := by
  have f1 := sign_free (s := 97) (.inl rfl) ns
  have f2 := sign_free (s := 98) (.inr (.inl rfl)) ns
  have f3 := sign_free (s := 114) (.inr (.inr rfl)) ns
  cases fo with
  | none =>
    have e0 : nsS ns ++ foS none = nsS ns := List.append_nil _
    rw [e0]
    refine ⟨m, _, v, (loop_go (by push_cast) (lp_skip1 t e m d p v z w f3)).trans ((loop_go (by push_cast) (lp_skip1 t e m d p v z w f2)).trans ((loop_go (by push_cast) (lp_skip1 t e m d p v z w f1)).trans loop_nil))⟩
  | some q =>
    obtain ⟨x, n⟩ := q
    obtain ⟨h1, h2⟩ := hf x n rfl
    have g2 : ∀ s : Nat, (s = 98 ∨ s = 114 ∨ s = 97) → s ∉ numL n := fun s hs => TL.numL_free (.inr (by omega))
    unfold WS at h1
    simp only [List.mem_cons, List.not_mem_nil, or_false] at h1
    rcases h1 with rfl | rfl | rfl
    · have a1 : 114 ∉ nsS ns ++ foS (some ([97], n)) := by
        simp only [foS, List.mem_append, List.mem_singleton, not_or]
        exact ⟨f3, by decide, g2 114 (by simp)⟩
      have a2 : 98 ∉ nsS ns ++ foS (some ([97], n)) := by
        simp only [foS, List.mem_append, List.mem_singleton, not_or]
        exact ⟨f2, by decide, g2 98 (by simp)⟩
      exact ⟨_, _, _, (loop_go (by push_cast) (lp_skip1 t e m d p v z w a1)).trans ((loop_go (by push_cast) (lp_skip1 t e m d p v z w a2)).trans ((loop_go (by push_cast) (lp_hit t e m d p v z w (x := []) h2 f1 hs)).trans loop_nil))⟩
    · have a1 : 114 ∉ nsS ns ++ foS (some ([98], n)) := by
        simp only [foS, List.mem_append, List.mem_singleton, not_or]
        exact ⟨f3, by decide, g2 114 (by simp)⟩
      exact ⟨_, _, _, (loop_go (by push_cast) (lp_skip1 t e m d p v z w a1)).trans ((loop_go (by push_cast) (lp_hit t e m d p v z w (x := []) h2 f2 hs)).trans ((loop_go (by push_cast) (lp_skip2 _ _ _ _ _ _ _ _)).trans loop_nil))⟩
    · exact ⟨_, _, _, (loop_go (by push_cast) (lp_hit t e m d p v z w (x := [99]) h2 f3 hs)).trans ((loop_go (by push_cast) (lp_skip2 _ _ _ _ _ _ _ _)).trans ((loop_go (by push_cast) (lp_skip2 _ _ _ _ _ _ _ _)).trans loop_nil))⟩
end
end Dn

set_option maxHeartbeats 4000000
namespace Dn
open PySem PySem.Spec PyProof.Rows L2 SX
open TL (numL pre joinL)

def onS : Option Nat → List Nat
  | none => []
  | some n => numL n
def mkS (y : List Nat) : Option Nat → List Nat
  | none => []
  | some _ => y
theorem dot_free {t : Nat} (ht : t = 100 ∨ t = 112) : ∀ ns : List Nat, t ∉ nsS ns
  | [] => by simp [nsS, joinL]
  | [n] => TL.numL_free (.inr (by omega))
  | n :: k :: ns => by
    rw [nsS_cons]
    have h1 : t ∉ numL n := TL.numL_free (.inr (by omega))
    have h2 := dot_free ht (k :: ns)
    simp only [List.mem_append, List.mem_cons, not_or]
    exact ⟨h1, by omega, h2⟩
theorem fo_free {t : Nat} (ht : t = 100 ∨ t = 112) {p : Pt} (h : p.Wf) : t ∉ foS p.fo := by
  have q := h.fo
  cases e : p.fo with
  | none => simp [foS]
  | some z =>
    obtain ⟨x, n⟩ := z
    have hx := (q x n e).1
    have h1 : t ∉ numL n := TL.numL_free (.inr (by omega))
    unfold WS at hx
    simp only [List.mem_cons, List.not_mem_nil, or_false] at hx
    rcases hx with rfl | rfl | rfl <;> simp only [foS, List.mem_append, List.mem_cons, List.not_mem_nil, or_false, not_or] <;> exact ⟨by omega, h1⟩
theorem part_dev {p : Pt} (h : p.Wf) : TL.par DEVS [] (nsS p.ns ++ (foS p.fo ++ (poS p.po ++ dvS p.dv))) = match p.dv with
    | none => none
    | some d => some (nsS p.ns ++ (foS p.fo ++ poS p.po), numL d) := by
  have hn : 100 ∉ nsS p.ns ++ (foS p.fo ++ poS p.po) := by
    have h1 := dot_free (t := 100) (.inl rfl) p.ns
    have h2 := fo_free (t := 100) (.inl rfl) h
    have h3 : 100 ∉ poS p.po := by
      cases p.po with
      | none => simp [poS]
      | some n => simp [poS, POSTS, (TL.numL_free (.inr (by decide)) : 100 ∉ numL n)]
    simp [h1, h2, h3]
  cases e : p.dv with
  | none =>
    show TL.par DEVS [] (nsS p.ns ++ (foS p.fo ++ (poS p.po ++ []))) = none
    rw [List.append_nil]
    exact par_two_none hn
  | some d =>
    have e1 : nsS p.ns ++ (foS p.fo ++ (poS p.po ++ dvS (some d))) = (nsS p.ns ++ (foS p.fo ++ poS p.po)) ++ (DEVS ++ numL d) := by simp only [dvS, List.append_assoc]
    rw [e1]
    exact par_two (numL d) (by decide) hn
theorem part_post {p : Pt} (h : p.Wf) : TL.par POSTS [] (nsS p.ns ++ (foS p.fo ++ poS p.po)) = match p.po with
    | none => none
    | some d => some (nsS p.ns ++ foS p.fo, numL d) := by
  have hn : 112 ∉ nsS p.ns ++ foS p.fo := by
    have h1 := dot_free (t := 112) (.inr rfl) p.ns
    have h2 := fo_free (t := 112) (.inr rfl) h
    simp [h1, h2]
  cases e : p.po with
  | none =>
    show TL.par POSTS [] (nsS p.ns ++ (foS p.fo ++ [])) = none
    rw [List.append_nil]
    exact par_two_none hn
  | some d =>
    have e1 : nsS p.ns ++ (foS p.fo ++ poS (some d)) = (nsS p.ns ++ foS p.fo) ++ (POSTS ++ numL d) := by simp only [poS, List.append_assoc]
    rw [e1]
    exact par_two (numL d) (by decide) hn
theorem split_ns {ns : List Nat} (hne : ns ≠ []) (hs : Sh (nsS ns)) : splitD (.str (S (nsS ns))) [.str (S [46])] = some (.list (numsS ns)) := by
  unfold splitD
  dsimp only
  rw [if_pos ⟨rfl, by rw [S_len, sizeLine_eq]; unfold Sh at hs; omega⟩, SX.split_S (by simp) (by decide)]
  unfold nsS
  rw [SX.spl_join (c := 46) (sep := []) (by simpa using hne) (fun p hp => by
    obtain ⟨n, _, rfl⟩ := List.mem_map.mp hp
    exact TL.numL_free (.inl (by decide)))]
  unfold numsS
  rw [List.map_map, List.map_map]
  rfl
theorem lc_ints (w : W) (a b c d e f g h' j : Option SD) : ∀ (ns : List Nat) (acc : List PyData), (∀ n ∈ ns, Sm n) →
    lcLoop (mgName 8) mYes eC2__law_parts [8] (numsS ns) acc [a, b, c, d, e, f, g, h', none, j] w = some (acc ++ intsD ns, [a, b, c, d, e, f, g, h', none, j], w)
  | [], acc, _ => by
    unfold intsD numsS
    rw [List.map_nil, lc_nil, List.map_nil, List.append_nil]
  | n :: ns, acc, hn => by
    have hs := intD_num (hn n (by simp))
    have ih := lc_ints w a b c d e f g h' j ns (acc ++ [.int (n : Int)]) fun m hm => hn m (by simp [hm])
    show lcLoop (mgName 8) mYes eC2__law_parts [8] (.str (S (numL n)) :: numsS ns) acc [a, b, c, d, e, f, g, h', none, j] w = _
    rw [lc_go (e1 := [a, b, c, d, e, f, g, h', some (.d (.str (S (numL n)))), j]) (e2 := [a, b, c, d, e, f, g, h', some (.d (.str (S (numL n)))), j]) (e3 := [a, b, c, d, e, f, g, h', some (.d (.str (S (numL n)))), j]) (w2 := w) (w3 := w) (y := .int (n : Int)) (by push_cast) (by push_cast) (by unfold eC2__law_parts; push_cast [hs])]
    refine ih.trans ?_
    rw [List.append_assoc]
    rfl
theorem lp_on {o : Option Nat} (ho : ∀ n, o = some n → Sm n) (i : Nat) (env : Ev) (w : W) (h : env[i]? = some (some (.d (.str (S (onS o)))))) :
    mIf (mTru (mOp neD (mVar i) (mC (.str "")))) (mFz (mLst (mCons (mB intD (mCons (mVar i) mNil)) mNil))) (mFz (mLst mNil)) env w = some (.d (onL o), env, w) := by
  cases o with
  | none =>
    have e : onS none = [] := rfl
    rw [e] at h
    rw [if_f (e1 := env) (w1 := w) (by simp only [mSeq, mSet, mVar, mC, mOp, seqE, optE, mTru, mAnd, mOr, mNot, mIf, mBl, mNil, mCons, mCall, mTup, argsD, dsOf, tupD, mFz, mLst, mRet, mDrop, mNx, mBk, mCt, mFail, mItems, itemsD, mRng, mgName, mgNil, mgCons, mgTup, mAsg, mFor, mNo, mPart, mSl, mB, mSetO, mAppend, mPop, mPkOp, mPkIx, mPkLen, mScrLen, mYes, mPar, mPar3, mParO, mAug, mMtS, mIs, mStar, mFmt, mJs, mAndV, mOrV, mListO, mCatO, mgUnl, truD, pk, mEnum, mStep, stepD, List.getElem?_cons_zero, List.getElem?_cons_succ, List.set_cons_zero, List.set_cons_succ, List.length_cons, List.length_nil, Option.map_some, Option.map_none, List.map_cons, List.map_nil, List.cons_append, List.nil_append, List.replicate, Nat.zero_add, Nat.reduceAdd, Nat.reduceSub, Nat.reduceLeDiff, if_true, if_false, Bool.not_true, Bool.not_false, reduceCtorEq, reduceIte, decide_true, decide_false, Bool.false_eq_true, List.isEmpty_cons, List.isEmpty_nil, ixT0, ixT1, ixT2, ixL0, ixL1, ixL2, isD_nn, isD_in, isD_sn, isD_tn, isN_nn, isN_in, isN_sn, isN_tn, Int.cast_ofNat_Int, Int.reduceEq, Int.reduceLT, Int.reduceLE, Bool.and_false, Bool.and_true, Bool.true_and, Bool.false_and, Bool.or_false, Bool.or_true, Bool.true_or, Bool.false_or, h, str0, neD_S])]
    push_cast
  | some n =>
    have e : onS (some n) = numL n := rfl
    rw [e] at h
    have hne : ¬ numL n = [] := TL.numL_ne n
    rw [if_t (e1 := env) (w1 := w) (by simp only [mSeq, mSet, mVar, mC, mOp, seqE, optE, mTru, mAnd, mOr, mNot, mIf, mBl, mNil, mCons, mCall, mTup, argsD, dsOf, tupD, mFz, mLst, mRet, mDrop, mNx, mBk, mCt, mFail, mItems, itemsD, mRng, mgName, mgNil, mgCons, mgTup, mAsg, mFor, mNo, mPart, mSl, mB, mSetO, mAppend, mPop, mPkOp, mPkIx, mPkLen, mScrLen, mYes, mPar, mPar3, mParO, mAug, mMtS, mIs, mStar, mFmt, mJs, mAndV, mOrV, mListO, mCatO, mgUnl, truD, pk, mEnum, mStep, stepD, List.getElem?_cons_zero, List.getElem?_cons_succ, List.set_cons_zero, List.set_cons_succ, List.length_cons, List.length_nil, Option.map_some, Option.map_none, List.map_cons, List.map_nil, List.cons_append, List.nil_append, List.replicate, Nat.zero_add, Nat.reduceAdd, Nat.reduceSub, Nat.reduceLeDiff, if_true, if_false, Bool.not_true, Bool.not_false, reduceCtorEq, reduceIte, decide_true, decide_false, Bool.false_eq_true, List.isEmpty_cons, List.isEmpty_nil, ixT0, ixT1, ixT2, ixL0, ixL1, ixL2, isD_nn, isD_in, isD_sn, isD_tn, isN_nn, isN_in, isN_sn, isN_tn, Int.cast_ofNat_Int, Int.reduceEq, Int.reduceLT, Int.reduceLE, Bool.and_false, Bool.and_true, Bool.true_and, Bool.false_and, Bool.or_false, Bool.or_true, Bool.true_or, Bool.false_or, h, str0, neD_S, hne])]
    simp only [mSeq, mSet, mVar, mC, mOp, seqE, optE, mTru, mAnd, mOr, mNot, mIf, mBl, mNil, mCons, mCall, mTup, argsD, dsOf, tupD, mFz, mLst, mRet, mDrop, mNx, mBk, mCt, mFail, mItems, itemsD, mRng, mgName, mgNil, mgCons, mgTup, mAsg, mFor, mNo, mPart, mSl, mB, mSetO, mAppend, mPop, mPkOp, mPkIx, mPkLen, mScrLen, mYes, mPar, mPar3, mParO, mAug, mMtS, mIs, mStar, mFmt, mJs, mAndV, mOrV, mListO, mCatO, mgUnl, truD, pk, mEnum, mStep, stepD, List.getElem?_cons_zero, List.getElem?_cons_succ, List.set_cons_zero, List.set_cons_succ, List.length_cons, List.length_nil, Option.map_some, Option.map_none, List.map_cons, List.map_nil, List.cons_append, List.nil_append, List.replicate, Nat.zero_add, Nat.reduceAdd, Nat.reduceSub, Nat.reduceLeDiff, if_true, if_false, Bool.not_true, Bool.not_false, reduceCtorEq, reduceIte, decide_true, decide_false, Bool.false_eq_true, List.isEmpty_cons, List.isEmpty_nil, ixT0, ixT1, ixT2, ixL0, ixL1, ixL2, isD_nn, isD_in, isD_sn, isD_tn, isN_nn, isN_in, isN_sn, isN_tn, Int.cast_ofNat_Int, Int.reduceEq, Int.reduceLT, Int.reduceLE, Bool.and_false, Bool.and_true, Bool.true_and, Bool.false_and, Bool.or_false, Bool.or_true, Bool.true_or, Bool.false_or, h, intD_num (ho n rfl)]
    rfl
theorem run_lparts (b : Bool) {p : Pt} (h : p.Wf) (w : W) : m__law_parts [.d (.str (S (prB b p)))] w = some (.d (lpD p), w) := by
  have hl := prB_len (b := b) h
  refine fn_ex rfl ?_
  unfold b__law_parts
  have Lr : (nsS p.ns ++ (foS p.fo ++ (poS p.po ++ dvS p.dv))).length ≤ 2000 := by
    have : prB b p = epS b p.ep ++ (nsS p.ns ++ (foS p.fo ++ (poS p.po ++ dvS p.dv))) := rfl
    rw [this, List.length_append] at hl
    omega
  have hb : 33 ∉ nsS p.ns ++ tlS p := by
    have h1 := bang_ns p.ns
    have h2 := bang_tl h
    simp [h1, h2]
  -- the epoch
  obtain ⟨a, m, hrp, hint⟩ : ∃ a m, rpart (S (prB b p)) (S [33]) = (S a, S m, S (nsS p.ns ++ (foS p.fo ++ (poS p.po ++ dvS p.dv)))) ∧ addD (.str (S [48])) (.str (S a)) = some (.str (S (48 :: a))) ∧ intD [.str (S (48 :: a))] = some (.int (p.ep : Int)) := by
    show ∃ a m, rpart (S (epS b p.ep ++ (nsS p.ns ++ tlS p))) (S [33]) = (S a, S m, S (nsS p.ns ++ tlS p)) ∧ _
    unfold epS
    by_cases c : p.ep = 0 ∧ b = false
    · rw [if_pos c, List.nil_append]
      refine ⟨[], [], rpart_none hb, addD_S (a := [48]) (b := []) (by decide), ?_⟩
      rw [c.1]
      exact intD_0
    · rw [if_neg c, List.append_assoc]
      refine ⟨numL p.ep, [33], rpart_some hb, addD_S (a := [48]) (b := numL p.ep) (sh_le (by have := num24 h.ep; simp only [List.length_append, List.length_cons, List.length_nil]; omega)), intD_0num h.ep⟩
  have hr := rpartD_S (sh_le hl) hrp
  have hp1 := part_dev h
  have hp2 := part_post h
  generalize prB b p = l at hr ⊢
  refine ex_nx (e1 := [some (.d (.str (S l))), some (.d (.str (S a))), some (.d (.str (S m))), some (.d (.str (S (nsS p.ns ++ (foS p.fo ++ (poS p.po ++ dvS p.dv)))))), none, none, none, none, none, none]) (w1 := w) (by push_cast [strBang, hr]) ?_
  have d1 : partD (.str (S (nsS p.ns ++ (foS p.fo ++ (poS p.po ++ dvS p.dv))))) [.str (S DEVS)] = some (.tuple [.str (S (nsS p.ns ++ (foS p.fo ++ poS p.po))), .str (S (mkS DEVS p.dv)), .str (S (onS p.dv))]) := by
    cases e : p.dv with
    | none =>
      rw [e] at hp1 Lr
      rw [partD_none (sh_le Lr) (by decide) hp1]
      simp only [dvS, List.append_nil, mkS, onS]
    | some d =>
      rw [e] at hp1 Lr
      exact partD_some (sh_le Lr) (by decide) hp1
  have L2 : (nsS p.ns ++ (foS p.fo ++ poS p.po)).length ≤ 2000 := by simp only [List.length_append] at Lr ⊢; omega
  have d2 : partD (.str (S (nsS p.ns ++ (foS p.fo ++ poS p.po)))) [.str (S POSTS)] = some (.tuple [.str (S (nsS p.ns ++ foS p.fo)), .str (S (mkS POSTS p.po)), .str (S (onS p.po))]) := by
    cases e : p.po with
    | none =>
      rw [e] at hp2 L2
      rw [partD_none (sh_le L2) (by decide) hp2]
      simp only [poS, List.append_nil, mkS, onS]
    | some d =>
      rw [e] at hp2 L2
      exact partD_some (sh_le L2) (by decide) hp2
  have L3 : (nsS p.ns ++ foS p.fo).length ≤ 2000 := by simp only [List.length_append] at L2 ⊢; omega
  have L4 : (nsS p.ns).length ≤ 2000 := by simp only [List.length_append] at L3; omega
  have hsp := split_ns h.ne (sh_le L4)
  generalize nsS p.ns ++ (foS p.fo ++ (poS p.po ++ dvS p.dv)) = r1 at d1 ⊢
  generalize nsS p.ns ++ (foS p.fo ++ poS p.po) = r2 at d1 d2 ⊢
  refine ex_nx (e1 := [some (.d (.str (S l))), some (.d (.str (S a))), some (.d (.str (S (mkS DEVS p.dv)))), some (.d (.str (S r2))), some (.d (.str (S (onS p.dv)))), none, none, none, none, none]) (w1 := w) (by push_cast [dev_data, d1]) ?_
  refine ex_nx (e1 := [some (.d (.str (S l))), some (.d (.str (S a))), some (.d (.str (S (mkS POSTS p.po)))), some (.d (.str (S (nsS p.ns ++ foS p.fo)))), some (.d (.str (S (onS p.dv)))), some (.d (.str (S (onS p.po)))), none, none, none, none]) (w1 := w) (by push_cast [post_data, d2]) ?_
  refine ex_nx (e1 := [some (.d (.str (S l))), some (.d (.str (S a))), some (.d (.str (S (mkS POSTS p.po)))), some (.d (.str (S (nsS p.ns ++ foS p.fo)))), some (.d (.str (S (onS p.dv)))), some (.d (.str (S (onS p.po)))), some (.d (.list [])), none, none, none]) (w1 := w) (by push_cast) ?_
  obtain ⟨m', u', v', hlp⟩ := lp_loop (some (.d (.str (S l)))) (some (.d (.str (S a)))) (some (.d (.str (S (mkS POSTS p.po))))) (some (.d (.str (S (onS p.dv))))) (some (.d (.str (S (onS p.po))))) none none none w (ns := p.ns) h.fo (sh_le L3)
  have hfor : ∀ (env : Ev), mFor (mItems (mTup (mCons (mC (.str "rc")) (mCons (mC (.str "b")) (mCons (mC (.str "a")) mNil))))) (mgName 7) bF1__law_parts env w = mLoop (mgName 7) bF1__law_parts [.str (S [114, 99]), .str (S [98]), .str (S [97])] env w := fun env => by
    unfold mFor
    simp only [mSeq, mSet, mVar, mC, mOp, seqE, optE, mTru, mAnd, mOr, mNot, mIf, mBl, mNil, mCons, mCall, mTup, argsD, dsOf, tupD, mFz, mLst, mRet, mDrop, mNx, mBk, mCt, mFail, mItems, itemsD, mRng, mgName, mgNil, mgCons, mgTup, mAsg, mFor, mNo, mPart, mSl, mB, mSetO, mAppend, mPop, mPkOp, mPkIx, mPkLen, mScrLen, mYes, mPar, mPar3, mParO, mAug, mMtS, mIs, mStar, mFmt, mJs, mAndV, mOrV, mListO, mCatO, mgUnl, truD, pk, mEnum, mStep, stepD, List.getElem?_cons_zero, List.getElem?_cons_succ, List.set_cons_zero, List.set_cons_succ, List.length_cons, List.length_nil, Option.map_some, Option.map_none, List.map_cons, List.map_nil, List.cons_append, List.nil_append, List.replicate, Nat.zero_add, Nat.reduceAdd, Nat.reduceSub, Nat.reduceLeDiff, if_true, if_false, Bool.not_true, Bool.not_false, reduceCtorEq, reduceIte, decide_true, decide_false, Bool.false_eq_true, List.isEmpty_cons, List.isEmpty_nil, ixT0, ixT1, ixT2, ixL0, ixL1, ixL2, isD_nn, isD_in, isD_sn, isD_tn, isN_nn, isN_in, isN_sn, isN_tn, Int.cast_ofNat_Int, Int.reduceEq, Int.reduceLT, Int.reduceLE, Bool.and_false, Bool.and_true, Bool.true_and, Bool.false_and, Bool.or_false, Bool.or_true, Bool.true_or, Bool.false_or]
    rfl
  refine ex_nx ((hfor _).trans hlp) ?_
  have hlc := lc_ints w (some (.d (.str (S l)))) (some (.d (.str (S a)))) m' (some (.d (.str (S (nsS p.ns))))) (some (.d (.str (S (onS p.dv))))) (some (.d (.str (S (onS p.po))))) (some (.d (foL p.fo))) u' none p.ns [] h.sm
  rw [List.nil_append] at hlc
  have hw : wipeE [some (.d (.str (S l))), some (.d (.str (S a))), m', some (.d (.str (S (nsS p.ns)))), some (.d (.str (S (onS p.dv)))), some (.d (.str (S (onS p.po)))), some (.d (foL p.fo)), u', v', none] [8] = [some (.d (.str (S l))), some (.d (.str (S a))), m', some (.d (.str (S (nsS p.ns)))), some (.d (.str (S (onS p.dv)))), some (.d (.str (S (onS p.po)))), some (.d (foL p.fo)), u', none, none] := rfl
  obtain ⟨v2, hrs⟩ : ∃ v2, rst [some (.d (.str (S l))), some (.d (.str (S a))), m', some (.d (.str (S (nsS p.ns)))), some (.d (.str (S (onS p.dv)))), some (.d (.str (S (onS p.po)))), some (.d (foL p.fo)), u', v', none] [some (.d (.str (S l))), some (.d (.str (S a))), m', some (.d (.str (S (nsS p.ns)))), some (.d (.str (S (onS p.dv)))), some (.d (.str (S (onS p.po)))), some (.d (foL p.fo)), u', none, none] [8] = [some (.d (.str (S l))), some (.d (.str (S a))), m', some (.d (.str (S (nsS p.ns)))), some (.d (.str (S (onS p.dv)))), some (.d (.str (S (onS p.po)))), some (.d (foL p.fo)), u', v2, none] := ⟨_, rfl⟩
  refine ex_nx (e1 := [some (.d (.str (S l))), some (.d (.str (S a))), m', some (.d (.str (S (nsS p.ns)))), some (.d (.str (S (onS p.dv)))), some (.d (.str (S (onS p.po)))), some (.d (foL p.fo)), u', v2, some (.d (.list (intsD p.ns)))]) (w1 := w) (by simp only [mSeq, mSet, mVar, mC, mOp, seqE, optE, mTru, mAnd, mOr, mNot, mIf, mBl, mNil, mCons, mCall, mTup, argsD, dsOf, tupD, mFz, mLst, mRet, mDrop, mNx, mBk, mCt, mFail, mItems, itemsD, mRng, mgName, mgNil, mgCons, mgTup, mAsg, mFor, mNo, mPart, mSl, mB, mSetO, mAppend, mPop, mPkOp, mPkIx, mPkLen, mScrLen, mYes, mPar, mPar3, mParO, mAug, mMtS, mIs, mStar, mFmt, mJs, mAndV, mOrV, mListO, mCatO, mgUnl, truD, pk, mEnum, mStep, stepD, List.getElem?_cons_zero, List.getElem?_cons_succ, List.set_cons_zero, List.set_cons_succ, List.length_cons, List.length_nil, Option.map_some, Option.map_none, List.map_cons, List.map_nil, List.cons_append, List.nil_append, List.replicate, Nat.zero_add, Nat.reduceAdd, Nat.reduceSub, Nat.reduceLeDiff, if_true, if_false, Bool.not_true, Bool.not_false, reduceCtorEq, reduceIte, decide_true, decide_false, Bool.false_eq_true, List.isEmpty_cons, List.isEmpty_nil, ixT0, ixT1, ixT2, ixL0, ixL1, ixL2, isD_nn, isD_in, isD_sn, isD_tn, isN_nn, isN_in, isN_sn, isN_tn, Int.cast_ofNat_Int, Int.reduceEq, Int.reduceLT, Int.reduceLE, Bool.and_false, Bool.and_true, Bool.true_and, Bool.false_and, Bool.or_false, Bool.or_true, Bool.true_or, Bool.false_or, strDot, hsp, mLc, hw, hlc, hrs]) ?_
  exact ⟨_, ret_ok (tup_ok (cons_ok (by push_cast [strN, hint.1, hint.2]) (cons_ok (by push_cast) (cons_ok (by push_cast) (cons_ok (lp_on h.po 5 _ _ rfl) (cons_ok (lp_on h.dv 4 _ _ rfl) nil_ok))))) rfl (by simp))⟩
end Dn

set_option maxHeartbeats 4000000
namespace Dn
open PySem PySem.Spec PyProof.Rows L2 SX
open TL (numL pre joinL)

theorem ix_last (xs : List PyData) (x : PyData) : ixD (.list (xs ++ [x])) (.int (-1)) = some x := by
  show atI (xs ++ [x]) (-1) = some x
  unfold atI ixN
  rw [if_neg (by decide), List.length_append, List.length_singleton, if_pos (by omega)]
  show (xs ++ [x])[((-1 : Int) + ((xs.length + 1 : Nat) : Int)).toNat]? = some x
  rw [show ((-1 : Int) + ((xs.length + 1 : Nat) : Int)).toNat = xs.length by omega, List.getElem?_append_right (Nat.le_refl _), Nat.sub_self]
  rfl
theorem intsD_snoc (ns : List Nat) (n : Nat) : intsD (ns ++ [n]) = intsD ns ++ [.int (n : Int)] := by unfold intsD; simp
theorem ne_snoc (xs : List PyData) (x : PyData) : neD (.list (xs ++ [x])) (.list []) = some (.bool true) := by
  cases xs with
  | nil => exact neD_nil1 _ _
  | cons y ys => exact neD_nil1 _ _
theorem loop_lbase (x : Option SD) (w : W) : ∀ (f : Nat) (ns : List Nat), ns.length < f →
    mWhile cW1__law_base (mPop 1) f [x, some (.own (intsD ns))] w = some (.nx, [x, some (.own (intsD (bas ns)))], w)
  | 0, ns, hf => by omega
  | f + 1, ns, hf => by
    rcases List.eq_nil_or_concat ns with rfl | ⟨ys, n, e⟩
    · rw [while_end (e1 := [x, some (.own (intsD []))]) (w1 := w) (by
        unfold cW1__law_base
        have : intsD [] = [] := rfl
        rw [this]
        push_cast [neD_nil0, flatO, flat])]
      rfl
    · have e' : ns = ys ++ [n] := by rw [e, List.concat_eq_append]
      subst e'
      rw [List.length_append, List.length_singleton] at hf
      have h1 := ne_snoc (intsD ys) (.int (n : Int))
      have h2 := ix_last (intsD ys) (.int (n : Int))
      by_cases hz : n = 0
      · subst hz
        rw [bas_zero, while_go (e1 := [x, some (.own (intsD (ys ++ [0])))]) (w1 := w) (e2 := [x, some (.own (intsD ys))]) (w2 := w) ?_ ?_]
        · exact loop_lbase x w f ys (by omega)
        · have h3 := ne_snoc (intsD ys) (.int 0)
          have h4 := ix_last (intsD ys) (.int 0)
          rw [intsD_snoc]
          unfold cW1__law_base
          simp only [mSeq, mSet, mVar, mC, mOp, seqE, optE, mTru, mAnd, mOr, mNot, mIf, mBl, mNil, mCons, mCall, mTup, argsD, dsOf, tupD, mFz, mLst, mRet, mDrop, mNx, mBk, mCt, mFail, mItems, itemsD, mRng, mgName, mgNil, mgCons, mgTup, mAsg, mFor, mNo, mPart, mSl, mB, mSetO, mAppend, mPop, mPkOp, mPkIx, mPkLen, mScrLen, mYes, mPar, mPar3, mParO, mAug, mMtS, mIs, mStar, mFmt, mJs, mAndV, mOrV, mListO, mCatO, mgUnl, truD, pk, mEnum, mStep, stepD, List.getElem?_cons_zero, List.getElem?_cons_succ, List.set_cons_zero, List.set_cons_succ, List.length_cons, List.length_nil, Option.map_some, Option.map_none, List.map_cons, List.map_nil, List.cons_append, List.nil_append, List.replicate, Nat.zero_add, Nat.reduceAdd, Nat.reduceSub, Nat.reduceLeDiff, if_true, if_false, Bool.not_true, Bool.not_false, reduceCtorEq, reduceIte, decide_true, decide_false, Bool.false_eq_true, List.isEmpty_cons, List.isEmpty_nil, ixT0, ixT1, ixT2, ixL0, ixL1, ixL2, isD_nn, isD_in, isD_sn, isD_tn, isN_nn, isN_in, isN_sn, isN_tn, Int.cast_ofNat_Int, Int.reduceEq, Int.reduceLT, Int.reduceLE, Bool.and_false, Bool.and_true, Bool.true_and, Bool.false_and, Bool.or_false, Bool.or_true, Bool.true_or, Bool.false_or, mNeg, h3, h4, flatO, flat, eqD_int]
        · rw [intsD_snoc]
          unfold mPop
          simp only [List.getElem?_cons_zero, List.getElem?_cons_succ]
          cases q : intsD ys ++ [PyData.int ((0 : Nat) : Int)] with
          | nil => simp at q
          | cons a r =>
            dsimp only
            rw [← q, List.dropLast_concat]
            rfl
      · have hz' : ¬ ((n : Int) = 0) := by omega
        rw [bas_pos _ hz, while_end (e1 := [x, some (.own (intsD (ys ++ [n])))]) (w1 := w) ?_]
        rw [intsD_snoc]
        unfold cW1__law_base
        simp only [mSeq, mSet, mVar, mC, mOp, seqE, optE, mTru, mAnd, mOr, mNot, mIf, mBl, mNil, mCons, mCall, mTup, argsD, dsOf, tupD, mFz, mLst, mRet, mDrop, mNx, mBk, mCt, mFail, mItems, itemsD, mRng, mgName, mgNil, mgCons, mgTup, mAsg, mFor, mNo, mPart, mSl, mB, mSetO, mAppend, mPop, mPkOp, mPkIx, mPkLen, mScrLen, mYes, mPar, mPar3, mParO, mAug, mMtS, mIs, mStar, mFmt, mJs, mAndV, mOrV, mListO, mCatO, mgUnl, truD, pk, mEnum, mStep, stepD, List.getElem?_cons_zero, List.getElem?_cons_succ, List.set_cons_zero, List.set_cons_succ, List.length_cons, List.length_nil, Option.map_some, Option.map_none, List.map_cons, List.map_nil, List.cons_append, List.nil_append, List.replicate, Nat.zero_add, Nat.reduceAdd, Nat.reduceSub, Nat.reduceLeDiff, if_true, if_false, Bool.not_true, Bool.not_false, reduceCtorEq, reduceIte, decide_true, decide_false, Bool.false_eq_true, List.isEmpty_cons, List.isEmpty_nil, ixT0, ixT1, ixT2, ixL0, ixL1, ixL2, isD_nn, isD_in, isD_sn, isD_tn, isN_nn, isN_in, isN_sn, isN_tn, Int.cast_ofNat_Int, Int.reduceEq, Int.reduceLT, Int.reduceLE, Bool.and_false, Bool.and_true, Bool.true_and, Bool.false_and, Bool.or_false, Bool.or_true, Bool.true_or, Bool.false_or, mNeg, h1, h2, flatO, flat, eqD_int, hz']
theorem run_lbase (a : PyData) {ns : List Nat} (hl : ns.length ≤ 1000) (rest : List PyData) (w : W) : m__law_base [.d (.tuple (a :: .list (intsD ns) :: rest))] w = some (.d (.tuple [a, .list (intsD (bas ns))]), w) := by
  refine fn_ex rfl ?_
  unfold b__law_base
  refine ex_nx (e1 := [some (.d (.tuple (a :: .list (intsD ns) :: rest))), some (.own (intsD ns))]) (w1 := w) (by push_cast) ?_
  refine ex_nx (loop_lbase _ w fuel ns (by unfold fuel; omega)) ?_
  exact ⟨_, by push_cast⟩

def stageD (p : Pt) : PyData := match p.fo, p.po, p.dv with
  | some (x, n), _, _ => .list [.int 1, .str (S x), .int (n : Int)]
  | none, none, some _ => .list [.int 0]
  | none, _, _ => .list [.int 2]
def lkD (p : Pt) : PyData := .tuple [.tuple [.int (p.ep : Int), .list (intsD (bas p.ns))], stageD p, (match p.po with
  | none => .list [.int (-1)]
  | some n => .list [.int (n : Int)]), (match p.dv with
  | none => .list [.int 1]
  | some n => .list [.int 0, .int (n : Int)])]
theorem run_lkey (b : Bool) {p : Pt} (h : p.Wf) (w : W) : m__law_key [.d (.str (S (prB b p)))] w = some (.d (lkD p), w) := by
  refine fn_ex rfl ?_
  unfold b__law_key
  have h1 := run_lparts b h w
  have h2 := run_lbase (.int (p.ep : Int)) (ns := p.ns) (by have := h.len; omega) [foL p.fo, onL p.po, onL p.dv] w
  generalize prB b p = l at h1 ⊢
  unfold lpD at h1
  refine ex_nx (by push_cast [h1]) ?_
  refine ex_nx (by push_cast) ?_
  unfold lkD stageD
  cases e1 : p.fo with
  | none =>
    cases e2 : p.po <;> cases e3 : p.dv <;> rw [e1, e2, e3] at h2 <;> simp only [foL, onL] at h2
    · refine ex_nx (by push_cast [foL, onL, neD_nil0, eqD_nil0]) ?_
      exact ⟨_, by push_cast [foL, onL, neD_nil0, neD_nil1, mNeg, h2]⟩
    · refine ex_nx (by push_cast [foL, onL, neD_nil0, neD_nil1, eqD_nil0]) ?_
      exact ⟨_, by push_cast [foL, onL, neD_nil0, neD_nil1, mNeg, addD, addL, sizeLine_eq, h2]⟩
    · refine ex_nx (by push_cast [foL, onL, neD_nil0, neD_nil1, eqD_nil1]) ?_
      exact ⟨_, by push_cast [foL, onL, neD_nil0, neD_nil1, mNeg, addD, addL, sizeLine_eq, h2]⟩
    · refine ex_nx (by push_cast [foL, onL, neD_nil0, neD_nil1, eqD_nil1]) ?_
      exact ⟨_, by push_cast [foL, onL, neD_nil0, neD_nil1, mNeg, addD, addL, sizeLine_eq, h2]⟩
  | some q =>
    obtain ⟨x, n⟩ := q
    cases e2 : p.po <;> cases e3 : p.dv <;> rw [e1, e2, e3] at h2 <;> simp only [foL, onL] at h2
    all_goals
      refine ex_nx (by push_cast [foL, onL, neD_nil0, neD_nil1, addD, addL, sizeLine_eq]) ?_
      exact ⟨_, by push_cast [foL, onL, neD_nil0, neD_nil1, mNeg, addD, addL, sizeLine_eq, h2]⟩
end Dn

set_option maxHeartbeats 4000000
namespace Dn
open PySem PySem.Spec PyProof.Rows L2 SX
open TL (numL pre joinL)

theorem lc_numsT (w : W) (a b c d e f : Option SD) : ∀ (ns : List Nat) (acc : List PyData), (∀ n ∈ ns, Sm n) →
    lcLoop (mgName 6) mYes eC1__law_text [6] (intsD ns) acc [a, b, c, d, e, f, none] w = some (acc ++ numsS ns, [a, b, c, d, e, f, none], w)
  | [], acc, _ => by
    unfold intsD numsS
    rw [List.map_nil, lc_nil, List.map_nil, List.append_nil]
  | n :: ns, acc, hn => by
    have hs := strD_num (hn n (by simp))
    have ih := lc_numsT w a b c d e f ns (acc ++ [.str (S (numL n))]) fun m hm => hn m (by simp [hm])
    show lcLoop (mgName 6) mYes eC1__law_text [6] (.int (n : Int) :: intsD ns) acc [a, b, c, d, e, f, none] w = _
    rw [lc_go (e1 := [a, b, c, d, e, f, some (.d (.int (n : Int)))]) (e2 := [a, b, c, d, e, f, some (.d (.int (n : Int)))]) (e3 := [a, b, c, d, e, f, some (.d (.int (n : Int)))]) (w2 := w) (w3 := w) (y := .str (S (numL n))) (by push_cast) (by push_cast) (by unfold eC1__law_text; push_cast [hs])]
    refine ih.trans ?_
    rw [List.append_assoc]
    rfl
theorem run_ltext {p : Pt} (h : p.Wf) (w : W) : m__law_text [.d (.int (p.ep : Int)), .d (.list (intsD p.ns)), .d (foL p.fo), .d (onL p.po), .d (onL p.dv)] w = some (.d (.str (S (prB false p))), w) := by
  have L1 := epS_len (b := false) h.ep
  have L2 := nsS_len h.sm
  have L3 := foS_len h
  have L4 := poS_len h
  have L5 := dvS_len h
  have L6 := h.len
  refine fn_ex rfl ?_
  unfold b__law_text
  have hl := lc_numsT w (some (.d (.int (p.ep : Int)))) (some (.d (.list (intsD p.ns)))) (some (.d (foL p.fo))) (some (.d (onL p.po))) (some (.d (onL p.dv))) none p.ns [] h.sm
  rw [List.nil_append] at hl
  have hj : joinD (.str (S [46])) [.list (numsS p.ns)] = some (.str (S (nsS p.ns))) := join_num h.sm (by omega)
  have hw : ∀ a b c d e f g : Option SD, wipeE [a, b, c, d, e, f, g] [6] = [a, b, c, d, e, f, none] := fun _ _ _ _ _ _ _ => rfl
  have hr : ∀ a b c d e f : Option SD, rst [a, b, c, d, e, f, none] [a, b, c, d, e, f, none] [6] = [a, b, c, d, e, f, none] := fun _ _ _ _ _ _ => rfl
  refine ex_nx (e1 := [some (.d (.int (p.ep : Int))), some (.d (.list (intsD p.ns))), some (.d (foL p.fo)), some (.d (onL p.po)), some (.d (onL p.dv)), some (.d (.str (S (epS false p.ep ++ nsS p.ns)))), none]) (w1 := w) ?_ ?_
  · have hs := addD_S (a := epS false p.ep) (b := nsS p.ns) (sh_le (by simp only [List.length_append]; omega))
    by_cases c : p.ep = 0
    · have c' : ¬ (0 : Int) < (p.ep : Int) := by omega
      have e : epS false p.ep = [] := by unfold epS; rw [if_pos ⟨c, rfl⟩]
      rw [e] at hs ⊢
      push_cast [gtI_int, c', str0, strDot, mLc, hw, hl, hr, hj, hs]
    · have c' : (0 : Int) < (p.ep : Int) := by omega
      have e : epS false p.ep = numL p.ep ++ [33] := by unfold epS; rw [if_neg (fun z => c z.1)]
      have hs0 := addD_S (a := numL p.ep) (b := [33]) (sh_le (by rw [← e]; omega))
      rw [e] at hs ⊢
      push_cast [gtI_int, c', strD_num h.ep, strBang, hs0, strDot, mLc, hw, hl, hr, hj, hs]
  generalize hA : nsS p.ns = A at L2
  have hp : prB false p = epS false p.ep ++ (A ++ (foS p.fo ++ (poS p.po ++ dvS p.dv))) := by unfold prB; rw [hA]
  rw [hp]
  have LA : A.length ≤ 1500 := by omega
  refine ex_nx (e1 := [some (.d (.int (p.ep : Int))), some (.d (.list (intsD p.ns))), some (.d (foL p.fo)), some (.d (onL p.po)), some (.d (onL p.dv)), some (.d (.str (S ((epS false p.ep ++ A) ++ foS p.fo)))), none]) (w1 := w) ?_ ?_
  · have hs := addD_S (a := epS false p.ep ++ A) (b := foS p.fo) (sh_le (by simp only [List.length_append]; omega))
    generalize epS false p.ep ++ A = B at hs ⊢
    have q := h.fo
    cases e : p.fo with
    | none =>
      rw [e] at hs
      simp only [foS] at hs ⊢
      push_cast [foL, neD_nil0, str0, hs]
    | some z =>
      obtain ⟨x, n⟩ := z
      have hx := q x n e
      have l1 := ws_len hx.1
      have l2 := num24 hx.2
      have hs0 := addD_S (a := x) (b := numL n) (sh_le (by simp only [List.length_append]; omega))
      rw [e] at hs
      simp only [foS] at hs ⊢
      push_cast [foL, neD_nil1, strD_num hx.2, hs0, hs]
  refine ex_nx (e1 := [some (.d (.int (p.ep : Int))), some (.d (.list (intsD p.ns))), some (.d (foL p.fo)), some (.d (onL p.po)), some (.d (onL p.dv)), some (.d (.str (S ((epS false p.ep ++ A) ++ foS p.fo ++ poS p.po)))), none]) (w1 := w) ?_ ?_
  · have hs := addD_S (a := (epS false p.ep ++ A) ++ foS p.fo) (b := poS p.po) (sh_le (by simp only [List.length_append]; omega))
    generalize (epS false p.ep ++ A) ++ foS p.fo = B at hs ⊢
    have q := h.po
    cases e : p.po with
    | none =>
      rw [e] at hs
      simp only [poS] at hs ⊢
      push_cast [onL, neD_nil0, str0, hs]
    | some n =>
      have hx := q n e
      have l2 := num24 hx
      have hs0 := addD_S (a := POSTS) (b := numL n) (sh_le (by have : POSTS.length = 5 := rfl; simp only [List.length_append]; omega))
      rw [e] at hs
      simp only [poS] at hs ⊢
      generalize hP : POSTS ++ numL n = Z at hs0 hs ⊢
      push_cast [onL, neD_nil1, strD_num hx, post_data, hs0, hs]
  have e2 : epS false p.ep ++ (A ++ (foS p.fo ++ (poS p.po ++ dvS p.dv))) = ((epS false p.ep ++ A) ++ foS p.fo ++ poS p.po) ++ dvS p.dv := by simp only [List.append_assoc]
  rw [e2]
  have hs := addD_S (a := (epS false p.ep ++ A) ++ foS p.fo ++ poS p.po) (b := dvS p.dv) (sh_le (by simp only [List.length_append]; omega))
  generalize (epS false p.ep ++ A) ++ foS p.fo ++ poS p.po = B at hs ⊢
  have q := h.dv
  cases e : p.dv with
  | none =>
    rw [e] at hs
    simp only [dvS] at hs ⊢
    exact ⟨_, by push_cast [onL, neD_nil0, str0, hs]⟩
  | some n =>
    have hx := q n e
    have l2 := num24 hx
    have hs0 := addD_S (a := DEVS) (b := numL n) (sh_le (by have : DEVS.length = 4 := rfl; simp only [List.length_append]; omega))
    rw [e] at hs
    simp only [dvS] at hs ⊢
    generalize hP : DEVS ++ numL n = Z at hs0 hs ⊢
    exact ⟨_, by push_cast [onL, neD_nil1, strD_num hx, dev_data, hs0, hs]⟩

end Dn

set_option maxHeartbeats 4000000
namespace Dn
open PySem PySem.Spec PyProof.Rows L2 SX
open TL (numL pre joinL)

/-- n more draws may be done -/
def Gd (n : Nat) (s : DS) : Prop := s.Ok ∧ s.pos + (n : Int) ≤ 1000000000000
theorem Gd.mono {m n : Nat} {s : DS} (h : Gd m s) (hl : n ≤ m) : Gd n s := ⟨h.1, by have := h.2; omega⟩
theorem gd_begin (ns : List Int) (h : ns.length ≤ 63) : Gd 1000000 (beginDS ns) := ⟨begin_ok ns h, by show (0 : Int) + _ ≤ _; decide⟩
theorem draw_ok {n : Nat} {s : DS} (h : Gd (n + 1) s) {many : Nat} (h1 : 0 < many) (h2 : many < 1073741824) : ∃ (k : Nat) (s' : DS), m__law_draw [.st, .d (.int (many : Int))] (some s) = some (.d (.int (k : Int)), some s') ∧ k < many ∧ Gd n s' := by
  have hr := draw_range s (many := (many : Int)) (by omega)
  refine ⟨(s.val many).toNat, s.next many, ?_, by omega, ?_⟩
  · rw [draw_eq h.1 (by omega) (by omega), show (((s.val (many : Int)).toNat : Nat) : Int) = s.val (many : Int) by omega]
  · have ha := draw_adv s (many : Int)
    have := h.2
    refine ⟨ha.ok h.1 (by omega), ?_⟩
    have := ha.hi
    omega
theorem mul_zero (k : Nat) (hk : k < 1000) : mulD (.list [.int 0]) (.int (k : Int)) = some (.list (intsD (List.replicate k 0))) := by
  unfold mulD mulL
  dsimp only
  rw [if_pos ⟨by omega, by omega, by rw [sizeLine_eq, Int.toNat_natCast, List.length_singleton]; omega⟩, Int.toNat_natCast]
  refine congrArg some (congrArg PyData.list ?_)
  unfold intsD
  rw [List.map_replicate]
  induction k with
  | zero => rfl
  | succ k ih =>
    rw [List.replicate_succ, List.flatten_cons, ih (by omega)]
    rfl
theorem intsD_app (a b : List Nat) : intsD a ++ intsD b = intsD (a ++ b) := by unfold intsD; rw [List.map_append]
end Dn

set_option maxHeartbeats 4000000
namespace Dn
open PySem PySem.Spec PyProof.Rows L2 SX
open TL (numL pre joinL)

abbrev Fx := List SD → W → Option (SD × W)
def DrawOk (md : Fx) : Prop := ∀ (n : Nat) (s : DS), Gd (n + 1) s → ∀ many : Nat, 0 < many → many < 1073741824 → ∃ (k : Nat) (s' : DS), md [.st, .d (.int (many : Int))] (some s) = some (.d (.int (k : Int)), some s') ∧ k < many ∧ Gd n s'
theorem drawOk : DrawOk m__law_draw := fun n s h many h1 h2 => draw_ok h h1 h2
theorem call2 {m : Fx} {a b : Ex} {env e1 e2 : Ev} {w w1 w2 w3 : W} {x y r : SD} (h1 : a env w = some (x, e1, w1)) (h2 : b e1 w1 = some (y, e2, w2)) (hm : m [x, y] w2 = some (r, w3)) : mCall m (mCons a (mCons b mNil)) env w = some (r, e2, w3) := by
  simp only [mCall, mCons, mNil, h1, h2, hm]
theorem call1 {m : Fx} {a : Ex} {env e1 : Ev} {w w1 w3 : W} {x r : SD} (h1 : a env w = some (x, e1, w1)) (hm : m [x] w1 = some (r, w3)) : mCall m (mCons a mNil) env w = some (r, e1, w3) := by
  simp only [mCall, mCons, mNil, h1, hm]
theorem op_ok {g : PyData → PyData → Option PyData} {a b : Ex} {env e1 e2 : Ev} {w w1 w2 : W} {x y z : PyData} (h1 : a env w = some (.d x, e1, w1)) (h2 : b e1 w1 = some (.d y, e2, w2)) (hz : g x y = some z) : mOp g a b env w = some (.d z, e2, w2) := by
  simp only [mOp, seqE, h1, h2, hz, optE]
theorem lst_ok {ms : Ax} {env e1 : Ev} {w w1 : W} {rs : List SD} {ds : List PyData} (h : ms env w = some (rs, e1, w1)) (hd : dsOf rs = some ds) (hl : ds.length ≤ 1000) : mFz (mLst ms) env w = some (.d (.list ds), e1, w1) := by
  simp only [mFz, mLst, argsD, h, hd, hl, if_true]
theorem set_ok {i : Nat} {m : Ex} {env e1 : Ev} {w w1 : W} {r : SD} (h : m env w = some (r, e1, w1)) : mSet i m env w = some (.nx, e1.set i (some r), w1) := by
  simp only [mSet, h]
theorem tru_ok {m : Ex} {env e1 : Ev} {w w1 : W} {b : Bool} (h : m env w = some (.d (.bool b), e1, w1)) : mTru m env w = some (b, e1, w1) := by
  simp only [mTru, seqE, h, truD, Option.map_some]
theorem var_d {i : Nat} {x : PyData} {env : Ev} {w : W} (h : env[i]? = some (some (.d x))) : mVar i env w = some (.d x, env, w) := by
  simp only [mVar, h]
section
variable {md : Fx}
end

end Dn

set_option maxHeartbeats 4000000
namespace Dn
open PySem PySem.Spec PyProof.Rows L2 SX
open TL (numL pre joinL)

mutual
def nb : PyData → Bool
  | .none => true
  | .int _ => true
  | .str _ => true
  | .list xs => nbA xs
  | .tuple xs => nbA xs
  | _ => false
def nbA : List PyData → Bool
  | [] => true
  | x :: xs => nb x && nbA xs
end
mutual
theorem eqv_eq : ∀ (x y : PyData), nb x = true → nb y = true → PyData.eqv x y = true → x = y
  | .none, .none, _, _, _ => rfl
  | .int i, .int j, _, _, h => by
    rw [PyData.eqv] at h
    rw [eq_of_beq h]
  | .str i, .str j, _, _, h => by
    rw [PyData.eqv] at h
    rw [eq_of_beq h]
  | .list xs, .list ys, h1, h2, h => by
    rw [PyData.eqv] at h
    rw [eqvA_eq xs ys (by simpa [nb] using h1) (by simpa [nb] using h2) h]
  | .tuple xs, .tuple ys, h1, h2, h => by
    rw [PyData.eqv] at h
    rw [eqvA_eq xs ys (by simpa [nb] using h1) (by simpa [nb] using h2) h]
  | .bool _, _, h, _, _ => by cases h
  | .dict _, _, h, _, _ => by cases h
  | _, .bool _, _, h, _ => by cases h
  | _, .dict _, _, h, _ => by cases h
  | .none, .int _, _, _, h | .none, .str _, _, _, h | .none, .list _, _, _, h | .none, .tuple _, _, _, h => by simp [PyData.eqv] at h
  | .int _, .none, _, _, h | .int _, .str _, _, _, h | .int _, .list _, _, _, h | .int _, .tuple _, _, _, h => by simp [PyData.eqv] at h
  | .str _, .none, _, _, h | .str _, .int _, _, _, h | .str _, .list _, _, _, h | .str _, .tuple _, _, _, h => by simp [PyData.eqv] at h
  | .list _, .none, _, _, h | .list _, .int _, _, _, h | .list _, .str _, _, _, h | .list _, .tuple _, _, _, h => by simp [PyData.eqv] at h
  | .tuple _, .none, _, _, h | .tuple _, .int _, _, _, h | .tuple _, .str _, _, _, h | .tuple _, .list _, _, _, h => by simp [PyData.eqv] at h
theorem eqvA_eq : ∀ (xs ys : List PyData), nbA xs = true → nbA ys = true → PyData.eqvAll xs ys = true → xs = ys
  | [], [], _, _, _ => rfl
  | x :: xs, y :: ys, h1, h2, h => by
    rw [nbA, Bool.and_eq_true] at h1 h2
    rw [PyData.eqvAll, Bool.and_eq_true] at h
    rw [eqv_eq x y h1.1 h2.1 h.1, eqvA_eq xs ys h1.2 h2.2 h.2]
  | [], _ :: _, _, _, h => by simp [PyData.eqvAll] at h
  | _ :: _, [], _, _, h => by simp [PyData.eqvAll] at h
end
mutual
theorem eqv_rf : ∀ (x : PyData), nb x = true → PyData.eqv x x = true
  | .none, _ => rfl
  | .int i, _ => by rw [PyData.eqv]; exact beq_self_eq_true _
  | .str i, _ => by rw [PyData.eqv]; exact beq_self_eq_true _
  | .list xs, h => by rw [PyData.eqv]; exact eqvA_rf xs (by simpa [nb] using h)
  | .tuple xs, h => by rw [PyData.eqv]; exact eqvA_rf xs (by simpa [nb] using h)
  | .bool _, h => by cases h
  | .dict _, h => by cases h
theorem eqvA_rf : ∀ (xs : List PyData), nbA xs = true → PyData.eqvAll xs xs = true
  | [], _ => rfl
  | x :: xs, h => by
    rw [nbA, Bool.and_eq_true] at h
    rw [PyData.eqvAll, eqv_rf x h.1, eqvA_rf xs h.2]
    rfl
end
open Classical in
theorem eqv_dec {x y : PyData} (h1 : nb x = true) (h2 : nb y = true) : PyData.eqv x y = decide (x = y) := by
  by_cases h : x = y
  · subst h
    rw [eqv_rf x h1, decide_eq_true rfl]
  · rw [decide_eq_false h]
    cases q : PyData.eqv x y with
    | false => rfl
    | true => exact absurd (eqv_eq x y h1 h2 q) h
theorem nb_ints : ∀ ns : List Nat, nbA (intsD ns) = true
  | [] => rfl
  | n :: ns => nb_ints ns
theorem dOk_ints (m : Nat) : ∀ ns : List Nat, dOkAll m (intsD ns) = true
  | [] => by unfold intsD; simp [dOkAll]
  | n :: ns => by
    have ih := dOk_ints m ns
    unfold intsD at ih ⊢
    simp [dOkAll, dOk]
    simpa using ih
theorem intsD_inj : ∀ {a b : List Nat}, intsD a = intsD b → a = b
  | [], [], _ => rfl
  | [], _ :: _, h => by simp [intsD] at h
  | _ :: _, [], h => by simp [intsD] at h
  | x :: a, y :: b, h => by
    simp only [intsD, List.map_cons, List.cons.injEq, PyData.int.injEq] at h
    rw [show x = y by omega, intsD_inj (a := a) (b := b) h.2]
end Dn

set_option maxHeartbeats 4000000
namespace Dn
open PySem PySem.Spec PyProof.Rows L2 SX
open TL (numL pre joinL)

def ltL : List Nat → List Nat → Bool
  | [], [] => false
  | [], _ :: _ => true
  | _ :: _, [] => false
  | x :: xs, y :: ys => if x = y then ltL xs ys else decide (x < y)
theorem ltL_irr : ∀ a : List Nat, ltL a a = false
  | [] => rfl
  | x :: xs => by rw [ltL, if_pos rfl]; exact ltL_irr xs
theorem ltL_tr : ∀ {a b c : List Nat}, ltL a b = true → ltL b c = true → ltL a c = true
  | [], [], _, h, _ => by cases h
  | [], _ :: _, [], _, h => by cases h
  | [], _ :: _, _ :: _, _, _ => rfl
  | _ :: _, [], _, h, _ => by cases h
  | _ :: _, _ :: _, [], _, h => by cases h
  | x :: xs, y :: ys, z :: zs, h1, h2 => by
    rw [ltL] at h1 h2 ⊢
    by_cases e1 : x = y
    · subst e1
      rw [if_pos rfl] at h1
      by_cases e2 : x = z
      · subst e2
        rw [if_pos rfl] at h2 ⊢
        exact ltL_tr h1 h2
      · rw [if_neg e2] at h2 ⊢
        exact h2
    · rw [if_neg e1, decide_eq_true_iff] at h1
      by_cases e2 : y = z
      · subst e2
        rw [if_neg e1, decide_eq_true_iff]
        exact h1
      · rw [if_neg e2, decide_eq_true_iff] at h2
        rw [if_neg (by omega), decide_eq_true_iff]
        omega
theorem ltL_tri : ∀ a b : List Nat, a = b ∨ ltL a b = true ∨ ltL b a = true
  | [], [] => .inl rfl
  | [], _ :: _ => .inr (.inl rfl)
  | _ :: _, [] => .inr (.inr rfl)
  | x :: xs, y :: ys => by
    by_cases e : x = y
    · subst e
      rcases ltL_tri xs ys with h | h | h
      · exact .inl (by rw [h])
      · exact .inr (.inl (by rw [ltL, if_pos rfl]; exact h))
      · exact .inr (.inr (by rw [ltL, if_pos rfl]; exact h))
    · by_cases h : x < y
      · exact .inr (.inl (by rw [ltL, if_neg e, decide_eq_true_iff]; exact h))
      · exact .inr (.inr (by rw [ltL, if_neg (Ne.symm e), decide_eq_true_iff]; omega))
theorem ltL_asy {a b : List Nat} (h : ltL a b = true) : ltL b a = false := by
  cases e : ltL b a with
  | false => rfl
  | true => rw [← ltL_irr a, ← ltL_tr h e]
/-- epoch, base, tail -/
abbrev Ky := Nat × List Nat × List Nat
def ltK (a b : Ky) : Bool := if a.1 = b.1 then (if a.2.1 = b.2.1 then ltL a.2.2 b.2.2 else ltL a.2.1 b.2.1) else decide (a.1 < b.1)
theorem ltK_irr (a : Ky) : ltK a a = false := by unfold ltK; rw [if_pos rfl, if_pos rfl, ltL_irr]
theorem ltK_tr {a b c : Ky} (h1 : ltK a b = true) (h2 : ltK b c = true) : ltK a c = true := by
  obtain ⟨a1, a2, a3⟩ := a
  obtain ⟨b1, b2, b3⟩ := b
  obtain ⟨c1, c2, c3⟩ := c
  unfold ltK at h1 h2 ⊢
  dsimp only at h1 h2 ⊢
  by_cases e1 : a1 = b1
  · subst e1
    rw [if_pos rfl] at h1
    by_cases e2 : a1 = c1
    · subst e2
      rw [if_pos rfl] at h2 ⊢
      by_cases f1 : a2 = b2
      · subst f1
        rw [if_pos rfl] at h1
        by_cases f2 : a2 = c2
        · subst f2
          rw [if_pos rfl] at h2 ⊢
          exact ltL_tr h1 h2
        · rw [if_neg f2] at h2 ⊢
          exact h2
      · rw [if_neg f1] at h1
        by_cases f2 : b2 = c2
        · subst f2
          rw [if_neg f1]
          exact h1
        · rw [if_neg f2] at h2
          have h3 := ltL_tr h1 h2
          rw [if_neg]
          · exact h3
          · rintro rfl
            rw [ltL_irr] at h3; cases h3
    · rw [if_neg e2] at h2 ⊢
      exact h2
  · rw [if_neg e1, decide_eq_true_iff] at h1
    by_cases e2 : b1 = c1
    · subst e2
      rw [if_neg e1, decide_eq_true_iff]
      exact h1
    · rw [if_neg e2, decide_eq_true_iff] at h2
      rw [if_neg (by omega), decide_eq_true_iff]
      omega
theorem ltK_tri (a b : Ky) : a = b ∨ ltK a b = true ∨ ltK b a = true := by
  obtain ⟨a1, a2, a3⟩ := a
  obtain ⟨b1, b2, b3⟩ := b
  unfold ltK
  dsimp only
  by_cases e1 : a1 = b1
  · subst e1
    rw [if_pos rfl, if_pos rfl]
    by_cases e2 : a2 = b2
    · subst e2
      rw [if_pos rfl, if_pos rfl]
      rcases ltL_tri a3 b3 with h | h | h
      · exact .inl (by rw [h])
      · exact .inr (.inl h)
      · exact .inr (.inr h)
    · rw [if_neg e2, if_neg (Ne.symm e2)]
      rcases ltL_tri a2 b2 with h | h | h
      · exact absurd h e2
      · exact .inr (.inl h)
      · exact .inr (.inr h)
  · rw [if_neg e1, if_neg (Ne.symm e1), decide_eq_true_iff, decide_eq_true_iff]
    omega
theorem ltK_asy {a b : Ky} (h : ltK a b = true) : ltK b a = false := by
  cases e : ltK b a with
  | false => rfl
  | true => rw [← ltK_irr a, ← ltK_tr h e]
/-- not less, and less: less -/
theorem leK_lt {a b c : Ky} (h1 : ltK b a = false) (h2 : ltK b c = true) : ltK a c = true := by
  rcases ltK_tri a b with h | h | h
  · rw [h]; exact h2
  · exact ltK_tr h h2
  · rw [h1] at h; cases h
theorem ltK_le {a b c : Ky} (h1 : ltK a b = true) (h2 : ltK c b = false) : ltK a c = true := by
  rcases ltK_tri b c with h | h | h
  · rw [← h]; exact h1
  · exact ltK_tr h1 h
  · rw [h2] at h; cases h
theorem leK_tr {a b c : Ky} (h1 : ltK b a = false) (h2 : ltK c b = false) : ltK c a = false := by
  cases e : ltK c a with
  | false => rfl
  | true => rw [← h2]; exact (ltK_le e h1).symm
theorem leK_antisymm {a b : Ky} (h1 : ltK b a = false) (h2 : ltK a b = false) : a = b := by
  rcases ltK_tri a b with h | h | h
  · exact h
  · rw [h2] at h; cases h
  · rw [h1] at h; cases h

def kyD (k : Ky) : PyData := .tuple [.int (k.1 : Int), .tuple (intsD k.2.1), .tuple (intsD k.2.2)]
def Pt.key (p : Pt) : Ky := (p.ep, bas p.ns, tailK p.fo p.po p.dv)
theorem keyD_key (p : Pt) : keyD p = kyD p.key := rfl
theorem alike_intsL : ∀ a b : List Nat, PySem.W.alikeAll (intsD a) (intsD b) = true
  | [], _ => by unfold intsD; simp [PySem.W.alikeAll]
  | _ :: _, [] => by unfold intsD; simp [PySem.W.alikeAll]
  | x :: xs, y :: ys => by
    have := alike_intsL xs ys
    unfold intsD at this ⊢
    simp only [List.map_cons, PySem.W.alikeAll, PySem.W.alike, Bool.true_and]
    exact this
theorem alike_ky (a b : Ky) : PySem.W.alike (kyD a) (kyD b) = true := by
  unfold kyD
  simp only [PySem.W.alike, PySem.W.alikeAll, alike_intsL, Bool.and_self]
theorem rowLt_ints : ∀ a b : List Nat, PyProof.Rows.lexLt itemOrd (PySem.W.keyToksAll (intsD a)) (PySem.W.keyToksAll (intsD b)) = ltL a b
  | [], [] => by rw [ltL_irr]; exact PySem.W.dataLt_self (.tuple [])
  | [], y :: ys => by
    unfold intsD
    simp only [List.map_nil, List.map_cons, PySem.W.keyToksAll, ltL]
    rfl
  | x :: xs, [] => by
    unfold intsD
    simp only [List.map_nil, List.map_cons, PySem.W.keyToksAll, ltL]
    rfl
  | x :: xs, y :: ys => by
    have e : intsD (x :: xs) = .int (x : Int) :: intsD xs := rfl
    have e2 : intsD (y :: ys) = .int (y : Int) :: intsD ys := rfl
    rw [e, e2, PySem.W.dataLt_cons (by simp [PySem.W.alike]), ltL, eqv_i, PySem.W.dataLt_int, rowLt_ints xs ys]
    by_cases h : x = y
    · subst h; simp
    · rw [if_neg (by simpa using (fun z => h (Int.ofNat.inj z))), if_neg h]
      exact decide_eq_decide.mpr (by omega)
theorem nb_ky (k : Ky) : nb (kyD k) = true := by
  unfold kyD
  simp [nb, nbA, nb_ints]
theorem dOk_ky (n : Nat) (k : Ky) : dOk (n + 2) (kyD k) = true := by
  unfold kyD
  simp [dOk, dOkAll, dOk_ints]
theorem kyD_inj {a b : Ky} (h : kyD a = kyD b) : a = b := by
  obtain ⟨a1, a2, a3⟩ := a
  obtain ⟨b1, b2, b3⟩ := b
  unfold kyD at h
  simp only [PyData.tuple.injEq, List.cons.injEq, PyData.int.injEq, and_true] at h
  obtain ⟨h1, h2, h3⟩ := h
  rw [intsD_inj h2, intsD_inj h3, Int.ofNat.inj h1]
theorem eqv_ky (a b : Ky) : PyData.eqv (kyD a) (kyD b) = decide (a = b) := by
  rw [eqv_dec (nb_ky a) (nb_ky b)]
  exact decide_eq_decide.mpr ⟨kyD_inj, fun h => by rw [h]⟩
theorem eqv_intsT (a b : List Nat) : PyData.eqv (.tuple (intsD a)) (.tuple (intsD b)) = decide (a = b) := by
  rw [eqv_dec (show nb (.tuple (intsD a)) = true by simp [nb, nb_ints]) (show nb (.tuple (intsD b)) = true by simp [nb, nb_ints])]
  refine decide_eq_decide.mpr ⟨fun h => intsD_inj (PyData.tuple.inj h), fun h => by rw [h]⟩
theorem dataLt_ky (a b : Ky) : PySem.W.dataLt (kyD a) (kyD b) = ltK a b := by
  obtain ⟨a1, a2, a3⟩ := a
  obtain ⟨b1, b2, b3⟩ := b
  unfold kyD ltK
  dsimp only
  have al : PySem.W.alike (.tuple (intsD a2)) (.tuple (intsD b2)) = true := by simp only [PySem.W.alike, alike_intsL]
  have al3 : PySem.W.alike (.tuple (intsD a3)) (.tuple (intsD b3)) = true := by simp only [PySem.W.alike, alike_intsL]
  rw [PySem.W.dataLt_tuple, PySem.W.dataLt_cons (by simp [PySem.W.alike]), eqv_i, PySem.W.dataLt_int, PySem.W.dataLt_cons al, eqv_intsT, PySem.W.dataLt_tuple, rowLt_ints, PySem.W.dataLt_cons al3, eqv_intsT, PySem.W.dataLt_tuple, rowLt_ints]
  by_cases h1 : a1 = b1
  · subst h1
    rw [if_pos (by simp), if_pos rfl]
    by_cases h2 : a2 = b2
    · subst h2
      rw [if_pos (by simp), if_pos rfl]
      by_cases h3 : a3 = b3
      · subst h3
        rw [if_pos (by simp), ltL_irr]
        exact PySem.W.dataLt_self (.tuple [])
      · rw [if_neg (by simpa using h3)]
    · rw [if_neg (by simpa using h2), if_neg h2]
  · rw [if_neg (by simpa using (fun z => h1 (Int.ofNat.inj z))), if_neg h1]
    exact decide_eq_decide.mpr (by omega)
theorem ltD_ky (a b : Ky) : ltD (kyD a) (kyD b) = some (.bool (ltK a b)) := by
  have h := dataLt_ky a b
  have h2 := alike_ky a b
  have h3 := dOk_ky 58 a
  unfold ltD
  show ltT (kyD a) (kyD b) = _
  unfold ltT
  rw [h, h2, h3, Bool.true_or, Bool.and_self, if_pos rfl]
theorem cmpOk_ky (a b : Ky) : cmpOk (kyD a) (kyD b) = true := by
  unfold cmpOk
  rw [alike_ky, dOk_ky 58 a]
  rfl
theorem leD_ky (a b : Ky) : leD (kyD a) (kyD b) = some (.bool (!ltK b a)) := by
  show leT (kyD a) (kyD b) = _
  unfold leT
  rw [cmpOk_ky, if_pos rfl, dataLt_ky]
end Dn

set_option maxHeartbeats 4000000
namespace Dn
open PySem PySem.Spec PyProof.Rows L2 SX
open TL (numL pre joinL)

theorem for_ok {m : Lx} {g : Gx} {b : Sx} {env e1 : Ev} {w w1 : W} {ds : List PyData} (h : m env w = some (ds, e1, w1)) : mFor m g b env w = mLoop g b ds e1 w1 := by
  simp only [mFor, h]
end Dn

set_option maxHeartbeats 4000000
namespace Dn
open PySem PySem.Spec PyProof.Rows L2 SX
open TL (numL pre joinL)

theorem run_partsP (b : Bool) {p : Pt} (h : p.Wf) (w : W) : m_parts_of [.d (.str (S (prB b p)))] w = some (.d (ptD p), w) := by
  have h1 := run_parts (prB_sh (b := b) h) w
  rw [parts_print b h] at h1
  exact h1
theorem run_keyof (b : Bool) {p : Pt} (h : p.Wf) (w : W) : m_key_of [.d (.str (S (prB b p)))] w = some (.d (kyD p.key), w) := by
  refine fn_ex rfl ?_
  unfold b_key_of
  have h1 := run_partsP b h w
  have h2 := run_key h w
  rw [keyD_key] at h2
  exact ⟨_, by push_cast [h1, h2]⟩
def Pt.plain (p : Pt) : Bool := p.fo.isNone && p.po.isNone && p.dv.isNone
def fol (p : Pt) : Pt := match p.dv with
  | some d => { p with dv := some (d + 1) }
  | none => { p with po := some (match p.po with | some n => n + 1 | none => 0), dv := some 0 }
theorem on_add (n : Nat) : addD (.int (n : Int)) (.int 1) = some (.int ((n + 1 : Nat) : Int)) := addD1 n
theorem run_fol {p : Pt} (h : p.Wf) (w : W) : m_following_key [.d (kyD p.key)] w = some (.d (kyD (fol p).key), w) := by
  refine fn_ex rfl ?_
  have h0 := run_split (fo := p.fo) (fun x n e => (h.fo x n e).1) p.po p.dv w
  have h1 := fun po dv => run_tailof (fo := p.fo) (fun x n e => (h.fo x n e).1) po dv w
  unfold b_following_key
  cases hd : p.dv with
  | some d =>
    have e1 : (fol p).key = (p.ep, bas p.ns, tailK p.fo p.po (some (d + 1))) := by unfold fol Pt.key; rw [hd]
    rw [e1]
    unfold kyD Pt.key
    dsimp only
    rw [hd] at h0 ⊢
    have h2 := h1 p.po (some (d + 1))
    generalize tailK p.fo p.po (some d) = t0 at h0 ⊢
    generalize tailK p.fo p.po (some (d + 1)) = t1 at h2 ⊢
    unfold onD at h0 h2
    refine ex_nx (by push_cast) ?_
    refine ex_nx (by push_cast [h0]) ?_
    exact ex_rt (by push_cast [on_add, h2])
  | none =>
    rw [hd] at h0
    cases hp : p.po with
    | some n =>
      have e1 : (fol p).key = (p.ep, bas p.ns, tailK p.fo (some (n + 1)) (some 0)) := by unfold fol Pt.key; rw [hd, hp]
      rw [e1]
      unfold kyD Pt.key
      dsimp only
      rw [hp] at h0
      rw [hd, hp]
      have h2 : m_tail_of [.d (foD p.fo), .d (.int ((n + 1 : Nat) : Int)), .d (.int 0)] w = some (.d (.tuple (intsD (tailK p.fo (some (n + 1)) (some 0)))), w) := h1 (some (n + 1)) (some 0)
      generalize tailK p.fo (some n) none = t0 at h0 ⊢
      generalize tailK p.fo (some (n + 1)) (some 0) = t1 at h2 ⊢
      unfold onD at h0
      refine ex_nx (by push_cast) ?_
      refine ex_nx (by push_cast [h0]) ?_
      refine ex_nx (by push_cast) ?_
      exact ⟨_, by push_cast [on_add, h2]⟩
    | none =>
      have e1 : (fol p).key = (p.ep, bas p.ns, tailK p.fo (some 0) (some 0)) := by unfold fol Pt.key; rw [hd, hp]
      rw [e1]
      unfold kyD Pt.key
      dsimp only
      rw [hp] at h0
      rw [hd, hp]
      have h2 : m_tail_of [.d (foD p.fo), .d (.int 0), .d (.int 0)] w = some (.d (.tuple (intsD (tailK p.fo (some 0) (some 0)))), w) := h1 (some 0) (some 0)
      generalize tailK p.fo none none = t0 at h0 ⊢
      generalize tailK p.fo (some 0) (some 0) = t1 at h2 ⊢
      unfold onD at h0
      refine ex_nx (by push_cast) ?_
      refine ex_nx (by push_cast [h0]) ?_
      refine ex_nx (by push_cast) ?_
      exact ⟨_, by push_cast [h2]⟩
end Dn

set_option maxHeartbeats 4000000
namespace Dn
open PySem PySem.Spec PyProof.Rows L2 SX
open TL (numL pre joinL)

theorem dsOf_map : ∀ xs : List PyData, dsOf (xs.map SD.d) = some xs
  | [] => rfl
  | x :: xs => by rw [List.map_cons, dsOf, dsOf_map xs]; rfl
/-- it may stand in a clause -/
structure Pt.Small (p : Pt) : Prop where
  len : p.ns.length ≤ 8
  ns : ∀ n ∈ p.ns, n ≤ 1000000000
  ep : p.ep ≤ 1000000000
  fo : ∀ x n, p.fo = some (x, n) → n ≤ 1000000000
  po : ∀ n, p.po = some n → n ≤ 1000000000
  dv : ∀ n, p.dv = some n → n ≤ 1000000000
inductive Sg where
  | eq | ne | le | ge | lt | gt | co
deriving DecidableEq
def Sg.s : Sg → Str
  | .eq => "=="
  | .ne => "!="
  | .le => "<="
  | .ge => ">="
  | .lt => "<"
  | .gt => ">"
  | .co => "~="
structure Cl where
  sg : Sg
  star : Bool
  b : Bool
  p : Pt
def starS (s : Bool) : List Nat := if s then [46, 42] else []
def Cl.txt (c : Cl) : List Nat := prB c.b c.p ++ starS c.star
def clD (c : Cl) : PyData := .tuple [.str c.sg.s, .str (S c.txt)]
structure Cl.Wf (c : Cl) : Prop where
  wf : c.p.Wf
  sm : c.p.Small
  st : c.star = true → (c.sg = .eq ∨ c.sg = .ne) ∧ c.p.plain = true
  pl : c.sg = .lt ∨ c.sg = .gt → c.p.plain = true
  co : c.sg = .co → 2 ≤ c.p.ns.length
/-- a clause of any size -/
structure Cl.Wg (c : Cl) : Prop where
  wf : c.p.Wf
  st : c.star = true → (c.sg = .eq ∨ c.sg = .ne) ∧ c.p.plain = true
  pl : c.sg = .lt ∨ c.sg = .gt → c.p.plain = true
  co : c.sg = .co → 2 ≤ c.p.ns.length
theorem Cl.Wf.g {c : Cl} (h : c.Wf) : c.Wg := ⟨h.wf, h.st, h.pl, h.co⟩
theorem numL_no {c : Nat} (hc : dig c = false) (n : Nat) : c ∉ numL n := fun h => by
  have := numL_dig n c h
  rw [hc] at this; cases this
theorem nsS_no {c : Nat} (hc : dig c = false) (h46 : c ≠ 46) : ∀ ns : List Nat, c ∉ nsS ns
  | [] => by simp [nsS, joinL]
  | [n] => by rw [nsS_one]; exact numL_no hc n
  | n :: m :: ns => by
    rw [nsS_cons, List.mem_append, List.mem_cons]
    rintro (h | h | h)
    · exact numL_no hc n h
    · exact h46 h
    · exact nsS_no hc h46 (m :: ns) h
theorem prB_no {c : Nat} (hc : dig c = false) (h1 : c ∉ [46, 33, 97, 98, 114, 99, 112, 111, 115, 116, 100, 101, 118]) (b : Bool) {p : Pt} (h : p.Wf) : c ∉ prB b p := by
  simp only [List.mem_cons, List.not_mem_nil, or_false, not_or] at h1
  unfold prB
  simp only [List.mem_append]
  rintro (q | q | q | q | q)
  · unfold epS at q
    split at q
    · simp at q
    · rcases List.mem_append.mp q with q | q
      · exact numL_no hc _ q
      · simp at q; omega
  · exact nsS_no hc h1.1 _ q
  · cases hf : p.fo with
    | none => rw [hf] at q; simp [foS] at q
    | some x =>
      obtain ⟨x, n⟩ := x
      rw [hf] at q
      have hx := (h.fo x n hf).1
      simp only [foS, List.mem_append] at q
      rcases q with q | q
      · unfold WS at hx
        simp only [List.mem_cons, List.not_mem_nil, or_false] at hx
        rcases hx with rfl | rfl | rfl <;> simp at q <;> omega
      · exact numL_no hc _ q
  · cases hf : p.po with
    | none => rw [hf] at q; simp [poS] at q
    | some n =>
      rw [hf] at q
      simp only [poS, POSTS, List.mem_append, List.mem_cons, List.not_mem_nil, or_false] at q
      rcases q with q | q
      · omega
      · exact numL_no hc _ q
  · cases hf : p.dv with
    | none => rw [hf] at q; simp [dvS] at q
    | some n =>
      rw [hf] at q
      simp only [dvS, DEVS, List.mem_append, List.mem_cons, List.not_mem_nil, or_false] at q
      rcases q with q | q
      · omega
      · exact numL_no hc _ q
theorem starStr : ((".*" : String) : Str) = S [46, 42] := by decide +kernel
theorem cutS_m2 (l : List Nat) : cutS (S (l ++ [46, 42])) none (some (-2)) = S l := by
  unfold cutS
  rw [HT.sIx_none, S_len]
  refine congrArg S ?_
  show (List.drop 0 (l ++ [46, 42])).take (HT.sIx (l ++ [46, 42]).length (l ++ [46, 42]).length (some (-2)) - 0) = l
  have e : HT.sIx (l ++ [46, 42]).length (l ++ [46, 42]).length (some (-2)) = l.length := by
    unfold HT.sIx
    dsimp only
    rw [if_pos (by decide), List.length_append]
    simp
    omega
  rw [e, List.drop_zero, Nat.sub_zero, List.take_left]
theorem sl_star {l : List Nat} (h : Sh (l ++ [46, 42])) : slD (.str (S (l ++ [46, 42]))) none (some (-2)) = some (.str (S l)) := by
  unfold slD
  dsimp only
  rw [if_pos (sh_line h), cutS_m2]
def sgO (s : Sg) : Bool := match s with
  | .lt => true
  | .gt => true
  | _ => false
theorem sg_inO (s : Sg) : inD (.str s.s) (.tuple [.str "<", .str ">"]) = some (.bool (sgO s)) := by
  cases s <;> rfl
theorem sg_eqv (s t : Sg) : PyData.eqv (.str s.s) (.str t.s) = decide (s = t) := by
  cases s <;> cases t <;> rfl
theorem sg_eq (s t : Sg) : eqD (.str s.s) (.str t.s) = some (.bool (decide (s = t))) := by
  cases s <;> cases t <;> rfl
theorem txt_sh {c : Cl} (h : c.p.Wf) : Sh c.txt := by
  have := prB_len (b := c.b) h
  unfold Sh Cl.txt starS
  rw [List.length_append]
  split <;> simp <;> omega
end Dn

set_option maxHeartbeats 4000000
namespace Dn
open PySem PySem.Spec PyProof.Rows L2
noncomputable section
end
end Dn

set_option maxHeartbeats 4000000
namespace Dn
open PySem PySem.Spec PyProof.Rows L2 SX
open TL (numL pre joinL)

def rqD (cs : List Cl) : PyData := .tuple (cs.map clD)
def okD : Option Ky → PyData
  | none => .none
  | some k => kyD k
def leastK : Ky := (0, [], [0, 0])
/-- the numbers with the last one one more -/
def incr (ns : List Nat) : List Nat := ns.dropLast ++ [ns.getLast?.getD 0 + 1]
def cutsK (e : Nat) (ns : List Nat) : Ky × Ky := ((e, bas ns, [0, 0]), (e, bas (incr ns), [0, 0]))
theorem cut_last {ns : List Nat} (h : ns ≠ []) : slD (.tuple (intsD ns)) none (some (-1)) = some (.tuple (intsD ns.dropLast)) := by
  obtain ⟨xs, x, rfl⟩ : ∃ xs x, ns = xs ++ [x] := ⟨ns.dropLast, ns.getLast h, (List.dropLast_concat_getLast h).symm⟩
  unfold slD cutL
  dsimp only
  rw [HT.sIx_none, intsD_len]
  have e : HT.sIx (xs ++ [x]).length (xs ++ [x]).length (some (-1)) = xs.length := by
    unfold HT.sIx
    dsimp only
    rw [if_pos (by decide), List.length_append]
    simp
    omega
  rw [e, List.drop_zero, Nat.sub_zero, intsD_snoc, List.take_left' (intsD_len xs)]
  simp
end Dn

set_option maxHeartbeats 4000000
namespace Dn
open PySem PySem.Spec PyProof.Rows L2 SX
open TL (numL pre joinL)

/-- a key is below an end -/
def belowK (k : Ky) : Option Ky → Bool
  | none => true
  | some h => ltK k h
theorem items_rq {cs : List Cl} (i : Nat) {w : W} (env : Ev) (e : env[i]? = some (some (.d (rqD cs)))) : mItems (mVar i) env w = some (cs.map clD, env, w) := by
  simp only [mItems, seqE, mVar, e, rqD, itemsD, Option.map_some]
end Dn

set_option maxHeartbeats 4000000
namespace Dn

end Dn

set_option maxHeartbeats 4000000
namespace Dn
open PySem PySem.Spec PyProof.Rows L2 SX
open TL (numL pre joinL)

def wordAt : Nat → List Nat
  | 0 => [97]
  | 1 => [98]
  | _ => [114, 99]
def untail : List Nat → Option (List Nat × Nat) × Option Nat × Option Nat
  | [2] => (none, none, none)
  | [0, d] => (none, none, some d)
  | [3, p, 1] => (none, some p, none)
  | [3, p, 0, d] => (none, some p, some d)
  | [1, x, n, 1] => (some (wordAt x, n), none, none)
  | [1, x, n, 0, d] => (some (wordAt x, n), none, some d)
  | [1, x, n, 2, p, 1] => (some (wordAt x, n), some p, none)
  | [1, x, n, 2, p, 0, d] => (some (wordAt x, n), some p, some d)
  | _ => (none, none, none)
theorem word_widx {x : List Nat} (h : x ∈ WS) : wordAt (widx x) = x := by
  unfold WS at h
  simp only [List.mem_cons, List.not_mem_nil, or_false] at h
  rcases h with rfl | rfl | rfl <;> rfl
theorem untail_tailK {fo : Option (List Nat × Nat)} (h : ∀ x n, fo = some (x, n) → x ∈ WS) (po dv : Option Nat) : untail (tailK fo po dv) = (fo, po, dv) := by
  cases fo with
  | none =>
    cases po with
    | none => cases dv <;> rfl
    | some p => cases dv <;> rfl
  | some q =>
    obtain ⟨x, n⟩ := q
    have hw := word_widx (h x n rfl)
    cases po with
    | none =>
      cases dv with
      | none => show (some (wordAt (widx x), n), none, none) = _; rw [hw]
      | some d => show (some (wordAt (widx x), n), none, some d) = _; rw [hw]
    | some p =>
      cases dv with
      | none => show (some (wordAt (widx x), n), some p, none) = _; rw [hw]
      | some d => show (some (wordAt (widx x), n), some p, some d) = _; rw [hw]
def ptK (k : Ky) : Pt := { ep := k.1, ns := if k.2.1 = [] then [0] else k.2.1, fo := (untail k.2.2).1, po := (untail k.2.2).2.1, dv := (untail k.2.2).2.2 }
theorem ptK_key {p : Pt} (h : p.Wf) : ptK p.key = nrm p := by
  unfold ptK Pt.key nrm
  dsimp only
  rw [untail_tailK fun x n e => (h.fo x n e).1]
/-- the plainest text of a key's version -/
def texK (k : Ky) : List Nat := prB false (ptK k)
theorem texK_key {p : Pt} (h : p.Wf) : texK p.key = prB false (nrm p) := by unfold texK; rw [ptK_key h]
/-- the key of a version -/
def VK (k : Ky) : Prop := ∃ p : Pt, p.Wf ∧ p.key = k
theorem run_textK {k : Ky} (h : VK k) (w : W) : m_text_of [.d (kyD k)] w = some (.d (.str (S (texK k))), w) := by
  obtain ⟨p, hp, rfl⟩ := h
  rw [texK_key hp]
  exact run_text hp w
theorem tail4 {fo : Option (List Nat × Nat)} {po dv : Option Nat} : tailK fo po dv ≠ [4] := by
  cases fo with
  | none => cases po <;> cases dv <;> simp [tailK, ownK]
  | some q => obtain ⟨x, n⟩ := q; cases po <;> cases dv <;> simp [tailK, ownK]
end Dn

set_option maxHeartbeats 4000000
namespace Dn

def ltP : List Nat → List Nat → Bool
  | [], [] => false
  | [], y :: ys => if y = 0 then ltP [] ys else true
  | _ :: _, [] => false
  | x :: xs, y :: ys => if x = y then ltP xs ys else decide (x < y)
theorem bas_cons (x : Nat) (xs : List Nat) : bas (x :: xs) = if bas xs = [] ∧ x = 0 then [] else x :: bas xs := by
  unfold bas
  rw [List.reverse_cons, List.dropWhile_append]
  by_cases h : (xs.reverse.dropWhile (· == 0)) = []
  · rw [h]
    by_cases hx : x = 0
    · subst hx; simp
    · simp [hx]
  · have h2 : (xs.reverse.dropWhile (· == 0)).isEmpty = false := by simpa using h
    rw [h2]
    simp [h]
theorem ltL_nil_r (a : List Nat) : ltL a [] = false := by cases a <;> rfl
theorem ltL_nil_l {a : List Nat} (h : a ≠ []) : ltL [] a = true := by
  cases a with
  | nil => exact absurd rfl h
  | cons _ _ => rfl
theorem ltL_bas : ∀ x y : List Nat, ltL (bas x) (bas y) = ltP x y
  | [], [] => rfl
  | [], y :: ys => by
    have ih := ltL_bas [] ys
    rw [bas_cons, ltP]
    by_cases h1 : bas ys = []
    · rw [h1] at ih
      by_cases h2 : y = 0
      · rw [if_pos ⟨h1, h2⟩, if_pos h2, ← ih]
      · rw [if_neg (fun z => h2 z.2), if_neg h2]; rfl
    · rw [if_neg (fun z => h1 z.1)]
      have e : ltL (bas []) (y :: bas ys) = true := rfl
      rw [e]
      split
      · rw [← ih]
        exact (ltL_nil_l h1).symm
      · rfl
  | x :: xs, [] => by rw [ltP]; exact ltL_nil_r _
  | x :: xs, y :: ys => by
    have ih := ltL_bas xs ys
    rw [bas_cons, bas_cons, ltP]
    by_cases h1 : bas xs = [] ∧ x = 0
    · rw [if_pos h1]
      by_cases h2 : bas ys = [] ∧ y = 0
      · rw [if_pos h2, if_pos (h1.2.trans h2.2.symm), ← ih, h1.1, h2.1]
      · rw [if_neg h2]
        have e : ltL [] (y :: bas ys) = true := rfl
        rw [e]
        by_cases hxy : x = y
        · rw [if_pos hxy, ← ih, h1.1]
          refine (ltL_nil_l fun z => h2 ⟨z, ?_⟩).symm
          rw [← hxy]; exact h1.2
        · rw [if_neg hxy]
          have : x < y := by omega
          simp [this]
    · rw [if_neg h1]
      by_cases h2 : bas ys = [] ∧ y = 0
      · rw [if_pos h2, ltL_nil_r]
        by_cases hxy : x = y
        · rw [if_pos hxy, ← ih, h2.1, ltL_nil_r]
        · rw [if_neg hxy]
          have : ¬ x < y := by omega
          simp [this]
      · rw [if_neg h2, ltL, ih]
theorem ltP_nil : ∀ a : List Nat, ltP a [] = false
  | [] => rfl
  | _ :: _ => rfl
theorem incr_cons (x : Nat) {xs : List Nat} (h : xs ≠ []) : incr (x :: xs) = x :: incr xs := by
  unfold incr
  rw [List.dropLast_cons_of_ne_nil h, List.cons_append]
  congr 3
  cases xs with
  | nil => exact absurd rfl h
  | cons y ys => simp
theorem incr_one (x : Nat) : incr [x] = [x + 1] := rfl
/-- in a block -/
def inBlk (N ns : List Nat) : Bool := decide ((ns ++ List.replicate N.length 0).take N.length = N)
theorem inBlk_cons (x : Nat) (N : List Nat) (ns : List Nat) : inBlk (x :: N) ns = (match ns with
    | [] => decide (x = 0) && inBlk N []
    | y :: ys => decide (y = x) && inBlk N (ys ++ [0])) := by
  cases ns with
  | nil =>
    unfold inBlk
    simp only [List.nil_append, List.length_cons, List.replicate_succ, List.take_succ_cons, List.cons.injEq, Bool.decide_and]
    congr 1
    exact decide_eq_decide.mpr ⟨Eq.symm, Eq.symm⟩
  | cons y ys =>
    unfold inBlk
    simp only [List.length_cons, List.replicate_succ, List.cons_append, List.take_succ_cons, List.cons.injEq, Bool.decide_and, List.append_assoc, List.singleton_append]
    rfl
theorem inBlk_zero : ∀ (N ns : List Nat), inBlk N (ns ++ [0]) = inBlk N ns := by
  intro N ns
  unfold inBlk
  refine decide_eq_decide.mpr ?_
  have : (ns ++ [0] ++ List.replicate N.length 0).take N.length = (ns ++ List.replicate N.length 0).take N.length := by
    rw [List.append_assoc, List.singleton_append, ← List.replicate_succ, List.replicate_succ', ← List.append_assoc, List.take_append_of_le_length (by simp)]
  rw [this]
theorem blk_iff : ∀ (N ns : List Nat), N ≠ [] → (!ltP ns N && ltP ns (incr N)) = inBlk N ns
  | [], _, h => absurd rfl h
  | [x], [], _ => by
    rw [inBlk_cons, incr_one]
    simp only [ltP]
    by_cases hx : x = 0
    · subst hx; simp [ltP, inBlk]
    · simp [hx]
  | [x], y :: ys, _ => by
    rw [inBlk_cons, incr_one]
    simp only [ltP, ltP_nil]
    have e : inBlk [] (ys ++ [0]) = true := by simp [inBlk]
    rw [e, Bool.and_true]
    by_cases h1 : y = x
    · subst h1; simp
    · by_cases h2 : y = x + 1
      · subst h2; simp
      · simp only [h1, h2, if_false]
        by_cases h3 : y < x
        · have : ¬ (x ≤ y) := by omega
          simp [h3]
        · have : ¬ y < x + 1 := by omega
          simp [this]
  | x :: z :: N, [], _ => by
    have ih := blk_iff (z :: N) [] (by simp)
    rw [inBlk_cons, incr_cons x (by simp)]
    simp only
    have e1 : ltP [] (x :: z :: N) = if x = 0 then ltP [] (z :: N) else true := rfl
    have e2 : ltP [] (x :: incr (z :: N)) = if x = 0 then ltP [] (incr (z :: N)) else true := rfl
    rw [← ih, e1, e2]
    by_cases hx : x = 0
    · rw [if_pos hx, if_pos hx, decide_eq_true hx, Bool.true_and]
    · rw [if_neg hx, decide_eq_false hx]; rfl
  | x :: z :: N, y :: ys, _ => by
    have ih := blk_iff (z :: N) ys (by simp)
    rw [inBlk_cons, incr_cons x (by simp)]
    simp only
    have e1 : ltP (y :: ys) (x :: z :: N) = if y = x then ltP ys (z :: N) else decide (y < x) := rfl
    have e2 : ltP (y :: ys) (x :: incr (z :: N)) = if y = x then ltP ys (incr (z :: N)) else decide (y < x) := rfl
    rw [inBlk_zero, ← ih, e1, e2]
    by_cases h1 : y = x
    · rw [if_pos h1, if_pos h1, decide_eq_true h1, Bool.true_and]
    · rw [if_neg h1, if_neg h1, decide_eq_false h1]
      cases decide (y < x) <;> rfl

theorem tail_ge0 (fo : Option (List Nat × Nat)) (po dv : Option Nat) : ltL (tailK fo po dv) [0, 0] = false := by
  cases fo with
  | none => cases po <;> cases dv <;> simp [tailK, ownK, ltL]
  | some q => obtain ⟨x, n⟩ := q; cases po <;> cases dv <;> simp [tailK, ownK, ltL]
theorem tail_lt4 (fo : Option (List Nat × Nat)) (po dv : Option Nat) : ltL (tailK fo po dv) [4] = true := by
  cases fo with
  | none => cases po <;> cases dv <;> simp [tailK, ownK, ltL]
  | some q => obtain ⟨x, n⟩ := q; cases po <;> cases dv <;> simp [tailK, ownK, ltL]
def folT (fo : Option (List Nat × Nat)) (po dv : Option Nat) : List Nat := match dv with
  | some d => tailK fo po (some (d + 1))
  | none => tailK fo (some (match po with | some n => n + 1 | none => 0)) (some 0)
theorem fol_key (p : Pt) : (fol p).key = (p.ep, bas p.ns, folT p.fo p.po p.dv) := by
  unfold fol folT Pt.key
  cases p.dv <;> rfl
theorem ltL_cons (x y : Nat) (xs ys : List Nat) : ltL (x :: xs) (y :: ys) = if x = y then ltL xs ys else decide (x < y) := rfl
/-- behind the same beginning -/
theorem own_dev (d : Nat) (dv' : Option Nat) : ltL (ownK dv') [0, d + 1] = !ltL [0, d] (ownK dv') := by
  cases dv' with
  | none => rfl
  | some e =>
    simp only [ownK, ltL, if_true]
    by_cases h : e = d + 1
    · subst h; simp
    · by_cases h2 : d = e
      · subst h2; simp
      · rw [if_neg h, if_neg h2]
        rw [← decide_not]
        exact decide_eq_decide.mpr (by omega)
/-- one more, with dev0, behind it -/
theorem own_post (n n' : Nat) (dv' : Option Nat) : ltL (n' :: ownK dv') [n + 1, 0, 0] = !ltL (n :: [1]) (n' :: ownK dv') := by
  rw [ltL_cons, ltL_cons]
  by_cases h : n' = n + 1
  · subst h
    rw [if_pos rfl, if_neg (by omega)]
    have : decide (n < n + 1) = true := by simp
    rw [this]
    cases dv' with
    | none => rfl
    | some e =>
      simp only [ownK, ltL, if_true]
      by_cases he : e = 0
      · subst he; rfl
      · rw [if_neg he]; simp
  · rw [if_neg h]
    by_cases h2 : n = n'
    · subst h2
      rw [if_pos rfl]
      have : decide (n < n + 1) = true := by simp
      rw [this]
      cases dv' with
      | none => rfl
      | some e => rfl
    · rw [if_neg h2, ← decide_not]
      exact decide_eq_decide.mpr (by omega)
/-- parts behind a forerunning part, or none -/
def restK (po dv : Option Nat) : List Nat := match po with
  | none => ownK dv
  | some n => 2 :: n :: ownK dv
def folR (po dv : Option Nat) : List Nat := match dv with
  | some d => restK po (some (d + 1))
  | none => 2 :: (match po with | some n => n + 1 | none => 0) :: [0, 0]
theorem rest_fol (po dv po' dv' : Option Nat) : ltL (restK po' dv') (folR po dv) = !ltL (restK po dv) (restK po' dv') := by
  cases dv with
  | some d =>
    cases po with
    | none =>
      cases po' with
      | none => exact own_dev d dv'
      | some n' => rfl
    | some n =>
      cases po' with
      | none => cases dv' <;> rfl
      | some n' =>
        show ltL (2 :: n' :: ownK dv') (2 :: n :: [0, d + 1]) = !ltL (2 :: n :: [0, d]) (2 :: n' :: ownK dv')
        rw [ltL_cons, if_pos rfl, ltL_cons, ltL_cons, if_pos rfl, ltL_cons]
        by_cases h : n' = n
        · subst h
          rw [if_pos rfl, if_pos rfl]
          exact own_dev d dv'
        · rw [if_neg h, if_neg (Ne.symm h), ← decide_not]
          exact decide_eq_decide.mpr (by omega)
  | none =>
    cases po with
    | none =>
      cases po' with
      | none => cases dv' <;> rfl
      | some n' =>
        show ltL (2 :: n' :: ownK dv') (2 :: 0 :: [0, 0]) = !ltL [1] (2 :: n' :: ownK dv')
        rw [ltL_cons, if_pos rfl, ltL_cons]
        have e : ltL [1] (2 :: n' :: ownK dv') = true := rfl
        rw [e]
        by_cases h : n' = 0
        · subst h
          rw [if_pos rfl]
          cases dv' with
          | none => rfl
          | some d =>
            simp only [ownK, ltL, if_true]
            by_cases hd : d = 0
            · subst hd; rfl
            · rw [if_neg hd]; simp
        · rw [if_neg h]; simp
    | some n =>
      cases po' with
      | none => cases dv' <;> rfl
      | some n' =>
        show ltL (2 :: n' :: ownK dv') (2 :: (n + 1) :: [0, 0]) = !ltL (2 :: n :: [1]) (2 :: n' :: ownK dv')
        rw [ltL_cons, if_pos rfl, ltL_cons 2 2, if_pos rfl]
        exact own_post n n' dv'
theorem tail_some (x : List Nat) (n : Nat) (po dv : Option Nat) : tailK (some (x, n)) po dv = 1 :: widx x :: n :: restK po dv := by
  cases po <;> rfl
theorem fol_some (x : List Nat) (n : Nat) (po dv : Option Nat) : folT (some (x, n)) po dv = 1 :: widx x :: n :: folR po dv := by
  cases dv <;> cases po <;> rfl
theorem tail_fol (fo : Option (List Nat × Nat)) (po dv : Option Nat) (fo' : Option (List Nat × Nat)) (po' dv' : Option Nat) : ltL (tailK fo' po' dv') (folT fo po dv) = !ltL (tailK fo po dv) (tailK fo' po' dv') := by
  cases fo with
  | none =>
    cases fo' with
    | none =>
      cases dv with
      | some d =>
        cases po with
        | none =>
          cases po' with
          | none =>
            cases dv' with
            | none => rfl
            | some e => exact own_dev d (some e)
          | some n' => rfl
        | some n =>
          cases po' with
          | none => cases dv' <;> rfl
          | some n' =>
            show ltL (3 :: n' :: ownK dv') (3 :: n :: [0, d + 1]) = !ltL (3 :: n :: [0, d]) (3 :: n' :: ownK dv')
            rw [ltL_cons, if_pos rfl, ltL_cons, ltL_cons, if_pos rfl, ltL_cons]
            by_cases h : n' = n
            · subst h
              rw [if_pos rfl, if_pos rfl]
              exact own_dev d dv'
            · rw [if_neg h, if_neg (Ne.symm h), ← decide_not]
              exact decide_eq_decide.mpr (by omega)
      | none =>
        cases po with
        | none =>
          cases po' with
          | none => cases dv' <;> rfl
          | some n' =>
            show ltL (3 :: n' :: ownK dv') (3 :: 0 :: [0, 0]) = !ltL [2] (3 :: n' :: ownK dv')
            rw [ltL_cons, if_pos rfl, ltL_cons]
            have e : ltL [2] (3 :: n' :: ownK dv') = true := rfl
            rw [e]
            by_cases h : n' = 0
            · subst h
              rw [if_pos rfl]
              cases dv' with
              | none => rfl
              | some d =>
                simp only [ownK, ltL, if_true]
                by_cases hd : d = 0
                · subst hd; rfl
                · rw [if_neg hd]; simp
            · rw [if_neg h]; simp
        | some n =>
          cases po' with
          | none => cases dv' <;> rfl
          | some n' =>
            show ltL (3 :: n' :: ownK dv') (3 :: (n + 1) :: [0, 0]) = !ltL (3 :: n :: [1]) (3 :: n' :: ownK dv')
            rw [ltL_cons, if_pos rfl, ltL_cons 3 3, if_pos rfl]
            exact own_post n n' dv'
    | some q' => obtain ⟨x', n'⟩ := q'; cases po <;> cases dv <;> cases po' <;> cases dv' <;> simp [tailK, ownK, folT, ltL]
  | some q =>
    obtain ⟨x, n⟩ := q
    cases fo' with
    | none => cases po <;> cases dv <;> cases po' <;> cases dv' <;> simp [tailK, ownK, folT, ltL]
    | some q' =>
      obtain ⟨x', n'⟩ := q'
      rw [tail_some, tail_some, fol_some, ltL_cons, if_pos rfl, ltL_cons 1 1, if_pos rfl, ltL_cons, ltL_cons (widx x) (widx x')]
      by_cases h1 : widx x' = widx x
      · rw [if_pos h1, if_pos h1.symm, ltL_cons, ltL_cons n n']
        by_cases h2 : n' = n
        · rw [if_pos h2, if_pos h2.symm]
          exact rest_fol po dv po' dv'
        · rw [if_neg h2, if_neg (Ne.symm h2), ← decide_not]
          exact decide_eq_decide.mpr (by omega)
      · rw [if_neg h1, if_neg (Ne.symm h1), ← decide_not]
        exact decide_eq_decide.mpr (by omega)
end Dn

set_option maxHeartbeats 4000000
namespace Dn

theorem VK_ge {k : Ky} (h : VK k) : ltK k leastK = false := by
  obtain ⟨p, _, rfl⟩ := h
  unfold ltK leastK Pt.key
  dsimp only
  split
  · split
    · exact tail_ge0 _ _ _
    · exact ltL_nil_r _
  · simp
theorem ltL_ne {a b : List Nat} (h : a ≠ b) : ltL a b = !ltL b a := by
  rcases ltL_tri a b with q | q | q
  · exact absurd q h
  · rw [q, ltL_asy q]; rfl
  · rw [q, ltL_asy q]; rfl
theorem cut0 (q : Pt) (e : Nat) (N : List Nat) : ltK q.key (e, bas N, [0, 0]) = if q.ep = e then ltP q.ns N else decide (q.ep < e) := by
  unfold ltK Pt.key
  dsimp only
  split
  · split
    · rename_i h
      rw [tail_ge0, ← ltL_bas, h, ltL_irr]
    · rw [ltL_bas]
  · rfl
theorem cut_block (q : Pt) (e : Nat) {N : List Nat} (h : N ≠ []) : (!ltK q.key (cutsK e N).1 && ltK q.key (cutsK e N).2) = (decide (q.ep = e) && inBlk N q.ns) := by
  unfold cutsK
  dsimp only
  rw [cut0, cut0]
  by_cases he : q.ep = e
  · rw [if_pos he, if_pos he, decide_eq_true he, Bool.true_and, blk_iff N q.ns h]
  · rw [if_neg he, if_neg he, decide_eq_false he]
    cases decide (q.ep < e) <;> rfl
theorem fol_next {k : Ky} (h : VK k) (p : Pt) : ltK k (fol p).key = !ltK p.key k := by
  obtain ⟨q, _, rfl⟩ := h
  rw [fol_key]
  unfold ltK Pt.key
  dsimp only
  by_cases he : q.ep = p.ep
  · rw [if_pos he, if_pos he.symm]
    by_cases hb : bas q.ns = bas p.ns
    · rw [if_pos hb, if_pos hb.symm]
      exact tail_fol _ _ _ _ _ _
    · rw [if_neg hb, if_neg (Ne.symm hb)]
      exact ltL_ne hb
  · rw [if_neg he, if_neg (Ne.symm he), ← decide_not]
    exact decide_eq_decide.mpr (by omega)
def baseLt (a b : Pt) : Bool := if a.ep = b.ep then ltP a.ns b.ns else decide (a.ep < b.ep)
def inB (e : Nat) (N : List Nat) (q : Pt) : Bool := decide (q.ep = e) && inBlk N q.ns
def lets (c : Cl) (q : Pt) : Bool := if c.star then inB c.p.ep c.p.ns q == decide (c.sg = .eq) else match c.sg with
  | .lt => baseLt q c.p
  | .gt => baseLt c.p q
  | .ge => !ltK q.key c.p.key
  | .le => !ltK c.p.key q.key
  | .eq => decide (q.key = c.p.key)
  | .ne => !decide (q.key = c.p.key)
  | .co => !ltK q.key c.p.key && inB c.p.ep c.p.ns.dropLast q
/-- all clauses let it in -/
def letsAll (cs : List Cl) (q : Pt) : Bool := cs.all fun c => lets c q
end Dn

set_option maxHeartbeats 4000000
namespace Dn

end Dn

set_option maxHeartbeats 4000000
namespace Dn
open PySem PySem.Spec PyProof.Rows L2 SX
open TL (numL pre joinL)

end Dn

set_option maxHeartbeats 4000000
namespace Dn
open PySem PySem.Spec PyProof.Rows L2 SX
open TL (numL pre joinL)
def rowLt' (xs ys : List PyData) : Bool := PyProof.Rows.lexLt itemOrd (PySem.W.keyToksAll xs) (PySem.W.keyToksAll ys)
theorem rl_cons {x y : PyData} (h : PySem.W.alike x y = true) (xs ys : List PyData) : rowLt' (x :: xs) (y :: ys) = if PyData.eqv x y = true then rowLt' xs ys else PySem.W.dataLt x y := PySem.W.dataLt_cons h xs ys
theorem rl_nil : rowLt' [] [] = false := PySem.W.dataLt_self (.tuple [])
theorem rl_nc (y : PyData) (ys : List PyData) : rowLt' [] (y :: ys) = true := by
  unfold rowLt'
  simp only [PySem.W.keyToksAll]
  rfl
theorem rl_cn (y : PyData) (ys : List PyData) : rowLt' (y :: ys) [] = false := by
  unfold rowLt'
  simp only [PySem.W.keyToksAll]
  rfl
theorem rl_int (a b : Int) (xs ys : List PyData) : rowLt' (.int a :: xs) (.int b :: ys) = if a = b then rowLt' xs ys else decide (a < b) := by
  rw [rl_cons (by simp [PySem.W.alike]), PySem.W.dataLt_int]
  simp [PyData.eqv]
def stgD (fo : Option (List Nat × Nat)) (po dv : Option Nat) : PyData := match fo, po, dv with
  | some (x, n), _, _ => .list [.int 1, .str (S x), .int (n : Int)]
  | none, none, some _ => .list [.int 0]
  | none, _, _ => .list [.int 2]
def pstD : Option Nat → PyData
  | none => .list [.int (-1)]
  | some n => .list [.int (n : Int)]
def dvD : Option Nat → PyData
  | none => .list [.int 1]
  | some n => .list [.int 0, .int (n : Int)]
theorem lt_word {x y : List Nat} (hx : x ∈ WS) (hy : y ∈ WS) : PySem.W.dataLt (.str (S x)) (.str (S y)) = decide (widx x < widx y) ∧ PyData.eqv (.str (S x)) (.str (S y)) = decide (widx x = widx y) := by
  unfold WS at hx hy
  simp only [List.mem_cons, List.not_mem_nil, or_false] at hx hy
  rcases hx with rfl | rfl | rfl <;> rcases hy with rfl | rfl | rfl <;> exact ⟨by rw [PySem.W.dataLt_str]; decide +kernel, by decide +kernel⟩
theorem lt_tails {fo : Option (List Nat × Nat)} {po dv : Option Nat} {fo' : Option (List Nat × Nat)} {po' dv' : Option Nat} (h : ∀ x n, fo = some (x, n) → x ∈ WS) (h' : ∀ x n, fo' = some (x, n) → x ∈ WS) : rowLt' [stgD fo po dv, pstD po, dvD dv] [stgD fo' po' dv', pstD po', dvD dv'] = ltL (tailK fo po dv) (tailK fo' po' dv') := by
  have hb : ∀ a b : Bool, (a || (!a && b)) = (a || b) := by decide
  have dl : ∀ xs ys, PySem.W.dataLt (.list xs) (.list ys) = rowLt' xs ys := PySem.W.dataLt_list
  cases fo with
  | none =>
    cases fo' with
    | none =>
      cases po <;> cases dv <;> cases po' <;> cases dv' <;> simp [stgD, pstD, dvD, tailK, ownK, ltL, rl_int, rl_cons, rl_nil, rl_nc, rl_cn, dl, PySem.W.alike, PySem.W.alikeAll, PyData.eqv, PyData.eqvAll, PySem.W.dataLt_int, Int.ofNat_inj] <;> (try first | omega | grind)
    | some q =>
      obtain ⟨x, n⟩ := q
      cases po <;> cases dv <;> cases po' <;> cases dv' <;> simp [stgD, pstD, dvD, tailK, ownK, ltL, rl_int, rl_cons, rl_nil, rl_nc, rl_cn, dl, PySem.W.alike, PySem.W.alikeAll, PyData.eqv, PyData.eqvAll, PySem.W.dataLt_int, Int.ofNat_inj] <;> (try first | omega | grind)
  | some q =>
    obtain ⟨x, n⟩ := q
    cases fo' with
    | none =>
      cases po <;> cases dv <;> cases po' <;> cases dv' <;> simp [stgD, pstD, dvD, tailK, ownK, ltL, rl_int, rl_cons, rl_nil, rl_nc, rl_cn, dl, PySem.W.alike, PySem.W.alikeAll, PyData.eqv, PyData.eqvAll, PySem.W.dataLt_int, Int.ofNat_inj] <;> (try first | omega | grind)
    | some q =>
      obtain ⟨y, m⟩ := q
      obtain ⟨e1, e2⟩ := lt_word (h x n rfl) (h' y m rfl)
      have hw : ∀ xs ys, rowLt' (.str (S x) :: xs) (.str (S y) :: ys) = if widx x = widx y then rowLt' xs ys else decide (widx x < widx y) := fun xs ys => by
        rw [rl_cons (by simp [PySem.W.alike]), e1, e2]
        simp
      simp only [PyData.eqv] at e2
      cases po <;> cases dv <;> cases po' <;> cases dv' <;> simp [stgD, pstD, dvD, tailK, ownK, ltL, rl_int, rl_cons, rl_nil, rl_nc, rl_cn, dl, PySem.W.alike, PySem.W.alikeAll, PyData.eqv, PyData.eqvAll, PySem.W.dataLt_int, hb, hw, e1, e2, Int.ofNat_inj] <;> (try first | omega | grind)
end Dn

set_option maxHeartbeats 4000000
namespace Dn
open PySem PySem.Spec PyProof.Rows L2 SX
open TL (numL pre joinL)

end Dn

set_option maxHeartbeats 4000000
namespace Dn
open PySem PySem.Spec PyProof.Rows L2 SX
open TL (numL pre joinL)

def ltlD (t : List Nat) : List PyData := if t = [4] then [.list [.int 3], .list [], .list []] else [stgD (untail t).1 (untail t).2.1 (untail t).2.2, pstD (untail t).2.1, dvD (untail t).2.2]
def hdD (e : Nat) (N : List Nat) : PyData := .tuple [.int (e : Int), .list (intsD N)]
def lkK (k : Ky) : PyData := .tuple (hdD k.1 k.2.1 :: ltlD k.2.2)
def TK (t : List Nat) : Prop := t = [4] ∨ ∃ fo po dv, (∀ x n, fo = some (x, n) → x ∈ WS) ∧ t = tailK fo po dv
theorem ltl_tail {fo : Option (List Nat × Nat)} {po dv : Option Nat} (h : ∀ x n, fo = some (x, n) → x ∈ WS) : ltlD (tailK fo po dv) = [stgD fo po dv, pstD po, dvD dv] := by
  unfold ltlD
  rw [if_neg tail4, untail_tailK h]
theorem lk_eq (p : Pt) : lkD p = .tuple (hdD p.ep (bas p.ns) :: [stgD p.fo p.po p.dv, pstD p.po, dvD p.dv]) := rfl
theorem lk_key {p : Pt} (h : p.Wf) : lkD p = lkK p.key := by
  unfold lkK Pt.key
  dsimp only
  rw [ltl_tail fun x n e => (h.fo x n e).1]
  exact lk_eq p
theorem VK.tk {k : Ky} (h : VK k) : TK k.2.2 := by
  obtain ⟨p, hp, rfl⟩ := h
  exact .inr ⟨p.fo, p.po, p.dv, fun x n e => (hp.fo x n e).1, rfl⟩
theorem ltl4 : ltlD [4] = [.list [.int 3], .list [], .list []] := rfl
theorem alike_hd (e f : Nat) (N M : List Nat) : PySem.W.alike (hdD e N) (hdD f M) = true := by
  unfold hdD
  simp only [PySem.W.alike, PySem.W.alikeAll, alike_intsL, Bool.and_self]
theorem alike_tl {t u : List Nat} (ht : TK t) (hu : TK u) : PySem.W.alikeAll (ltlD t) (ltlD u) = true := by
  rcases ht with rfl | ⟨fo, po, dv, h, rfl⟩ <;> rcases hu with rfl | ⟨fo', po', dv', h', rfl⟩
  · rfl
  · rw [ltl4, ltl_tail h']
    cases fo' with
    | none => cases po' <;> cases dv' <;> rfl
    | some q => obtain ⟨x, n⟩ := q; cases po' <;> cases dv' <;> rfl
  · rw [ltl4, ltl_tail h]
    cases fo with
    | none => cases po <;> cases dv <;> rfl
    | some q => obtain ⟨x, n⟩ := q; cases po <;> cases dv <;> rfl
  · rw [ltl_tail h, ltl_tail h']
    cases fo with
    | none => cases fo' with
      | none => cases po <;> cases dv <;> cases po' <;> cases dv' <;> rfl
      | some q => obtain ⟨x, n⟩ := q; cases po <;> cases dv <;> cases po' <;> cases dv' <;> rfl
    | some q =>
      obtain ⟨x, n⟩ := q
      cases fo' with
      | none => cases po <;> cases dv <;> cases po' <;> cases dv' <;> rfl
      | some q => obtain ⟨y, m⟩ := q; cases po <;> cases dv <;> cases po' <;> cases dv' <;> rfl
theorem alike_lkK {a b : Ky} (ha : TK a.2.2) (hb : TK b.2.2) : PySem.W.alike (lkK a) (lkK b) = true := by
  unfold lkK
  simp only [PySem.W.alike, PySem.W.alikeAll, alike_hd, alike_tl ha hb, Bool.and_self]
theorem nb_tl {t : List Nat} (ht : TK t) : nbA (ltlD t) = true := by
  rcases ht with rfl | ⟨fo, po, dv, h, rfl⟩
  · rfl
  · rw [ltl_tail h]
    cases fo with
    | none => cases po <;> cases dv <;> rfl
    | some q => obtain ⟨x, n⟩ := q; cases po <;> cases dv <;> rfl
theorem nb_lkK {a : Ky} (ha : TK a.2.2) : nb (lkK a) = true := by
  unfold lkK hdD
  simp only [nb, nbA, nb_ints, nb_tl ha, Bool.and_self]
theorem dOk_tl {t : List Nat} (ht : TK t) (n : Nat) : dOkAll (n + 1) (ltlD t) = true := by
  rcases ht with rfl | ⟨fo, po, dv, h, rfl⟩
  · rfl
  · rw [ltl_tail h]
    cases fo with
    | none => cases po <;> cases dv <;> simp [stgD, pstD, dvD, dOkAll, dOk]
    | some q => obtain ⟨x, n⟩ := q; cases po <;> cases dv <;> simp [stgD, pstD, dvD, dOkAll, dOk]
theorem dOk_lkK {a : Ky} (ha : TK a.2.2) (n : Nat) : dOk (n + 3) (lkK a) = true := by
  unfold lkK hdD
  simp only [dOk, dOkAll, dOk_ints, dOk_tl ha, Bool.and_self]
theorem lt_tls {t u : List Nat} (ht : TK t) (hu : TK u) : rowLt' (ltlD t) (ltlD u) = ltL t u := by
  have dl : ∀ xs ys, PySem.W.dataLt (.list xs) (.list ys) = rowLt' xs ys := PySem.W.dataLt_list
  rcases ht with rfl | ⟨fo, po, dv, h, rfl⟩ <;> rcases hu with rfl | ⟨fo', po', dv', h', rfl⟩
  · rw [ltL_irr]; exact PySem.W.dataLt_self (.tuple (ltlD [4]))
  · rw [ltL_asy (tail_lt4 fo' po' dv'), ltl4, ltl_tail h']
    cases fo' with
    | none => cases po' <;> cases dv' <;> simp [stgD, pstD, dvD, rl_int, rl_cons, rl_nil, rl_nc, rl_cn, dl, PySem.W.alike, PySem.W.alikeAll, PyData.eqv, PyData.eqvAll, PySem.W.dataLt_int]
    | some q => obtain ⟨x, n⟩ := q; cases po' <;> cases dv' <;> simp [stgD, pstD, dvD, rl_int, rl_cons, rl_nil, rl_nc, rl_cn, dl, PySem.W.alike, PySem.W.alikeAll, PyData.eqv, PyData.eqvAll, PySem.W.dataLt_int]
  · rw [tail_lt4, ltl4, ltl_tail h]
    cases fo with
    | none => cases po <;> cases dv <;> simp [stgD, pstD, dvD, rl_int, rl_cons, rl_nil, rl_nc, rl_cn, dl, PySem.W.alike, PySem.W.alikeAll, PyData.eqv, PyData.eqvAll, PySem.W.dataLt_int]
    | some q => obtain ⟨x, n⟩ := q; cases po <;> cases dv <;> simp [stgD, pstD, dvD, rl_int, rl_cons, rl_nil, rl_nc, rl_cn, dl, PySem.W.alike, PySem.W.alikeAll, PyData.eqv, PyData.eqvAll, PySem.W.dataLt_int]
  · rw [ltl_tail h, ltl_tail h']
    exact lt_tails h h'
theorem eqv_hd (e f : Nat) (N M : List Nat) : PyData.eqv (hdD e N) (hdD f M) = (decide (e = f) && decide (N = M)) := by
  have n1 : ∀ e N, nb (hdD e N) = true := fun e N => by unfold hdD; simp only [nb, nbA, nb_ints, Bool.and_self]
  rw [eqv_dec (n1 e N) (n1 f M), ← Bool.decide_and]
  refine decide_eq_decide.mpr ⟨fun h => ?_, fun h => by rw [h.1, h.2]⟩
  unfold hdD at h
  simp only [PyData.tuple.injEq, List.cons.injEq, PyData.int.injEq, PyData.list.injEq, and_true] at h
  exact ⟨Int.ofNat.inj h.1, intsD_inj h.2⟩
theorem lt_hd (e f : Nat) (N M : List Nat) : PySem.W.dataLt (hdD e N) (hdD f M) = if e = f then ltL N M else decide (e < f) := by
  have h1 : PySem.W.dataLt (hdD e N) (hdD f M) = rowLt' [.int (e : Int), .list (intsD N)] [.int (f : Int), .list (intsD M)] := PySem.W.dataLt_tuple _ _
  have h2 : PySem.W.dataLt (.list (intsD N)) (.list (intsD M)) = ltL N M := (PySem.W.dataLt_list _ _).trans (rowLt_ints N M)
  have h3 : PySem.W.alike (.list (intsD N)) (.list (intsD M)) = true := by simp only [PySem.W.alike, alike_intsL]
  rw [h1, rl_int, rl_cons h3, rl_nil, h2]
  have n1 : ∀ N, nb (.list (intsD N)) = true := fun N => by simp only [nb, nb_ints]
  have hE : PyData.eqv (.list (intsD N)) (.list (intsD M)) = decide (N = M) := by
    rw [eqv_dec (n1 N) (n1 M)]
    exact decide_eq_decide.mpr ⟨fun z => intsD_inj (PyData.list.inj z), fun h => by rw [h]⟩
  rw [hE]
  by_cases he : e = f
  · subst he
    rw [if_pos rfl, if_pos rfl]
    by_cases hN : N = M
    · subst hN
      rw [if_pos (by simp), ltL_irr]
    · rw [if_neg (by simpa using hN)]
  · rw [if_neg (by omega), if_neg he]
    exact decide_eq_decide.mpr (by omega)
theorem dataLt_lkK {a b : Ky} (ha : TK a.2.2) (hb : TK b.2.2) : PySem.W.dataLt (lkK a) (lkK b) = ltK a b := by
  have h1 : PySem.W.dataLt (lkK a) (lkK b) = rowLt' (hdD a.1 a.2.1 :: ltlD a.2.2) (hdD b.1 b.2.1 :: ltlD b.2.2) := PySem.W.dataLt_tuple _ _
  rw [h1, rl_cons (alike_hd _ _ _ _), eqv_hd, lt_hd, lt_tls ha hb]
  unfold ltK
  by_cases he : a.1 = b.1
  · by_cases hN : a.2.1 = b.2.1
    · rw [if_pos (by simp [he, hN]), if_pos he, if_pos hN]
    · rw [if_neg (by simp [hN]), if_pos he, if_pos he, if_neg hN]
  · rw [if_neg (by simp [he]), if_neg he, if_neg he]
theorem lkK_inj {a b : Ky} (ha : TK a.2.2) (hb : TK b.2.2) (h : lkK a = lkK b) : a = b := by
  refine leK_antisymm ?_ ?_
  · rw [← dataLt_lkK hb ha, h]; exact PySem.W.dataLt_self _
  · rw [← dataLt_lkK ha hb, h]; exact PySem.W.dataLt_self _
theorem cmp_lkK {a b : Ky} (ha : TK a.2.2) (hb : TK b.2.2) : cmpOk (lkK a) (lkK b) = true := by
  unfold cmpOk
  rw [alike_lkK ha hb, dOk_lkK ha 57]
  rfl
theorem eqD_lk {a b : Ky} (ha : TK a.2.2) (hb : TK b.2.2) : eqD (lkK a) (lkK b) = some (.bool (decide (a = b))) := by
  unfold eqD
  rw [dOk_lkK ha 57, Bool.true_or, if_pos rfl, eqv_dec (nb_lkK ha) (nb_lkK hb), decide_eq_decide.mpr ⟨lkK_inj ha hb, fun h => by rw [h]⟩]
theorem neD_lk {a b : Ky} (ha : TK a.2.2) (hb : TK b.2.2) : neD (lkK a) (lkK b) = some (.bool (!decide (a = b))) := by
  unfold neD
  rw [dOk_lkK ha 57, Bool.true_or, if_pos rfl, eqv_dec (nb_lkK ha) (nb_lkK hb), decide_eq_decide.mpr ⟨lkK_inj ha hb, fun h => by rw [h]⟩]
theorem geD_lk {a b : Ky} (ha : TK a.2.2) (hb : TK b.2.2) : geD (lkK a) (lkK b) = some (.bool (!ltK a b)) := by
  show geT (lkK a) (lkK b) = _
  unfold geT
  rw [cmp_lkK ha hb, if_pos rfl, dataLt_lkK ha hb]
theorem leD_lk {a b : Ky} (ha : TK a.2.2) (hb : TK b.2.2) : leD (lkK a) (lkK b) = some (.bool (!ltK b a)) := by
  show leT (lkK a) (lkK b) = _
  unfold leT
  rw [cmp_lkK ha hb, if_pos rfl, dataLt_lkK hb ha]
theorem ltD_hd (e f : Nat) (N M : List Nat) : ltD (hdD e N) (hdD f M) = some (.bool (if e = f then ltL N M else decide (e < f))) := by
  have hd : dOk 60 (hdD e N) = true := by unfold hdD; simp only [dOk, dOkAll, dOk_ints, Bool.and_self]
  show ltT (hdD e N) (hdD f M) = _
  unfold ltT
  rw [lt_hd, alike_hd, hd, Bool.true_or, Bool.and_self, if_pos rfl]
theorem gtD_hd (e f : Nat) (N M : List Nat) : gtD (hdD e N) (hdD f M) = some (.bool (if f = e then ltL M N else decide (f < e))) := by
  have hd : dOk 60 (hdD e N) = true := by unfold hdD; simp only [dOk, dOkAll, dOk_ints, Bool.and_self]
  have hc : cmpOk (hdD e N) (hdD f M) = true := by
    unfold cmpOk
    rw [alike_hd, hd]
    rfl
  show gtT (hdD e N) (hdD f M) = _
  unfold gtT
  rw [hc, if_pos rfl, lt_hd]
end Dn

set_option maxHeartbeats 4000000
namespace Dn
open PySem PySem.Spec PyProof.Rows L2 SX
open TL (numL pre joinL)

theorem cut_take (ns : List Nat) (k : Nat) : slD (.list (intsD ns)) none (some (k : Int)) = some (.list (intsD (ns.take k))) := by
  unfold slD cutL
  dsimp only
  rw [HT.sIx_none, HT.sIx_nat, List.drop_zero, Nat.sub_zero, intsD_len]
  unfold intsD
  rw [← List.map_take]
  refine congrArg (fun x => some (PyData.list (List.map _ x))) ?_
  by_cases c : k ≤ ns.length
  · rw [Nat.min_eq_left c]
  · rw [Nat.min_eq_right (by omega), List.take_of_length_le (Nat.le_refl _), List.take_of_length_le (by omega)]
theorem cut_lastL {ns : List Nat} (h : ns ≠ []) : slD (.list (intsD ns)) none (some (-1)) = some (.list (intsD ns.dropLast)) := by
  have := cut_last h
  unfold slD at this ⊢
  dsimp only at this ⊢
  rw [Option.some.injEq, PyData.tuple.injEq] at this
  rw [this]
theorem eqD_intsL (a b : List Nat) : eqD (.list (intsD a)) (.list (intsD b)) = some (.bool (decide (a = b))) := by
  have n1 : ∀ N, nb (.list (intsD N)) = true := fun N => by simp only [nb, nb_ints]
  have d1 : dOk 60 (.list (intsD a)) = true := by simp only [dOk, dOk_ints]
  unfold eqD
  rw [d1, Bool.true_or, if_pos rfl, eqv_dec (n1 a) (n1 b), decide_eq_decide.mpr ⟨fun z => intsD_inj (PyData.list.inj z), fun h => by rw [h]⟩]
theorem cutS_last2 (l : List Nat) : cutS (S l) (some (-2)) none = S (l.drop (l.length - 2)) := by
  unfold cutS
  rw [HT.sIx_none, S_len]
  have e : HT.sIx l.length 0 (some (-2)) = l.length - 2 := by
    unfold HT.sIx
    dsimp only
    rw [if_pos (by decide)]
    omega
  rw [e]
  refine congrArg S ?_
  show (l.drop (l.length - 2)).take _ = _
  rw [List.take_of_length_le (by rw [List.length_drop]; omega)]
theorem last2 {c : Cl} (h : c.p.Wf) : ∃ z, slD (.str (S c.txt)) (some (-2)) none = some (.str z) ∧ PyData.eqv (.str z) (.str ".*") = c.star := by
  refine ⟨S (c.txt.drop (c.txt.length - 2)), ?_, ?_⟩
  · unfold slD
    dsimp only
    rw [if_pos (sh_line (txt_sh h)), cutS_last2]
  · have h42 := prB_no (c := 42) (by decide) (by decide) c.b h
    show (S (c.txt.drop (c.txt.length - 2)) == ((".*" : String) : Str)) = c.star
    rw [starStr, S_beq_eq]
    unfold Cl.txt starS
    cases c.star with
    | true =>
      rw [if_pos rfl, decide_eq_true_iff]
      simp
    | false =>
      rw [if_neg (by simp), List.append_nil, decide_eq_false_iff_not]
      intro e
      have : 42 ∈ (prB c.b c.p).drop ((prB c.b c.p).length - 2) := by rw [e]; simp
      exact h42 (List.mem_of_mem_drop this)
theorem eq_star {z : Str} {b : Bool} (h : PyData.eqv (.str z) (.str ".*") = b) : eqD (.str z) (.str ".*") = some (.bool b) := by
  unfold eqD
  rw [show dOk 60 (.str z) = true by simp [dOk], Bool.true_or, if_pos rfl, h]
theorem addD_L {xs ys : List PyData} (h : xs.length + ys.length ≤ 1000000) : addD (.list xs) (.list ys) = some (.list (xs ++ ys)) := by
  simp only [addD, addL]
  rw [if_pos (by rw [sizeLine_eq]; omega)]
theorem linblk_own (mu ad : PyData → PyData → Option PyData) {C Z A B rest : List PyData} {E F : PyData} {n : Int} (h1 : mu (.list [.int 0]) (.int n) = some (.list Z)) (h2 : ad (.list C) (.list Z) = some (.list A)) (h3 : lenD [.list B] = some (.int n)) (w : W) :
    mSet 3 (mOp ad (mOp ixD (mVar 0) (mC (.int 1))) (mOp mu (mFz (mLst (mCons (mC (.int 0)) mNil))) (mB lenD (mCons (mVar 1) mNil)))) [some (.d (.tuple (E :: .list C :: rest))), some (.d (.list B)), some (.d F), none] w = some (.nx, [some (.d (.tuple (E :: .list C :: rest))), some (.d (.list B)), some (.d F), some (.d (.list A))], w) := by
  push_cast [h1, h2, h3]
theorem linblk_step {C Z A A1 B rest : List PyData} {E F : PyData} {n : Int} {b c : Bool} (h1 : mulD (.list [.int 0]) (.int n) = some (.list Z)) (h2 : addD (.list C) (.list Z) = some (.list A)) (h3 : lenD [.list B] = some (.int n)) (h4 : eqD E F = some (.bool b)) (h5 : slD (.list A) none (some n) = some (.list A1)) (h6 : eqD (.list A1) (.list B) = some (.bool c)) (w : W) :
    m__law_in_block [.d (.tuple (E :: .list C :: rest)), .d (.list B), .d F] w = some (.d (.bool (b && c)), w) := by
  refine fn_ex rfl ?_
  unfold b__law_in_block
  refine ex_nx (linblk_own mulD addD h1 h2 h3 w) ?_
  cases b with
  | true => exact ⟨_, by push_cast [h3, h4, h5, h6]⟩
  | false => exact ⟨_, by push_cast [h4]⟩
theorem run_linblk {p : Pt} (hp : p.ns.length ≤ 100) (e : Nat) {N : List Nat} (hN : N.length ≤ 100) (w : W) : m__law_in_block [.d (lpD p), .d (.list (intsD N)), .d (.int (e : Int))] w = some (.d (.bool (inB e N p)), w) := by
  have h2 : addD (.list (intsD p.ns)) (.list (intsD (List.replicate N.length 0))) = some (.list (intsD (p.ns ++ List.replicate N.length 0))) := by
    rw [addD_L (by rw [intsD_len, intsD_len, List.length_replicate]; omega), intsD_app]
  have h3 : lenD [.list (intsD N)] = some (.int ((N.length : Nat) : Int)) := by
    unfold lenD
    dsimp only
    rw [intsD_len]
  have h4 := eqD_int (p.ep : Int) (e : Int)
  rw [decide_eq_decide.mpr (show ((p.ep : Int) = (e : Int)) ↔ p.ep = e by omega)] at h4
  exact linblk_step (mul_zero N.length (by omega)) h2 h3 h4 (cut_take _ _) (eqD_intsL _ N) w

theorem disp_ge (a b c d : PyData) : valS (mergeS [] [((">=" : Str), a), (("<=" : Str), b), (("==" : Str), c), (("!=" : Str), d)]) Sg.ge.s = some a := by rfl
theorem disp_le (a b c d : PyData) : valS (mergeS [] [((">=" : Str), a), (("<=" : Str), b), (("==" : Str), c), (("!=" : Str), d)]) Sg.le.s = some b := by rfl
theorem disp_eq (a b c d : PyData) : valS (mergeS [] [((">=" : Str), a), (("<=" : Str), b), (("==" : Str), c), (("!=" : Str), d)]) Sg.eq.s = some c := by rfl
theorem disp_ne (a b c d : PyData) : valS (mergeS [] [((">=" : Str), a), (("<=" : Str), b), (("==" : Str), c), (("!=" : Str), d)]) Sg.ne.s = some d := by rfl
section
variable {MP MK MI : Fx} {TX SG Q z CP : Str} {LK LP EP NS BP : PyData} {rest : List PyData} {w : W} {IB DE : Bool}
theorem clets_1 (k1 : MK [.d (.str Q)] w = some (.d LK, w)) (k2 : MP [.d (.str Q)] w = some (.d LP, w)) : mPar 4 5 (mCall MK (mCons (mVar 1) mNil)) (mCall MP (mCons (mVar 1) mNil)) [some (.d (.tuple [.str SG, .str TX])), some (.d (.str Q)), some (.d (.str SG)), some (.d (.str TX)), none, none, none, none, none, none] w = some (.nx, [some (.d (.tuple [.str SG, .str TX])), some (.d (.str Q)), some (.d (.str SG)), some (.d (.str TX)), some (.d LK), some (.d LP), none, none, none, none], w) := by push_cast [k1, k2]
theorem clets_2 (s1 : slD (.str TX) (some (-2)) none = some (.str z)) (s2 : eqD (.str z) (.str ".*") = some (.bool true)) (s3 : slD (.str TX) none (some (-2)) = some (.str CP)) (k3 : MP [.d (.str CP)] w = some (.d BP, w)) :
   mSet 6 (mCall MP (mCons (mIf (mTru (mOp eqD (mSl (mVar 3) (mPart (mNeg (mC (.int 2)))) mNo) (mC (.str ".*")))) (mSl (mVar 3) mNo (mPart (mNeg (mC (.int 2))))) (mVar 3)) mNil)) [some (.d (.tuple [.str SG, .str TX])), some (.d (.str Q)), some (.d (.str SG)), some (.d (.str TX)), some (.d LK), some (.d LP), none, none, none, none] w = some (.nx, [some (.d (.tuple [.str SG, .str TX])), some (.d (.str Q)), some (.d (.str SG)), some (.d (.str TX)), some (.d LK), some (.d LP), some (.d BP), none, none, none], w) := by push_cast [mNeg, Int.reduceNeg, s1, s2, s3, k3]
theorem clets_3 (s1 : slD (.str TX) (some (-2)) none = some (.str z)) (s2 : eqD (.str z) (.str ".*") = some (.bool true)) (k4 : MI [.d LP, .d NS, .d EP] w = some (.d (.bool IB), w)) (k5 : eqD (.str SG) (.str "==") = some (.bool DE)) (k6 : eqD (.bool IB) (.bool DE) = some (.bool (IB == DE))) :
   mIf (mTru (mOp eqD (mSl (mVar 3) (mPart (mNeg (mC (.int 2)))) mNo) (mC (.str ".*")))) (mRet (mOp eqD (mCall MI (mCons (mVar 5) (mCons (mOp ixD (mVar 6) (mC (.int 1))) (mCons (mOp ixD (mVar 6) (mC (.int 0))) mNil)))) (mOp eqD (mVar 2) (mC (.str "=="))))) mNx [some (.d (.tuple [.str SG, .str TX])), some (.d (.str Q)), some (.d (.str SG)), some (.d (.str TX)), some (.d LK), some (.d LP), some (.d (.tuple (EP :: NS :: rest))), none, none, none] w = some (.rt (.d (.bool (IB == DE))), [some (.d (.tuple [.str SG, .str TX])), some (.d (.str Q)), some (.d (.str SG)), some (.d (.str TX)), some (.d LK), some (.d LP), some (.d (.tuple (EP :: NS :: rest))), none, none, none], w) := by push_cast [mNeg, Int.reduceNeg, s1, s2, k4, k5, k6]
end
section
variable {q : Pt} {c : Cl}
theorem eqD_bool (a b : Bool) : eqD (.bool a) (.bool b) = some (.bool (a == b)) := by cases a <;> cases b <;> rfl
/-- the first statements -/
theorem clets_star (h : c.Wg) (hq : q.Wf) (hst : c.star = true) (b : Bool) (w : W) : m__law_clause_lets [.d (clD c), .d (.str (S (prB b q)))] w = some (.d (.bool (lets c q)), w) := by
  refine fn_ex rfl ?_
  unfold b__law_clause_lets clD
  have k1 := run_lkey b hq w
  have k2 := run_lparts b hq w
  have k3 := run_lparts c.b h.wf w
  obtain ⟨z, s1, s2⟩ := last2 h.wf
  have s2 := eq_star s2
  rw [hst] at s2
  have s3 : slD (.str (S c.txt)) none (some (-2)) = some (.str (S (prB c.b c.p))) := by
    have h5 : c.txt = prB c.b c.p ++ [46, 42] := by unfold Cl.txt starS; rw [hst, if_pos rfl]
    have h6 := txt_sh h.wf
    rw [h5] at h6 ⊢
    exact sl_star h6
  have k4 := run_linblk (p := q) (by have := hq.len; omega) c.p.ep (N := c.p.ns) (by have := h.wf.len; omega) w
  have k5 := sg_eq c.sg .eq
  have k6 := eqD_bool (inB c.p.ep c.p.ns q) (decide (c.sg = .eq))
  have k7 : lets c q = (inB c.p.ep c.p.ns q == decide (c.sg = .eq)) := by unfold lets; rw [if_pos hst]
  rw [k7]
  generalize lkD q = LK at k1
  generalize S (prB b q) = Q at k1 k2 ⊢
  generalize S c.txt = TX at s1 s3 ⊢
  generalize S (prB c.b c.p) = CP at s3 k3
  generalize lpD q = LP at k2 k4
  generalize inB c.p.ep c.p.ns q = IB at k4 k6 ⊢
  unfold lpD at k3
  generalize Sg.s c.sg = SG at k5 ⊢
  have k5 : eqD (.str SG) (.str "==") = some (.bool (decide (c.sg = .eq))) := k5
  generalize decide (c.sg = .eq) = DE at k5 k6 ⊢
  refine ex_nx (e1 := [some (.d (.tuple [.str SG, .str TX])), some (.d (.str Q)), some (.d (.str SG)), some (.d (.str TX)), none, none, none, none, none, none]) (w1 := w) rfl ?_
  refine ex_nx (clets_1 k1 k2) ?_
  refine ex_nx (clets_2 s1 s2 s3 k3) ?_
  exact ex_rt (clets_3 s1 s2 k4 k5 k6)
end

section
variable {MP MK MI MB : Fx} {TX SG Q z CP : Str} {LK LP EP NS NS2 BP DU B1 B2 R : PyData} {rest : List PyData} {w : W} {IB DE : Bool}
theorem cletn_2 (s1 : slD (.str TX) (some (-2)) none = some (.str z)) (s2 : eqD (.str z) (.str ".*") = some (.bool false)) (k3 : MP [.d (.str TX)] w = some (.d BP, w)) :
   mSet 6 (mCall MP (mCons (mIf (mTru (mOp eqD (mSl (mVar 3) (mPart (mNeg (mC (.int 2)))) mNo) (mC (.str ".*")))) (mSl (mVar 3) mNo (mPart (mNeg (mC (.int 2))))) (mVar 3)) mNil)) [some (.d (.tuple [.str SG, .str TX])), some (.d (.str Q)), some (.d (.str SG)), some (.d (.str TX)), some (.d LK), some (.d LP), none, none, none, none] w = some (.nx, [some (.d (.tuple [.str SG, .str TX])), some (.d (.str Q)), some (.d (.str SG)), some (.d (.str TX)), some (.d LK), some (.d LP), some (.d BP), none, none, none], w) := by push_cast [mNeg, Int.reduceNeg, s1, s2, k3]
theorem cletn_3 {b : Sx} (s1 : slD (.str TX) (some (-2)) none = some (.str z)) (s2 : eqD (.str z) (.str ".*") = some (.bool false)) :
   mIf (mTru (mOp eqD (mSl (mVar 3) (mPart (mNeg (mC (.int 2)))) mNo) (mC (.str ".*")))) b mNx [some (.d (.tuple [.str SG, .str TX])), some (.d (.str Q)), some (.d (.str SG)), some (.d (.str TX)), some (.d LK), some (.d LP), some (.d BP), none, none, none] w = some (.nx, [some (.d (.tuple [.str SG, .str TX])), some (.d (.str Q)), some (.d (.str SG)), some (.d (.str TX)), some (.d LK), some (.d LP), some (.d BP), none, none, none], w) := by push_cast [mNeg, Int.reduceNeg, s1, s2]
theorem cletn_4 {b : Sx} (k : inD (.str SG) (.tuple [.str "<", .str ">"]) = some (.bool false)) : mIf (mTru (mOp inD (mVar 2) (mTup (mCons (mC (.str "<")) (mCons (mC (.str ">")) mNil))))) b mNx [some (.d (.tuple [.str SG, .str TX])), some (.d (.str Q)), some (.d (.str SG)), some (.d (.str TX)), some (.d LK), some (.d LP), some (.d BP), none, none, none] w = some (.nx, [some (.d (.tuple [.str SG, .str TX])), some (.d (.str Q)), some (.d (.str SG)), some (.d (.str TX)), some (.d LK), some (.d LP), some (.d BP), none, none, none], w) := by push_cast [k]
theorem cletn_5 (k : inD (.str SG) (.tuple [.str "<", .str ">"]) = some (.bool true)) (b1 : MB [.d LP] w = some (.d B1, w)) (b2 : MB [.d BP] w = some (.d B2, w)) (e : eqD (.str SG) (.str "<") = some (.bool DE)) (l : (if DE then ltD B1 B2 else gtD B1 B2) = some R) : mIf (mTru (mOp inD (mVar 2) (mTup (mCons (mC (.str "<")) (mCons (mC (.str ">")) mNil))))) (mSeq (mPar 7 8 (mCall MB (mCons (mVar 5) mNil)) (mCall MB (mCons (mVar 6) mNil)))
 (mRet (mIf (mTru (mOp eqD (mVar 2) (mC (.str "<")))) (mOp ltD (mVar 7) (mVar 8)) (mOp gtD (mVar 7) (mVar 8))))) mNx [some (.d (.tuple [.str SG, .str TX])), some (.d (.str Q)), some (.d (.str SG)), some (.d (.str TX)), some (.d LK), some (.d LP), some (.d BP), none, none, none] w = some (.rt (.d R), [some (.d (.tuple [.str SG, .str TX])), some (.d (.str Q)), some (.d (.str SG)), some (.d (.str TX)), some (.d LK), some (.d LP), some (.d BP), some (.d B1), some (.d B2), none], w) := by
  cases DE with
  | true =>
    rw [if_pos rfl] at l
    push_cast [k, b1, b2, e, l]
  | false =>
    rw [if_neg (by simp)] at l
    push_cast [k, b1, b2, e, l]
theorem cletn_6 (k : MK [.d (.str TX)] w = some (.d DU, w)) : mSet 9 (mCall MK (mCons (mVar 3) mNil)) [some (.d (.tuple [.str SG, .str TX])), some (.d (.str Q)), some (.d (.str SG)), some (.d (.str TX)), some (.d LK), some (.d LP), some (.d BP), none, none, none] w = some (.nx, [some (.d (.tuple [.str SG, .str TX])), some (.d (.str Q)), some (.d (.str SG)), some (.d (.str TX)), some (.d LK), some (.d LP), some (.d BP), none, none, some (.d DU)], w) := by push_cast [k]
theorem cletn_7 {b : Sx} (k : eqD (.str SG) (.str "~=") = some (.bool false)) : mIf (mTru (mOp eqD (mVar 2) (mC (.str "~=")))) b mNx [some (.d (.tuple [.str SG, .str TX])), some (.d (.str Q)), some (.d (.str SG)), some (.d (.str TX)), some (.d LK), some (.d LP), some (.d BP), none, none, some (.d DU)] w = some (.nx, [some (.d (.tuple [.str SG, .str TX])), some (.d (.str Q)), some (.d (.str SG)), some (.d (.str TX)), some (.d LK), some (.d LP), some (.d BP), none, none, some (.d DU)], w) := by push_cast [k]
theorem cletn_8 (k : eqD (.str SG) (.str "~=") = some (.bool true)) (g : geD LK DU = some (.bool DE)) (sl : slD NS none (some (-1)) = some NS2) (i : MI [.d LP, .d NS2, .d EP] w = some (.d (.bool IB), w)) : mIf (mTru (mOp eqD (mVar 2) (mC (.str "~=")))) (mRet (mAndV (mOp geD (mVar 4) (mVar 9)) (mCall MI (mCons (mVar 5) (mCons (mSl (mOp ixD (mVar 6) (mC (.int 1))) mNo (mPart (mNeg (mC (.int 1))))) (mCons (mOp ixD (mVar 6) (mC (.int 0))) mNil)))))) mNx [some (.d (.tuple [.str SG, .str TX])), some (.d (.str Q)), some (.d (.str SG)), some (.d (.str TX)), some (.d LK), some (.d LP), some (.d (.tuple (EP :: NS :: rest))), none, none, some (.d DU)] w = some (.rt (.d (.bool (DE && IB))), [some (.d (.tuple [.str SG, .str TX])), some (.d (.str Q)), some (.d (.str SG)), some (.d (.str TX)), some (.d LK), some (.d LP), some (.d (.tuple (EP :: NS :: rest))), none, none, some (.d DU)], w) := by
  cases DE with
  | true => push_cast [k, g, mNeg, Int.reduceNeg, sl, i]
  | false => push_cast [k, g]
theorem cletn_9 {x1 x2 x3 x4 : PyData} (g1 : geD LK DU = some x1) (g2 : leD LK DU = some x2) (g3 : eqD LK DU = some x3) (g4 : neD LK DU = some x4) (v : valS (mergeS [] [((">=" : Str), x1), (("<=" : Str), x2), (("==" : Str), x3), (("!=" : Str), x4)]) SG = some R) : mRet (mDisp [(">=", (mOp geD (mVar 4) (mVar 9))), ("<=", (mOp leD (mVar 4) (mVar 9))), ("==", (mOp eqD (mVar 4) (mVar 9))), ("!=", (mOp neD (mVar 4) (mVar 9)))] (mVar 2)) [some (.d (.tuple [.str SG, .str TX])), some (.d (.str Q)), some (.d (.str SG)), some (.d (.str TX)), some (.d LK), some (.d LP), some (.d BP), none, none, some (.d DU)] w = some (.rt (.d R), [some (.d (.tuple [.str SG, .str TX])), some (.d (.str Q)), some (.d (.str SG)), some (.d (.str TX)), some (.d LK), some (.d LP), some (.d BP), none, none, some (.d DU)], w) := by
  push_cast [mDisp, mPairs, g1, g2, g3, g4, List.zip_cons_cons, List.zip_nil_right, List.zip_nil_left, v]
end
theorem run_cletsG {q : Pt} {c : Cl} (h : c.Wg) (hq : q.Wf) (b : Bool) (w : W) : m__law_clause_lets [.d (clD c), .d (.str (S (prB b q)))] w = some (.d (.bool (lets c q)), w) := by
  by_cases hst : c.star = true
  · exact clets_star h hq hst b w
  have hst : c.star = false := by simpa using hst
  refine fn_ex rfl ?_
  unfold b__law_clause_lets clD
  have k1 := run_lkey b hq w
  have k2 := run_lparts b hq w
  have k3 := run_lparts c.b h.wf w
  have k8 := run_lkey c.b h.wf w
  obtain ⟨z, s1, s2⟩ := last2 h.wf
  have s2 := eq_star s2
  rw [hst] at s2
  have htx : c.txt = prB c.b c.p := by unfold Cl.txt starS; rw [hst, if_neg (by simp), List.append_nil]
  rw [← htx] at k3 k8
  have hk : TK q.key.2.2 := VK.tk ⟨q, hq, rfl⟩
  have hk2 : TK c.p.key.2.2 := VK.tk ⟨c.p, h.wf, rfl⟩
  have o1 := sg_inO c.sg
  have e1 := sg_eq c.sg .lt
  have e2 := sg_eq c.sg .co
  have b1 := run_lbase (.int (q.ep : Int)) (ns := q.ns) (by have := hq.len; omega) [foL q.fo, onL q.po, onL q.dv] w
  have b2 := run_lbase (.int (c.p.ep : Int)) (ns := c.p.ns) (by have := h.wf.len; omega) [foL c.p.fo, onL c.p.po, onL c.p.dv] w
  have g1 := geD_lk hk hk2
  have g2 := leD_lk hk hk2
  have g3 := eqD_lk hk hk2
  have g4 := neD_lk hk hk2
  rw [← lk_key hq, ← lk_key h.wf] at g1 g2 g3 g4
  refine ex_nx (e1 := [some (.d (.tuple [.str c.sg.s, .str (S c.txt)])), some (.d (.str (S (prB b q)))), some (.d (.str c.sg.s)), some (.d (.str (S c.txt))), none, none, none, none, none, none]) (w1 := w) rfl ?_
  refine ex_nx (clets_1 k1 k2) ?_
  refine ex_nx (cletn_2 s1 s2 k3) ?_
  refine ex_nx (cletn_3 s1 s2) ?_
  unfold lets
  rw [if_neg (by rw [hst]; simp)]
  cases hsg : c.sg with
  | lt =>
    rw [hsg] at o1 e1
    refine ex_rt (cletn_5 o1 b1 b2 e1 ((ltD_hd _ _ _ _).trans ?_))
    unfold baseLt
    rw [ltL_bas]
  | gt =>
    rw [hsg] at o1 e1
    refine ex_rt (cletn_5 o1 b1 b2 e1 ((gtD_hd _ _ _ _).trans ?_))
    unfold baseLt
    rw [ltL_bas]
  | co =>
    rw [hsg] at o1 e2
    have h2 := h.co hsg
    have k4 := run_linblk (p := q) (by have := hq.len; omega) c.p.ep (N := c.p.ns.dropLast) (by have := h.wf.len; rw [List.length_dropLast]; omega) w
    refine ex_nx (cletn_4 o1) ?_
    refine ex_nx (cletn_6 k8) ?_
    exact ex_rt (cletn_8 e2 g1 (cut_lastL h.wf.ne) k4)
  | ge =>
    rw [hsg] at o1 e2
    refine ex_nx (cletn_4 o1) ?_
    refine ex_nx (cletn_6 k8) ?_
    refine ex_nx (cletn_7 e2) ?_
    exact ⟨_, cletn_9 g1 g2 g3 g4 (disp_ge _ _ _ _)⟩
  | le =>
    rw [hsg] at o1 e2
    refine ex_nx (cletn_4 o1) ?_
    refine ex_nx (cletn_6 k8) ?_
    refine ex_nx (cletn_7 e2) ?_
    exact ⟨_, cletn_9 g1 g2 g3 g4 (disp_le _ _ _ _)⟩
  | eq =>
    rw [hsg] at o1 e2
    refine ex_nx (cletn_4 o1) ?_
    refine ex_nx (cletn_6 k8) ?_
    refine ex_nx (cletn_7 e2) ?_
    exact ⟨_, cletn_9 g1 g2 g3 g4 (disp_eq _ _ _ _)⟩
  | ne =>
    rw [hsg] at o1 e2
    refine ex_nx (cletn_4 o1) ?_
    refine ex_nx (cletn_6 k8) ?_
    refine ex_nx (cletn_7 e2) ?_
    exact ⟨_, cletn_9 g1 g2 g3 g4 (disp_ne _ _ _ _)⟩
end Dn

set_option maxHeartbeats 4000000
namespace Dn
open PySem PySem.Spec PyProof.Rows L2 SX
open TL (numL pre joinL)

theorem lc_filt {α : Type} {g : Gx} {tt : Tx} {me : Ex} {vs : List Nat} {env : Ev} {w : W} (f : α → PyData) (p : α → Bool) (y : α → PyData)
    : ∀ (as : List α) (acc : List PyData), (∀ a ∈ as, ∃ e1 e2, g (f a) env = some e1 ∧ tt e1 w = some (p a, e2, w) ∧ (p a = true → ∃ e3, me e2 w = some (.d (y a), e3, w) ∧ wipeE e3 vs = env) ∧ (p a = false → wipeE e2 vs = env)) →
      lcLoop g tt me vs (as.map f) acc env w = some (acc ++ (as.filter p).map y, env, w)
  | [], acc, _ => by rw [List.map_nil, lc_nil, List.filter_nil, List.map_nil, List.append_nil]
  | a :: as, acc, hs => by
    obtain ⟨e1, e2, h1, h2, h3, h4⟩ := hs a (by simp)
    have ih := fun acc => lc_filt (g := g) (tt := tt) (me := me) (vs := vs) (env := env) (w := w) f p y as acc fun b hb => hs b (by simp [hb])
    rw [List.map_cons]
    cases hp : p a with
    | true =>
      rw [hp] at h2
      obtain ⟨e3, h5, h6⟩ := h3 hp
      rw [lc_go h1 h2 h5, h6, ih, List.filter_cons, if_pos hp, List.map_cons, List.append_assoc]
      rfl
    | false =>
      rw [hp] at h2
      rw [lc_skip h1 h2, h4 hp, ih, List.filter_cons, if_neg (by rw [hp]; simp)]
theorem lcm_filt {α : Type} {mi : Lx} {g : Gx} {tt : Tx} {me : Ex} {vs : List Nat} {env : Ev} {w : W} (f : α → PyData) (p : α → Bool) (y : α → PyData) (as : List α) (hi : mi env w = some (as.map f, env, w)) (hw : wipeE env vs = env) (hr : rst env env vs = env)
    (hs : ∀ a ∈ as, ∃ e1 e2, g (f a) env = some e1 ∧ tt e1 w = some (p a, e2, w) ∧ (p a = true → ∃ e3, me e2 w = some (.d (y a), e3, w) ∧ wipeE e3 vs = env) ∧ (p a = false → wipeE e2 vs = env)) :
    mFz (mLc mi g tt me vs) env w = some (.d (.list ((as.filter p).map y)), env, w) := by
  have h := lc_filt (g := g) (tt := tt) (me := me) (vs := vs) (env := env) (w := w) f p y as [] hs
  rw [List.nil_append] at h
  simp only [mFz, mLc, hi, hw, h, hr]
/-- without a test -/
theorem lcm_map {α : Type} {mi : Lx} {g : Gx} {me : Ex} {vs : List Nat} {env : Ev} {w : W} (f : α → PyData) (y : α → PyData) (as : List α) (hi : mi env w = some (as.map f, env, w)) (hw : wipeE env vs = env) (hr : rst env env vs = env)
    (hs : ∀ a ∈ as, ∃ e1 e3, g (f a) env = some e1 ∧ me e1 w = some (.d (y a), e3, w) ∧ wipeE e3 vs = env) :
    mFz (mLc mi g mYes me vs) env w = some (.d (.list (as.map y)), env, w) := by
  have := lcm_filt (tt := mYes) f (fun _ => true) y as hi hw hr fun a ha => by
    obtain ⟨e1, e3, h1, h2, h3⟩ := hs a ha
    exact ⟨e1, e1, h1, rfl, fun _ => ⟨e3, h2, h3⟩, fun h => by cases h⟩
  rw [List.filter_eq_self.mpr (fun _ _ => rfl)] at this
  exact this
theorem eq_nilL (xs : List PyData) : eqD (.list xs) (.list []) = some (.bool xs.isEmpty) := by
  cases xs with
  | nil => rfl
  | cons x xs => exact eqD_nil1 x xs
theorem ne_nilL (xs : List PyData) : neD (.list xs) (.list []) = some (.bool (!xs.isEmpty)) := by
  cases xs with
  | nil => rfl
  | cons x xs => exact neD_nil1 x xs

theorem lets_t {R : Option SD} {V C : PyData} {b : Bool} {w : W} (M : Fx) (h : M [.d C, .d V] w = some (.d (.bool b), w)) : mNot (mTru (mCall M (mCons (mVar 2) (mCons (mVar 1) mNil)))) [R, some (.d V), some (.d C)] w = some (!b, [R, some (.d V), some (.d C)], w) := by
  push_cast [h]
theorem lets_r {R : Ev} {w : W} {m : Ex} {xs : List PyData} (h : m R w = some (.d (.list xs), R, w)) : mRet (mOp eqD m (mFz (mLst mNil))) R w = some (.rt (.d (.bool xs.isEmpty)), R, w) := by
  have h2 := eq_nilL xs
  push_cast [h, h2]
theorem run_lletsG {cs : List Cl} {q : Pt} (h : ∀ c ∈ cs, c.Wg) (hq : q.Wf) (b : Bool) (w : W) : m__law_lets [.d (rqD cs), .d (.str (S (prB b q)))] w = some (.d (.bool (letsAll cs q)), w) := by
  refine fn_ex rfl ?_
  unfold b__law_lets
  have hL := lcm_filt (mi := mItems (mVar 0)) (g := mgName 2) (tt := tC1__law_lets) (me := eC2__law_lets) (vs := [2]) (env := [some (.d (rqD cs)), some (.d (.str (S (prB b q)))), none]) (w := w) clD (fun c => !lets c q) (fun _ => .int 1) cs (items_rq 0 _ rfl) rfl rfl fun c hc =>
    ⟨[some (.d (rqD cs)), some (.d (.str (S (prB b q)))), some (.d (clD c))], [some (.d (rqD cs)), some (.d (.str (S (prB b q)))), some (.d (clD c))], rfl, lets_t m__law_clause_lets (run_cletsG (h c hc) hq b w), fun _ => ⟨[some (.d (rqD cs)), some (.d (.str (S (prB b q)))), some (.d (clD c))], rfl, rfl⟩, fun _ => rfl⟩
  have e : ∀ cs : List Cl, ((cs.filter fun c => !lets c q).map fun _ => PyData.int 1).isEmpty = letsAll cs q := by
    intro cs
    unfold letsAll
    rw [List.isEmpty_map]
    induction cs with
    | nil => rfl
    | cons c cs ih =>
      rw [List.filter_cons, List.all_cons]
      cases lets c q with
      | true => simpa using ih
      | false => simp
  rw [← e cs]
  exact ⟨_, lets_r hL⟩
end Dn

set_option maxHeartbeats 4000000
namespace Dn
open PySem PySem.Spec PyProof.Rows L2 SX
open TL (numL pre joinL)

end Dn

set_option maxHeartbeats 4000000
namespace Dn
open PySem PySem.Spec PyProof.Rows L2 SX
open TL (numL pre joinL)

def insK (k : Ky) : List Ky → List Ky
  | [] => [k]
  | j :: r => if k = j then j :: r else if ltK k j = true then k :: j :: r else j :: insK k r
def sortK (ks : List Ky) : List Ky := ks.foldr insK []
abbrev Srt (r : List Ky) : Prop := r.Pairwise fun a b => ltK a b = true
theorem mem_insK {k x : Ky} : ∀ {r : List Ky}, x ∈ insK k r ↔ x = k ∨ x ∈ r
  | [] => by simp [insK]
  | j :: r => by
    unfold insK
    split
    · rename_i e; subst e; simp
    · split
      · simp
      · rw [List.mem_cons, mem_insK (r := r), List.mem_cons]
        constructor
        · rintro (h | h | h)
          · exact .inr (.inl h)
          · exact .inl h
          · exact .inr (.inr h)
        · rintro (h | h | h)
          · exact .inr (.inl h)
          · exact .inl h
          · exact .inr (.inr h)
theorem srt_insK {k : Ky} : ∀ {r : List Ky}, Srt r → Srt (insK k r)
  | [], _ => List.pairwise_singleton _ _
  | j :: r, h => by
    have h' := List.pairwise_cons.mp h
    unfold insK
    split
    · exact h
    · rename_i hne
      split
      · rename_i hlt
        refine List.pairwise_cons.mpr ⟨fun x hx => ?_, h⟩
        rcases List.mem_cons.mp hx with rfl | hx
        · exact hlt
        · exact ltK_tr hlt (h'.1 x hx)
      · rename_i hlt
        refine List.pairwise_cons.mpr ⟨fun x hx => ?_, srt_insK h'.2⟩
        rcases mem_insK.mp hx with rfl | hx
        · rcases ltK_tri x j with e | e | e
          · exact absurd e hne
          · exact absurd e hlt
          · exact e
        · exact h'.1 x hx
theorem mem_sortK {x : Ky} : ∀ {ks : List Ky}, x ∈ sortK ks ↔ x ∈ ks
  | [] => by simp [sortK]
  | k :: ks => by
    have ih := mem_sortK (x := x) (ks := ks)
    unfold sortK at ih ⊢
    rw [List.foldr_cons, mem_insK, ih, List.mem_cons]
theorem srt_sortK : ∀ ks : List Ky, Srt (sortK ks)
  | [] => List.Pairwise.nil
  | k :: ks => by
    have ih := srt_sortK ks
    unfold sortK at ih ⊢
    exact srt_insK ih
theorem srt_unique : ∀ {r q : List Ky}, Srt r → Srt q → (∀ x, x ∈ r ↔ x ∈ q) → r = q
  | [], [], _, _, _ => rfl
  | [], b :: q, _, _, h => by have := (h b).mpr (by simp); simp at this
  | a :: r, [], _, _, h => by have := (h a).mp (by simp); simp at this
  | a :: r, b :: q, hr, hq, h => by
    have hr' := List.pairwise_cons.mp hr
    have hq' := List.pairwise_cons.mp hq
    have e : a = b := by
      rcases List.mem_cons.mp ((h a).mp (by simp)) with z | z
      · exact z
      · rcases List.mem_cons.mp ((h b).mpr (by simp)) with y | y
        · exact y.symm
        · have := ltK_asy (hq'.1 a z)
          rw [hr'.1 b y] at this
          cases this
    subst e
    have nr : ∀ {l : List Ky}, (∀ x ∈ l, ltK a x = true) → a ∉ l := fun hl m => by have := hl a m; rw [ltK_irr] at this; cases this
    rw [srt_unique hr'.2 hq'.2 fun x => ?_]
    constructor
    · intro hx
      rcases List.mem_cons.mp ((h x).mp (by simp [hx])) with z | z
      · exact absurd (z ▸ hx) (nr hr'.1)
      · exact z
    · intro hx
      rcases List.mem_cons.mp ((h x).mpr (by simp [hx])) with z | z
      · exact absurd (z ▸ hx) (nr hq'.1)
      · exact z
theorem sortK_len (ks : List Ky) : (sortK ks).length ≤ ks.length := by
  have go : ∀ (k : Ky) (r : List Ky), (insK k r).length ≤ r.length + 1 := by
    intro k r
    induction r with
    | nil => simp [insK]
    | cons j r ih =>
      unfold insK
      split
      · simp
      · split
        · simp
        · simp only [List.length_cons]; omega
  induction ks with
  | nil => simp [sortK]
  | cons k ks ih =>
    unfold sortK at ih ⊢
    have := go k (ks.foldr insK [])
    rw [List.foldr_cons, List.length_cons]
    omega
theorem okNs_ints (n : Nat) : ∀ ns : List Nat, okNs n (intsD ns) = true
  | [] => by simp [intsD, okNs]
  | m :: ns => by
    have := okNs_ints n ns
    unfold intsD at this ⊢
    rw [List.map_cons, okNs, this]
    cases n <;> simp [okN]
theorem okN_ky (k : Ky) : okN 7 (kyD k) = true := by
  unfold kyD
  simp [okN, okNs, okNs_ints]
theorem insD_ky (k : Ky) : ∀ r : List Ky, insD (kyD k) (r.map kyD) = (insK k r).map kyD
  | [] => rfl
  | j :: r => by
    rw [List.map_cons]
    unfold insD insK
    rw [eqv_ky, dataLt_ky]
    by_cases e : k = j
    · rw [if_pos (decide_eq_true e), if_pos e, List.map_cons]
    · rw [if_neg (by simpa using e), if_neg e]
      split
      · rw [List.map_cons, List.map_cons]
      · rw [List.map_cons, insD_ky k r]
theorem foldD_ky : ∀ ks : List Ky, (ks.map kyD).foldr insD [] = (sortK ks).map kyD
  | [] => rfl
  | k :: ks => by
    have ih := foldD_ky ks
    unfold sortK at ih ⊢
    rw [List.map_cons, List.foldr_cons, List.foldr_cons, ih, insD_ky]
theorem strB_ky : ∀ {r : List Ky}, Srt r → strB (r.map kyD) = true
  | [], _ => rfl
  | a :: r, h => by
    have h' := List.pairwise_cons.mp h
    rw [List.map_cons, strB, strB_ky h'.2, Bool.and_true, List.all_eq_true]
    intro d hd
    obtain ⟨b, hb, rfl⟩ := List.mem_map.mp hd
    rw [dataLt_ky, dataLt_ky, h'.1 b hb, ltK_asy (h'.1 b hb)]
    rfl
theorem sortSet_ky {ks : List Ky} (h : ks.length < 64) : sortSetD (ks.map kyD) = some ((sortK ks).map kyD) := by
  unfold sortSetD
  rw [foldD_ky, strB_ky (srt_sortK ks), List.length_map, decide_eq_true h]
  rw [show (ks.map kyD).all (okN 7) = true from List.all_eq_true.mpr fun d hd => by
    obtain ⟨k, _, rfl⟩ := List.mem_map.mp hd
    exact okN_ky k]
  rw [show (ks.map kyD).all tupN = true from List.all_eq_true.mpr fun d hd => by
    obtain ⟨k, _, rfl⟩ := List.mem_map.mp hd
    rfl]
  rw [show (ks.map kyD).all (fun d => (ks.map kyD).all fun e => PySem.W.alike d e) = true from List.all_eq_true.mpr fun d hd => List.all_eq_true.mpr fun e he => by
    obtain ⟨k, _, rfl⟩ := List.mem_map.mp hd
    obtain ⟨j, _, rfl⟩ := List.mem_map.mp he
    exact alike_ky k j]
  rfl

theorem sortSet_ok {m : Ex} {env : Ev} {w : W} {xs r : List PyData} (h : m env w = some (.d (.list xs), env, w)) (hs : sortSetD xs = some r) : mRet (mFz (mSortSet (mCons m mNil))) env w = some (.rt (.d (.list r)), env, w) := by
  simp only [mRet, mFz, mSortSet, argsD, mCons, mNil, h, dsOf, Option.map_some, hs]
end Dn

set_option maxHeartbeats 4000000
namespace Dn
open PySem PySem.Spec PyProof.Rows L2 SX
open TL (numL pre joinL)
def TailOk (B : Nat) (fo : Option (List Nat × Nat)) (po dv : Option Nat) : Prop := (∀ x n, fo = some (x, n) → x ∈ WS ∧ n ≤ B) ∧ (∀ n, po = some n → n ≤ B) ∧ (∀ n, dv = some n → n ≤ B)
theorem TailOk.mono {B C : Nat} {fo : Option (List Nat × Nat)} {po dv : Option Nat} (h : TailOk B fo po dv) (hl : B ≤ C) : TailOk C fo po dv :=
  ⟨fun x n e => ⟨(h.1 x n e).1, Nat.le_trans (h.1 x n e).2 hl⟩, fun n e => Nat.le_trans (h.2.1 n e) hl, fun n e => Nat.le_trans (h.2.2 n e) hl⟩
/-- a version's key, of numbers up to B, at most L of them -/
structure Gk (B L : Nat) (k : Ky) : Prop where
  bs : bas k.2.1 = k.2.1
  len : k.2.1.length ≤ L
  ns : ∀ n ∈ k.2.1, n ≤ B
  ep : k.1 ≤ B
  tl : ∃ fo po dv, TailOk B fo po dv ∧ k.2.2 = tailK fo po dv
theorem Gk.mono {B C L M : Nat} {k : Ky} (h : Gk B L k) (h1 : B ≤ C) (h2 : L ≤ M) : Gk C M k := by
  obtain ⟨fo, po, dv, t, e⟩ := h.tl
  exact ⟨h.bs, Nat.le_trans h.len h2, fun n hn => Nat.le_trans (h.ns n hn) h1, Nat.le_trans h.ep h1, fo, po, dv, t.mono h1, e⟩
theorem bas_nz {b : List Nat} : bas (if b = [] then [0] else b) = bas b := by
  by_cases h : b = []
  · rw [if_pos h, h]; rfl
  · rw [if_neg h]
theorem Gk.pt {B L : Nat} {k : Ky} (h : Gk B L k) (hB : B ≤ 100000000000) (hL : L ≤ 60) : ∃ p : Pt, p.Wf ∧ p.key = k ∧ p.ns.length ≤ L + 1 ∧ (∀ n ∈ p.ns, n ≤ B) ∧ p.ep = k.1 := by
  obtain ⟨fo, po, dv, t, e⟩ := h.tl
  have sm : ∀ n : Nat, n ≤ B → Sm n := fun n hn => by show n < 10 ^ 24; omega
  refine ⟨⟨k.1, if k.2.1 = [] then [0] else k.2.1, fo, po, dv⟩, ⟨?_, ?_, ?_, sm _ h.ep, fun x n e => ⟨(t.1 x n e).1, sm n (t.1 x n e).2⟩, fun n e => sm n (t.2.1 n e), fun n e => sm n (t.2.2 n e)⟩, ?_, ?_, ?_, rfl⟩
  · dsimp only; split <;> simp_all
  · dsimp only; split
    · simp
    · exact Nat.le_trans h.len hL
  · dsimp only
    intro n hn
    split at hn
    · rw [List.mem_singleton] at hn; rw [hn]; exact sm 0 (Nat.zero_le _)
    · exact sm n (h.ns n hn)
  · unfold Pt.key
    dsimp only
    rw [bas_nz, h.bs, ← e]
  · dsimp only; split
    · simp
    · exact Nat.le_succ_of_le h.len
  · dsimp only
    intro n hn
    split at hn
    · rw [List.mem_singleton] at hn; rw [hn]; exact Nat.zero_le _
    · exact h.ns n hn
theorem Gk.vk {B L : Nat} {k : Ky} (h : Gk B L k) (hB : B ≤ 100000000000) (hL : L ≤ 60) : VK k := by
  obtain ⟨p, h1, h2, _⟩ := h.pt hB hL
  exact ⟨p, h1, h2⟩
def folKy (k : Ky) : Ky := (fol (ptK k)).key
theorem folKy_key {p : Pt} (h : p.Wf) : folKy p.key = (fol p).key := by
  unfold folKy
  rw [ptK_key h, fol_key, fol_key]
  show (p.ep, bas (nrm p).ns, _) = _
  rw [bas_nrm]
  rfl
theorem folKy_tail {k : Ky} {fo : Option (List Nat × Nat)} {po dv : Option Nat} (h : ∀ x n, fo = some (x, n) → x ∈ WS) (e : k.2.2 = tailK fo po dv) (hb : bas k.2.1 = k.2.1) : folKy k = (k.1, k.2.1, folT fo po dv) := by
  unfold folKy
  rw [fol_key]
  unfold ptK
  dsimp only
  rw [bas_nz, hb, e, untail_tailK h]
theorem run_folK {k : Ky} (h : VK k) (w : W) : m_following_key [.d (kyD k)] w = some (.d (kyD (folKy k)), w) := by
  obtain ⟨p, hp, rfl⟩ := h
  rw [folKy_key hp]
  exact run_fol hp w
theorem Gk.fol {B L : Nat} {k : Ky} (h : Gk B L k) : Gk (B + 1) L (folKy k) := by
  obtain ⟨fo, po, dv, t, e⟩ := h.tl
  rw [folKy_tail (fun x n e => (t.1 x n e).1) e h.bs]
  refine ⟨h.bs, h.len, fun n hn => Nat.le_succ_of_le (h.ns n hn), Nat.le_succ_of_le h.ep, ?_⟩
  have t' := t.mono (Nat.le_succ B)
  unfold folT
  cases dv with
  | some d => exact ⟨fo, po, some (d + 1), ⟨t'.1, t'.2.1, fun n e => by cases e; exact Nat.succ_le_succ (t.2.2 d rfl)⟩, rfl⟩
  | none =>
    refine ⟨fo, _, some 0, ⟨t'.1, fun n e => ?_, fun n e => by cases e; exact Nat.zero_le _⟩, rfl⟩
    cases e
    cases po with
    | none => exact Nat.zero_le _
    | some q => exact Nat.succ_le_succ (t.2.1 q rfl)
theorem folK_next {j k : Ky} (hj : VK j) (hk : VK k) : ltK j (folKy k) = !ltK k j := by
  obtain ⟨p, hp, rfl⟩ := hk
  rw [folKy_key hp]
  exact fol_next hj p
end Dn

set_option maxHeartbeats 4000000
namespace Dn
open PySem PySem.Spec PyProof.Rows L2 SX
open TL (numL pre joinL)
end Dn

set_option maxHeartbeats 4000000
namespace Dn
open PySem PySem.Spec PyProof.Rows L2 SX
open TL (numL pre joinL)
abbrev B1 : Nat := 1000000001
theorem gk_pt {B L : Nat} {p : Pt} (h : p.Wf) (hn : ∀ n ∈ p.ns, n ≤ B) (he : p.ep ≤ B) (ht : TailOk B p.fo p.po p.dv) (hl : p.ns.length ≤ L) : Gk B L p.key := by
  have hb : ∀ ns : List Nat, bas (bas ns) = bas ns ∧ (bas ns).length ≤ ns.length ∧ ∀ n ∈ bas ns, n ∈ ns := by
    intro ns
    induction ns with
    | nil => exact ⟨rfl, Nat.le_refl _, fun n h => h⟩
    | cons x ns ih =>
      obtain ⟨h1, h2, h3⟩ := ih
      rw [bas_cons]
      by_cases c : bas ns = [] ∧ x = 0
      · rw [if_pos c]; exact ⟨rfl, by simp, fun n h => by simp at h⟩
      · rw [if_neg c]
        refine ⟨?_, by simp; omega, fun n hn => ?_⟩
        · rw [bas_cons, h1, if_neg c]
        · rcases List.mem_cons.mp hn with rfl | hn
          · simp
          · simp [h3 n hn]
  obtain ⟨h1, h2, h3⟩ := hb p.ns
  exact ⟨h1, Nat.le_trans h2 hl, fun n hm => hn n (h3 n hm), he, _, _, _, ht, rfl⟩
theorem tail_small {p : Pt} (h : p.Wf) (hs : p.Small) : TailOk 1000000000 p.fo p.po p.dv := ⟨fun x n e => ⟨(h.fo x n e).1, hs.fo x n e⟩, hs.po, hs.dv⟩
theorem gk_small {p : Pt} (h : p.Wf) (hs : p.Small) : Gk 1000000000 8 p.key := gk_pt h hs.ns hs.ep (tail_small h hs) hs.len
end Dn

set_option maxHeartbeats 4000000
namespace Dn
open PySem PySem.Spec PyProof.Rows L2 SX
open TL (numL pre joinL)
def zz (a : List Nat) (i : Nat) : Nat := a.getD i 0
theorem zz_nil (i : Nat) : zz [] i = 0 := rfl
theorem zz_0 (x : Nat) (a : List Nat) : zz (x :: a) 0 = x := rfl
theorem zz_s (x : Nat) (a : List Nat) (i : Nat) : zz (x :: a) (i + 1) = zz a i := rfl
theorem zz_out {a : List Nat} {i : Nat} (h : a.length ≤ i) : zz a i = 0 := by
  unfold zz
  rw [List.getD_eq_getElem?_getD, List.getElem?_eq_none h]
  rfl
theorem zz_take (a : List Nat) (n i : Nat) : zz (a.take n) i = if i < n then zz a i else 0 := by
  unfold zz
  rw [List.getD_eq_getElem?_getD, List.getD_eq_getElem?_getD, List.getElem?_take]
  split <;> rfl
theorem zz_pad (a : List Nat) (n i : Nat) : zz (a ++ List.replicate n 0) i = zz a i := by
  unfold zz
  rw [List.getD_eq_getElem?_getD, List.getD_eq_getElem?_getD]
  by_cases h : i < a.length
  · rw [List.getElem?_append_left h]
  · rw [List.getElem?_append_right (by omega), List.getElem?_eq_none (l := a) (by omega), List.getElem?_replicate]
    split <;> rfl
theorem zz_bas : ∀ (a : List Nat) (i : Nat), zz (bas a) i = zz a i
  | [], i => rfl
  | x :: xs, i => by
    have ih := zz_bas xs
    rw [bas_cons]
    split
    · rename_i h
      have h0 : ∀ j, zz xs j = 0 := fun j => by rw [← ih j, h.1]; rfl
      cases i with
      | zero => exact h.2.symm
      | succ j => exact (h0 j).symm
    · cases i with
      | zero => rfl
      | succ j => exact ih j
theorem bas_tail {x : Nat} {xs : List Nat} (h : bas (x :: xs) = x :: xs) : bas xs = xs := by
  rw [bas_cons] at h
  split at h
  · cases h
  · exact (List.cons.inj h).2
theorem bas_zero_all : ∀ {a : List Nat}, bas a = a → (∀ i, zz a i = 0) → a = []
  | [], _, _ => rfl
  | x :: xs, hb, h => by
    have e := bas_zero_all (bas_tail hb) fun i => h (i + 1)
    subst e
    have hx : x = 0 := h 0
    subst hx
    cases hb
theorem zz_ext : ∀ {a b : List Nat}, bas a = a → bas b = b → (∀ i, zz a i = zz b i) → a = b
  | [], b, _, hb, h => (bas_zero_all hb fun i => (h i).symm).symm
  | a, [], ha, _, h => bas_zero_all ha h
  | x :: xs, y :: ys, ha, hb, h => by
    have h0 : x = y := h 0
    rw [h0, zz_ext (bas_tail ha) (bas_tail hb) fun i => h (i + 1)]
theorem bas_eq_iff {a b : List Nat} : bas a = bas b ↔ ∀ i, zz a i = zz b i :=
  ⟨fun h i => by rw [← zz_bas a, ← zz_bas b, h], fun h => zz_ext (bas_bas a) (bas_bas b) fun i => by rw [zz_bas, zz_bas]; exact h i⟩
theorem ltP_iff : ∀ {a b : List Nat}, ltP a b = true ↔ ∃ i, (∀ j, j < i → zz a j = zz b j) ∧ zz a i < zz b i
  | [], [] => ⟨fun h => (by cases h), fun ⟨i, _, h⟩ => absurd h (by simp [zz_nil])⟩
  | [], y :: ys => by
    rw [ltP]
    by_cases hy : y = 0
    · rw [if_pos hy, ltP_iff]
      constructor
      · rintro ⟨i, h1, h2⟩
        refine ⟨i + 1, fun j hj => ?_, h2⟩
        cases j with
        | zero => exact hy.symm
        | succ j => exact h1 j (by omega)
      · rintro ⟨i, h1, h2⟩
        cases i with
        | zero => rw [zz_0, hy] at h2; exact absurd h2 (by simp)
        | succ i => exact ⟨i, fun j hj => h1 (j + 1) (by omega), h2⟩
    · rw [if_neg hy]
      exact ⟨fun _ => ⟨0, fun j hj => absurd hj (by omega), by show 0 < y; omega⟩, fun _ => rfl⟩
  | x :: xs, [] => by
    rw [ltP]
    exact ⟨fun h => (by cases h), fun ⟨i, _, h⟩ => absurd h (by simp [zz_nil])⟩
  | x :: xs, y :: ys => by
    rw [ltP]
    by_cases hy : x = y
    · rw [if_pos hy, ltP_iff]
      constructor
      · rintro ⟨i, h1, h2⟩
        refine ⟨i + 1, fun j hj => ?_, h2⟩
        cases j with
        | zero => exact hy
        | succ j => exact h1 j (by omega)
      · rintro ⟨i, h1, h2⟩
        cases i with
        | zero => rw [zz_0, zz_0, hy] at h2; exact absurd h2 (by omega)
        | succ i => exact ⟨i, fun j hj => h1 (j + 1) (by omega), h2⟩
    · rw [if_neg hy, decide_eq_true_iff]
      constructor
      · exact fun h => ⟨0, fun j hj => absurd hj (by omega), h⟩
      · rintro ⟨i, h1, h2⟩
        cases i with
        | zero => exact h2
        | succ i => exact absurd (h1 0 (by omega)) hy
theorem ltL_iff {a b : List Nat} (ha : bas a = a) (hb : bas b = b) : ltL a b = true ↔ ∃ i, (∀ j, j < i → zz a j = zz b j) ∧ zz a i < zz b i := by
  rw [← ltP_iff, ← ltL_bas, ha, hb]
theorem list_zz : ∀ {a b : List Nat}, a.length = b.length → (∀ i, i < a.length → zz a i = zz b i) → a = b
  | [], [], _, _ => rfl
  | [], _ :: _, h, _ => by cases h
  | _ :: _, [], h, _ => by cases h
  | x :: xs, y :: ys, hl, h => by
    have h0 : x = y := h 0 (by simp)
    rw [h0, list_zz (by simpa using hl) fun i hi => h (i + 1) (by simpa using hi)]
def pad (a : List Nat) (n : Nat) : List Nat := (a ++ List.replicate n 0).take n
theorem pad_len (a : List Nat) (n : Nat) : (pad a n).length = n := by
  unfold pad
  rw [List.length_take, List.length_append, List.length_replicate]
  omega
theorem zz_padN (a : List Nat) (n i : Nat) : zz (pad a n) i = if i < n then zz a i else 0 := by
  unfold pad
  rw [zz_take, zz_pad]
theorem inBlk_iff {N ns : List Nat} : inBlk N ns = true ↔ ∀ i, i < N.length → zz ns i = zz N i := by
  unfold inBlk
  rw [decide_eq_true_iff]
  have e : (ns ++ List.replicate N.length 0).take N.length = pad ns N.length := rfl
  rw [e]
  constructor
  · intro h i hi
    rw [← h, zz_padN, if_pos (by rw [← h, pad_len]; exact hi)]
  · intro h
    refine list_zz (pad_len _ _) fun i hi => ?_
    rw [pad_len] at hi
    rw [zz_padN, if_pos hi]
    exact h i hi
/-- with how many numbers two bases begin alike -/
def lead : List Nat → Nat
  | [] => 0
  | x :: xs => if x = 0 then lead xs + 1 else 0
def shr : List Nat → List Nat → Nat
  | [], b => lead b
  | x :: xs, [] => lead (x :: xs)
  | x :: xs, y :: ys => if x = y then shr xs ys + 1 else 0
theorem shr_nl (a : List Nat) : shr a [] = lead a := by cases a <;> rfl
theorem shr_nc (y : Nat) (ys : List Nat) : shr [] (y :: ys) = if y = 0 then shr [] ys + 1 else 0 := rfl
theorem shr_cn (x : Nat) (xs : List Nat) : shr (x :: xs) [] = if x = 0 then shr xs [] + 1 else 0 := by rw [shr_nl xs]; rfl
theorem shr_cc (x y : Nat) (xs ys : List Nat) : shr (x :: xs) (y :: ys) = if x = y then shr xs ys + 1 else 0 := rfl
theorem shr_eq : ∀ (a b : List Nat) {i : Nat}, i < shr a b → zz a i = zz b i
  | [], [], i, h => absurd h (by simp [shr, lead])
  | [], y :: ys, i, h => by
    rw [shr_nc] at h
    split at h
    · rename_i hy
      cases i with
      | zero => exact hy.symm
      | succ i => exact shr_eq [] ys (i := i) (by omega)
    · omega
  | x :: xs, [], i, h => by
    rw [shr_cn] at h
    split at h
    · rename_i hy
      cases i with
      | zero => exact hy
      | succ i => exact shr_eq xs [] (i := i) (by omega)
    · omega
  | x :: xs, y :: ys, i, h => by
    rw [shr_cc] at h
    split at h
    · rename_i hy
      cases i with
      | zero => exact hy
      | succ i => exact shr_eq xs ys (i := i) (by omega)
    · omega
theorem shr_ne : ∀ (a b : List Nat), (∃ i, zz a i ≠ zz b i) → zz a (shr a b) ≠ zz b (shr a b)
  | [], [], ⟨i, h⟩ => absurd rfl h
  | [], y :: ys, ⟨i, h⟩ => by
    rw [shr_nc]
    split
    · rename_i hy
      cases i with
      | zero => exact absurd hy.symm h
      | succ i => exact shr_ne [] ys ⟨i, h⟩
    · rename_i hy
      exact fun e => hy e.symm
  | x :: xs, [], ⟨i, h⟩ => by
    rw [shr_cn]
    split
    · rename_i hy
      cases i with
      | zero => exact absurd hy h
      | succ i => exact shr_ne xs [] ⟨i, h⟩
    · rename_i hy
      exact fun e => hy e
  | x :: xs, y :: ys, ⟨i, h⟩ => by
    rw [shr_cc]
    split
    · rename_i hy
      cases i with
      | zero => exact absurd hy h
      | succ i => exact shr_ne xs ys ⟨i, h⟩
    · rename_i hy
      exact fun e => hy e
theorem shr_max : ∀ (a b : List Nat), shr a b ≤ max a.length b.length
  | [], [] => by simp [shr, lead]
  | [], y :: ys => by
    have := shr_max [] ys
    rw [shr_nc]
    simp only [List.length_cons, List.length_nil] at *
    split <;> omega
  | x :: xs, [] => by
    have := shr_max xs []
    rw [shr_cn]
    simp only [List.length_cons, List.length_nil] at *
    split <;> omega
  | x :: xs, y :: ys => by
    have := shr_max xs ys
    rw [shr_cc]
    simp only [List.length_cons] at *
    split <;> omega
theorem shr_lt {a b : List Nat} {i : Nat} (h : zz a i ≠ zz b i) : shr a b ≤ i := Nat.le_of_not_lt fun c => h (shr_eq a b c)
theorem ne_zz {a b : List Nat} (ha : bas a = a) (hb : bas b = b) (h : a ≠ b) : ∃ i, zz a i ≠ zz b i := Classical.byContradiction fun c => h (zz_ext ha hb fun i => Classical.byContradiction fun q => c ⟨i, q⟩)
/-- of unlike bases: the first place where they differ -/
theorem shr_ok {a b : List Nat} (ha : bas a = a) (hb : bas b = b) (h : a ≠ b) : shr a b < max a.length b.length ∧ (∀ i, i < shr a b → zz a i = zz b i) ∧ zz a (shr a b) ≠ zz b (shr a b) := by
  have h1 := shr_ne a b (ne_zz ha hb h)
  refine ⟨Nat.lt_of_not_le fun c => h1 ?_, fun i hi => shr_eq a b hi, h1⟩
  rw [zz_out (by omega), zz_out (by omega)]
theorem shr_ge {a b : List Nat} {n : Nat} (h : ∀ i, i < n → zz a i = zz b i) (hx : ∃ i, zz a i ≠ zz b i) : n ≤ shr a b := Nat.le_of_not_lt fun c => shr_ne a b hx (h _ c)
end Dn

set_option maxHeartbeats 4000000
namespace Dn
open PySem PySem.Spec PyProof.Rows L2
noncomputable section
end
end Dn

set_option maxHeartbeats 4000000
namespace Dn
open PySem PySem.Spec PyProof.Rows L2 SX
open TL (numL pre joinL)
theorem inD_kys (k : Ky) (ks : List Ky) : inD (kyD k) (.list (ks.map kyD)) = some (.bool (decide (k ∈ ks))) := by
  unfold inD
  have : inS (kyD k) (.list (ks.map kyD)) = some ((ks.map kyD).any fun y => PyData.eqv y (kyD k)) := by
    show (if dOk 60 (kyD k) || dOkAll 60 (ks.map kyD) then some ((ks.map kyD).any fun y => PyData.eqv y (kyD k)) else none) = _
    rw [dOk_ky 58 k, Bool.true_or, if_pos rfl]
  rw [this, Option.map_some]
  congr 2
  rw [List.any_map, Bool.eq_iff_iff, List.any_eq_true, decide_eq_true_iff]
  constructor
  · rintro ⟨x, hx, e⟩
    rw [Function.comp, eqv_ky, decide_eq_true_iff] at e
    rw [← e]; exact hx
  · intro h
    exact ⟨k, h, by rw [Function.comp, eqv_ky]; exact decide_eq_true rfl⟩
structure Rl where
  b : Bool
  p : Pt
  wd : Bool
def Rl.txt (r : Rl) : List Nat := prB r.b r.p
end Dn

set_option maxHeartbeats 4000000
namespace Dn
open PySem PySem.Spec PyProof.Rows L2
noncomputable section
end
end Dn

set_option maxHeartbeats 4000000
namespace Dn
open PySem PySem.Spec PyProof.Rows L2 SX
open TL (numL pre joinL)
theorem len_ints (ns : List Nat) : lenD [.tuple (intsD ns)] = some (.int ((ns.length : Nat) : Int)) := by
  unfold lenD
  dsimp only
  rw [intsD_len]
end Dn

set_option maxHeartbeats 4000000
namespace Dn
open PySem PySem.Spec PyProof.Rows L2 SX
open TL (numL pre joinL)

end Dn

set_option maxHeartbeats 4000000
namespace Dn
open PySem PySem.Spec PyProof.Rows L2 SX
open TL (numL pre joinL)

theorem asg_ok {m : Ex} {g : Gx} {env e1 e2 : Ev} {w w1 : W} {d : PyData} (h : m env w = some (.d d, e1, w1)) (hg : g d e1 = some e2) : mAsg m g env w = some (.nx, e2, w1) := by
  simp only [mAsg, seqE, h, hg]
section
variable {md mv mp mt ma : Fx}
end
end Dn

set_option maxHeartbeats 4000000
namespace Dn
open PySem PySem.Spec PyProof.Rows L2 SX
open TL (numL pre joinL)

end Dn

set_option maxHeartbeats 4000000
namespace Dn
open PySem PySem.Spec PyProof.Rows L2
noncomputable section
end
end Dn

set_option maxHeartbeats 4000000
namespace Dn
open PySem PySem.Spec PyProof.Rows L2 SX
open TL (numL pre joinL)

section
variable {md mc ma mt : Fx} {R sg tx : PyData} {xs : List PyData} {way j k : Nat}
end
end Dn

set_option maxHeartbeats 4000000
namespace Dn
open PySem PySem.Spec PyProof.Rows L2 SX
open TL (numL pre joinL)

section
variable {R : PyData} {xs : List PyData} {way j : Nat} {TX SG z : Str} {w : W} {b q : Bool}
end
section
variable {md mc ma mt : Fx} {R : PyData} {xs : List PyData} {way j k : Nat} {c : Cl}
end
end Dn

set_option maxHeartbeats 4000000
namespace Dn
open PySem PySem.Spec PyProof.Rows L2 SX
open TL (numL pre joinL)

section
variable {md mc : Fx} {R : PyData} {xs : List PyData} {way j k : Nat}
end
end Dn

set_option maxHeartbeats 4000000
namespace Dn
open PySem PySem.Spec PyProof.Rows L2 SX
open TL (numL pre joinL)

theorem bas_len : ∀ ns : List Nat, (bas ns).length ≤ ns.length
  | [] => Nat.le_refl _
  | x :: xs => by
    have := bas_len xs
    rw [bas_cons]
    split
    · simp
    · simp; omega
end Dn

set_option maxHeartbeats 4000000
namespace Dn
open PySem PySem.Spec PyProof.Rows L2 SX
open TL (numL pre joinL)

end Dn

set_option maxHeartbeats 4000000
namespace Dn
open PySem PySem.Spec PyProof.Rows L2 SX
open TL (numL pre joinL)
def HE (m : Ex) (env : Ev) (k : Nat) (P : PyData → Prop) : Prop := ∀ (n : Nat) (s : DS), Gd (n + k) s → ∃ x s', m env (some s) = some (.d x, env, some s') ∧ P x ∧ Gd n s'
def HA (ms : Ax) (env : Ev) (k : Nat) (P : List SD → Prop) : Prop := ∀ (n : Nat) (s : DS), Gd (n + k) s → ∃ as s', ms env (some s) = some (as, env, some s') ∧ P as ∧ Gd n s'
def HF (m : Fx) (as : List SD) (k : Nat) (P : PyData → Prop) : Prop := ∀ (n : Nat) (s : DS), Gd (n + k) s → ∃ x s', m as (some s) = some (.d x, some s') ∧ P x ∧ Gd n s'
def HT (t : Tx) (env : Ev) (k : Nat) (P : Bool → Prop) : Prop := ∀ (n : Nat) (s : DS), Gd (n + k) s → ∃ b s', t env (some s) = some (b, env, some s') ∧ P b ∧ Gd n s'
def HR (b : Sx) (env : Ev) (k : Nat) (P : PyData → Prop) : Prop := ∀ (n : Nat) (s : DS), Gd (n + k) s → ∃ x e s', b env (some s) = some (.rt (.d x), e, some s') ∧ P x ∧ Gd n s'
def HN (b : Sx) (env : Ev) (k : Nat) (Q : Ev → Prop) : Prop := ∀ (n : Nat) (s : DS), Gd (n + k) s → ∃ e s', b env (some s) = some (.nx, e, some s') ∧ Q e ∧ Gd n s'
def HL (m : Lx) (env : Ev) (k : Nat) (P : List PyData → Prop) : Prop := ∀ (n : Nat) (s : DS), Gd (n + k) s → ∃ xs s', m env (some s) = some (xs, env, some s') ∧ P xs ∧ Gd n s'
section
variable {m a b : Ex} {ms : Ax} {env : Ev} {j k l : Nat} {P Q R : PyData → Prop} {mf : Fx} {as : List SD} {sa sb : Sx} {t u : Tx} {ml : Lx}
theorem HE.mono (h : HE m env j P) (hl : j ≤ k) (hp : ∀ x, P x → Q x) : HE m env k Q := fun n s hs => by
  obtain ⟨x, s', h1, h2, h3⟩ := h n s (hs.mono (by omega))
  exact ⟨x, s', h1, hp x h2, h3⟩
theorem HE.imp (h : HE m env k P) (hp : ∀ x, P x → Q x) : HE m env k Q := h.mono (Nat.le_refl _) hp
theorem HE.up (h : HE m env j P) (hl : j ≤ k) : HE m env k P := h.mono hl fun _ h => h
theorem HF.mono (h : HF mf as j P) (hl : j ≤ k) (hp : ∀ x, P x → Q x) : HF mf as k Q := fun n s hs => by
  obtain ⟨x, s', h1, h2, h3⟩ := h n s (hs.mono (by omega))
  exact ⟨x, s', h1, hp x h2, h3⟩
theorem HF.up (h : HF mf as j P) (hl : j ≤ k) : HF mf as k P := h.mono hl fun _ h => h
theorem HR.mono (h : HR sa env j P) (hl : j ≤ k) (hp : ∀ x, P x → Q x) : HR sa env k Q := fun n s hs => by
  obtain ⟨x, e, s', h1, h2, h3⟩ := h n s (hs.mono (by omega))
  exact ⟨x, e, s', h1, hp x h2, h3⟩
theorem HR.up (h : HR sa env j P) (hl : j ≤ k) : HR sa env k P := h.mono hl fun _ h => h
theorem HN.mono {P Q : Ev → Prop} (h : HN sa env j P) (hl : j ≤ k) (hp : ∀ x, P x → Q x) : HN sa env k Q := fun n s hs => by
  obtain ⟨x, s', h1, h2, h3⟩ := h n s (hs.mono (by omega))
  exact ⟨x, s', h1, hp x h2, h3⟩
theorem HN.up {P : Ev → Prop} (h : HN sa env j P) (hl : j ≤ k) : HN sa env k P := h.mono hl fun _ h => h
theorem HT.mono {P Q : Bool → Prop} (h : HT t env j P) (hl : j ≤ k) (hp : ∀ x, P x → Q x) : HT t env k Q := fun n s hs => by
  obtain ⟨x, s', h1, h2, h3⟩ := h n s (hs.mono (by omega))
  exact ⟨x, s', h1, hp x h2, h3⟩
theorem HL.mono {P Q : List PyData → Prop} (h : HL ml env j P) (hl : j ≤ k) (hp : ∀ x, P x → Q x) : HL ml env k Q := fun n s hs => by
  obtain ⟨x, s', h1, h2, h3⟩ := h n s (hs.mono (by omega))
  exact ⟨x, s', h1, hp x h2, h3⟩
/-- without a draw -/
theorem HE.pure {x : PyData} (h : ∀ w, m env w = some (.d x, env, w)) (hp : P x) : HE m env k P := fun n s hs => ⟨x, s, h _, hp, hs.mono (by omega)⟩
theorem HF.pure {x : PyData} (h : ∀ w, mf as w = some (.d x, w)) (hp : P x) : HF mf as k P := fun n s hs => ⟨x, s, h _, hp, hs.mono (by omega)⟩
theorem HT.pure {x : Bool} {P : Bool → Prop} (h : ∀ w, t env w = some (x, env, w)) (hp : P x) : HT t env k P := fun n s hs => ⟨x, s, h _, hp, hs.mono (by omega)⟩
theorem HN.pure {e : Ev} {P : Ev → Prop} (h : ∀ w, sa env w = some (.nx, e, w)) (hp : P e) : HN sa env k P := fun n s hs => ⟨e, s, h _, hp, hs.mono (by omega)⟩
theorem HL.pure {x : List PyData} {P : List PyData → Prop} (h : ∀ w, ml env w = some (x, env, w)) (hp : P x) : HL ml env k P := fun n s hs => ⟨x, s, h _, hp, hs.mono (by omega)⟩
theorem ha_nil : HA mNil env 0 (· = []) := fun n s hs => ⟨[], s, rfl, rfl, hs⟩
theorem ha_st {i : Nat} {A : List SD → Prop} (h : env[i]? = some (some .st)) (hm : HA ms env k A) : HA (mCons (mVar i) ms) env k (fun l => ∃ r, l = .st :: r ∧ A r) := fun n s hs => by
  obtain ⟨as, s1, h1, h2, h3⟩ := hm n s hs
  exact ⟨_, s1, cons_ok (by simp only [mVar, h]) h1, ⟨as, rfl, h2⟩, h3⟩
theorem ha_cons {A : List SD → Prop} (ha : HE a env j P) (hm : HA ms env k A) : HA (mCons a ms) env (j + k) (fun l => ∃ x r, l = .d x :: r ∧ P x ∧ A r) := fun n s hs => by
  obtain ⟨x, s1, h1, h2, h3⟩ := ha (n + k) s (hs.mono (by omega))
  obtain ⟨as, s2, q1, q2, q3⟩ := hm n s1 h3
  exact ⟨_, s2, cons_ok h1 q1, ⟨x, as, rfl, h2, q2⟩, q3⟩
theorem he_call {A : List SD → Prop} (ha : HA ms env j A) (hm : ∀ as, A as → HF mf as k P) : HE (mCall mf ms) env (j + k) P := fun n s hs => by
  obtain ⟨as, s1, h1, h2, h3⟩ := ha (n + k) s (hs.mono (by omega))
  obtain ⟨x, s2, q1, q2, q3⟩ := hm as h2 n s1 h3
  exact ⟨x, s2, by simp only [mCall, h1, q1], q2, q3⟩
/-- f(state, a) -/
theorem he_call1 {i : Nat} (h : env[i]? = some (some .st)) (ha : HE a env j P) (hm : ∀ x, P x → HF mf [.st, .d x] k Q) : HE (mCall mf (mCons (mVar i) (mCons a mNil))) env (j + k) Q := by
  refine he_call (j := j) (ha_st h (ha_cons ha ha_nil)) fun as => ?_
  rintro ⟨r, rfl, x, r', rfl, hx, rfl⟩
  exact hm x hx
theorem hf_draw (many : Nat) (h1 : 0 < many) (h2 : many < 1073741824) : HF m__law_draw [.st, .d (.int (many : Int))] 1 (fun x => ∃ k : Nat, x = .int (k : Int) ∧ k < many) := fun n s hs => by
  obtain ⟨k, s', q1, q2, q3⟩ := draw_ok hs h1 h2
  exact ⟨_, s', q1, ⟨k, rfl, q2⟩, q3⟩
def HAd (ms : Ax) (env : Ev) (k N : Nat) (P : PyData → Prop) : Prop := ∀ (n : Nat) (s : DS), Gd (n + k) s → ∃ (ds : List PyData) (s' : DS), ms env (some s) = some (ds.map SD.d, env, some s') ∧ ds.length = N ∧ (∀ x ∈ ds, P x) ∧ Gd n s'
theorem had_nil : HAd mNil env 0 0 P := fun n s hs => ⟨[], s, rfl, rfl, fun x hx => (by cases hx), hs⟩
theorem had_cons {N : Nat} (ha : HE a env j P) (hm : HAd ms env k N P) : HAd (mCons a ms) env (j + k) (N + 1) P := fun n s hs => by
  obtain ⟨x, s1, h1, h2, h3⟩ := ha (n + k) s (hs.mono (by omega))
  obtain ⟨ds, s2, q1, q2, q3, q4⟩ := hm n s1 h3
  exact ⟨x :: ds, s2, cons_ok h1 q1, by rw [List.length_cons, q2], fun y hy => by
    rcases List.mem_cons.mp hy with rfl | hy
    · exact h2
    · exact q3 y hy, q4⟩
def Lst (N : Nat) (P : PyData → Prop) (x : PyData) : Prop := ∃ ds : List PyData, x = .list ds ∧ ds.length = N ∧ ∀ y ∈ ds, P y
def LstM (N : Nat) (P : PyData → Prop) (x : PyData) : Prop := ∃ ds : List PyData, x = .list ds ∧ ds.length ≤ N ∧ ∀ y ∈ ds, P y
theorem Lst.le {N M : Nat} {x : PyData} (h : Lst N P x) (hl : N ≤ M) : LstM M P x := by
  obtain ⟨ds, rfl, h1, h2⟩ := h
  exact ⟨ds, rfl, by omega, h2⟩
theorem LstM.le {N M : Nat} {x : PyData} (h : LstM N P x) (hl : N ≤ M) : LstM M P x := by
  obtain ⟨ds, rfl, h1, h2⟩ := h
  exact ⟨ds, rfl, by omega, h2⟩
theorem he_lst {N : Nat} (h : HAd ms env k N P) (hN : N ≤ 1000) : HE (mFz (mLst ms)) env k (Lst N P) := fun n s hs => by
  obtain ⟨ds, s1, h1, h2, h3, h4⟩ := h n s hs
  exact ⟨.list ds, s1, lst_ok h1 (dsOf_map ds) (by omega), ⟨ds, rfl, h2, h3⟩, h4⟩
theorem hr_ret (h : HE m env k P) : HR (mRet m) env k P := fun n s hs => by
  obtain ⟨x, s', h1, h2, h3⟩ := h n s hs
  exact ⟨x, env, s', ret_ok h1, h2, h3⟩
theorem hr_set {i : Nat} (h : HE m env j P) (hb : ∀ x, P x → HR sb (env.set i (some (.d x))) k Q) : HR (mSeq (mSet i m) sb) env (j + k) Q := fun n s hs => by
  obtain ⟨x, s1, h1, h2, h3⟩ := h (n + k) s (hs.mono (by omega))
  obtain ⟨y, e, s2, q1, q2, q3⟩ := hb x h2 n s1 h3
  exact ⟨y, e, s2, (seq_nx (set_ok h1)).trans q1, q2, q3⟩
theorem hr_seq {I : Ev → Prop} (h : HN sa env j I) (hb : ∀ e, I e → HR sb e k Q) : HR (mSeq sa sb) env (j + k) Q := fun n s hs => by
  obtain ⟨e1, s1, h1, h2, h3⟩ := h (n + k) s (hs.mono (by omega))
  obtain ⟨y, e, s2, q1, q2, q3⟩ := hb e1 h2 n s1 h3
  exact ⟨y, e, s2, (seq_nx h1).trans q1, q2, q3⟩
/-- if t: (not reached) -/
theorem hn_ifF (h : HT t env j (· = false)) : HN (mIf t sa mNx) env j (· = env) := fun n s hs => by
  obtain ⟨c, s1, h1, rfl, h3⟩ := h n s hs
  exact ⟨env, s1, (if_f h1).trans rfl, rfl, h3⟩
theorem loop_inv {g : Gx} {K : Nat} {A : PyData → Prop} {I : Ev → Prop} (hb : ∀ e d, I e → A d → ∃ e1, g d e = some e1 ∧ HN sb e1 K I) :
    ∀ (ds : List PyData) (e : Ev) (n : Nat) (s : DS), (∀ d ∈ ds, A d) → I e → Gd (n + K * ds.length) s → ∃ e' s', mLoop g sb ds e (some s) = some (.nx, e', some s') ∧ I e' ∧ Gd n s'
  | [], e, n, s, _, hI, h => ⟨e, s, rfl, hI, by simpa using h⟩
  | d :: ds, e, n, s, ha, hI, h => by
    obtain ⟨e1, h1, h2⟩ := hb e d hI (ha d (by simp))
    obtain ⟨e2, s1, q1, q2, q3⟩ := h2 (n + K * ds.length) s (h.mono (by rw [List.length_cons, Nat.mul_succ]; omega))
    obtain ⟨e3, s2, r1, r2, r3⟩ := loop_inv hb ds e2 n s1 (fun x hx => ha x (by simp [hx])) q2 q3
    exact ⟨e3, s2, (loop_go h1 q1).trans r1, r2, r3⟩
/-- for g in ml: sb -/
theorem hn_for {g : Gx} {N : Nat} {A : PyData → Prop} {I : Ev → Prop} (hl : HL ml env j (fun ds : List PyData => ds.length ≤ N ∧ ∀ d ∈ ds, A d)) (hI : I env) (hb : ∀ e d, I e → A d → ∃ e1, g d e = some e1 ∧ HN sb e1 k I) : HN (mFor ml g sb) env (j + k * N) I := fun n s hs => by
  obtain ⟨ds, s1, h1, ⟨h2, h3⟩, h4⟩ := hl (n + k * N) s (hs.mono (by omega))
  obtain ⟨e, s2, q1, q2, q3⟩ := loop_inv hb ds env n s1 h3 hI (h4.mono (Nat.add_le_add_left (Nat.mul_le_mul_left k h2) n))
  exact ⟨e, s2, (for_ok h1).trans q1, q2, q3⟩
theorem HR.law (h : HR sa env k (· = .bool true)) {s : DS} (hs : Gd k s) : ∃ env' w', sa env (some s) = some (.rt (.d (.bool true)), env', w') := by
  obtain ⟨x, e, s', h1, rfl, _⟩ := h 0 s (by rw [Nat.zero_add]; exact hs)
  exact ⟨e, _, h1⟩
end
/-- _law_of(state, some) -/
theorem hf_of_list {xs : List PyData} (h0 : xs ≠ []) (hl : xs.length ≤ 100000) : HF m__law_of [.st, .d (.list xs)] 1 (· ∈ xs) := fun n s hs => by
  have hD := drawOk
  suffices hb : ∃ x s', x ∈ xs ∧ Gd n s' ∧ ∃ e, b__law_of [some .st, some (.d (.list xs))] (some s) = some (.rt (.d x), e, some s') by
    obtain ⟨x, s', h1, h2, h3⟩ := hb
    exact ⟨x, s', fn_ex rfl h3, h1, h2⟩
  unfold b__law_of
  generalize m__law_draw = md at hD ⊢
  have h1 : 0 < xs.length := List.length_pos_iff.mpr h0
  obtain ⟨k, s1, d1, hk, g1⟩ := hD n s hs xs.length h1 (by omega)
  obtain ⟨x, hxk⟩ : ∃ x, xs[k]? = some x := ⟨_, List.getElem?_eq_getElem (by omega)⟩
  have hix : ixD (.list xs) (.int (k : Int)) = some x := by
    show atI xs (k : Int) = some x
    rw [atI_nat, hxk]
  have hlen : lenD [.list xs] = some (.int ((xs.length : Nat) : Int)) := by
    unfold lenD
    dsimp only
  refine ⟨x, s1, List.mem_of_getElem? hxk, g1, _, ret_ok (op_ok (var_d rfl) (call2 (x := .st) (y := .d (.int ((xs.length : Nat) : Int))) (e1 := [some .st, some (.d (.list xs))]) (w1 := some s) (e2 := [some .st, some (.d (.list xs))]) (w2 := some s) rfl ?_ d1) hix)⟩
  simp only [mB, argsD, mCons, mNil, mVar, List.getElem?_cons_zero, List.getElem?_cons_succ, dsOf, Option.map_some, hlen, optE]
end Dn

set_option maxHeartbeats 4000000
namespace Dn
open PySem PySem.Spec PyProof.Rows L2 SX
open TL (numL pre joinL)
theorem ne_ok {m : Ex} {env : Ev} {w : W} {xs : List PyData} (h : m env w = some (.d (.list xs), env, w)) : mOp neD m (mFz (mLst mNil)) env w = some (.d (.bool (!xs.isEmpty)), env, w) := by
  have h2 := ne_nilL xs
  simp only [mOp, seqE, h, mFz, mLst, argsD, mNil, dsOf, List.length_nil, Nat.zero_le, if_true, h2, optE]
theorem cutL_take {α : Type} (xs : List α) (k : Nat) : cutL xs none (some (k : Int)) = xs.take k := by
  unfold cutL
  rw [HT.sIx_none, HT.sIx_nat, List.drop_zero, Nat.sub_zero]
  by_cases c : k ≤ xs.length
  · rw [Nat.min_eq_left c]
  · rw [Nat.min_eq_right (by omega), List.take_of_length_le (Nat.le_refl _), List.take_of_length_le (by omega)]
section
variable {env : Ev} {w : W} {m a b c d : Ex} {mf : Fx} {x y z u r : SD} {t : Tx}
theorem call1s (h1 : a env w = some (x, env, w)) (hm : mf [x] w = some (r, w)) : mCall mf (mCons a mNil) env w = some (r, env, w) := call1 h1 hm
theorem call2s (h1 : a env w = some (x, env, w)) (h2 : b env w = some (y, env, w)) (hm : mf [x, y] w = some (r, w)) : mCall mf (mCons a (mCons b mNil)) env w = some (r, env, w) := call2 h1 h2 hm
theorem call3s (h1 : a env w = some (x, env, w)) (h2 : b env w = some (y, env, w)) (h3 : c env w = some (z, env, w)) (hm : mf [x, y, z] w = some (r, w)) : mCall mf (mCons a (mCons b (mCons c mNil))) env w = some (r, env, w) := by
  simp only [mCall, mCons, mNil, h1, h2, h3, hm]
theorem ops {g : PyData → PyData → Option PyData} {x y z : PyData} (h1 : a env w = some (.d x, env, w)) (h2 : b env w = some (.d y, env, w)) (hz : g x y = some z) : mOp g a b env w = some (.d z, env, w) := op_ok h1 h2 hz
theorem trus {b : Bool} (h : m env w = some (.d (.bool b), env, w)) : mTru m env w = some (b, env, w) := tru_ok h
theorem lst1s {x : PyData} (h : a env w = some (.d x, env, w)) : mFz (mLst (mCons a mNil)) env w = some (.d (.list [x]), env, w) := lst_ok (ds := [x]) (cons_ok h nil_ok) rfl (by simp)
theorem lst2s {x y : PyData} (h : a env w = some (.d x, env, w)) (h2 : b env w = some (.d y, env, w)) : mFz (mLst (mCons a (mCons b mNil))) env w = some (.d (.list [x, y]), env, w) := lst_ok (ds := [x, y]) (cons_ok h (cons_ok h2 nil_ok)) rfl (by simp)
theorem tup1s {x : PyData} (h : a env w = some (.d x, env, w)) : mTup (mCons a mNil) env w = some (.d (.tuple [x]), env, w) := tup_ok (ds := [x]) (cons_ok h nil_ok) rfl (by simp)
theorem tup2s {x y : PyData} (h : a env w = some (.d x, env, w)) (h2 : b env w = some (.d y, env, w)) : mTup (mCons a (mCons b mNil)) env w = some (.d (.tuple [x, y]), env, w) := tup_ok (ds := [x, y]) (cons_ok h (cons_ok h2 nil_ok)) rfl (by simp)
theorem vars {i : Nat} {x : PyData} (h : env[i]? = some (some (.d x))) : mVar i env w = some (.d x, env, w) := var_d h
theorem cst {x : PyData} : mC x env w = some (.d x, env, w) := rfl
theorem items_s {x : PyData} {ds : List PyData} (h : m env w = some (.d x, env, w)) (hi : itemsD x = some ds) : mItems m env w = some (ds, env, w) := by
  simp only [mItems, seqE, h, hi, Option.map_some]
theorem b1s {g : List PyData → Option PyData} {x z : PyData} (h : a env w = some (.d x, env, w)) (hg : g [x] = some z) : mB g (mCons a mNil) env w = some (.d z, env, w) := by
  simp only [mB, argsD, mCons, mNil, h, dsOf, Option.map_some, hg, optE]
theorem nots {b : Bool} (h : t env w = some (b, env, w)) : mNot t env w = some (!b, env, w) := by simp only [mNot, h]
theorem ands {u : Tx} {p q : Bool} (h1 : t env w = some (p, env, w)) (h2 : p = true → u env w = some (q, env, w)) : mAnd t u env w = some (p && q, env, w) := by
  cases p with
  | false => simp only [mAnd, h1, Bool.false_and]
  | true => simp only [mAnd, h1, h2 rfl, Bool.true_and]
theorem ors {u : Tx} {p q : Bool} (h1 : t env w = some (p, env, w)) (h2 : p = false → u env w = some (q, env, w)) : mOr t u env w = some (p || q, env, w) := by
  cases p with
  | true => simp only [mOr, h1, Bool.true_or]
  | false => simp only [mOr, h1, h2 rfl, Bool.false_or]
theorem ifs {x y : PyData} {p : Bool} (h : t env w = some (p, env, w)) (ha : p = true → a env w = some (.d x, env, w)) (hb : p = false → b env w = some (.d y, env, w)) : mIf t a b env w = some (.d (if p then x else y), env, w) := by
  cases p with
  | true => exact (if_t h).trans (ha rfl)
  | false => exact (if_f h).trans (hb rfl)
variable {sa sb : Sx} {f : Fl} {w' : W}
theorem ex_set {i : Nat} (h : m env w = some (r, env, w)) (k : ∃ e, sb (env.set i (some r)) w = some (f, e, w')) : ∃ e, mSeq (mSet i m) sb env w = some (f, e, w') := ex_nx (set_ok h) k
theorem ex_skip (h : t env w = some (false, env, w)) (k : ∃ e, sb env w = some (f, e, w')) : ∃ e, mSeq (mIf t sa mNx) sb env w = some (f, e, w') := ex_nx (e1 := env) (w1 := w) (if_f h) k
theorem ex_hit (h : t env w = some (true, env, w)) (hm : m env w = some (r, env, w)) {sc : Sx} : ∃ e, mSeq (mIf t (mRet m) sc) sb env w = some (.rt r, e, w) := ex_rt ((if_t h).trans (ret_ok hm))
theorem ex_ret (h : m env w = some (r, env, w)) : ∃ e, mRet m env w = some (.rt r, e, w) := ⟨_, ret_ok h⟩
theorem ex_par {i j : Nat} {ma mb : Ex} {x y : SD} (h1 : ma env w = some (x, env, w)) (h2 : mb env w = some (y, env, w)) (k : ∃ e, sb ((env.set i (some x)).set j (some y)) w = some (f, e, w')) : ∃ e, mSeq (mPar i j ma mb) sb env w = some (f, e, w') :=
  ex_nx (by simp only [mPar, mCons, mNil, h1, h2]) k
theorem ex_for {ml : Lx} {g : Gx} {ds : List PyData} {e1 : Ev} (h : ml env w = some (ds, env, w)) (hL : mLoop g sa ds env w = some (.nx, e1, w)) (k : ∃ e, sb e1 w = some (f, e, w')) : ∃ e, mSeq (mFor ml g sa) sb env w = some (f, e, w') := ex_nx ((for_ok h).trans hL) k
end
end Dn

set_option maxHeartbeats 4000000
namespace Dn
open PySem PySem.Spec PyProof.Rows L2 SX
open TL (numL pre joinL)
end Dn

set_option maxHeartbeats 4000000
namespace Dn
open PySem PySem.Spec PyProof.Rows L2 SX
open TL (numL pre joinL)
end Dn

set_option maxHeartbeats 4000000
namespace Dn
open PySem PySem.Spec PyProof.Rows L2 SX
open TL (numL pre joinL)
theorem ptK_wf {k : Ky} (h : VK k) : (ptK k).Wf := by
  obtain ⟨p, hp, rfl⟩ := h
  rw [ptK_key hp]
  exact nrm_wf hp
theorem ptK_k {k : Ky} (h : VK k) : (ptK k).key = k := by
  obtain ⟨p, hp, rfl⟩ := h
  rw [ptK_key hp]
  unfold Pt.key
  rw [bas_nrm]
  rfl
end Dn

set_option maxHeartbeats 4000000
namespace Dn
open PySem PySem.Spec PyProof.Rows L2 SX
open TL (numL pre joinL)
def inBK (e : Nat) (N : List Nat) (k : Ky) : Bool := decide (k.1 = e) && inBlk N k.2.1
theorem inBlk_bas (N ns : List Nat) : inBlk N (bas ns) = inBlk N ns := by
  rw [Bool.eq_iff_iff, inBlk_iff, inBlk_iff]
  constructor
  · intro h i hi; rw [← zz_bas ns i]; exact h i hi
  · intro h i hi; rw [zz_bas]; exact h i hi
theorem inB_key (e : Nat) (N : List Nat) (q : Pt) : inB e N q = inBK e N q.key := by
  unfold inB inBK Pt.key
  dsimp only
  rw [inBlk_bas]
def letsK (c : Cl) (k : Ky) : Bool := if c.star then inBK c.p.ep c.p.ns k == decide (c.sg = .eq) else match c.sg with
  | .lt => if k.1 = c.p.ep then ltL k.2.1 (bas c.p.ns) else decide (k.1 < c.p.ep)
  | .gt => if c.p.ep = k.1 then ltL (bas c.p.ns) k.2.1 else decide (c.p.ep < k.1)
  | .ge => !ltK k c.p.key
  | .le => !ltK c.p.key k
  | .eq => decide (k = c.p.key)
  | .ne => !decide (k = c.p.key)
  | .co => !ltK k c.p.key && inBK c.p.ep c.p.ns.dropLast k
theorem lets_K (c : Cl) (q : Pt) : lets c q = letsK c q.key := by
  unfold lets letsK
  rw [inB_key, inB_key]
  split
  · rfl
  · cases c.sg with
    | lt => unfold baseLt Pt.key; dsimp only; rw [ltL_bas]
    | gt => unfold baseLt Pt.key; dsimp only; rw [ltL_bas]
    | _ => rfl
/-- the cuts of a block -/
theorem blk_cuts {k : Ky} (h : VK k) (e : Nat) {N : List Nat} (hN : N ≠ []) : (!ltK k (cutsK e N).1 && ltK k (cutsK e N).2) = inBK e N k := by
  obtain ⟨q, hq, rfl⟩ := h
  rw [cut_block q e hN]
  exact inB_key e N q
theorem blk_conv {a k b : Ky} (ha : VK a) (hk : VK k) (hb : VK b) {e : Nat} {N : List Nat} (hN : N ≠ []) (h1 : inBK e N a = true) (h2 : inBK e N b = true) (h3 : ltK k a = false) (h4 : ltK b k = false) : inBK e N k = true := by
  rw [← blk_cuts ha e hN, Bool.and_eq_true] at h1
  rw [← blk_cuts hb e hN, Bool.and_eq_true] at h2
  rw [← blk_cuts hk e hN, Bool.and_eq_true]
  have e1 : ltK a (cutsK e N).1 = false := by simpa using h1.1
  refine ⟨?_, leK_lt h4 h2.2⟩
  rw [leK_tr e1 h3]
  rfl
theorem inBK_iff {e : Nat} {N : List Nat} {k : Ky} : inBK e N k = true ↔ k.1 = e ∧ ∀ i, i < N.length → zz k.2.1 i = zz N i := by
  unfold inBK
  rw [Bool.and_eq_true, decide_eq_true_iff, inBlk_iff]
/-- what a clause must be -/
structure Cl.Mn (c : Cl) : Prop where
  st : c.star = true → (c.sg = .eq ∨ c.sg = .ne) ∧ c.p.ns ≠ []
  co : c.sg = .co → 2 ≤ c.p.ns.length
inductive Kd where
  | lo | hi | bl | co | ng | pt
  deriving DecidableEq
def Cl.kd (c : Cl) : Kd := if c.star then (if c.sg = .eq then .bl else .ng) else match c.sg with
  | .lt => .hi
  | .gt => .lo
  | .ge => .lo
  | .le => .hi
  | .eq => .pt
  | .ne => .ng
  | .co => .co
theorem lt_parts {a b : Ky} (h : ltK a b = false) : b.1 < a.1 ∨ a.1 = b.1 ∧ ltL a.2.1 b.2.1 = false := by
  unfold ltK at h
  split at h
  · rename_i h1
    refine .inr ⟨h1, ?_⟩
    split at h
    · rename_i h2
      rw [h2, ltL_irr]
    · exact h
  · rename_i h1
    have : ¬ a.1 < b.1 := by simpa using h
    exact .inl (by omega)
theorem ltL_le {a b c : List Nat} (h1 : ltL a b = true) (h2 : ltL c b = false) : ltL a c = true := by
  rcases ltL_tri b c with e | e | e
  · rw [← e]; exact h1
  · exact ltL_tr h1 e
  · rw [h2] at e; cases e
theorem leL_lt {a b c : List Nat} (h1 : ltL b a = false) (h2 : ltL b c = true) : ltL a c = true := by
  rcases ltL_tri a b with e | e | e
  · rw [e]; exact h2
  · exact ltL_tr e h2
  · rw [h1] at e; cases e
/-- a lower bound that lets in a lets in all from a on -/
theorem lo_up {c : Cl} (hc : c.kd = .lo) {a k : Ky} (h : letsK c a = true) (hk : ltK k a = false) : letsK c k = true := by
  unfold Cl.kd at hc
  unfold letsK at h ⊢
  by_cases hs : c.star = true
  · rw [if_pos hs] at hc
    split at hc <;> cases hc
  rw [if_neg hs] at hc h ⊢
  cases e : c.sg with
  | lt => rw [e] at hc; cases hc
  | le => rw [e] at hc; cases hc
  | eq => rw [e] at hc; cases hc
  | ne => rw [e] at hc; cases hc
  | co => rw [e] at hc; cases hc
  | ge =>
    rw [e] at h
    dsimp only at h ⊢
    have h' : ltK a c.p.key = false := by simpa using h
    rw [leK_tr h' hk]
    rfl
  | gt =>
    rw [e] at h
    dsimp only at h ⊢
    rcases lt_parts hk with q | ⟨q1, q2⟩
    · split at h
      · rename_i h1
        rw [if_neg (by omega), decide_eq_true_iff]; omega
      · rw [decide_eq_true_iff] at h
        rw [if_neg (by omega), decide_eq_true_iff]; omega
    · split at h
      · rename_i h1
        rw [if_pos (by omega)]
        exact ltL_le h q2
      · rw [decide_eq_true_iff] at h
        rw [if_neg (by omega), decide_eq_true_iff]; omega
theorem hi_down {c : Cl} (hc : c.kd = .hi) {a k : Ky} (h : letsK c a = true) (hk : ltK a k = false) : letsK c k = true := by
  unfold Cl.kd at hc
  unfold letsK at h ⊢
  by_cases hs : c.star = true
  · rw [if_pos hs] at hc
    split at hc <;> cases hc
  rw [if_neg hs] at hc h ⊢
  cases e : c.sg with
  | gt => rw [e] at hc; cases hc
  | ge => rw [e] at hc; cases hc
  | eq => rw [e] at hc; cases hc
  | ne => rw [e] at hc; cases hc
  | co => rw [e] at hc; cases hc
  | le =>
    rw [e] at h
    dsimp only at h ⊢
    have h' : ltK c.p.key a = false := by simpa using h
    rw [leK_tr hk h']
    rfl
  | lt =>
    rw [e] at h
    dsimp only at h ⊢
    rcases lt_parts hk with q | ⟨q1, q2⟩
    · split at h
      · rename_i h1
        rw [if_neg (by omega), decide_eq_true_iff]; omega
      · rw [decide_eq_true_iff] at h
        rw [if_neg (by omega), decide_eq_true_iff]; omega
    · split at h
      · rename_i h1
        rw [if_pos (by omega)]
        exact leL_lt q2 h
      · rw [decide_eq_true_iff] at h
        rw [if_neg (by omega), decide_eq_true_iff]; omega
theorem bl_lets {c : Cl} (hc : c.kd = .bl) (k : Ky) : letsK c k = inBK c.p.ep c.p.ns k := by
  unfold Cl.kd at hc
  by_cases hs : c.star = true
  · rw [if_pos hs] at hc
    split at hc
    · rename_i h
      unfold letsK
      rw [if_pos hs, decide_eq_true h]
      cases inBK c.p.ep c.p.ns k <;> rfl
    · cases hc
  · rw [if_neg hs] at hc
    cases e : c.sg <;> rw [e] at hc <;> cases hc
theorem bl_star {c : Cl} (hc : c.kd = .bl) : c.star = true := by
  unfold Cl.kd at hc
  by_cases hs : c.star = true
  · exact hs
  · rw [if_neg hs] at hc
    cases e : c.sg <;> rw [e] at hc <;> cases hc
theorem co_lets {c : Cl} (hc : c.kd = .co) (k : Ky) : c.sg = .co ∧ letsK c k = (!ltK k c.p.key && inBK c.p.ep c.p.ns.dropLast k) := by
  unfold Cl.kd at hc
  by_cases hs : c.star = true
  · rw [if_pos hs] at hc
    split at hc <;> cases hc
  · rw [if_neg hs] at hc
    cases e : c.sg <;> rw [e] at hc <;> cases hc
    refine ⟨rfl, ?_⟩
    unfold letsK
    rw [if_neg hs, e]
theorem pt_lets {c : Cl} (hc : c.kd = .pt) (k : Ky) : letsK c k = decide (k = c.p.key) := by
  unfold Cl.kd at hc
  by_cases hs : c.star = true
  · rw [if_pos hs] at hc
    split at hc <;> cases hc
  · rw [if_neg hs] at hc
    cases e : c.sg <;> rw [e] at hc <;> cases hc
    unfold letsK
    rw [if_neg hs, e]
theorem ng_lets {c : Cl} (hm : c.Mn) (hc : c.kd = .ng) : (c.star = true ∧ c.p.ns ≠ [] ∧ ∀ k, letsK c k = !inBK c.p.ep c.p.ns k) ∨ ∀ k, letsK c k = !decide (k = c.p.key) := by
  unfold Cl.kd at hc
  by_cases hs : c.star = true
  · rw [if_pos hs] at hc
    split at hc
    · cases hc
    · rename_i h
      refine .inl ⟨hs, (hm.st hs).2, fun k => ?_⟩
      unfold letsK
      rw [if_pos hs, decide_eq_false h]
      cases inBK c.p.ep c.p.ns k <;> rfl
  · rw [if_neg hs] at hc
    cases e : c.sg <;> rw [e] at hc <;> cases hc
    refine .inr fun k => ?_
    unfold letsK
    rw [if_neg hs, e]
def blkC (g : Sg) (e : Nat) (N : List Nat) : Cl := ⟨g, true, false, ⟨e, N, none, none, none⟩⟩
def verC (g : Sg) (k : Ky) : Cl := ⟨g, false, false, ptK k⟩
def basesOf (G : List Ky) (e : Nat) : List (List Nat) := (G.filter fun g => decide (g.1 = e)).map (·.2.1)
def maxShr (b : List Nat) (os : List (List Nat)) : Nat := os.foldr (fun o n => max (shr b o) n) 0
def leftC (G : List Ky) (b : Ky) : Cl := if b.2.1 ∈ basesOf G b.1 then verC .ne b else blkC .ne b.1 (pad b.2.1 (1 + maxShr b.2.1 (basesOf G b.1)))
theorem mem_bases {G : List Ky} {e : Nat} {o : List Nat} : o ∈ basesOf G e ↔ ∃ g ∈ G, g.1 = e ∧ g.2.1 = o := by
  unfold basesOf
  constructor
  · intro h
    obtain ⟨g, h1, h2⟩ := List.mem_map.mp h
    obtain ⟨h3, h4⟩ := List.mem_filter.mp h1
    exact ⟨g, h3, by simpa using h4, h2⟩
  · rintro ⟨g, h1, h2, h3⟩
    exact List.mem_map.mpr ⟨g, List.mem_filter.mpr ⟨h1, by simpa using h2⟩, h3⟩
theorem shr_le_max {b o : List Nat} : ∀ {os : List (List Nat)}, o ∈ os → shr b o ≤ maxShr b os
  | [], h => by simp at h
  | q :: os, h => by
    show shr b o ≤ max (shr b q) (maxShr b os)
    rcases List.mem_cons.mp h with rfl | h
    · omega
    · have := shr_le_max (b := b) h
      omega
theorem maxShr_lt {b : List Nat} {n : Nat} (hn : 0 < n) : ∀ {os : List (List Nat)}, (∀ o ∈ os, shr b o < n) → maxShr b os < n
  | [], _ => hn
  | q :: os, h => by
    show max (shr b q) (maxShr b os) < n
    have h1 := h q (by simp)
    have h2 := maxShr_lt hn (os := os) fun o ho => h o (by simp [ho])
    omega
theorem maxShr_congr {a b : List Nat} : ∀ {os : List (List Nat)}, (∀ o ∈ os, shr a o = shr b o) → maxShr a os = maxShr b os
  | [], _ => rfl
  | q :: os, h => by
    show max (shr a q) (maxShr a os) = max (shr b q) (maxShr b os)
    rw [h q (by simp), maxShr_congr fun o ho => h o (by simp [ho])]
def Bk (k : Ky) : Prop := bas k.2.1 = k.2.1
theorem VK.bk {k : Ky} (h : VK k) : Bk k := by
  obtain ⟨p, _, rfl⟩ := h
  exact bas_bas p.ns
theorem pad_ext {a b : List Nat} {n : Nat} (h : ∀ i, i < n → zz a i = zz b i) : pad a n = pad b n := by
  refine list_zz (by rw [pad_len, pad_len]) fun i hi => ?_
  rw [pad_len] at hi
  rw [zz_padN, zz_padN, if_pos hi, if_pos hi, h i hi]
theorem verC_ne {k b : Ky} (hb : VK b) : letsK (verC .ne b) k = !decide (k = b) := by
  unfold letsK verC
  rw [if_neg (by simp)]
  dsimp only
  rw [ptK_k hb]
theorem leftC_good {G : List Ky} {b g : Ky} (hG : ∀ g ∈ G, VK g) (hb : VK b) (hn : b ∉ G) (hg : g ∈ G) : letsK (leftC G b) g = true := by
  unfold leftC
  split
  · rw [verC_ne hb, decide_eq_false fun e => hn (by rw [← e]; exact hg)]
    rfl
  · rename_i hm
    unfold letsK blkC
    rw [if_pos rfl]
    dsimp only
    cases e : inBK b.1 (pad b.2.1 (1 + maxShr b.2.1 (basesOf G b.1))) g with
    | false => rfl
    | true =>
      obtain ⟨h1, h2⟩ := inBK_iff.mp e
      have mg : g.2.1 ∈ basesOf G b.1 := mem_bases.mpr ⟨g, hg, h1, rfl⟩
      have hne : b.2.1 ≠ g.2.1 := fun z => hm (by rw [z]; exact mg)
      obtain ⟨_, _, h3⟩ := shr_ok hb.bk (hG g hg).bk hne
      have h4 := shr_le_max (b := b.2.1) mg
      have h5 := h2 (shr b.2.1 g.2.1) (by rw [pad_len]; omega)
      rw [zz_padN, if_pos (by omega)] at h5
      exact absurd h5.symm h3
theorem leftC_bad {G : List Ky} {b : Ky} (hb : VK b) : letsK (leftC G b) b = false := by
  unfold leftC
  split
  · rw [verC_ne hb, decide_eq_true rfl]
    rfl
  · unfold letsK blkC
    rw [if_pos rfl]
    dsimp only
    have : inBK b.1 (pad b.2.1 (1 + maxShr b.2.1 (basesOf G b.1))) b = true := inBK_iff.mpr ⟨rfl, fun i hi => by rw [pad_len] at hi; rw [zz_padN, if_pos hi]⟩
    rw [this]
    rfl
theorem leftC_same {G : List Ky} {c : Cl} (hm : c.Mn) (hc : c.kd = .ng) (hG : ∀ g ∈ G, VK g) (hg : ∀ g ∈ G, letsK c g = true) {a b : Ky} (ha : VK a) (hb : VK b) (h1 : letsK c a = false) (h2 : letsK c b = false) : leftC G a = leftC G b := by
  rcases ng_lets hm hc with ⟨_, hN, h⟩ | h
  · rw [h] at h1 h2
    have i1 : inBK c.p.ep c.p.ns a = true := by simpa using h1
    have i2 : inBK c.p.ep c.p.ns b = true := by simpa using h2
    obtain ⟨e1, z1⟩ := inBK_iff.mp i1
    obtain ⟨e2, z2⟩ := inBK_iff.mp i2
    have hpos : 0 < c.p.ns.length := List.length_pos_iff.mpr hN
    have out : ∀ o ∈ basesOf G c.p.ep, ∃ i, i < c.p.ns.length ∧ zz o i ≠ zz c.p.ns i := fun o ho => by
      obtain ⟨g, hg1, hg2, hg3⟩ := mem_bases.mp ho
      have := hg g hg1
      rw [h] at this
      have h3 : ¬ inBK c.p.ep c.p.ns g = true := by simpa using this
      rw [inBK_iff] at h3
      refine Classical.byContradiction fun q => h3 ⟨hg2, fun i hi => Classical.byContradiction fun q2 => q ⟨i, hi, ?_⟩⟩
      rw [← hg3]
      exact q2
    have key : ∀ (k : Ky), (∀ i, i < c.p.ns.length → zz k.2.1 i = zz c.p.ns i) → k.2.1 ∉ basesOf G c.p.ep ∧ ∀ o ∈ basesOf G c.p.ep, shr k.2.1 o < c.p.ns.length := fun k hk => by
      refine ⟨fun ho => ?_, fun o ho => ?_⟩
      · obtain ⟨i, hi, hne⟩ := out _ ho
        exact hne (hk i hi)
      · obtain ⟨i, hi, hne⟩ := out o ho
        exact Nat.lt_of_le_of_lt (shr_lt fun z => hne (by rw [← z, hk i hi])) hi
    obtain ⟨n1, s1⟩ := key a z1
    obtain ⟨n2, s2⟩ := key b z2
    have hz : ∀ i, i < c.p.ns.length → zz a.2.1 i = zz b.2.1 i := fun i hi => by rw [z1 i hi, z2 i hi]
    have hs : ∀ o ∈ basesOf G c.p.ep, shr a.2.1 o = shr b.2.1 o := fun o ho => by
      have q1 := s1 o ho
      have q2 := s2 o ho
      obtain ⟨i, hi, hne⟩ := out o ho
      have na : ∃ i, zz a.2.1 i ≠ zz o i := ⟨i, fun z => hne (by rw [← z, z1 i hi])⟩
      have nb : ∃ i, zz b.2.1 i ≠ zz o i := ⟨i, fun z => hne (by rw [← z, z2 i hi])⟩
      refine Nat.le_antisymm ?_ ?_
      · exact shr_ge (fun i hi => by rw [← hz i (by omega)]; exact shr_eq _ _ hi) nb
      · exact shr_ge (fun i hi => by rw [hz i (by omega)]; exact shr_eq _ _ hi) na
    unfold leftC
    rw [e1, e2, if_neg n1, if_neg n2, maxShr_congr hs]
    have := maxShr_lt hpos s2
    rw [pad_ext fun i hi => hz i (by omega)]
  · rw [h] at h1 h2
    have i1 : a = c.p.key := by simpa using h1
    have i2 : b = c.p.key := by simpa using h2
    rw [i1, i2]
end Dn

set_option maxHeartbeats 4000000
namespace Dn
open PySem PySem.Spec PyProof.Rows L2 SX
open TL (numL pre joinL)
def maxLen (ks : List Ky) : Nat := ks.foldr (fun k n => max k.2.1.length n) 0
theorem len_le_max {k : Ky} : ∀ {ks : List Ky}, k ∈ ks → k.2.1.length ≤ maxLen ks
  | [], h => by simp at h
  | q :: ks, h => by
    show k.2.1.length ≤ max q.2.1.length (maxLen ks)
    rcases List.mem_cons.mp h with rfl | h
    · omega
    · have := len_le_max h
      omega
def commonN (g0 gl : Ky) (m : Nat) : Option (List Nat) :=
  if g0.1 = gl.1 then (if g0.2.1 = gl.2.1 then some (pad g0.2.1 (1 + m)) else if shr g0.2.1 gl.2.1 = 0 then none else some (pad g0.2.1 (shr g0.2.1 gl.2.1))) else none
theorem common_ok {g0 gl : Ky} {m : Nat} {N : List Nat} (h : commonN g0 gl m = some N) : N ≠ [] ∧ inBK g0.1 N g0 = true ∧ inBK g0.1 N gl = true ∧ N = pad g0.2.1 N.length := by
  unfold commonN at h
  split at h
  · rename_i he
    split at h
    · rename_i hb
      cases h
      refine ⟨fun z => ?_, inBK_iff.mpr ⟨rfl, fun i hi => ?_⟩, inBK_iff.mpr ⟨he.symm, fun i hi => ?_⟩, by rw [pad_len]⟩
      · have := congrArg List.length z
        rw [pad_len, List.length_nil] at this
        omega
      · rw [pad_len] at hi; rw [zz_padN, if_pos hi]
      · rw [pad_len] at hi; rw [zz_padN, if_pos hi, hb]
    · split at h
      · cases h
      · rename_i hs
        cases h
        refine ⟨fun z => ?_, inBK_iff.mpr ⟨rfl, fun i hi => ?_⟩, inBK_iff.mpr ⟨he.symm, fun i hi => ?_⟩, by rw [pad_len]⟩
        · have := congrArg List.length z
          rw [pad_len, List.length_nil] at this
          omega
        · rw [pad_len] at hi; rw [zz_padN, if_pos hi]
        · rw [pad_len] at hi; rw [zz_padN, if_pos hi, shr_eq _ _ hi]
  · cases h
/-- any block around both ends is around the best one -/
theorem common_best {g0 gl : Ky} {m : Nat} (h0 : Bk g0) (hl : Bk gl) (l0 : g0.2.1.length ≤ m) {e : Nat} {M : List Nat} (hM : M ≠ []) (i0 : inBK e M g0 = true) (il : inBK e M gl = true) : ∃ N, commonN g0 gl m = some N ∧ (M.length ≤ N.length ∨ N.length = 1 + m) ∧ (g0.2.1 ≠ gl.2.1 → M.length ≤ N.length) ∧ ∀ k, k.2.1.length ≤ m → inBK g0.1 N k = true → inBK e M k = true := by
  obtain ⟨e0, z0⟩ := inBK_iff.mp i0
  obtain ⟨el, zl⟩ := inBK_iff.mp il
  have hpos : 0 < M.length := List.length_pos_iff.mpr hM
  unfold commonN
  rw [if_pos (e0.trans el.symm)]
  by_cases hb : g0.2.1 = gl.2.1
  · rw [if_pos hb]
    refine ⟨_, rfl, .inr (pad_len _ _), fun z => absurd hb z, fun k hk hi => ?_⟩
    obtain ⟨ek, zk⟩ := inBK_iff.mp hi
    refine inBK_iff.mpr ⟨ek.trans e0, fun i hi => ?_⟩
    rw [← z0 i hi]
    by_cases c : i < 1 + m
    · have := zk i (by rw [pad_len]; exact c)
      rw [zz_padN, if_pos c] at this
      exact this
    · rw [zz_out (by omega), zz_out (by omega)]
  · rw [if_neg hb]
    have hs : M.length ≤ shr g0.2.1 gl.2.1 := shr_ge (fun i hi => by rw [z0 i hi, zl i hi]) (ne_zz h0 hl hb)
    rw [if_neg (by omega)]
    refine ⟨_, rfl, .inl (by rw [pad_len]; exact hs), fun _ => by rw [pad_len]; exact hs, fun k hk hi => ?_⟩
    obtain ⟨ek, zk⟩ := inBK_iff.mp hi
    refine inBK_iff.mpr ⟨ek.trans e0, fun i hi => ?_⟩
    have := zk i (by rw [pad_len]; omega)
    rw [zz_padN, if_pos (by omega)] at this
    rw [this, z0 i hi]
def postsK (e : Nat) (own : List Nat) (B : List Ky) : List Nat := B.filterMap fun k => if k.1 = e ∧ k.2.1 = own ∧ (untail k.2.2).1 = none then (untail k.2.2).2.1 else none
def postMax (ps : List Nat) : Nat := ps.foldr (fun p n => max (p + 1) n) 0
theorem lt_postMax {p : Nat} : ∀ {ps : List Nat}, p ∈ ps → p < postMax ps
  | [], h => by simp at h
  | q :: ps, h => by
    show p < max (q + 1) (postMax ps)
    rcases List.mem_cons.mp h with rfl | h
    · omega
    · have := lt_postMax h
      omega
def nearOwn (g0 : Ky) (N : List Nat) : List Nat := bas (g0.2.1.take (N.length + 1))
def nearKy (g0 : Ky) (B : List Ky) (N : List Nat) : Ky := if g0.2.1.length ≤ N.length + 1 then g0 else (g0.1, nearOwn g0 N, [3, postMax (postsK g0.1 (nearOwn g0 N) B), 1])
theorem zz_own (g0 : Ky) (N : List Nat) (i : Nat) : zz (nearOwn g0 N) i = if i < N.length + 1 then zz g0.2.1 i else 0 := by
  unfold nearOwn
  rw [zz_bas, zz_take]
theorem own_bas (g0 : Ky) (N : List Nat) : bas (nearOwn g0 N) = nearOwn g0 N := bas_bas _
theorem own_lt {g0 : Ky} (h0 : Bk g0) {N : List Nat} (h : ¬ g0.2.1.length ≤ N.length + 1) : ltL (nearOwn g0 N) g0.2.1 = true := by
  rcases ltL_tri (nearOwn g0 N) g0.2.1 with e | e | e
  · have := congrArg List.length e
    have h2 := bas_len (g0.2.1.take (N.length + 1))
    unfold nearOwn at this
    rw [List.length_take] at h2
    omega
  · exact e
  · obtain ⟨i, h1, h2⟩ := (ltL_iff h0 (own_bas g0 N)).mp e
    rw [zz_own] at h2
    split at h2 <;> omega
theorem near_le {g0 : Ky} (h0 : Bk g0) (B : List Ky) (N : List Nat) : ltK g0 (nearKy g0 B N) = false := by
  unfold nearKy
  split
  · exact ltK_irr g0
  · rename_i h
    have := own_lt h0 h
    refine ltK_asy ?_
    unfold ltK
    dsimp only
    rw [if_pos rfl, if_neg (fun e => by rw [e, ltL_irr] at this; cases this)]
    exact this
theorem near_in {g0 : Ky} {B : List Ky} {N : List Nat} (h : inBK g0.1 N g0 = true) : inBK g0.1 N (nearKy g0 B N) = true := by
  unfold nearKy
  split
  · exact h
  · obtain ⟨e, z⟩ := inBK_iff.mp h
    refine inBK_iff.mpr ⟨rfl, fun i hi => ?_⟩
    show zz (nearOwn g0 N) i = _
    rw [zz_own, if_pos (by omega)]
    exact z i hi
theorem tail_ge3 {fo : Option (List Nat × Nat)} {po dv : Option Nat} {p : Nat} (h : ltL (tailK fo po dv) [3, p, 1] = false) : fo = none ∧ ∃ q, po = some q ∧ p ≤ q := by
  unfold tailK at h
  cases fo with
  | some x =>
    obtain ⟨x, n⟩ := x
    cases po <;> cases h
  | none =>
    refine ⟨rfl, ?_⟩
    cases po with
    | none => cases dv <;> cases h
    | some q =>
      refine ⟨q, rfl, ?_⟩
      dsimp only at h
      have e : ltL ([3, q] ++ ownK dv) [3, p, 1] = if q = p then ltL (ownK dv) [1] else decide (q < p) := by
        show (if 3 = 3 then ltL (q :: ownK dv) [p, 1] else _) = _
        rw [if_pos rfl]
        rfl
      rw [e] at h
      split at h
      · omega
      · have : ¬ q < p := by simpa using h
        omega
theorem lt_of_base {a b : Ky} (h1 : a.1 = b.1) (h2 : ltL a.2.1 b.2.1 = true) : ltK a b = true := by
  unfold ltK
  rw [if_pos h1, if_neg (fun e => by rw [e, ltL_irr] at h2; cases h2)]
  exact h2
theorem near_best {g0 gl : Ky} {B : List Ky} {m : Nat} {N : List Nat} (h0 : VK g0) (hl : VK gl) (hN : commonN g0 gl m = some N) (l0 : g0.2.1.length ≤ m) {c : Cl} (hm : c.Mn) (hc : c.kd = .co) (c0 : letsK c g0 = true) (cl : letsK c gl = true)
    {k : Ky} (hk : VK k) (hB : k ∈ B) (lk : k.2.1.length ≤ m) (h1 : ltK k (nearKy g0 B N) = false) (h2 : inBK g0.1 N k = true) : letsK c k = true := by
  obtain ⟨hsg, q0⟩ := co_lets hc g0
  obtain ⟨_, ql⟩ := co_lets hc gl
  obtain ⟨_, qk⟩ := co_lets hc k
  rw [q0, Bool.and_eq_true] at c0
  rw [ql, Bool.and_eq_true] at cl
  have hns : 2 ≤ c.p.ns.length := hm.co hsg
  have hM : c.p.ns.dropLast ≠ [] := fun z => by
    have := congrArg List.length z
    rw [List.length_dropLast, List.length_nil] at this
    omega
  have hMl : c.p.ns.dropLast.length = c.p.ns.length - 1 := List.length_dropLast
  obtain ⟨N', e1, _, e2, e3⟩ := common_best h0.bk hl.bk l0 hM c0.2 cl.2
  rw [hN] at e1
  cases e1
  rw [qk, e3 k lk h2, Bool.and_true]
  have v0 : ltK g0 c.p.key = false := by simpa using c0.1
  obtain ⟨ep0, _⟩ := inBK_iff.mp c0.2
  obtain ⟨epk, _⟩ := inBK_iff.mp h2
  suffices ltK k c.p.key = false by rw [this]; rfl
  unfold nearKy at h1
  split at h1
  · exact leK_tr v0 h1
  · rename_i hlen
    have hne : g0.2.1 ≠ gl.2.1 := fun z => by
      unfold commonN at hN
      by_cases he : g0.1 = gl.1
      · rw [if_pos he, if_pos z] at hN
        have := congrArg List.length (Option.some.inj hN)
        rw [pad_len] at this
        omega
      · rw [if_neg he] at hN
        cases hN
    have hMN := e2 hne
    have vb : bas c.p.key.2.1 = c.p.key.2.1 := bas_bas c.p.ns
    have ve : c.p.key.1 = g0.1 := ep0.symm
    -- the base of V is at most own
    have hA : ltL (nearOwn g0 N) c.p.key.2.1 = false := by
      cases e : ltL (nearOwn g0 N) c.p.key.2.1 with
      | false => rfl
      | true =>
        obtain ⟨i, w1, w2⟩ := (ltL_iff (own_bas g0 N) vb).mp e
        have hi : i < N.length + 1 := by
          refine Nat.lt_of_not_le fun z => ?_
          have : zz c.p.key.2.1 i = 0 := by
            show zz (bas c.p.ns) i = 0
            rw [zz_bas]
            exact zz_out (by omega)
          omega
        have : ltK g0 c.p.key = true := lt_of_base ve.symm ((ltL_iff h0.bk vb).mpr ⟨i, fun j hj => by
          have := w1 j hj
          rw [zz_own, if_pos (by omega)] at this
          exact this, by rw [zz_own, if_pos hi] at w2; exact w2⟩)
        rw [v0] at this
        cases this
    have hkb : ltL k.2.1 (nearOwn g0 N) = false := by
      rcases lt_parts h1 with q | ⟨_, q⟩
      · have q : g0.1 < k.1 := q
        omega
      · exact q
    rcases ltL_tri (nearOwn g0 N) k.2.1 with e | e | e
    · -- the same base
      exfalso
      obtain ⟨p, hp, rfl⟩ := hk
      have e' : nearOwn g0 N = bas p.ns := e
      have h3 : ltL (tailK p.fo p.po p.dv) [3, postMax (postsK g0.1 (nearOwn g0 N) B), 1] = false := by
        unfold ltK at h1
        rw [if_pos epk] at h1
        have e2 : (p.key.2.1 : List Nat) = ((g0.1, nearOwn g0 N, [3, postMax (postsK g0.1 (nearOwn g0 N) B), 1]) : Ky).2.1 := e.symm
        rw [if_pos e2] at h1
        exact h1
      obtain ⟨f1, q, f2, f3⟩ := tail_ge3 h3
      have hut : untail p.key.2.2 = (p.fo, p.po, p.dv) := untail_tailK (fun x n e => (hp.fo x n e).1) _ _
      have : q ∈ postsK g0.1 (nearOwn g0 N) B := by
        unfold postsK
        refine List.mem_filterMap.mpr ⟨p.key, hB, ?_⟩
        rw [hut, if_pos ⟨epk, e.symm, f1⟩]
        exact f2
      have := lt_postMax this
      omega
    · refine ltK_asy (lt_of_base (ve.trans epk.symm) ?_)
      exact leL_lt hA e
    · rw [hkb] at e
      cases e
end Dn

set_option maxHeartbeats 4000000
namespace Dn
open PySem PySem.Spec PyProof.Rows L2 SX
open TL (numL pre joinL)
section
variable {α β : Type} [DecidableEq β]
def ddpF (f : α → β) (l : List α) : List α := l.foldl (fun acc a => if f a ∈ acc.map f then acc else acc ++ [a]) []
theorem ddpF_go (f : α → β) : ∀ (l acc : List α), (acc.map f).Nodup → ((l.foldl (fun acc a => if f a ∈ acc.map f then acc else acc ++ [a]) acc).map f).Nodup ∧ (∀ a ∈ l.foldl (fun acc a => if f a ∈ acc.map f then acc else acc ++ [a]) acc, a ∈ acc ∨ a ∈ l) ∧ (∀ a, a ∈ acc ∨ a ∈ l → ∃ b ∈ l.foldl (fun acc a => if f a ∈ acc.map f then acc else acc ++ [a]) acc, f b = f a)
  | [], acc, h => ⟨h, fun a ha => .inl ha, fun a ha => ⟨a, by simpa using ha, rfl⟩⟩
  | x :: l, acc, h => by
    rw [List.foldl_cons]
    by_cases c : f x ∈ acc.map f
    · rw [if_pos c]
      obtain ⟨h1, h2, h3⟩ := ddpF_go f l acc h
      refine ⟨h1, fun a ha => (h2 a ha).imp id (by simp +contextual), fun a ha => ?_⟩
      rcases ha with ha | ha
      · exact h3 a (.inl ha)
      · rcases List.mem_cons.mp ha with rfl | ha
        · obtain ⟨y, hy, e⟩ := List.mem_map.mp c
          obtain ⟨b, hb, eb⟩ := h3 y (.inl hy)
          exact ⟨b, hb, eb.trans e⟩
        · exact h3 a (.inr ha)
    · rw [if_neg c]
      have hn : ((acc ++ [x]).map f).Nodup := by
        rw [List.map_append, List.nodup_append]
        refine ⟨h, by simp, fun a ha b hb => ?_⟩
        rw [List.map_singleton, List.mem_singleton] at hb
        rintro rfl
        exact c (hb ▸ ha)
      obtain ⟨h1, h2, h3⟩ := ddpF_go f l (acc ++ [x]) hn
      refine ⟨h1, fun a ha => ?_, fun a ha => h3 a ?_⟩
      · rcases h2 a ha with q | q
        · rcases List.mem_append.mp q with q | q
          · exact .inl q
          · exact .inr (by rw [List.mem_singleton.mp q]; simp)
        · exact .inr (by simp [q])
      · rcases ha with ha | ha
        · exact .inl (by simp [ha])
        · rcases List.mem_cons.mp ha with rfl | ha
          · exact .inl (by simp)
          · exact .inr ha
theorem ddpF_nd (f : α → β) (l : List α) : ((ddpF f l).map f).Nodup := (ddpF_go f l [] List.nodup_nil).1
theorem ddpF_sub {f : α → β} {l : List α} {a : α} (h : a ∈ ddpF f l) : a ∈ l := ((ddpF_go f l [] List.nodup_nil).2.1 a h).resolve_left (by simp)
theorem ddpF_all {f : α → β} {l : List α} {a : α} (h : a ∈ l) : ∃ b ∈ ddpF f l, f b = f a := (ddpF_go f l [] List.nodup_nil).2.2 a (.inr h)
theorem ddp_map (f : α → β) (l : List α) : ddp (l.map f) = (ddpF f l).map f := by
  have go : ∀ (l acc : List α), (l.map f).foldl (fun acc k => if k ∈ acc then acc else acc ++ [k]) (acc.map f) = (l.foldl (fun acc a => if f a ∈ acc.map f then acc else acc ++ [a]) acc).map f := by
    intro l
    induction l with
    | nil => intro acc; rfl
    | cons x l ih =>
      intro acc
      rw [List.map_cons, List.foldl_cons, List.foldl_cons]
      by_cases c : f x ∈ acc.map f
      · rw [if_pos c, if_pos c]; exact ih acc
      · rw [if_neg c, if_neg c, ← ih, List.map_append]; rfl
  exact go l []
end
def txtK (c : Cl) : List Str := [c.sg.s, S c.txt]
theorem clD_txt (c : Cl) : clD c = .tuple ((txtK c).map .str) := rfl
abbrev Wy := List Cl × Ky × Option Ky
def nearC (k : Ky) (N : List Nat) : Cl := ⟨.co, false, false, ⟨k.1, pad k.2.1 (N.length + 1), (untail k.2.2).1, (untail k.2.2).2.1, (untail k.2.2).2.2⟩⟩
def ways4 (g0 gl : Ky) : List Wy := [([], leastK, none), ([verC .ge g0], g0, none), ([verC .le gl], leastK, some (folKy gl)), ([verC .ge g0, verC .le gl], g0, some (folKy gl))]
def ways5 (g0 gl : Ky) (B : List Ky) (N : List Nat) : List Wy := [([blkC .eq g0.1 N], (g0.1, bas N, [0, 0]), some (g0.1, incr N, [0, 0])), ([blkC .eq g0.1 N, verC .ge g0], g0, some (g0.1, incr N, [0, 0])), ([blkC .eq g0.1 N, verC .le gl], (g0.1, bas N, [0, 0]), some (folKy gl)),
  ([nearC (nearKy g0 B N) N], nearKy g0 B N, some (g0.1, incr N, [0, 0])), ([nearC (nearKy g0 B N) N, verC .le gl], nearKy g0 B N, some (folKy gl))]
def waysK (G B : List Ky) (g0 gl : Ky) : List Wy := match commonN g0 gl (maxLen (G ++ B)) with
  | none => ways4 g0 gl
  | some N => ways4 g0 gl ++ ways5 g0 gl B N
def leftW (B : List Ky) (w : Wy) : List Ky := B.filter fun k => !ltK k w.2.1 && belowK k w.2.2
def rowW (G B : List Ky) (w : Wy) : List Cl := w.1 ++ ddpF txtK ((leftW B w).map (leftC G))
theorem ge_lets {g k : Ky} (h : VK g) : letsK (verC .ge g) k = !ltK k g := by
  unfold letsK verC
  rw [if_neg (by simp)]
  dsimp only
  rw [ptK_k h]
theorem le_lets {g k : Ky} (h : VK g) : letsK (verC .le g) k = !ltK g k := by
  unfold letsK verC
  rw [if_neg (by simp)]
  dsimp only
  rw [ptK_k h]
theorem eqv_lets {g k : Ky} (h : VK g) : letsK (verC .eq g) k = decide (k = g) := by
  unfold letsK verC
  rw [if_neg (by simp)]
  dsimp only
  rw [ptK_k h]
theorem wh_lets {e : Nat} {N : List Nat} {k : Ky} : letsK (blkC .eq e N) k = inBK e N k := bl_lets (c := blkC .eq e N) rfl k
theorem tail_back {k : Ky} (h : VK k) : tailK (untail k.2.2).1 (untail k.2.2).2.1 (untail k.2.2).2.2 = k.2.2 := by
  obtain ⟨p, hp, rfl⟩ := h
  have : untail p.key.2.2 = (p.fo, p.po, p.dv) := untail_tailK (fun x n e => (hp.fo x n e).1) _ _
  rw [this]
  rfl
theorem bas_pad {a : List Nat} {n : Nat} (h : bas a = a) (hl : a.length ≤ n) : bas (pad a n) = a := by
  have : bas (pad a n) = bas a := bas_eq_iff.mpr fun i => by
    rw [zz_padN]
    split
    · rfl
    · rw [zz_out (by omega)]
  rw [this, h]
theorem nearKy_len {g0 : Ky} (B : List Ky) (N : List Nat) : (nearKy g0 B N).2.1.length ≤ N.length + 1 := by
  unfold nearKy
  split
  · assumption
  · have := bas_len (g0.2.1.take (N.length + 1))
    rw [List.length_take] at this
    show (nearOwn g0 N).length ≤ _
    unfold nearOwn
    omega
theorem near_e (g0 : Ky) (B : List Ky) (N : List Nat) : (nearKy g0 B N).1 = g0.1 := by
  unfold nearKy
  split <;> rfl
theorem near_key {g0 : Ky} (h0 : VK g0) (B : List Ky) (N : List Nat) : (nearC (nearKy g0 B N) N).p.key = nearKy g0 B N := by
  have hl := nearKy_len (g0 := g0) B N
  have hb : bas (nearKy g0 B N).2.1 = (nearKy g0 B N).2.1 := by
    unfold nearKy
    split
    · exact h0.bk
    · exact own_bas g0 N
  have ht : tailK (untail (nearKy g0 B N).2.2).1 (untail (nearKy g0 B N).2.2).2.1 (untail (nearKy g0 B N).2.2).2.2 = (nearKy g0 B N).2.2 := by
    unfold nearKy
    split
    · exact tail_back h0
    · rfl
  unfold nearC Pt.key
  dsimp only
  rw [bas_pad hb hl, ht]
theorem near_drop {g0 : Ky} {B : List Ky} {N : List Nat} (h : inBK g0.1 N g0 = true) : (pad (nearKy g0 B N).2.1 (N.length + 1)).dropLast = N := by
  obtain ⟨_, z⟩ := inBK_iff.mp (near_in (B := B) h)
  refine list_zz (by rw [List.length_dropLast, pad_len]; rfl) fun i hi => ?_
  rw [List.length_dropLast, pad_len] at hi
  have hi : i < N.length := hi
  rw [List.dropLast_eq_take, zz_take, pad_len, if_pos (by omega), zz_padN, if_pos (by omega)]
  exact z i hi
theorem ne_lets {g0 : Ky} (h0 : VK g0) {B : List Ky} {N : List Nat} (h : inBK g0.1 N g0 = true) (k : Ky) : letsK (nearC (nearKy g0 B N) N) k = (!ltK k (nearKy g0 B N) && inBK g0.1 N k) := by
  have := (co_lets (c := nearC (nearKy g0 B N) N) rfl k).2
  rw [this, near_key h0]
  have e : (nearC (nearKy g0 B N) N).p.ns.dropLast = N := near_drop h
  have e2 : (nearC (nearKy g0 B N) N).p.ep = g0.1 := near_e g0 B N
  rw [e, e2]
theorem bas_incr (N : List Nat) : bas (incr N) = incr N := by
  unfold incr
  exact bas_pos _ (by omega)
theorem st_en {k : Ky} (hk : VK k) {e : Nat} {N : List Nat} (hN : N ≠ []) : inBK e N k = (!ltK k (e, bas N, [0, 0]) && ltK k (e, incr N, [0, 0])) := by
  rw [← blk_cuts hk e hN]
  unfold cutsK
  dsimp only
  rw [bas_incr]
theorem near_st {g0 : Ky} (h0 : VK g0) {B : List Ky} {N : List Nat} (hN : N ≠ []) (h : inBK g0.1 N g0 = true) : ltK (nearKy g0 B N) (g0.1, bas N, [0, 0]) = false := by
  have hin := near_in (B := B) h
  unfold nearKy at hin ⊢
  split
  · rw [st_en h0 hN, Bool.and_eq_true] at h
    simpa using h.1
  · rename_i hl
    rw [if_neg hl] at hin
    obtain ⟨_, z⟩ := inBK_iff.mp hin
    unfold ltK
    dsimp only
    rw [if_pos rfl]
    split
    · rfl
    · cases e : ltL (nearOwn g0 N) (bas N) with
      | false => rfl
      | true =>
        obtain ⟨i, w1, w2⟩ := (ltL_iff (own_bas g0 N) (bas_bas N)).mp e
        rw [zz_bas] at w2
        have hi : i < N.length := Nat.lt_of_not_le fun q => by rw [zz_out q] at w2; omega
        have := z i hi
        have : zz (nearOwn g0 N) i = zz N i := this
        omega
/-- what a way lets in is what lies between its cuts -/
theorem way_lets {G B : List Ky} {g0 gl : Ky} (h0 : VK g0) (hl : VK gl) {w : Wy} (hw : w ∈ waysK G B g0 gl) {k : Ky} (hk : VK k) : (!ltK k w.2.1 && belowK k w.2.2) = w.1.all fun c => letsK c k := by
  have hlst : ltK k leastK = false := VK_ge hk
  have h4 : ∀ w ∈ ways4 g0 gl, (!ltK k w.2.1 && belowK k w.2.2) = w.1.all fun c => letsK c k := by
    intro w hw
    unfold ways4 at hw
    simp only [List.mem_cons, List.mem_nil_iff, or_false] at hw
    rcases hw with rfl | rfl | rfl | rfl
    · simp [hlst, belowK]
    · simp [ge_lets h0, belowK]
    · simp [le_lets hl, belowK, hlst, folK_next hk hl]
    · simp [ge_lets h0, le_lets hl, belowK, folK_next hk hl]
  unfold waysK at hw
  split at hw
  · exact h4 w hw
  · rename_i N hN
    rcases List.mem_append.mp hw with hw | hw
    · exact h4 w hw
    · obtain ⟨c1, c2, c3, _⟩ := common_ok hN
      have s0 : ltK g0 (g0.1, bas N, [0, 0]) = false ∧ ltK g0 (g0.1, incr N, [0, 0]) = true := by
        rw [st_en h0 c1, Bool.and_eq_true] at c2
        exact ⟨by simpa using c2.1, c2.2⟩
      have sl : ltK gl (g0.1, bas N, [0, 0]) = false ∧ ltK gl (g0.1, incr N, [0, 0]) = true := by
        rw [st_en hl c1, Bool.and_eq_true] at c3
        exact ⟨by simpa using c3.1, c3.2⟩
      have sn := near_st (B := B) h0 c1 c2
      have i1 : ltK k g0 = false → ltK k (g0.1, bas N, [0, 0]) = false := fun q => leK_tr s0.1 q
      have i2 : ltK gl k = false → ltK k (g0.1, incr N, [0, 0]) = true := fun q => leK_lt q sl.2
      have i3 : ltK k (nearKy g0 B N) = false → ltK k (g0.1, bas N, [0, 0]) = false := fun q => leK_tr sn q
      have e1 := st_en hk (e := g0.1) c1
      have e2 := folK_next hk hl
      unfold ways5 at hw
      simp only [List.mem_cons, List.mem_nil_iff, or_false] at hw
      rcases hw with rfl | rfl | rfl | rfl | rfl
      · simp [wh_lets, belowK, e1]
      · simp only [List.all_cons, List.all_nil, wh_lets, ge_lets h0, belowK, e1]
        cases z : ltK k g0 with
        | true => simp
        | false => simp [i1 z]
      · simp only [List.all_cons, List.all_nil, wh_lets, le_lets hl, belowK, e1, e2]
        cases z : ltK gl k with
        | true => simp
        | false => simp [i2 z]
      · simp only [List.all_cons, List.all_nil, ne_lets h0 c2, belowK, e1]
        cases z : ltK k (nearKy g0 B N) with
        | true => simp
        | false => simp [i3 z]
      · simp only [List.all_cons, List.all_nil, ne_lets h0 c2, le_lets hl, belowK, e1, e2]
        cases z : ltK k (nearKy g0 B N) with
        | true => simp
        | false =>
          cases z2 : ltK gl k with
          | true => simp
          | false => simp [i3 z, i2 z2]
theorem way_good {G B : List Ky} {g0 gl : Ky} (h0 : VK g0) (hl : VK gl) {w : Wy} (hw : w ∈ waysK G B g0 gl) {g : Ky} (hg : VK g) (i0 : ltK g g0 = false) (il : ltK gl g = false) : ∀ c ∈ w.1, letsK c g = true := by
  have h4 : ∀ w ∈ ways4 g0 gl, ∀ c ∈ w.1, letsK c g = true := by
    intro w hw c hc
    unfold ways4 at hw
    simp only [List.mem_cons, List.mem_nil_iff, or_false] at hw
    rcases hw with rfl | rfl | rfl | rfl
    · simp at hc
    · simp only [List.mem_cons, List.mem_nil_iff, or_false] at hc
      subst hc
      rw [ge_lets h0, i0]; rfl
    · simp only [List.mem_cons, List.mem_nil_iff, or_false] at hc
      subst hc
      rw [le_lets hl, il]; rfl
    · simp only [List.mem_cons, List.mem_nil_iff, or_false] at hc
      rcases hc with rfl | rfl
      · rw [ge_lets h0, i0]; rfl
      · rw [le_lets hl, il]; rfl
  unfold waysK at hw
  split at hw
  · exact h4 w hw
  · rename_i N hN
    rcases List.mem_append.mp hw with hw | hw
    · exact h4 w hw
    · obtain ⟨c1, c2, c3, _⟩ := common_ok hN
      have hin : inBK g0.1 N g = true := blk_conv h0 hg hl c1 c2 c3 i0 il
      have e1 : letsK (blkC .eq g0.1 N) g = true := by rw [wh_lets]; exact hin
      have e2 : letsK (verC .ge g0) g = true := by rw [ge_lets h0, i0]; rfl
      have e3 : letsK (verC .le gl) g = true := by rw [le_lets hl, il]; rfl
      have e4 : letsK (nearC (nearKy g0 B N) N) g = true := by
        rw [ne_lets h0 c2, hin, leK_tr (near_le h0.bk B N) i0]; rfl
      intro c hc
      unfold ways5 at hw
      simp only [List.mem_cons, List.mem_nil_iff, or_false] at hw
      rcases hw with rfl | rfl | rfl | rfl | rfl <;> simp only [List.mem_cons, List.mem_nil_iff, or_false] at hc
      · subst hc; exact e1
      · rcases hc with rfl | rfl
        · exact e1
        · exact e2
      · rcases hc with rfl | rfl
        · exact e1
        · exact e3
      · subst hc; exact e4
      · rcases hc with rfl | rfl
        · exact e4
        · exact e3
end Dn

set_option maxHeartbeats 4000000
namespace Dn
open PySem PySem.Spec PyProof.Rows L2 SX
open TL (numL pre joinL)
/-- good and bad keys -/
structure GB (G B : List Ky) (g0 gl : Ky) : Prop where
  g : ∀ k ∈ G, VK k
  b : ∀ k ∈ B, VK k
  m0 : g0 ∈ G
  ml : gl ∈ G
  lo : ∀ k ∈ G, ltK k g0 = false
  hi : ∀ k ∈ G, ltK gl k = false
  dj : ∀ k ∈ B, k ∉ G
theorem row_good {G B : List Ky} {g0 gl : Ky} (h : GB G B g0 gl) {w : Wy} (hw : w ∈ waysK G B g0 gl) {g : Ky} (hg : g ∈ G) : ∀ c ∈ rowW G B w, letsK c g = true := by
  intro c hc
  rcases List.mem_append.mp hc with hc | hc
  · exact way_good (h.g _ h.m0) (h.g _ h.ml) hw (h.g g hg) (h.lo g hg) (h.hi g hg) c hc
  · obtain ⟨b, hb, rfl⟩ := List.mem_map.mp (ddpF_sub hc)
    have hb := (List.mem_filter.mp hb).1
    exact leftC_good h.g (h.b b hb) (h.dj b hb) hg
theorem sg_s_inj {s t : Sg} (h : s.s = t.s) : s = t := by
  have := sg_eqv s t
  rw [h] at this
  have e : PyData.eqv (.str t.s) (.str t.s) = true := by cases t <;> decide +kernel
  rw [e] at this
  simpa using this.symm
theorem row_bad {G B : List Ky} {g0 gl : Ky} (h : GB G B g0 gl) {w : Wy} (hw : w ∈ waysK G B g0 gl) (hinj : ∀ a ∈ B, ∀ b ∈ B, txtK (leftC G a) = txtK (leftC G b) → leftC G a = leftC G b) {b : Ky} (hb : b ∈ B) : ∃ c ∈ rowW G B w, letsK c b = false := by
  have hv := h.b b hb
  have e := way_lets (h.g _ h.m0) (h.g _ h.ml) hw hv
  cases q : (!ltK b w.2.1 && belowK b w.2.2) with
  | false =>
    rw [q] at e
    have : ¬ (w.1.all fun c => letsK c b) = true := by rw [← e]; simp
    rw [List.all_eq_true] at this
    refine Classical.byContradiction fun z => this fun c hc => ?_
    cases y : letsK c b with
    | true => rfl
    | false => exact absurd ⟨c, List.mem_append.mpr (.inl hc), y⟩ z
  | true =>
    have hm : b ∈ leftW B w := List.mem_filter.mpr ⟨hb, q⟩
    obtain ⟨c, hc, ec⟩ := ddpF_all (f := txtK) (List.mem_map.mpr ⟨b, hm, rfl⟩ : leftC G b ∈ (leftW B w).map (leftC G))
    obtain ⟨a, ha, rfl⟩ := List.mem_map.mp (ddpF_sub hc)
    have := hinj a (List.mem_filter.mp ha).1 b hb ec
    refine ⟨_, List.mem_append.mpr (.inr hc), ?_⟩
    rw [this]
    exact leftC_bad hv
/-- an injection counts -/
theorem inj_le {α β γ : Type} [DecidableEq γ] {L : List α} {f : α → γ} (hn : (L.map f).Nodup) {M : List β} (R : α → β → Prop) (h1 : ∀ x ∈ L, ∃ y ∈ M, R x y) (h2 : ∀ x ∈ L, ∀ x' ∈ L, ∀ y, R x y → R x' y → f x = f x') : L.length ≤ M.length := by
  classical
  induction L generalizing M with
  | nil => simp
  | cons x L ih =>
    rw [List.map_cons, List.nodup_cons] at hn
    obtain ⟨y, hy, hxy⟩ := h1 x (by simp)
    obtain ⟨s, t, rfl⟩ := List.append_of_mem hy
    have := ih (M := s ++ t) hn.2 (fun x' hx' => by
      obtain ⟨y', hy', hr⟩ := h1 x' (by simp [hx'])
      by_cases e : y' = y
      · subst e
        exact absurd (List.mem_map.mpr ⟨x', hx', h2 x' (by simp [hx']) x (by simp) y' hr hxy⟩) hn.1
      · refine ⟨y', ?_, hr⟩
        rcases List.mem_append.mp hy' with q | q
        · exact List.mem_append.mpr (.inl q)
        · rcases List.mem_cons.mp q with q | q
          · exact absurd q e
          · exact List.mem_append.mpr (.inr q)) fun a ha b hb => h2 a (by simp [ha]) b (by simp [hb])
    simp only [List.length_cons, List.length_append] at this ⊢
    omega
theorem two_le {α β : Type} {l : List α} {f : α → β} {a b : α} (ha : a ∈ l) (hb : b ∈ l) (h : f a ≠ f b) : 2 ≤ l.length := by
  match l, ha, hb with
  | [x], ha, hb =>
    rw [List.mem_singleton] at ha hb
    rw [ha, hb] at h
    exact absurd rfl h
  | _ :: _ :: _, _, _ => simp
/-- the way that does what some positive clauses do -/
theorem way_best {G B : List Ky} {g0 gl : Ky} (h : GB G B g0 gl) (hne : g0 ≠ gl) {P : List Cl} (hm : ∀ c ∈ P, c.Mn) (hp : ∀ c ∈ P, c.kd ≠ .ng) (h0 : ∀ c ∈ P, letsK c g0 = true) (hl : ∀ c ∈ P, letsK c gl = true) :
    ∃ w ∈ waysK G B g0 gl, w.1.length ≤ P.length ∧ ∀ k ∈ B, (!ltK k w.2.1 && belowK k w.2.2) = true → ∀ c ∈ P, letsK c k = true := by
  have v0 := h.g _ h.m0
  have vl := h.g _ h.ml
  have nopt : ∀ c ∈ P, c.kd ≠ .pt := fun c hc e => by
    have a := h0 c hc
    have b := hl c hc
    rw [pt_lets e, decide_eq_true_iff] at a b
    exact hne (a.trans b.symm)
  have m0 : g0.2.1.length ≤ maxLen (G ++ B) := len_le_max (by simp [h.m0])
  have mB : ∀ k ∈ B, k.2.1.length ≤ maxLen (G ++ B) := fun k hk => len_le_max (by simp [hk])
  -- what implies what
  have Lo : ∀ c ∈ P, c.kd = .lo → ∀ k, ltK k g0 = false → letsK c k = true := fun c hc e k hk => lo_up e (h0 c hc) hk
  have Hi : ∀ c ∈ P, c.kd = .hi → ∀ k, ltK gl k = false → letsK c k = true := fun c hc e k hk => hi_down e (hl c hc) hk
  have Bc : ∀ c ∈ P, c.kd = .bl → ∀ k ∈ B, ltK k g0 = false → ltK gl k = false → letsK c k = true := fun c hc e k hk q1 q2 => by
    have a := h0 c hc
    have b := hl c hc
    rw [bl_lets e] at a b ⊢
    exact blk_conv v0 (h.b k hk) vl ((hm c hc).st (bl_star e)).2 a b q1 q2
  have Cc : ∀ c ∈ P, c.kd = .co → ∀ k ∈ B, ltK k g0 = false → ltK gl k = false → letsK c k = true := fun c hc e k hk q1 q2 => by
    have a := h0 c hc
    have b := hl c hc
    obtain ⟨es, e0⟩ := co_lets e g0
    rw [e0, Bool.and_eq_true] at a
    rw [(co_lets e gl).2, Bool.and_eq_true] at b
    rw [(co_lets e k).2, Bool.and_eq_true]
    have hd : c.p.ns.dropLast ≠ [] := fun z => by
      have := congrArg List.length z
      have := (hm c hc).co es
      rw [List.length_dropLast, List.length_nil] at *
      omega
    refine ⟨?_, blk_conv v0 (h.b k hk) vl hd a.2 b.2 q1 q2⟩
    have a1 : ltK g0 c.p.key = false := by simpa using a.1
    rw [leK_tr a1 q1]; rfl
  have kinds : ∀ c ∈ P, c.kd = .lo ∨ c.kd = .hi ∨ c.kd = .bl ∨ c.kd = .co := fun c hc => by
    have a := hp c hc
    have b := nopt c hc
    cases e : c.kd <;> simp_all
  -- with a block
  have CN : (∃ c ∈ P, c.kd = .bl ∨ c.kd = .co) → ∃ N, commonN g0 gl (maxLen (G ++ B)) = some N ∧ (∀ c ∈ P, c.kd = .bl → ∀ k ∈ B, inBK g0.1 N k = true → letsK c k = true) ∧ (∀ c ∈ P, c.kd = .co → ∀ k ∈ B, inBK g0.1 N k = true → ltK k g0 = false → letsK c k = true) ∧
      (∀ c ∈ P, c.kd = .co → ∀ k ∈ B, inBK g0.1 N k = true → ltK k (nearKy g0 B N) = false → letsK c k = true) := by
    rintro ⟨c0, hc0, e0⟩
    have ex : ∀ c ∈ P, c.kd = .bl ∨ c.kd = .co → ∃ N, commonN g0 gl (maxLen (G ++ B)) = some N ∧ ∀ k ∈ B, inBK g0.1 N k = true → (c.kd = .bl → letsK c k = true) ∧ (c.kd = .co → inBK c.p.ep c.p.ns.dropLast k = true) := fun c hc e => by
      rcases e with e | e
      · have a := h0 c hc
        have b := hl c hc
        rw [bl_lets e] at a b
        obtain ⟨N, n1, _, _, n2⟩ := common_best v0.bk vl.bk m0 ((hm c hc).st (bl_star e)).2 a b
        exact ⟨N, n1, fun k hk i => ⟨fun _ => by rw [bl_lets e]; exact n2 k (mB k hk) i, fun z => (by rw [e] at z; cases z)⟩⟩
      · have a := h0 c hc
        have b := hl c hc
        obtain ⟨es, e0⟩ := co_lets e g0
        rw [e0, Bool.and_eq_true] at a
        rw [(co_lets e gl).2, Bool.and_eq_true] at b
        have hd : c.p.ns.dropLast ≠ [] := fun z => by
          have := congrArg List.length z
          have := (hm c hc).co es
          rw [List.length_dropLast, List.length_nil] at *
          omega
        obtain ⟨N, n1, _, _, n2⟩ := common_best v0.bk vl.bk m0 hd a.2 b.2
        exact ⟨N, n1, fun k hk i => ⟨fun z => (by rw [e] at z; cases z), fun _ => n2 k (mB k hk) i⟩⟩
    obtain ⟨N, n1, _⟩ := ex c0 hc0 e0
    refine ⟨N, n1, fun c hc e k hk i => ?_, fun c hc e k hk i q => ?_, fun c hc e k hk i q => ?_⟩
    · obtain ⟨M, m1, m2⟩ := ex c hc (.inl e)
      rw [n1] at m1; cases m1
      exact (m2 k hk i).1 e
    · obtain ⟨M, m1, m2⟩ := ex c hc (.inr e)
      rw [n1] at m1; cases m1
      have a := h0 c hc
      rw [(co_lets e g0).2, Bool.and_eq_true] at a
      rw [(co_lets e k).2, Bool.and_eq_true]
      have a1 : ltK g0 c.p.key = false := by simpa using a.1
      exact ⟨by rw [leK_tr a1 q]; rfl, (m2 k hk i).2 e⟩
    · exact near_best v0 vl n1 m0 (hm c hc) e (h0 c hc) (hl c hc) (h.b k hk) hk (mB k hk) q i
  have use : ∀ (w : Wy), w ∈ waysK G B g0 gl → w.1.length ≤ P.length → (∀ k ∈ B, (∀ c ∈ w.1, letsK c k = true) → ∀ c ∈ P, letsK c k = true) → ∃ w ∈ waysK G B g0 gl, w.1.length ≤ P.length ∧ ∀ k ∈ B, (!ltK k w.2.1 && belowK k w.2.2) = true → ∀ c ∈ P, letsK c k = true :=
    fun w hw hlen hk => ⟨w, hw, hlen, fun k hkB q => hk k hkB (by rw [way_lets v0 vl hw (h.b k hkB), List.all_eq_true] at q; exact q)⟩
  have in4 : ∀ w ∈ ways4 g0 gl, w ∈ waysK G B g0 gl := fun w hw => by
    unfold waysK
    split
    · exact hw
    · exact List.mem_append.mpr (.inl hw)
  have in5 : ∀ N, commonN g0 gl (maxLen (G ++ B)) = some N → ∀ w ∈ ways5 g0 gl B N, w ∈ waysK G B g0 gl := fun N hN w hw => by
    unfold waysK
    rw [hN]
    exact List.mem_append.mpr (.inr hw)
  by_cases cL : ∃ c ∈ P, c.kd = .lo
  · obtain ⟨cl, hcl, el⟩ := cL
    by_cases cH : ∃ c ∈ P, c.kd = .hi
    · obtain ⟨ch, hch, eh⟩ := cH
      refine use ([verC .ge g0, verC .le gl], g0, some (folKy gl)) (in4 _ (by simp [ways4])) (two_le hcl hch (f := Cl.kd) (by rw [el, eh]; simp)) fun k hk q c hc => ?_
      have q1 := q _ (List.mem_cons_self ..)
      have q2 := q (verC .le gl) (by simp)
      rw [ge_lets v0] at q1
      rw [le_lets vl] at q2
      have q1 : ltK k g0 = false := by simpa using q1
      have q2 : ltK gl k = false := by simpa using q2
      rcases kinds c hc with e | e | e | e
      · exact Lo c hc e k q1
      · exact Hi c hc e k q2
      · exact Bc c hc e k hk q1 q2
      · exact Cc c hc e k hk q1 q2
    · by_cases cB : ∃ c ∈ P, c.kd = .bl ∨ c.kd = .co
      · obtain ⟨N, n1, n2, n3, n4⟩ := CN cB
        obtain ⟨cb, hcb, eb⟩ := cB
        refine use ([blkC .eq g0.1 N, verC .ge g0], g0, some (g0.1, incr N, [0, 0])) (in5 N n1 _ (by simp [ways5])) (two_le hcl hcb (f := Cl.kd) (by rw [el]; rcases eb with e | e <;> rw [e] <;> simp)) fun k hk q c hc => ?_
        have q1 := q (blkC .eq g0.1 N) (by simp)
        have q2 := q (verC .ge g0) (by simp)
        rw [wh_lets] at q1
        rw [ge_lets v0] at q2
        have q2 : ltK k g0 = false := by simpa using q2
        rcases kinds c hc with e | e | e | e
        · exact Lo c hc e k q2
        · exact absurd ⟨c, hc, e⟩ cH
        · exact n2 c hc e k hk q1
        · exact n3 c hc e k hk q1 q2
      · refine use ([verC .ge g0], g0, none) (in4 _ (by simp [ways4])) (List.length_pos_of_mem hcl) fun k hk q c hc => ?_
        have q2 := q (verC .ge g0) (by simp)
        rw [ge_lets v0] at q2
        have q2 : ltK k g0 = false := by simpa using q2
        rcases kinds c hc with e | e | e | e
        · exact Lo c hc e k q2
        · exact absurd ⟨c, hc, e⟩ cH
        · exact absurd ⟨c, hc, .inl e⟩ cB
        · exact absurd ⟨c, hc, .inr e⟩ cB
  · by_cases cC : ∃ c ∈ P, c.kd = .co
    · obtain ⟨cc, hcc, ec⟩ := cC
      obtain ⟨N, n1, n2, n3, n4⟩ := CN ⟨cc, hcc, .inr ec⟩
      have c2 := (common_ok n1).2.1
      by_cases cH : ∃ c ∈ P, c.kd = .hi
      · obtain ⟨ch, hch, eh⟩ := cH
        refine use ([nearC (nearKy g0 B N) N, verC .le gl], nearKy g0 B N, some (folKy gl)) (in5 N n1 _ (by simp [ways5])) (two_le hcc hch (f := Cl.kd) (by rw [ec, eh]; simp)) fun k hk q c hc => ?_
        have q1 := q (nearC (nearKy g0 B N) N) (by simp)
        have q2 := q (verC .le gl) (by simp)
        rw [ne_lets v0 c2, Bool.and_eq_true] at q1
        rw [le_lets vl] at q2
        have q2 : ltK gl k = false := by simpa using q2
        have q3 : ltK k (nearKy g0 B N) = false := by simpa using q1.1
        rcases kinds c hc with e | e | e | e
        · exact absurd ⟨c, hc, e⟩ cL
        · exact Hi c hc e k q2
        · exact n2 c hc e k hk q1.2
        · exact n4 c hc e k hk q1.2 q3
      · refine use ([nearC (nearKy g0 B N) N], nearKy g0 B N, some (g0.1, incr N, [0, 0])) (in5 N n1 _ (by simp [ways5])) (List.length_pos_of_mem hcc) fun k hk q c hc => ?_
        have q1 := q (nearC (nearKy g0 B N) N) (by simp)
        rw [ne_lets v0 c2, Bool.and_eq_true] at q1
        have q3 : ltK k (nearKy g0 B N) = false := by simpa using q1.1
        rcases kinds c hc with e | e | e | e
        · exact absurd ⟨c, hc, e⟩ cL
        · exact absurd ⟨c, hc, e⟩ cH
        · exact n2 c hc e k hk q1.2
        · exact n4 c hc e k hk q1.2 q3
    · by_cases cB : ∃ c ∈ P, c.kd = .bl
      · obtain ⟨cb, hcb, eb⟩ := cB
        obtain ⟨N, n1, n2, n3, n4⟩ := CN ⟨cb, hcb, .inl eb⟩
        by_cases cH : ∃ c ∈ P, c.kd = .hi
        · obtain ⟨ch, hch, eh⟩ := cH
          refine use ([blkC .eq g0.1 N, verC .le gl], (g0.1, bas N, [0, 0]), some (folKy gl)) (in5 N n1 _ (by simp [ways5])) (two_le hcb hch (f := Cl.kd) (by rw [eb, eh]; simp)) fun k hk q c hc => ?_
          have q1 := q (blkC .eq g0.1 N) (by simp)
          have q2 := q (verC .le gl) (by simp)
          rw [wh_lets] at q1
          rw [le_lets vl] at q2
          have q2 : ltK gl k = false := by simpa using q2
          rcases kinds c hc with e | e | e | e
          · exact absurd ⟨c, hc, e⟩ cL
          · exact Hi c hc e k q2
          · exact n2 c hc e k hk q1
          · exact absurd ⟨c, hc, e⟩ cC
        · refine use ([blkC .eq g0.1 N], (g0.1, bas N, [0, 0]), some (g0.1, incr N, [0, 0])) (in5 N n1 _ (by simp [ways5])) (List.length_pos_of_mem hcb) fun k hk q c hc => ?_
          have q1 := q (blkC .eq g0.1 N) (by simp)
          rw [wh_lets] at q1
          rcases kinds c hc with e | e | e | e
          · exact absurd ⟨c, hc, e⟩ cL
          · exact absurd ⟨c, hc, e⟩ cH
          · exact n2 c hc e k hk q1
          · exact absurd ⟨c, hc, e⟩ cC
      · by_cases cH : ∃ c ∈ P, c.kd = .hi
        · obtain ⟨ch, hch, eh⟩ := cH
          refine use ([verC .le gl], leastK, some (folKy gl)) (in4 _ (by simp [ways4])) (List.length_pos_of_mem hch) fun k hk q c hc => ?_
          have q2 := q (verC .le gl) (by simp)
          rw [le_lets vl] at q2
          have q2 : ltK gl k = false := by simpa using q2
          rcases kinds c hc with e | e | e | e
          · exact absurd ⟨c, hc, e⟩ cL
          · exact Hi c hc e k q2
          · exact absurd ⟨c, hc, e⟩ cB
          · exact absurd ⟨c, hc, e⟩ cC
        · refine use ([], leastK, none) (in4 _ (by simp [ways4])) (Nat.zero_le _) fun k hk q c hc => ?_
          rcases kinds c hc with e | e | e | e
          · exact absurd ⟨c, hc, e⟩ cL
          · exact absurd ⟨c, hc, e⟩ cH
          · exact absurd ⟨c, hc, e⟩ cB
          · exact absurd ⟨c, hc, e⟩ cC
theorem filt_len {α : Type} (p : α → Bool) : ∀ l : List α, l.length = (l.filter p).length + (l.filter fun c => !p c).length
  | [] => rfl
  | x :: l => by
    have := filt_len p l
    rw [List.filter_cons, List.filter_cons]
    cases p x <;> simp <;> omega
/-- some row has no more clauses than any requirement that tells -/
theorem row_least {G B : List Ky} {g0 gl : Ky} (h : GB G B g0 gl) (hne : g0 ≠ gl) {R : List Cl} (hm : ∀ c ∈ R, c.Mn) (hg : ∀ g ∈ G, ∀ c ∈ R, letsK c g = true) (hb : ∀ b ∈ B, ∃ c ∈ R, letsK c b = false) : ∃ w ∈ waysK G B g0 gl, (rowW G B w).length ≤ R.length := by
  obtain ⟨w, hw, h1, h2⟩ := way_best (P := R.filter fun c => decide (c.kd ≠ .ng)) h hne (fun c hc => hm c (List.mem_filter.mp hc).1) (fun c hc => by simpa using (List.mem_filter.mp hc).2) (fun c hc => hg _ h.m0 c (List.mem_filter.mp hc).1) (fun c hc => hg _ h.ml c (List.mem_filter.mp hc).1)
  refine ⟨w, hw, ?_⟩
  have h3 : (ddpF txtK ((leftW B w).map (leftC G))).length ≤ (R.filter fun c => !decide (c.kd ≠ .ng)).length := by
    refine inj_le (ddpF_nd txtK _) (fun x c => c ∈ R ∧ c.kd = .ng ∧ ∃ b ∈ B, leftC G b = x ∧ letsK c b = false) (fun x hx => ?_) fun x hx x' hx' c r1 r2 => ?_
    · obtain ⟨b, hbl, rfl⟩ := List.mem_map.mp (ddpF_sub hx)
      obtain ⟨hbB, q⟩ := List.mem_filter.mp hbl
      obtain ⟨c, hc, e⟩ := hb b hbB
      have hk : c.kd = .ng := Classical.byContradiction fun z => by
        have := h2 b hbB q c (List.mem_filter.mpr ⟨hc, by simpa using z⟩)
        rw [e] at this
        cases this
      exact ⟨c, List.mem_filter.mpr ⟨hc, by simpa using hk⟩, hc, hk, b, hbB, rfl, e⟩
    · obtain ⟨r, hk, a, ha, rfl, ea⟩ := r1
      obtain ⟨_, _, b, hb', rfl, eb⟩ := r2
      rw [leftC_same (hm c r) hk h.g (fun g hg' => hg g hg' c r) (h.b a ha) (h.b b hb') ea eb]
  have h4 := filt_len (fun c : Cl => decide (c.kd ≠ .ng)) R
  unfold rowW
  rw [List.length_append]
  omega
end Dn

set_option maxHeartbeats 4000000
namespace Dn
open PySem PySem.Spec PyProof.Rows L2
noncomputable section
def eC1_numbers_text : Ex :=
 (mB strD (mCons (mVar 2) mNil))
def b_numbers_text : Sx :=
 (mRet (mOp addD (mIf (mTru (mOp gtI (mVar 0) (mC (.int 0)))) (mJs [(mFmt (mVar 0)), (mC (.str "!"))] Str.empty) (mC (.str ""))) (mMtS joinD (mC (.str ".")) (mCons (mFz (mLc (mItems (mVar 1)) (mgName 2) mYes eC1_numbers_text [2])) mNil))))
def m_numbers_text : List SD → W → Option (SD × W) := mFn 2 3 b_numbers_text
def b_block_text : Sx :=
 (mRet (mOp addD (mCall m_numbers_text (mCons (mVar 0) (mCons (mVar 1) mNil))) (mC (.str ".*"))))
def m_block_text : List SD → W → Option (SD × W) := mFn 2 2 b_block_text
def b_near_text : Sx :=
 (mSeq (mAsg (mVar 0) (mgTup 3 (mgCons (mgName 2) (mgCons (mgName 3) (mgCons (mgName 4) mgNil)))))
 (mSeq (mSet 5 (mOp addD (mB lenD (mCons (mVar 1) mNil)) (mC (.int 1))))
 (mSeq (mIf (mTru (mOp gtI (mB lenD (mCons (mVar 3) mNil)) (mVar 5))) (mRet (mC .none)) mNx)
 (mRet (mOp addD (mCall m_numbers_text (mCons (mVar 2) (mCons (mOp addD (mVar 3) (mOp mulE (mTup (mCons (mC (.int 0)) mNil)) (mOp subI (mVar 5) (mB lenD (mCons (mVar 3) mNil))))) mNil))) (mSl (mCall m_text_of (mCons (mTup (mCons (mC (.int 0)) (mCons (mTup mNil) (mCons (mVar 4) mNil)))) mNil)) (mPart (mC (.int 1))) mNo))))))
def m_near_text : List SD → W → Option (SD × W) := mFn 2 6 b_near_text
end
end Dn

set_option maxHeartbeats 4000000
namespace Dn
open PySem PySem.Spec PyProof.Rows L2
noncomputable section
def eC1_told_keys : Ex :=
 (mCall m_is_version (mCons (mVar 2) mNil))
def eC2_told_keys : Ex :=
 (mCall m_key_of (mCons (mVar 1) mNil))
def b_told_keys : Sx :=
 (mSeq (mIf (mOr (mNot (mTru (mIs isTup (mVar 0)))) (mOr (mTru (mOp gtI (mB lenD (mCons (mVar 0) mNil)) (mC (.int 20)))) (mNot (mTru (mB allD (mCons (mFz (mLc (mItems (mVar 0)) (mgName 2) mYes eC1_told_keys [2])) mNil)))))) mFail mNx)
 (mRet (mFz (mSortSet (mCons (mFz (mLc (mItems (mVar 0)) (mgName 1) mYes eC2_told_keys [1])) mNil)))))
def m_told_keys : List SD → W → Option (SD × W) := mFn 1 3 b_told_keys
def eC1_shared : Ex :=
 (mOp eqD (mOp ixD (mVar 3) (mVar 5)) (mOp ixD (mVar 4) (mVar 5)))
def b_shared : Sx :=
 (mSeq (mSet 2 (mB max2D (mCons (mB lenD (mCons (mVar 0) mNil)) (mCons (mB lenD (mCons (mVar 1) mNil)) mNil))))
 (mSeq (mAsg (mTup (mCons (mOp addD (mVar 0) (mOp mulE (mTup (mCons (mC (.int 0)) mNil)) (mOp subI (mVar 2) (mB lenD (mCons (mVar 0) mNil))))) (mCons (mOp addD (mVar 1) (mOp mulE (mTup (mCons (mC (.int 0)) mNil)) (mOp subI (mVar 2) (mB lenD (mCons (mVar 1) mNil))))) mNil))) (mgTup 2 (mgCons (mgName 3) (mgCons (mgName 4) mgNil))))
 (mRet (mIdxB false (mFz (mLc (mRng rng1D (mCons (mVar 2) mNil)) (mgName 5) mYes eC1_shared [5]))))))
def m_shared : List SD → W → Option (SD × W) := mFn 2 6 b_shared
def b_padded : Sx :=
 (mRet (mSl (mOp addD (mVar 0) (mOp mulE (mTup (mCons (mC (.int 0)) mNil)) (mVar 1))) mNo (mPart (mVar 1))))
def m_padded : List SD → W → Option (SD × W) := mFn 2 2 b_padded
def eC1_common_block : Ex :=
 (mB lenD (mCons (mOp ixD (mVar 5) (mC (.int 1))) mNil))
def b_common_block : Sx :=
 (mSeq (mPar 2 3 (mOp ixD (mVar 0) (mC (.int 0))) (mOp ixD (mVar 0) (mNeg (mC (.int 1)))))
 (mSeq (mIf (mTru (mOp neD (mOp ixD (mVar 2) (mC (.int 0))) (mOp ixD (mVar 3) (mC (.int 0))))) (mRet (mC .none)) mNx)
 (mSeq (mIf (mTru (mOp neD (mOp ixD (mVar 2) (mC (.int 1))) (mOp ixD (mVar 3) (mC (.int 1))))) (mSeq (mSet 4 (mCall m_padded (mCons (mOp ixD (mVar 2) (mC (.int 1))) (mCons (mCall m_shared (mCons (mOp ixD (mVar 2) (mC (.int 1))) (mCons (mOp ixD (mVar 3) (mC (.int 1))) mNil))) mNil))))
 (mRet (mIf (mTru (mOp eqD (mVar 4) (mTup mNil))) (mC .none) (mVar 4)))) mNx)
 (mRet (mCall m_padded (mCons (mOp ixD (mVar 2) (mC (.int 1))) (mCons (mOp addD (mC (.int 1)) (mB maxLE (mCons (mFz (mLc (mItems (mOp addD (mVar 0) (mVar 1))) (mgName 5) mYes eC1_common_block [5])) mNil))) mNil)))))))
def m_common_block : List SD → W → Option (SD × W) := mFn 2 6 b_common_block
def tC1_near_key : Tx :=
 (mAnd (mTru (mOp eqD (mSl (mVar 9) mNo (mPart (mC (.int 2)))) (mTup (mCons (mVar 3) (mCons (mVar 7) mNil))))) (mTru (mOp isD (mOp ixD (mCall m_split_tail (mCons (mOp ixD (mVar 9) (mC (.int 2))) mNil)) (mC (.int 0))) (mC .none))))
def eC2_near_key : Ex :=
 (mOp ixD (mCall m_split_tail (mCons (mOp ixD (mVar 9) (mC (.int 2))) mNil)) (mC (.int 1)))
def tC3_near_key : Tx :=
 (mTru (mOp isNotD (mVar 10) (mC .none)))
def b_near_key : Sx :=
 (mSeq (mAsg (mOp ixD (mVar 0) (mC (.int 0))) (mgTup 3 (mgCons (mgName 3) (mgCons (mgName 4) (mgCons (mgName 5) mgNil)))))
 (mSeq (mSet 6 (mOp addD (mB lenD (mCons (mVar 2) mNil)) (mC (.int 1))))
 (mSeq (mIf (mTru (mOp leI (mB lenD (mCons (mVar 4) mNil)) (mVar 6))) (mRet (mOp ixD (mVar 0) (mC (.int 0)))) mNx)
 (mSeq (mSet 7 (mCall m_based (mCons (mSl (mVar 4) mNo (mPart (mVar 6))) mNil)))
 (mSeq (mSet 8 (mFz (mLc (mItems (mVar 1)) (mgName 9) tC1_near_key eC2_near_key [9])))
 (mRet (mTup (mCons (mVar 3) (mCons (mVar 7) (mCons (mTup (mCons (mC (.int 3)) (mCons (mOp addD (mC (.int 1)) (mB maxLE (mCons (mOp addD (mFz (mLc (mItems (mVar 8)) (mgName 10) tC3_near_key (mVar 10) [10])) (mFz (mLst (mCons (mNeg (mC (.int 1))) mNil)))) mNil))) (mCons (mC (.int 1)) mNil)))) mNil))))))))))
def m_near_key : List SD → W → Option (SD × W) := mFn 3 11 b_near_key
def tC1_left_out : Tx :=
 (mTru (mOp eqD (mOp ixD (mVar 6) (mC (.int 0))) (mVar 2)))
def eC2_left_out : Ex :=
 (mOp ixD (mVar 6) (mC (.int 1)))
def eC3_left_out : Ex :=
 (mCall m_shared (mCons (mVar 3) (mCons (mVar 6) mNil)))
def b_left_out : Sx :=
 (mSeq (mAsg (mVar 1) (mgTup 3 (mgCons (mgName 2) (mgCons (mgName 3) (mgCons (mgName 4) mgNil)))))
 (mSeq (mSet 5 (mFz (mLc (mItems (mVar 0)) (mgName 6) tC1_left_out eC2_left_out [6])))
 (mSeq (mIf (mTru (mOp inD (mVar 3) (mVar 5))) (mRet (mTup (mCons (mC (.str "!=")) (mCons (mCall m_text_of (mCons (mVar 1) mNil)) mNil)))) mNx)
 (mRet (mTup (mCons (mC (.str "!=")) (mCons (mCall m_block_text (mCons (mVar 2) (mCons (mCall m_padded (mCons (mVar 3) (mCons (mOp addD (mC (.int 1)) (mB maxLE (mCons (mOp addD (mFz (mLc (mItems (mVar 5)) (mgName 6) mYes eC3_left_out [6])) (mFz (mLst (mCons (mC (.int 0)) mNil)))) mNil))) mNil))) mNil))) mNil)))))))
def m_left_out : List SD → W → Option (SD × W) := mFn 2 7 b_left_out
def b_first_ways : Sx :=
 (mSeq (mPar 2 3 (mTup (mCons (mC (.int 0)) (mCons (mTup mNil) (mCons (mTup (mCons (mC (.int 0)) (mCons (mC (.int 0)) mNil))) mNil)))) (mCall m_following_key (mCons (mOp ixD (mVar 0) (mNeg (mC (.int 1)))) mNil)))
 (mSeq (mPar 4 5 (mTup (mCons (mC (.str ">=")) (mCons (mCall m_text_of (mCons (mOp ixD (mVar 0) (mC (.int 0))) mNil)) mNil))) (mTup (mCons (mC (.str "<=")) (mCons (mCall m_text_of (mCons (mOp ixD (mVar 0) (mNeg (mC (.int 1)))) mNil)) mNil))))
 (mSeq (mSetO 6 (mLst (mCons (mTup (mCons (mFz (mLst mNil)) (mCons (mVar 2) (mCons (mC .none) mNil)))) (mCons (mTup (mCons (mFz (mLst (mCons (mVar 4) mNil))) (mCons (mOp ixD (mVar 0) (mC (.int 0))) (mCons (mC .none) mNil)))) (mCons (mTup (mCons (mFz (mLst (mCons (mVar 5) mNil))) (mCons (mVar 2) (mCons (mVar 3) mNil)))) mNil)))))
 (mSeq (mAppend 6 (mTup (mCons (mFz (mLst (mCons (mVar 4) (mCons (mVar 5) mNil)))) (mCons (mOp ixD (mVar 0) (mC (.int 0))) (mCons (mVar 3) mNil)))))
 (mSeq (mSet 7 (mCall m_common_block (mCons (mVar 0) (mCons (mVar 1) mNil))))
 (mSeq (mIf (mTru (mOp isD (mVar 7) (mC .none))) (mRet (mVar 6)) mNx)
 (mSeq (mSet 8 (mOp ixD (mOp ixD (mVar 0) (mC (.int 0))) (mC (.int 0))))
 (mSeq (mPar 9 10 (mTup (mCons (mVar 8) (mCons (mCall m_based (mCons (mVar 7) mNil)) (mCons (mTup (mCons (mC (.int 0)) (mCons (mC (.int 0)) mNil))) mNil)))) (mTup (mCons (mVar 8) (mCons (mOp addD (mSl (mVar 7) mNo (mPart (mNeg (mC (.int 1))))) (mTup (mCons (mOp addD (mOp ixD (mVar 7) (mNeg (mC (.int 1)))) (mC (.int 1))) mNil))) (mCons (mTup (mCons (mC (.int 0)) (mCons (mC (.int 0)) mNil))) mNil)))))
 (mSeq (mPar 11 12 (mTup (mCons (mC (.str "==")) (mCons (mCall m_block_text (mCons (mVar 8) (mCons (mVar 7) mNil))) mNil))) (mCall m_near_key (mCons (mVar 0) (mCons (mVar 1) (mCons (mVar 7) mNil)))))
 (mSeq (mSet 13 (mTup (mCons (mC (.str "~=")) (mCons (mCall m_near_text (mCons (mVar 12) (mCons (mVar 7) mNil))) mNil))))
 (mSeq (mAppend 6 (mTup (mCons (mFz (mLst (mCons (mVar 11) mNil))) (mCons (mVar 9) (mCons (mVar 10) mNil)))))
 (mSeq (mAppend 6 (mTup (mCons (mFz (mLst (mCons (mVar 11) (mCons (mVar 4) mNil)))) (mCons (mOp ixD (mVar 0) (mC (.int 0))) (mCons (mVar 10) mNil)))))
 (mSeq (mAppend 6 (mTup (mCons (mFz (mLst (mCons (mVar 11) (mCons (mVar 5) mNil)))) (mCons (mVar 9) (mCons (mVar 3) mNil)))))
 (mSeq (mAppend 6 (mTup (mCons (mFz (mLst (mCons (mVar 13) mNil))) (mCons (mVar 12) (mCons (mVar 10) mNil)))))
 (mSeq (mAppend 6 (mTup (mCons (mFz (mLst (mCons (mVar 13) (mCons (mVar 5) mNil)))) (mCons (mVar 12) (mCons (mVar 3) mNil)))))
 (mRet (mVar 6)))))))))))))))))
def m_first_ways : List SD → W → Option (SD × W) := mFn 2 14 b_first_ways
def tC1_telling : Tx :=
 (mTru (mOp inD (mVar 9) (mVar 3)))
def tC2_telling : Tx :=
 (mAnd (mTru (mOp leD (mVar 6) (mVar 9))) (mOr (mTru (mOp isD (mVar 7) (mC .none))) (mTru (mOp ltD (mVar 9) (mVar 7)))))
def eC3_telling : Ex :=
 (mTup (mCons (mCall m_left_out (mCons (mVar 2) (mCons (mVar 9) mNil))) (mCons (mC (.bool true)) mNil)))
def bF4_telling : Sx :=
 (mSeq (mSet 8 (mFz (mLc (mItems (mVar 3)) (mgName 9) tC2_telling (mVar 9) [9])))
 (mAppend 4 (mOp addD (mVar 5) (mFz (mListDict (mCons (mFz (mLc (mItems (mVar 8)) (mgName 9) mYes eC3_telling [9])) mNil))))))
def b_telling : Sx :=
 (mSeq (mAsg (mTup (mCons (mCall m_told_keys (mCons (mVar 0) mNil)) (mCons (mCall m_told_keys (mCons (mVar 1) mNil)) mNil))) (mgTup 2 (mgCons (mgName 2) (mgCons (mgName 3) mgNil))))
 (mSeq (mIf (mTru (mOp neD (mFz (mLc (mItems (mVar 2)) (mgName 9) tC1_telling (mVar 9) [9])) (mFz (mLst mNil)))) (mRet (mC .none)) mNx)
 (mSeq (mIf (mTru (mOp eqD (mVar 3) (mFz (mLst mNil)))) (mRet (mTup mNil)) mNx)
 (mSeq (mIf (mTru (mOp eqD (mVar 2) (mFz (mLst mNil)))) (mRet (mTup (mCons (mTup (mCons (mC (.str "<")) (mCons (mC (.str "0")) mNil))) mNil))) mNx)
 (mSeq (mIf (mTru (mOp eqD (mB lenD (mCons (mVar 2) mNil)) (mC (.int 1)))) (mRet (mTup (mCons (mTup (mCons (mC (.str "==")) (mCons (mCall m_text_of (mCons (mOp ixD (mVar 2) (mC (.int 0))) mNil)) mNil))) mNil))) mNx)
 (mSeq (mSetO 4 (mLst mNil))
 (mSeq (mFor (mItems (mCall m_first_ways (mCons (mVar 2) (mCons (mVar 3) mNil)))) (mgTup 3 (mgCons (mgName 5) (mgCons (mgName 6) (mgCons (mgName 7) mgNil)))) bF4_telling)
 (mRet (mB tupleD (mCons (mMinLen (mVar 4)) mNil))))))))))
def m_telling : List SD → W → Option (SD × W) := mFn 2 10 b_telling
end
end Dn

set_option maxHeartbeats 4000000
namespace Dn
open PySem PySem.Spec PyProof.Rows L2 SX
open TL (numL pre joinL)
theorem zeros_e (n : Nat) (hn : n ≤ 1000) : mulE (.tuple [.int 0]) (.int (n : Int)) = some (.tuple (intsD (List.replicate n 0))) := by
  unfold mulE mulT
  dsimp only
  rw [if_pos ⟨by omega, by omega, by simp⟩, Int.toNat_natCast]
  congr 2
  induction n with
  | zero => rfl
  | succ n ih => rw [List.replicate_succ, List.flatten_cons, ih (by omega)]; rfl
theorem cat_e (a b : List Nat) (hl : a.length + b.length ≤ 100000) : addD (.tuple (intsD a)) (.tuple (intsD b)) = some (.tuple (intsD (a ++ b))) := by
  unfold addD addT
  dsimp only
  rw [if_pos (by rw [intsD_len, intsD_len, sizeLine_eq]; omega), intsD_app]
theorem intsD_take (a : List Nat) (n : Nat) : (intsD a).take n = intsD (a.take n) := by
  unfold intsD
  rw [List.map_take]
theorem cut_e (a : List Nat) (n : Nat) : slD (.tuple (intsD a)) none (some (n : Int)) = some (.tuple (intsD (a.take n))) := by
  show some (PyData.tuple (cutL (intsD a) none (some (n : Int)))) = _
  rw [cutL_take, intsD_take]
theorem run_padded (b : List Nat) (n : Nat) (hb : b.length ≤ 100) (hn : n ≤ 100) (w : W) : m_padded [.d (.tuple (intsD b)), .d (.int (n : Int))] w = some (.d (.tuple (intsD (pad b n))), w) := by
  refine fn_ex rfl ?_
  unfold b_padded
  have e1 := zeros_e n (by omega)
  have e2 := cat_e b (List.replicate n 0) (by rw [List.length_replicate]; omega)
  have e3 := cut_e (b ++ List.replicate n 0) n
  have e4 : (b ++ List.replicate n 0).take n = pad b n := rfl
  rw [e4] at e3
  generalize intsD b = B at e2 ⊢
  generalize List.replicate n 0 = Z at e1 e2 e3 ⊢
  generalize PyData.tuple (intsD (b ++ Z)) = Y at e2 e3
  exact ⟨_, by push_cast [e1, e2, e3]⟩
theorem ints_get (a : List Nat) {i : Nat} (h : i < a.length) : ixD (.tuple (intsD a)) (.int (i : Int)) = some (.int ((zz a i : Nat) : Int)) := by
  have hl : i < (intsD a).length := by rw [intsD_len]; exact h
  have e : (intsD a)[i]? = some (.int ((zz a i : Nat) : Int)) := by
    unfold intsD zz
    rw [List.getElem?_map, List.getD_eq_getElem?_getD, List.getElem?_eq_getElem h]
    rfl
  exact (atI_nat _ i).trans e
theorem al_ints (ns : List Int) : alAll (ns.map .int) = true := by
  unfold alAll
  have hd : ∀ l : List Int, dOkAll 59 (l.map .int) = true := fun l => by
    induction l with
    | nil => rfl
    | cons n l ih => rw [List.map_cons, dOkAll, ih]; rfl
  rw [hd ns, Bool.and_true, Bool.and_eq_true]
  constructor
  · rw [List.all_eq_true]
    intro x hx
    rw [List.all_eq_true]
    intro y hy
    obtain ⟨n, _, rfl⟩ := List.mem_map.mp hx
    obtain ⟨m, _, rfl⟩ := List.mem_map.mp hy
    simp [PySem.W.alike]
  · rw [List.all_eq_true]
    intro x hx
    obtain ⟨n, _, rfl⟩ := List.mem_map.mp hx
    rfl
theorem foldmax_ok : ∀ (ns : List Int) (a : Int), (ns.foldl max a = a ∨ ns.foldl max a ∈ ns) ∧ a ≤ ns.foldl max a ∧ ∀ n ∈ ns, n ≤ ns.foldl max a
  | [], a => ⟨.inl rfl, by simp, fun n hn => by simp at hn⟩
  | m :: ns, a => by
    obtain ⟨h1, h2, h3⟩ := foldmax_ok ns (max a m)
    rw [List.foldl_cons]
    refine ⟨?_, by omega, fun n hn => ?_⟩
    · rcases h1 with h1 | h1
      · by_cases c : a ≤ m
        · right
          rw [h1, show max a m = m by omega]
          simp
        · left
          rw [h1]
          omega
      · right
        simp [h1]
    · rcases List.mem_cons.mp hn with rfl | hn
      · omega
      · exact h3 n hn
theorem maxL_int {xs : List Int} (h : xs ≠ []) : ∃ m, maxLE [.list (xs.map .int)] = some (.int m) ∧ m ∈ xs ∧ ∀ x ∈ xs, x ≤ m := by
  cases xs with
  | nil => exact absurd rfl h
  | cons x xs =>
    obtain ⟨h1, h2, h3⟩ := foldmax_ok xs x
    refine ⟨xs.foldl max x, ?_, ?_, fun y hy => ?_⟩
    · unfold maxLE
      rw [List.map_cons]
      dsimp only
      rw [← List.map_cons, al_ints, if_pos rfl, PySem.W.maxD_ints]
    · rcases h1 with e | e
      · rw [e]; simp
      · simp [e]
    · rcases List.mem_cons.mp hy with rfl | hy
      · exact h2
      · exact h3 y hy
theorem max2_nat (a b : Nat) : max2D [.int (a : Int), .int (b : Int)] = some (.int ((max a b : Nat) : Int)) := by
  unfold max2D
  dsimp only
  congr 2
  split <;> omega
theorem sub_nat {a b : Nat} (h : b ≤ a) : subI (.int (a : Int)) (.int (b : Int)) = some (.int ((a - b : Nat) : Int)) := by
  show some (PyData.int ((a : Int) - (b : Int))) = _
  congr 2
  omega
theorem rng_nat {n : Nat} (h : n ≤ 1000) : rng1D [.int (n : Int)] = some ((List.range n).map fun i : Nat => PyData.int (i : Int)) := by
  unfold rng1D
  dsimp only
  rw [if_pos ⟨by omega, by omega⟩, Int.toNat_natCast]
  congr 1
  refine List.map_congr_left fun i _ => ?_
  rw [Int.zero_add]
theorem idx_shr : ∀ (n : Nat) (a b : List Nat), (∃ i, i < n ∧ zz a i ≠ zz b i) → idxB false ((List.range n).map fun i => PyData.bool (decide (zz a i = zz b i))) = some (shr a b) := by
  have all : ∀ (l : List Nat) (f : Nat → Bool), (l.map fun i => PyData.bool (f i)).all idxB.isBl = true := fun l f => by
    rw [List.all_eq_true]
    intro d hd
    obtain ⟨i, _, rfl⟩ := List.mem_map.mp hd
    rfl
  intro n
  induction n with
  | zero => intro a b ⟨i, h, _⟩; omega
  | succ n ih =>
    intro a b ⟨i, h, hne⟩
    rw [List.range_succ_eq_map, List.map_cons, List.map_map]
    unfold idxB
    by_cases c : zz a 0 = zz b 0
    · rw [decide_eq_true c, if_neg (by simp)]
      have hi : i ≠ 0 := fun z => by rw [z] at hne; exact hne c
      obtain ⟨j, rfl⟩ : ∃ j, i = j + 1 := ⟨i - 1, by omega⟩
      have key : ∀ (x y : Nat) (xs ys : List Nat), (∀ i, zz (x :: xs) i = zz a i) → (∀ i, zz (y :: ys) i = zz b i) → shr (x :: xs) (y :: ys) = shr a b := fun x y xs ys h1 h2 => by
        refine Nat.le_antisymm (shr_ge (fun i hi => by rw [← h1, ← h2]; exact shr_eq _ _ hi) ⟨_, hne⟩) (shr_ge (fun i hi => by rw [h1, h2]; exact shr_eq _ _ hi) ⟨j + 1, by rw [h1, h2]; exact hne⟩)
      have ha : ∀ i, zz (zz a 0 :: a.tail) i = zz a i := fun i => by cases i <;> cases a <;> rfl
      have hb : ∀ i, zz (zz b 0 :: b.tail) i = zz b i := fun i => by cases i <;> cases b <;> rfl
      have h2 := ih a.tail b.tail ⟨j, by omega, fun q => hne (by rw [← ha (j + 1), ← hb (j + 1), zz_s, zz_s]; exact q)⟩
      have e : ((fun i => PyData.bool (decide (zz a i = zz b i))) ∘ Nat.succ) = fun i => PyData.bool (decide (zz a.tail i = zz b.tail i)) := by
        funext i
        show PyData.bool (decide (zz a (i + 1) = zz b (i + 1))) = _
        rw [← ha (i + 1), ← hb (i + 1), zz_s, zz_s]
      rw [e, h2, Option.map_some, ← key _ _ _ _ ha hb, shr_cc, if_pos c]
    · rw [decide_eq_false c, if_pos rfl, List.map_map.symm, all, if_pos rfl]
      have : shr a b ≤ 0 := shr_lt c
      congr 1
      omega
theorem idx_s {m : Ex} {env : Ev} {w : W} {ds : List PyData} {b : Bool} {n : Nat} (h : m env w = some (.d (.list ds), env, w)) (hi : idxB b ds = some n) : mIdxB b m env w = some (.d (.int (n : Int)), env, w) := by
  simp only [mIdxB, seqE, h, hi, Option.map_some, optE]
theorem sh_s1 {A B : PyData} {la lb m : PyData} {X Y : PyData} {w : W} {sb : Sx} {r : Fl} {w' : W} (h1 : lenD [A] = some la) (h2 : lenD [B] = some lb) (h3 : max2D [la, lb] = some m) (h4 : ∃ y z, subI m la = some y ∧ mulE (.tuple [.int 0]) y = some z ∧ addD A z = some X) (h5 : ∃ y z, subI m lb = some y ∧ mulE (.tuple [.int 0]) y = some z ∧ addD B z = some Y)
    (k : ∃ e, sb [some (.d A), some (.d B), some (.d m), some (.d X), some (.d Y), none] w = some (r, e, w')) :
    ∃ e, mSeq (mSet 2 (mB max2D (mCons (mB lenD (mCons (mVar 0) mNil)) (mCons (mB lenD (mCons (mVar 1) mNil)) mNil)))) (mSeq (mAsg (mTup (mCons (mOp addD (mVar 0) (mOp mulE (mTup (mCons (mC (.int 0)) mNil)) (mOp subI (mVar 2) (mB lenD (mCons (mVar 0) mNil))))) (mCons (mOp addD (mVar 1) (mOp mulE (mTup (mCons (mC (.int 0)) mNil)) (mOp subI (mVar 2) (mB lenD (mCons (mVar 1) mNil))))) mNil))) (mgTup 2 (mgCons (mgName 3) (mgCons (mgName 4) mgNil)))) sb) [some (.d A), some (.d B), none, none, none, none] w = some (r, e, w') := by
  obtain ⟨y1, z1, a1, a2, a3⟩ := h4
  obtain ⟨y2, z2, b1, b2, b3⟩ := h5
  refine ex_nx (e1 := [some (.d A), some (.d B), some (.d m), none, none, none]) (w1 := w) (by push_cast [h1, h2, h3]) ?_
  exact ex_nx (e1 := [some (.d A), some (.d B), some (.d m), some (.d X), some (.d Y), none]) (w1 := w) (by push_cast [h1, h2, a1, a2, a3, b1, b2, b3]) k
theorem run_shared {a b : List Nat} (ha : bas a = a) (hb : bas b = b) (hne : a ≠ b) (la : a.length ≤ 100) (lb : b.length ≤ 100) (w : W) : m_shared [.d (.tuple (intsD a)), .d (.tuple (intsD b))] w = some (.d (.int ((shr a b : Nat) : Int)), w) := by
  refine fn_ex rfl ?_
  unfold b_shared
  have pa : ∀ (c : List Nat) (m : Nat), c.length ≤ m → m ≤ 100 → ∃ y z, subI (.int (m : Int)) (.int (c.length : Int)) = some y ∧ mulE (.tuple [.int 0]) y = some z ∧ addD (.tuple (intsD c)) z = some (.tuple (intsD (c ++ List.replicate (m - c.length) 0))) := fun c m h1 h2 =>
    ⟨_, _, sub_nat h1, zeros_e (m - c.length) (by omega), cat_e c _ (by rw [List.length_replicate]; omega)⟩
  refine sh_s1 (len_ints a) (len_ints b) (max2_nat _ _) (pa a _ (by omega) (by omega)) (pa b _ (by omega) (by omega)) ?_
  generalize hM : max a.length b.length = M
  have hMl : M ≤ 100 := by omega
  have hex : ∃ i, i < M ∧ zz a i ≠ zz b i := ⟨shr a b, by rw [← hM]; exact (shr_ok ha hb hne).1, (shr_ok ha hb hne).2.2⟩
  generalize hA : a ++ List.replicate (M - a.length) 0 = A'
  generalize hB : b ++ List.replicate (M - b.length) 0 = B'
  have zA : ∀ i, zz A' i = zz a i := fun i => by rw [← hA, zz_pad]
  have zB : ∀ i, zz B' i = zz b i := fun i => by rw [← hB, zz_pad]
  have lA : A'.length = M := by rw [← hA, List.length_append, List.length_replicate]; omega
  have lB : B'.length = M := by rw [← hB, List.length_append, List.length_replicate]; omega
  have L1 := lcm_map (mi := mRng rng1D (mCons (mVar 2) mNil)) (g := mgName 5) (me := eC1_shared) (vs := [5]) (env := [some (.d (.tuple (intsD a))), some (.d (.tuple (intsD b))), some (.d (.int (M : Int))), some (.d (.tuple (intsD A'))), some (.d (.tuple (intsD B'))), none]) (w := w)
    (fun i : Nat => PyData.int (i : Int)) (fun i => PyData.bool (decide (zz a i = zz b i))) (List.range M) (by
      have := rng_nat (n := M) (by omega)
      push_cast [this]) rfl rfl fun i hi => by
    have hi := List.mem_range.mp hi
    have g1 := ints_get A' (i := i) (by omega)
    have g2 := ints_get B' (i := i) (by omega)
    rw [zA] at g1
    rw [zB] at g2
    have g3 : eqD (.int ((zz a i : Nat) : Int)) (.int ((zz b i : Nat) : Int)) = some (.bool (decide (zz a i = zz b i))) := by
      rw [eqD_int]
      congr 2
      exact decide_eq_decide.mpr (by omega)
    refine ⟨[some (.d (.tuple (intsD a))), some (.d (.tuple (intsD b))), some (.d (.int (M : Int))), some (.d (.tuple (intsD A'))), some (.d (.tuple (intsD B'))), some (.d (.int (i : Int)))], [some (.d (.tuple (intsD a))), some (.d (.tuple (intsD b))), some (.d (.int (M : Int))), some (.d (.tuple (intsD A'))), some (.d (.tuple (intsD B'))), some (.d (.int (i : Int)))], rfl, ?_, rfl⟩
    unfold eC1_shared
    exact ops (ops (vars rfl) (vars rfl) g1) (ops (vars rfl) (vars rfl) g2) g3
  exact ex_ret (idx_s L1 (idx_shr M a b hex))
end Dn

set_option maxHeartbeats 4000000
namespace Dn
open PySem PySem.Spec PyProof.Rows L2 SX
open TL (numL pre joinL)
theorem eqD_intsT (a b : List Nat) : eqD (.tuple (intsD a)) (.tuple (intsD b)) = some (.bool (decide (a = b))) := by
  unfold eqD
  rw [show dOk 60 (.tuple (intsD a)) = true by simp [dOk, dOk_ints], Bool.true_or, if_pos rfl, eqv_intsT]
theorem neD_intsT (a b : List Nat) : neD (.tuple (intsD a)) (.tuple (intsD b)) = some (.bool (!decide (a = b))) := by
  unfold neD
  rw [show dOk 60 (.tuple (intsD a)) = true by simp [dOk, dOk_ints], Bool.true_or, if_pos rfl, eqv_intsT]
theorem eqD_nat (a b : Nat) : eqD (.int (a : Int)) (.int (b : Int)) = some (.bool (decide (a = b))) := by
  rw [eqD_int]
  congr 2
  exact decide_eq_decide.mpr (by omega)
theorem neD_nat (a b : Nat) : neD (.int (a : Int)) (.int (b : Int)) = some (.bool (!decide (a = b))) := by
  rw [neD_int]
  congr 3
  exact decide_eq_decide.mpr (by omega)
theorem ixL_last {ds : List PyData} {d : PyData} (h : ds.getLast? = some d) : ixD (.list ds) (.int (-1)) = some d := by
  obtain ⟨xs, rfl⟩ : ∃ xs, ds = xs ++ [d] := by
    rw [List.getLast?_eq_some_iff] at h
    exact h
  unfold ixD
  dsimp only
  unfold atI ixN
  rw [if_neg (by decide), if_pos (by simp; omega)]
  have : ((-1 : Int) + ((xs ++ [d]).length : Int)).toNat = xs.length := by
    rw [List.length_append, List.length_singleton]
    omega
  rw [this]
  simp
theorem ky0 (k : Ky) : ixD (kyD k) (.int 0) = some (.int (k.1 : Int)) := ixT0 _ _
theorem ky1 (k : Ky) : ixD (kyD k) (.int 1) = some (.tuple (intsD k.2.1)) := ixT1 _ _ _
theorem ky2 (k : Ky) : ixD (kyD k) (.int 2) = some (.tuple (intsD k.2.2)) := ixT2 _ _ _ _
theorem neg1 {env : Ev} {w : W} : mNeg (mC (.int 1)) env w = some (.d (.int (-1)), env, w) := rfl
theorem maxLen_mem : ∀ {ks : List Ky}, ks ≠ [] → ∃ k ∈ ks, k.2.1.length = maxLen ks
  | [], h => absurd rfl h
  | [k], _ => ⟨k, by simp, by show k.2.1.length = max k.2.1.length 0; omega⟩
  | k :: j :: ks, _ => by
    obtain ⟨x, hx, e⟩ := maxLen_mem (ks := j :: ks) (by simp)
    have e2 : maxLen (k :: j :: ks) = max k.2.1.length (maxLen (j :: ks)) := rfl
    by_cases c : k.2.1.length ≤ maxLen (j :: ks)
    · exact ⟨x, by simp [hx], by omega⟩
    · exact ⟨k, by simp, by omega⟩
theorem max_lens {ks : List Ky} (h : ks ≠ []) : maxLE [.list (ks.map fun k => .int ((k.2.1.length : Nat) : Int))] = some (.int ((maxLen ks : Nat) : Int)) := by
  obtain ⟨m, h1, h2, h3⟩ := maxL_int (xs := ks.map fun k => ((k.2.1.length : Nat) : Int)) (by simpa using h)
  rw [List.map_map] at h1
  have e : (PyData.int ∘ fun k : Ky => ((k.2.1.length : Nat) : Int)) = fun k => PyData.int ((k.2.1.length : Nat) : Int) := rfl
  rw [e] at h1
  rw [h1]
  obtain ⟨k, hk, rfl⟩ := List.mem_map.mp h2
  obtain ⟨x, hx, ex⟩ := maxLen_mem h
  have := h3 _ (List.mem_map.mpr ⟨x, hx, rfl⟩)
  have := len_le_max hk
  congr 2
  omega
def onN : Option (List Nat) → PyData
  | none => .none
  | some N => .tuple (intsD N)
theorem cat_kys (a b : List Ky) (h : a.length + b.length ≤ 1000) : addD (.list (a.map kyD)) (.list (b.map kyD)) = some (.list ((a ++ b).map kyD)) := by
  unfold addD addL
  dsimp only
  rw [if_pos (by rw [List.length_map, List.length_map, sizeLine_eq]; omega), List.map_append]
theorem run_common {G B : List Ky} {g0 gl : Ky} (hh : G.head? = some g0) (ht : G.getLast? = some gl) (h0 : Bk g0) (hl : Bk gl) (hn : G.length + B.length ≤ 1000) (hm : maxLen (G ++ B) ≤ 60) (w : W) :
    m_common_block [.d (.list (G.map kyD)), .d (.list (B.map kyD))] w = some (.d (onN (commonN g0 gl (maxLen (G ++ B)))), w) := by
  refine fn_ex rfl ?_
  unfold b_common_block
  have hG : G ≠ [] := fun z => by rw [z] at hh; cases hh
  have i0 : ixD (.list (G.map kyD)) (.int 0) = some (kyD g0) := by
    cases G with
    | nil => cases hh
    | cons x xs => cases hh; exact ixL0 _ _
  have il : ixD (.list (G.map kyD)) (.int (-1)) = some (kyD gl) := ixL_last (by rw [List.getLast?_map, ht]; rfl)
  have m0 : g0.2.1.length ≤ maxLen (G ++ B) := len_le_max (by simp [List.mem_of_head? hh])
  have ml : gl.2.1.length ≤ maxLen (G ++ B) := len_le_max (by simp [List.mem_of_getLast? ht])
  generalize hGd : PyData.list (G.map kyD) = GD at i0 il ⊢
  generalize hBd : PyData.list (B.map kyD) = BD
  refine ex_par (ops (vars rfl) cst i0) (ops (vars rfl) neg1 il) ?_
  by_cases c1 : g0.1 = gl.1
  · refine ex_skip (trus (b := false) (ops (ops (vars rfl) cst (ky0 g0)) (ops (vars rfl) cst (ky0 gl)) (by rw [neD_nat, decide_eq_true c1]; rfl))) ?_
    by_cases c2 : g0.2.1 = gl.2.1
    · refine ex_skip (trus (b := false) (ops (ops (vars rfl) cst (ky1 g0)) (ops (vars rfl) cst (ky1 gl)) (by rw [neD_intsT, decide_eq_true c2]; rfl))) ?_
      have L1 := lcm_map (mi := mItems (mOp addD (mVar 0) (mVar 1))) (g := mgName 5) (me := eC1_common_block) (vs := [5]) (env := [some (.d GD), some (.d BD), some (.d (kyD g0)), some (.d (kyD gl)), none, none]) (w := w) kyD (fun k => .int ((k.2.1.length : Nat) : Int)) (G ++ B)
        (items_s (ops (vars rfl) (vars rfl) (by rw [← hGd, ← hBd]; exact cat_kys G B hn)) rfl) rfl rfl fun k hk =>
        ⟨[some (.d GD), some (.d BD), some (.d (kyD g0)), some (.d (kyD gl)), none, some (.d (kyD k))], [some (.d GD), some (.d BD), some (.d (kyD g0)), some (.d (kyD gl)), none, some (.d (kyD k))], rfl, by
          unfold eC1_common_block
          exact b1s (ops (vars rfl) cst (ky1 k)) (len_ints _), rfl⟩
      have hmx := max_lens (ks := G ++ B) (by simp [hG])
      have hp := run_padded g0.2.1 (1 + maxLen (G ++ B)) (by omega) (by omega) w
      have e : onN (commonN g0 gl (maxLen (G ++ B))) = .tuple (intsD (pad g0.2.1 (1 + maxLen (G ++ B)))) := by
        unfold commonN
        rw [if_pos c1, if_pos c2]
        rfl
      rw [e]
      exact ex_ret (call2s (ops (vars rfl) cst (ky1 g0)) (ops cst (b1s L1 hmx) (add_nat 1 _)) hp)
    · have hs := run_shared h0 hl c2 (by omega) (by omega) w
      have hb := (shr_ok h0 hl c2).1
      have hp := run_padded g0.2.1 (shr g0.2.1 gl.2.1) (by omega) (by omega) w
      have ht1 : mTru (mOp neD (mOp ixD (mVar 2) (mC (.int 1))) (mOp ixD (mVar 3) (mC (.int 1)))) [some (.d GD), some (.d BD), some (.d (kyD g0)), some (.d (kyD gl)), none, none] w = some (true, [some (.d GD), some (.d BD), some (.d (kyD g0)), some (.d (kyD gl)), none, none], w) :=
        trus (ops (ops (vars rfl) cst (ky1 g0)) (ops (vars rfl) cst (ky1 gl)) (by rw [neD_intsT, decide_eq_false c2]; rfl))
      have e : onN (commonN g0 gl (maxLen (G ++ B))) = if pad g0.2.1 (shr g0.2.1 gl.2.1) = [] then .none else .tuple (intsD (pad g0.2.1 (shr g0.2.1 gl.2.1))) := by
        unfold commonN
        rw [if_pos c1, if_neg c2]
        have hl2 := pad_len g0.2.1 (shr g0.2.1 gl.2.1)
        by_cases z : shr g0.2.1 gl.2.1 = 0
        · rw [if_pos z, if_pos (by rw [z]; rfl)]; rfl
        · rw [if_neg z, if_neg (fun q => by rw [q] at hl2; exact z hl2.symm)]; rfl
      obtain ⟨e1, he1⟩ : ∃ e1, mSeq (mSet 4 (mCall m_padded (mCons (mOp ixD (mVar 2) (mC (.int 1))) (mCons (mCall m_shared (mCons (mOp ixD (mVar 2) (mC (.int 1))) (mCons (mOp ixD (mVar 3) (mC (.int 1))) mNil))) mNil)))) (mRet (mIf (mTru (mOp eqD (mVar 4) (mTup mNil))) (mC .none) (mVar 4))) [some (.d GD), some (.d BD), some (.d (kyD g0)), some (.d (kyD gl)), none, none] w = some (.rt (.d (onN (commonN g0 gl (maxLen (G ++ B))))), e1, w) := by
        refine ex_set (call2s (ops (vars rfl) cst (ky1 g0)) (call2s (ops (vars rfl) cst (ky1 g0)) (ops (vars rfl) cst (ky1 gl)) hs) hp) ?_
        rw [e]
        have := ifs (t := mTru (mOp eqD (mVar 4) (mTup mNil))) (a := mC .none) (b := mVar 4) (x := .none) (y := .tuple (intsD (pad g0.2.1 (shr g0.2.1 gl.2.1)))) (p := decide (pad g0.2.1 (shr g0.2.1 gl.2.1) = [])) (env := [some (.d GD), some (.d BD), some (.d (kyD g0)), some (.d (kyD gl)), some (.d (.tuple (intsD (pad g0.2.1 (shr g0.2.1 gl.2.1))))), none]) (w := w)
          (trus (ops (vars rfl) (z := .bool (decide (pad g0.2.1 (shr g0.2.1 gl.2.1) = []))) (y := .tuple []) rfl (eqD_intsT _ []))) (fun _ => cst) (fun _ => vars rfl)
        simp only [decide_eq_true_eq] at this
        exact ex_ret this
      exact ex_rt ((if_t ht1).trans he1)
  · have e : onN (commonN g0 gl (maxLen (G ++ B))) = .none := by
      unfold commonN
      rw [if_neg c1]
      rfl
    rw [e]
    exact ex_hit (trus (ops (ops (vars rfl) cst (ky0 g0)) (ops (vars rfl) cst (ky0 gl)) (by rw [neD_nat, decide_eq_false c1]; rfl))) cst
end Dn

set_option maxHeartbeats 4000000
namespace Dn
open PySem PySem.Spec PyProof.Rows L2 SX
open TL (numL pre joinL)
section
variable {C T EP NS F P D M L N7 N8 N11 N12 : PyData} {w : W} {xs : List PyData}
end
end Dn

set_option maxHeartbeats 4000000
namespace Dn
open PySem PySem.Spec PyProof.Rows L2 SX
open TL (numL pre joinL)
end Dn

set_option maxHeartbeats 4000000
namespace Dn
open PySem PySem.Spec PyProof.Rows L2
noncomputable section
end
end Dn

set_option maxHeartbeats 4000000
namespace Dn
open PySem PySem.Spec PyProof.Rows L2 SX
open TL (numL pre joinL)
end Dn

set_option maxHeartbeats 4000000
namespace Dn
open PySem PySem.Spec PyProof.Rows L2 SX
open TL (numL pre joinL)
end Dn

set_option maxHeartbeats 4000000
namespace Dn
open PySem PySem.Spec PyProof.Rows L2 SX
open TL (numL pre joinL)
end Dn

set_option maxHeartbeats 4000000
namespace Dn
open PySem PySem.Spec PyProof.Rows L2 SX
open TL (numL pre joinL)
end Dn

set_option maxHeartbeats 4000000
namespace Dn
open PySem PySem.Spec PyProof.Rows L2 SX
open TL (numL pre joinL)
theorem cutL_drop {α : Type} (xs : List α) (k : Nat) : cutL xs (some (k : Int)) none = xs.drop k := by
  unfold cutL
  rw [HT.sIx_none, HT.sIx_nat]
  by_cases c : k ≤ xs.length
  · rw [Nat.min_eq_left c]
    exact List.take_of_length_le (by rw [List.length_drop]; exact Nat.le_refl _)
  · rw [Nat.min_eq_right (by omega), List.drop_of_length_le (Nat.le_refl _), List.drop_of_length_le (by omega)]
    simp
def vl (wd : Bool) (p : Pt) : Rl := ⟨false, p, wd⟩
end Dn

set_option maxHeartbeats 4000000
namespace Dn
open PySem PySem.Spec PyProof.Rows L2 SX
open TL (numL pre joinL)
theorem mts_s {g : PyData → List PyData → Option PyData} {o a : Ex} {env : Ev} {w : W} {x : Str} {y z : PyData} (h1 : o env w = some (.d (.str x), env, w)) (h2 : a env w = some (.d y, env, w)) (hg : g (.str x) [y] = some z) : mMtS g o (mCons a mNil) env w = some (.d z, env, w) := by
  simp only [mMtS, seqE, h1, argsD, mCons, mNil, h2, dsOf, Option.map_some, hg, optE]
theorem run_numtext {e : Nat} {ns : List Nat} (he : Sm e) (hs : ∀ n ∈ ns, Sm n) (hl : ns.length ≤ 60) (w : W) : m_numbers_text [.d (.int (e : Int)), .d (.tuple (intsD ns))] w = some (.d (.str (S (epS false e ++ nsS ns))), w) := by
  refine fn_ex rfl ?_
  unfold b_numbers_text
  have L1 := epS_len (b := false) he
  have L2 := nsS_len hs
  have LC := lcm_map (mi := mItems (mVar 1)) (g := mgName 2) (me := eC1_numbers_text) (vs := [2]) (env := [some (.d (.int (e : Int))), some (.d (.tuple (intsD ns))), none]) (w := w) (fun n : Nat => PyData.int (n : Int)) (fun n => .str (S (numL n))) ns (items_s (vars rfl) rfl) rfl rfl fun n hn =>
    ⟨[some (.d (.int (e : Int))), some (.d (.tuple (intsD ns))), some (.d (.int (n : Int)))], [some (.d (.int (e : Int))), some (.d (.tuple (intsD ns))), some (.d (.int (n : Int)))], rfl, by
      unfold eC1_numbers_text
      exact b1s (vars rfl) (strD_num (hs n hn)), rfl⟩
  have hj : joinD (.str (S [46])) [.list (numsS ns)] = some (.str (S (nsS ns))) := join_num hs (by omega)
  have hJ := mts_s (g := joinD) (o := mC (.str ".")) (x := S [46]) (by rw [strDot]; rfl) LC hj
  have hE := ifs (t := mTru (mOp gtI (mVar 0) (mC (.int 0)))) (a := mJs [(mFmt (mVar 0)), (mC (.str "!"))] Str.empty) (b := mC (.str "")) (x := .str (S (numL e ++ [33]))) (y := .str (S [])) (p := decide (0 < e)) (env := [some (.d (.int (e : Int))), some (.d (.tuple (intsD ns))), none]) (w := w)
    (trus (ops (vars rfl) cst (gtI_nat e 0))) (fun _ => by
      rw [emp_S, js_one (x := numL e) (by simp only [mFmt, seqE, mVar, List.getElem?_cons_zero, fmtD_num he, optE]) (sh_le (by have := num24 he; simp only [List.length_append, List.length_nil]; omega)),
        js_one (x := [33]) (by rw [strBang]; rfl) (sh_le (by have := num24 he; simp only [List.length_append, List.length_nil, List.length_cons]; omega)), js_nil]
      rfl) (fun _ => by rw [str0]; rfl)
  have hE' : (if decide (0 < e) = true then PyData.str (S (numL e ++ [33])) else .str (S [])) = .str (S (epS false e)) := by
    unfold epS
    by_cases c : e = 0
    · rw [if_neg (by simp [c]), if_pos ⟨c, rfl⟩]
    · rw [if_pos (by simp; omega), if_neg (fun z => c z.1)]
  rw [hE'] at hE
  exact ex_ret (ops hE hJ (addD_S (sh_le (by rw [List.length_append]; omega))))
theorem run_blocktext {e : Nat} {ns : List Nat} (he : Sm e) (hs : ∀ n ∈ ns, Sm n) (hl : ns.length ≤ 60) (g : Sg) (w : W) : m_block_text [.d (.int (e : Int)), .d (.tuple (intsD ns))] w = some (.d (.str (S (blkC g e ns).txt)), w) := by
  refine fn_ex rfl ?_
  unfold b_block_text
  have L1 := epS_len (b := false) he
  have L2 := nsS_len hs
  have e1 : (blkC g e ns).txt = (epS false e ++ nsS ns) ++ [46, 42] := by
    show prB false ⟨e, ns, none, none, none⟩ ++ starS true = _
    unfold prB starS foS poS dvS
    simp
  rw [e1]
  exact ex_ret (ops (call2s (vars rfl) (vars rfl) (run_numtext he hs hl w)) (by rw [starStr]; rfl) (addD_S (sh_le (by simp only [List.length_append, List.length_cons, List.length_nil]; omega))))
/-- numbers of a key, with noughts behind -/
theorem pad_of {a : List Nat} {n : Nat} (h : a.length ≤ n) : a ++ List.replicate (n - a.length) 0 = pad a n := by
  refine list_zz (by rw [pad_len, List.length_append, List.length_replicate]; omega) fun i hi => ?_
  rw [zz_pad, zz_padN, if_pos (by rw [List.length_append, List.length_replicate] at hi; omega)]
theorem pad_mem {a : List Nat} {n m : Nat} (h : m ∈ pad a n) : m ∈ a ∨ m = 0 := by
  unfold pad at h
  rcases List.mem_append.mp (List.mem_of_mem_take h) with q | q
  · exact .inl q
  · exact .inr (List.mem_replicate.mp q).2
theorem cutS_1 (l : List Nat) : cutS (S l) (some (1 : Nat)) none = S (l.drop 1) := by
  unfold cutS
  rw [HT.sIx_none, HT.sIx_nat, S_len]
  refine congrArg S ?_
  show (l.drop (min 1 l.length)).take (l.length - min 1 l.length) = _
  cases l with
  | nil => rfl
  | cons x l =>
    rw [Nat.min_eq_left (by simp)]
    simp
theorem nearP_wf {B L : Nat} {k : Ky} (h : Gk B L k) (hB : B ≤ 100000000000) {N : List Nat} (hl : N.length + 1 ≤ 60) : (nearC k N).p.Wf := by
  obtain ⟨fo, po, dv, t, e⟩ := h.tl
  have sm : ∀ n : Nat, n ≤ B → Sm n := fun n hn => by show n < 10 ^ 24; omega
  have hu : untail k.2.2 = (fo, po, dv) := by rw [e]; exact untail_tailK (fun x n e => (t.1 x n e).1) _ _
  unfold nearC
  rw [hu]
  refine ⟨fun z => ?_, by rw [pad_len]; exact hl, fun n hn => ?_, sm _ h.ep, fun x n e => ⟨(t.1 x n e).1, sm n (t.1 x n e).2⟩, fun n e => sm n (t.2.1 n e), fun n e => sm n (t.2.2 n e)⟩
  · have := congrArg List.length z
    rw [pad_len] at this
    simp at this
  · rcases pad_mem hn with q | q
    · exact sm n (h.ns n q)
    · rw [q]; exact sm 0 (Nat.zero_le _)
theorem run_neartext {B L : Nat} {k : Ky} (h : Gk B L k) (hB : B ≤ 100000000000) {N : List Nat} (hl : N.length + 1 ≤ 60) (hk : k.2.1.length ≤ N.length + 1) (w : W) : m_near_text [.d (kyD k), .d (.tuple (intsD N))] w = some (.d (.str (S (nearC k N).txt)), w) := by
  refine fn_ex rfl ?_
  unfold b_near_text
  have wf := nearP_wf h hB hl
  obtain ⟨fo, po, dv, t, e⟩ := h.tl
  have sm : ∀ n : Nat, n ≤ B → Sm n := fun n hn => by show n < 10 ^ 24; omega
  have hu : untail k.2.2 = (fo, po, dv) := by rw [e]; exact untail_tailK (fun x n e => (t.1 x n e).1) _ _
  have v0 : (⟨0, [0], fo, po, dv⟩ : Pt).Wf := ⟨by simp, by simp, fun n hn => by rw [List.mem_singleton.mp hn]; exact sm 0 (Nat.zero_le _), sm 0 (Nat.zero_le _), fun x n e => ⟨(t.1 x n e).1, sm n (t.1 x n e).2⟩, fun n e => sm n (t.2.1 n e), fun n e => sm n (t.2.2 n e)⟩
  have tx := run_textK (k := (0, [], k.2.2)) ⟨_, v0, by unfold Pt.key; rw [e]; rfl⟩ w
  have et : texK (0, [], k.2.2) = 48 :: (foS fo ++ (poS po ++ dvS dv)) := by
    unfold texK ptK
    dsimp only
    rw [hu]
    unfold prB epS nsS
    have : numL 0 = [48] := TL.numL_lt (n := 0) (by decide)
    simp [joinL, this]
  rw [et] at tx
  have e0 : (nearC k N).txt = (epS false k.1 ++ nsS (pad k.2.1 (N.length + 1))) ++ (foS fo ++ (poS po ++ dvS dv)) := by
    unfold nearC Cl.txt starS prB
    rw [hu]
    simp
  have hlen := prB_len (b := false) wf
  have e0' : (nearC k N).txt = prB false (nearC k N).p := by
    unfold nearC Cl.txt starS
    simp
  rw [← e0', e0] at hlen
  have hc : slD (.str (S (48 :: (foS fo ++ (poS po ++ dvS dv))))) (some 1) none = some (.str (S (foS fo ++ (poS po ++ dvS dv)))) := by
    unfold slD
    dsimp only
    rw [if_pos (sh_line (by unfold Sh; rw [List.length_cons]; rw [List.length_append] at hlen; omega))]
    have := cutS_1 (48 :: (foS fo ++ (poS po ++ dvS dv)))
    have e1 : ((1 : Nat) : Int) = 1 := rfl
    rw [e1] at this
    rw [this]
    rfl
  have hnum := run_numtext (e := k.1) (ns := pad k.2.1 (N.length + 1)) wf.ep wf.sm (by rw [pad_len]; exact hl) w
  have hp : addD (.tuple (intsD k.2.1)) (.tuple (intsD (List.replicate (N.length + 1 - k.2.1.length) 0))) = some (.tuple (intsD (pad k.2.1 (N.length + 1)))) := by
    rw [← pad_of hk]
    exact cat_e _ _ (by rw [List.length_replicate]; omega)
  refine ex_nx (asg_ok (d := kyD k) (vars rfl) (e2 := [some (.d (kyD k)), some (.d (.tuple (intsD N))), some (.d (.int (k.1 : Int))), some (.d (.tuple (intsD k.2.1))), some (.d (.tuple (intsD k.2.2))), none]) rfl) ?_
  refine ex_set (i := 5) (ops (b1s (vars rfl) (len_ints N)) cst (add_nat _ 1)) ?_
  refine ex_skip (trus (b := false) (ops (b1s (vars rfl) (len_ints k.2.1)) (vars rfl) (by rw [gtI_nat, decide_eq_false (by omega)]))) ?_
  rw [e0]
  refine ex_ret (ops (call2s (vars rfl) (ops (vars rfl) (ops (tup1s cst) (ops (vars rfl) (b1s (vars rfl) (len_ints k.2.1)) (sub_nat hk)) (zeros_e _ (by omega))) hp) hnum) ?_ (addD_S (sh_le hlen)))
  have h3 := call1s (mf := m_text_of) (a := mTup (mCons (mC (.int 0)) (mCons (mTup mNil) (mCons (mVar 4) mNil)))) (env := [some (.d (kyD k)), some (.d (.tuple (intsD N))), some (.d (.int (k.1 : Int))), some (.d (.tuple (intsD k.2.1))), some (.d (.tuple (intsD k.2.2))), some (.d (.int ((N.length + 1 : Nat) : Int)))]) (w := w) (x := .d (kyD (0, [], k.2.2))) rfl tx
  show mSl (mCall m_text_of (mCons (mTup (mCons (mC (.int 0)) (mCons (mTup mNil) (mCons (mVar 4) mNil)))) mNil)) (mPart (mC (.int 1))) mNo [some (.d (kyD k)), some (.d (.tuple (intsD N))), some (.d (.int (k.1 : Int))), some (.d (.tuple (intsD k.2.1))), some (.d (.tuple (intsD k.2.2))), some (.d (.int ((N.length + 1 : Nat) : Int)))] w = _
  simp only [mSl, seqE, h3, mPart, mC, mNo, hc, optE]
  rfl
end Dn

set_option maxHeartbeats 4000000
namespace Dn
open PySem PySem.Spec PyProof.Rows L2 SX
open TL (numL pre joinL)
theorem app_ok {m : Ex} {env : Ev} {w : W} {i : Nat} {xs : List PyData} {x : PyData} (h0 : env[i]? = some (some (.own xs))) (h : m env w = some (.d x, env, w)) (hl : xs.length < 1000) : mAppend i m env w = some (.nx, env.set i (some (.own (xs ++ [x]))), w) := by
  have hl' : (xs.length < sizeLine) = True := eq_true (by rw [sizeLine_eq]; omega)
  simp only [mAppend, seqE, h0, h, hl', if_true]
end Dn

set_option maxHeartbeats 4000000
namespace Dn
open PySem PySem.Spec PyProof.Rows L2 SX
open TL (numL pre joinL)
def nrB (e : Nat) (own : List Nat) (k : Ky) : Bool := (decide (k.1 = e) && decide (k.2.1 = own)) && (untail k.2.2).1.isNone
theorem posts_eq (e : Nat) (own : List Nat) : ∀ B : List Ky, ((B.filter (nrB e own)).map fun k => (untail k.2.2).2.1).filterMap id = postsK e own B
  | [] => rfl
  | k :: B => by
    have ih := posts_eq e own B
    unfold postsK at ih ⊢
    rw [List.filter_cons, List.filterMap_cons]
    by_cases c : nrB e own k = true
    · rw [if_pos c, List.map_cons, List.filterMap_cons, ih]
      unfold nrB at c
      rw [Bool.and_eq_true, Bool.and_eq_true, decide_eq_true_iff, decide_eq_true_iff, Option.isNone_iff_eq_none] at c
      rw [if_pos ⟨c.1.1, c.1.2, c.2⟩]
      rfl
    · rw [if_neg c, ih, if_neg]
      rintro ⟨h1, h2, h3⟩
      apply c
      unfold nrB
      rw [decide_eq_true h1, decide_eq_true h2, h3]
      rfl
theorem postMax_mem : ∀ {ps : List Nat}, ps ≠ [] → ∃ p ∈ ps, p + 1 = postMax ps
  | [], h => absurd rfl h
  | [p], _ => ⟨p, by simp, by show p + 1 = max (p + 1) 0; omega⟩
  | p :: q :: ps, _ => by
    obtain ⟨x, hx, e⟩ := postMax_mem (ps := q :: ps) (by simp)
    have e2 : postMax (p :: q :: ps) = max (p + 1) (postMax (q :: ps)) := rfl
    by_cases c : p + 1 ≤ postMax (q :: ps)
    · exact ⟨x, by simp [hx], by omega⟩
    · exact ⟨p, by simp, by omega⟩
theorem max_posts (ps : List Nat) : ∃ m : Int, maxLE [.list ((ps.map fun p : Nat => PyData.int (p : Int)) ++ [.int (-1)])] = some (.int m) ∧ addD (.int 1) (.int m) = some (.int ((postMax ps : Nat) : Int)) := by
  obtain ⟨m, h1, h2, h3⟩ := maxL_int (xs := (ps.map fun p : Nat => (p : Int)) ++ [-1]) (by simp)
  rw [List.map_append, List.map_map] at h1
  refine ⟨m, h1, ?_⟩
  show some (PyData.int (1 + m)) = _
  congr 2
  have hm := h3 (-1) (by simp)
  rcases List.mem_append.mp h2 with q | q
  · obtain ⟨p, hp, rfl⟩ := List.mem_map.mp q
    obtain ⟨x, hx, ex⟩ := postMax_mem (ps := ps) (fun z => by rw [z] at hp; simp at hp)
    have := lt_postMax hp
    have := h3 (x : Int) (List.mem_append.mpr (.inl (List.mem_map.mpr ⟨x, hx, rfl⟩)))
    omega
  · have e : m = -1 := by simpa using q
    subst e
    cases ps with
    | nil => rfl
    | cons p ps =>
      have := h3 (p : Int) (by simp)
      omega
theorem unt_none (f : Option (List Nat × Nat)) : isD (foD f) .none = some (.bool f.isNone) := by
  cases f with
  | none => rfl
  | some q => obtain ⟨x, n⟩ := q; rfl
theorem eq_two (a e : Nat) (b o : List Nat) : eqD (.tuple [.int (a : Int), .tuple (intsD b)]) (.tuple [.int (e : Int), .tuple (intsD o)]) = some (.bool (decide (a = e) && decide (b = o))) := by
  unfold eqD
  have h1 : dOk 60 (.tuple [.int (a : Int), .tuple (intsD b)]) = true := by simp [dOk, dOkAll, dOk_ints]
  rw [h1, Bool.true_or, if_pos rfl]
  congr 2
  have n1 : nb (.tuple [.int (a : Int), .tuple (intsD b)]) = true := by simp [nb, nbA, nb_ints]
  have n2 : nb (.tuple [.int (e : Int), .tuple (intsD o)]) = true := by simp [nb, nbA, nb_ints]
  rw [eqv_dec n1 n2, ← Bool.decide_and]
  refine decide_eq_decide.mpr ⟨?_, ?_⟩
  · intro h
    simp only [PyData.tuple.injEq, List.cons.injEq, PyData.int.injEq, and_true] at h
    exact ⟨by omega, intsD_inj h.2⟩
  · rintro ⟨h1, h2⟩
    rw [h1, h2]
theorem sl_ky2 (k : Ky) : slD (kyD k) none (some 2) = some (.tuple [.int (k.1 : Int), .tuple (intsD k.2.1)]) := by
  show some (PyData.tuple (cutL _ none (some ((2 : Nat) : Int)))) = _
  rw [cutL_take]
  rfl
theorem split_k {k : Ky} (h : VK k) (w : W) : m_split_tail [.d (.tuple (intsD k.2.2))] w = some (.d (.tuple [foD (untail k.2.2).1, onD (untail k.2.2).2.1, onD (untail k.2.2).2.2]), w) := by
  obtain ⟨p, hp, rfl⟩ := h
  have : untail p.key.2.2 = (p.fo, p.po, p.dv) := untail_tailK (fun x n e => (hp.fo x n e).1) _ _
  rw [this]
  exact run_split (fun x n e => (hp.fo x n e).1) p.po p.dv w
theorem sls {m : Ex} {env : Ev} {w : W} {x z : PyData} {k : Int} (h : m env w = some (.d x, env, w)) (hz : slD x none (some k) = some z) : mSl m mNo (mPart (mC (.int k))) env w = some (.d z, env, w) := by
  simp only [mSl, seqE, h, mNo, mPart, mC, hz, optE]
theorem slv {m b : Ex} {env : Ev} {w : W} {x z : PyData} {k : Int} (h : m env w = some (.d x, env, w)) (h2 : b env w = some (.d (.int k), env, w)) (hz : slD x none (some k) = some z) : mSl m mNo (mPart b) env w = some (.d z, env, w) := by
  simp only [mSl, seqE, h, mNo, mPart, h2, hz, optE]
theorem run_nearkey {G B : List Ky} {g0 : Ky} {N : List Nat} (hh : G.head? = some g0) (hB : ∀ k ∈ B, VK k) (hl : g0.2.1.length ≤ 100) (hn : B.length ≤ 1000) (w : W) : m_near_key [.d (.list (G.map kyD)), .d (.list (B.map kyD)), .d (.tuple (intsD N))] w = some (.d (kyD (nearKy g0 B N)), w) := by
  refine fn_ex rfl ?_
  unfold b_near_key
  have i0 : ixD (.list (G.map kyD)) (.int 0) = some (kyD g0) := by
    cases G with
    | nil => cases hh
    | cons x xs => cases hh; exact ixL0 _ _
  generalize PyData.list (G.map kyD) = GD at i0 ⊢
  refine ex_nx (asg_ok (ops (vars rfl) cst i0) (e2 := [some (.d GD), some (.d (.list (B.map kyD))), some (.d (.tuple (intsD N))), some (.d (.int (g0.1 : Int))), some (.d (.tuple (intsD g0.2.1))), some (.d (.tuple (intsD g0.2.2))), none, none, none, none, none]) rfl) ?_
  refine ex_set (i := 6) (ops (b1s (vars rfl) (len_ints N)) cst (add_nat _ 1)) ?_
  have hle : leI (.int (g0.2.1.length : Int)) (.int ((N.length + 1 : Nat) : Int)) = some (.bool (decide (g0.2.1.length ≤ N.length + 1))) := by
    show some (PyData.bool (decide (_ ≤ _))) = _
    congr 2
    exact decide_eq_decide.mpr (by omega)
  by_cases c : g0.2.1.length ≤ N.length + 1
  · rw [decide_eq_true c] at hle
    unfold nearKy
    rw [if_pos c]
    exact ex_hit (trus (ops (b1s (vars rfl) (len_ints _)) (vars rfl) hle)) (ops (vars rfl) cst i0)
  · rw [decide_eq_false c] at hle
    refine ex_skip (trus (ops (b1s (vars rfl) (len_ints _)) (vars rfl) hle)) ?_
    unfold nearKy
    rw [if_neg c]
    have hb := run_based (ns := g0.2.1.take (N.length + 1)) (by rw [List.length_take]; omega) w
    refine ex_set (i := 7) (call1s (slv (vars rfl) (vars rfl) (cut_e g0.2.1 (N.length + 1))) hb) ?_
    have ho : bas (g0.2.1.take (N.length + 1)) = nearOwn g0 N := rfl
    rw [ho]
    generalize nearOwn g0 N = own
    have L1 := lcm_filt (mi := mItems (mVar 1)) (g := mgName 9) (tt := tC1_near_key) (me := eC2_near_key) (vs := [9]) (env := [some (.d GD), some (.d (.list (B.map kyD))), some (.d (.tuple (intsD N))), some (.d (.int (g0.1 : Int))), some (.d (.tuple (intsD g0.2.1))), some (.d (.tuple (intsD g0.2.2))), some (.d (.int ((N.length + 1 : Nat) : Int))), some (.d (.tuple (intsD own))), none, none, none]) (w := w)
      kyD (nrB g0.1 own) (fun k => onD (untail k.2.2).2.1) B (items_s (vars rfl) rfl) rfl rfl fun k hk => by
      refine ⟨[some (.d GD), some (.d (.list (B.map kyD))), some (.d (.tuple (intsD N))), some (.d (.int (g0.1 : Int))), some (.d (.tuple (intsD g0.2.1))), some (.d (.tuple (intsD g0.2.2))), some (.d (.int ((N.length + 1 : Nat) : Int))), some (.d (.tuple (intsD own))), none, some (.d (kyD k)), none], [some (.d GD), some (.d (.list (B.map kyD))), some (.d (.tuple (intsD N))), some (.d (.int (g0.1 : Int))), some (.d (.tuple (intsD g0.2.1))), some (.d (.tuple (intsD g0.2.2))), some (.d (.int ((N.length + 1 : Nat) : Int))), some (.d (.tuple (intsD own))), none, some (.d (kyD k)), none], rfl, ?_, fun _ => ⟨[some (.d GD), some (.d (.list (B.map kyD))), some (.d (.tuple (intsD N))), some (.d (.int (g0.1 : Int))), some (.d (.tuple (intsD g0.2.1))), some (.d (.tuple (intsD g0.2.2))), some (.d (.int ((N.length + 1 : Nat) : Int))), some (.d (.tuple (intsD own))), none, some (.d (kyD k)), none], ?_, rfl⟩, fun _ => rfl⟩
      · unfold tC1_near_key nrB
        exact ands (trus (ops (sls (vars rfl) (sl_ky2 k)) (tup2s (vars rfl) (vars rfl)) (eq_two _ _ _ _))) fun _ => trus (ops (ops (call1s (ops (vars rfl) cst (ky2 k)) (split_k (hB k hk) w)) cst (ixT0 _ _)) cst (unt_none _))
      · unfold eC2_near_key
        exact ops (call1s (ops (vars rfl) cst (ky2 k)) (split_k (hB k hk) w)) cst (ixT1 _ _ _)
    refine ex_set (i := 8) L1 ?_
    have hp := posts_eq g0.1 own B
    have em : ((B.filter (nrB g0.1 own)).map fun k => onD (untail k.2.2).2.1) = ((B.filter (nrB g0.1 own)).map fun k => (untail k.2.2).2.1).map onD := by rw [List.map_map]; rfl
    rw [em]
    generalize ((B.filter (nrB g0.1 own)).map fun k => (untail k.2.2).2.1) = os at hp ⊢
    have L2 := lcm_filt (mi := mItems (mVar 8)) (g := mgName 10) (tt := tC3_near_key) (me := mVar 10) (vs := [10]) (env := [some (.d GD), some (.d (.list (B.map kyD))), some (.d (.tuple (intsD N))), some (.d (.int (g0.1 : Int))), some (.d (.tuple (intsD g0.2.1))), some (.d (.tuple (intsD g0.2.2))), some (.d (.int ((N.length + 1 : Nat) : Int))), some (.d (.tuple (intsD own))), some (.d (.list (os.map onD))), none, none]) (w := w)
      onD (fun o => o.isSome) onD os (items_s (vars rfl) rfl) rfl rfl fun o ho => by
      refine ⟨[some (.d GD), some (.d (.list (B.map kyD))), some (.d (.tuple (intsD N))), some (.d (.int (g0.1 : Int))), some (.d (.tuple (intsD g0.2.1))), some (.d (.tuple (intsD g0.2.2))), some (.d (.int ((N.length + 1 : Nat) : Int))), some (.d (.tuple (intsD own))), some (.d (.list (os.map onD))), none, some (.d (onD o))], [some (.d GD), some (.d (.list (B.map kyD))), some (.d (.tuple (intsD N))), some (.d (.int (g0.1 : Int))), some (.d (.tuple (intsD g0.2.1))), some (.d (.tuple (intsD g0.2.2))), some (.d (.int ((N.length + 1 : Nat) : Int))), some (.d (.tuple (intsD own))), some (.d (.list (os.map onD))), none, some (.d (onD o))], rfl, ?_, fun _ => ⟨_, vars rfl, rfl⟩, fun _ => rfl⟩
      unfold tC3_near_key
      exact trus (ops (vars rfl) cst (by cases o <;> rfl))
    have eo : ((os.filter fun o => o.isSome).map onD) = (os.filterMap id).map fun p : Nat => PyData.int (p : Int) := by
      clear hp em L1 L2
      induction os with
      | nil => rfl
      | cons o os ih =>
        cases o with
        | none => exact ih
        | some n =>
          show onD (some n) :: ((os.filter fun o => o.isSome).map onD) = _
          rw [ih]
          rfl
    rw [eo, hp] at L2
    obtain ⟨m, m1, m2⟩ := max_posts (postsK g0.1 own B)
    have hcat : addD (.list ((postsK g0.1 own B).map fun p : Nat => PyData.int (p : Int))) (.list [.int (-1)]) = some (.list (((postsK g0.1 own B).map fun p : Nat => PyData.int (p : Int)) ++ [.int (-1)])) := by
      have := List.length_filterMap_le (fun k : Ky => if k.1 = g0.1 ∧ k.2.1 = own ∧ (untail k.2.2).1 = none then (untail k.2.2).2.1 else none) B
      unfold addD addL
      dsimp only
      rw [if_pos (by rw [List.length_map, sizeLine_eq]; unfold postsK; simp only [List.length_cons, List.length_nil]; omega)]
    refine ex_ret (tup_ok (ds := [.int (g0.1 : Int), .tuple (intsD own), .tuple (intsD [3, postMax (postsK g0.1 own B), 1])]) (cons_ok (vars rfl) (cons_ok (vars rfl) (cons_ok (tup_ok (ds := [.int 3, .int ((postMax (postsK g0.1 own B) : Nat) : Int), .int 1]) (cons_ok cst (cons_ok (ops cst (b1s (ops L2 (lst1s neg1) hcat) m1) m2) (cons_ok cst nil_ok))) rfl (by simp)) nil_ok))) rfl (by simp))
end Dn

set_option maxHeartbeats 4000000
namespace Dn
open PySem PySem.Spec PyProof.Rows L2 SX
open TL (numL pre joinL)
theorem maxShr_mem {b : List Nat} : ∀ {os : List (List Nat)}, os ≠ [] → ∃ o ∈ os, shr b o = maxShr b os
  | [], h => absurd rfl h
  | [o], _ => ⟨o, by simp, by show shr b o = max (shr b o) 0; omega⟩
  | o :: q :: os, _ => by
    obtain ⟨x, hx, e⟩ := maxShr_mem (b := b) (os := q :: os) (by simp)
    have e2 : maxShr b (o :: q :: os) = max (shr b o) (maxShr b (q :: os)) := rfl
    by_cases c : shr b o ≤ maxShr b (q :: os)
    · exact ⟨x, by simp [hx], by omega⟩
    · exact ⟨o, by simp, by omega⟩
theorem max_shrs (b : List Nat) (os : List (List Nat)) : maxLE [.list ((os.map fun o => PyData.int ((shr b o : Nat) : Int)) ++ [.int 0])] = some (.int ((maxShr b os : Nat) : Int)) := by
  obtain ⟨m, h1, h2, h3⟩ := maxL_int (xs := (os.map fun o => ((shr b o : Nat) : Int)) ++ [0]) (by simp)
  rw [List.map_append, List.map_map] at h1
  have e : maxLE [.list ((os.map fun o => PyData.int ((shr b o : Nat) : Int)) ++ [.int 0])] = some (.int m) := h1
  rw [e]
  congr 2
  have h0 := h3 0 (by simp)
  rcases List.mem_append.mp h2 with q | q
  · obtain ⟨o, ho, rfl⟩ := List.mem_map.mp q
    obtain ⟨x, hx, ex⟩ := maxShr_mem (b := b) (os := os) (fun z => by rw [z] at ho; simp at ho)
    have := shr_le_max (b := b) ho
    have := h3 _ (List.mem_append.mpr (.inl (List.mem_map.mpr ⟨x, hx, rfl⟩)))
    omega
  · have e : m = 0 := by simpa using q
    subst e
    cases os with
    | nil => rfl
    | cons o os =>
      obtain ⟨x, hx, ex⟩ := maxShr_mem (b := b) (os := o :: os) (by simp)
      have := h3 _ (List.mem_append.mpr (.inl (List.mem_map.mpr ⟨x, hx, rfl⟩)))
      omega
def bsD (o : List Nat) : PyData := .tuple (intsD o)
theorem inD_bases (b : List Nat) (os : List (List Nat)) : inD (.tuple (intsD b)) (.list (os.map bsD)) = some (.bool (decide (b ∈ os))) := by
  unfold inD
  have : inS (.tuple (intsD b)) (.list (os.map bsD)) = some ((os.map bsD).any fun y => PyData.eqv y (.tuple (intsD b))) := by
    show (if dOk 60 (.tuple (intsD b)) || dOkAll 60 (os.map bsD) then some ((os.map bsD).any fun y => PyData.eqv y (.tuple (intsD b))) else none) = _
    rw [show dOk 60 (.tuple (intsD b)) = true by simp [dOk, dOk_ints], Bool.true_or, if_pos rfl]
  rw [this, Option.map_some]
  congr 2
  rw [List.any_map, Bool.eq_iff_iff, List.any_eq_true, decide_eq_true_iff]
  constructor
  · rintro ⟨x, hx, e⟩
    rw [Function.comp, bsD, eqv_intsT, decide_eq_true_iff] at e
    rw [← e]; exact hx
  · intro h
    exact ⟨b, h, by rw [Function.comp, bsD, eqv_intsT]; exact decide_eq_true rfl⟩
theorem maxShr_le (b : List Nat) {n : Nat} (hb : b.length ≤ n) : ∀ {os : List (List Nat)}, (∀ o ∈ os, o.length ≤ n) → maxShr b os ≤ n
  | [], _ => Nat.zero_le _
  | o :: os, h => by
    show max (shr b o) (maxShr b os) ≤ n
    have h1 := shr_max b o
    have h2 := h o (by simp)
    have h3 := maxShr_le b hb (os := os) fun x hx => h x (by simp [hx])
    omega
theorem run_leftout {G : List Ky} {b : Ky} (hG : ∀ g ∈ G, VK g ∧ g.2.1.length ≤ 40) (hb : VK b) (lb : b.2.1.length ≤ 40) (hn : G.length ≤ 1000) (w : W) : m_left_out [.d (.list (G.map kyD)), .d (kyD b)] w = some (.d (clD (leftC G b)), w) := by
  refine fn_ex rfl ?_
  unfold b_left_out
  refine ex_nx (asg_ok (d := kyD b) (vars rfl) (e2 := [some (.d (.list (G.map kyD))), some (.d (kyD b)), some (.d (.int (b.1 : Int))), some (.d (.tuple (intsD b.2.1))), some (.d (.tuple (intsD b.2.2))), none, none]) rfl) ?_
  have L1 := lcm_filt (mi := mItems (mVar 0)) (g := mgName 6) (tt := tC1_left_out) (me := eC2_left_out) (vs := [6]) (env := [some (.d (.list (G.map kyD))), some (.d (kyD b)), some (.d (.int (b.1 : Int))), some (.d (.tuple (intsD b.2.1))), some (.d (.tuple (intsD b.2.2))), none, none]) (w := w) kyD (fun g => decide (g.1 = b.1)) (fun g => bsD g.2.1) G (items_s (vars rfl) rfl) rfl rfl fun g hg => by
    refine ⟨[some (.d (.list (G.map kyD))), some (.d (kyD b)), some (.d (.int (b.1 : Int))), some (.d (.tuple (intsD b.2.1))), some (.d (.tuple (intsD b.2.2))), none, some (.d (kyD g))], [some (.d (.list (G.map kyD))), some (.d (kyD b)), some (.d (.int (b.1 : Int))), some (.d (.tuple (intsD b.2.1))), some (.d (.tuple (intsD b.2.2))), none, some (.d (kyD g))], rfl, ?_, fun _ => ⟨[some (.d (.list (G.map kyD))), some (.d (kyD b)), some (.d (.int (b.1 : Int))), some (.d (.tuple (intsD b.2.1))), some (.d (.tuple (intsD b.2.2))), none, some (.d (kyD g))], ?_, rfl⟩, fun _ => rfl⟩
    · unfold tC1_left_out
      exact trus (ops (ops (vars rfl) cst (ky0 g)) (vars rfl) (eqD_nat _ _))
    · unfold eC2_left_out
      exact ops (vars rfl) cst (ky1 g)
  have eb : ((G.filter fun g => decide (g.1 = b.1)).map fun g => bsD g.2.1) = (basesOf G b.1).map bsD := by
    unfold basesOf
    rw [List.map_map]
    rfl
  rw [eb] at L1
  have hbs : ∀ o ∈ basesOf G b.1, bas o = o ∧ o.length ≤ 40 := fun o ho => by
    obtain ⟨g, hg, _, rfl⟩ := mem_bases.mp ho
    exact ⟨(hG g hg).1.bk, (hG g hg).2⟩
  have hbn : (basesOf G b.1).length ≤ 1000 := by
    unfold basesOf
    rw [List.length_map]
    exact Nat.le_trans (List.length_filter_le _ _) hn
  refine ex_set (i := 5) L1 ?_
  unfold leftC
  generalize basesOf G b.1 = os at hbs hbn L1 ⊢
  by_cases c : b.2.1 ∈ os
  · rw [if_pos c]
    have e : clD (verC .ne b) = .tuple [.str "!=", .str (S (texK b))] := by
      unfold clD verC Cl.txt starS texK
      simp
      rfl
    rw [e]
    exact ex_hit (trus (ops (vars rfl) (vars rfl) (by rw [inD_bases, decide_eq_true c]))) (tup2s cst (call1s (vars rfl) (run_textK hb w)))
  · rw [if_neg c]
    refine ex_skip (trus (b := false) (ops (vars rfl) (vars rfl) (by rw [inD_bases, decide_eq_false c]))) ?_
    have L2 := lcm_map (mi := mItems (mVar 5)) (g := mgName 6) (me := eC3_left_out) (vs := [6]) (env := [some (.d (.list (G.map kyD))), some (.d (kyD b)), some (.d (.int (b.1 : Int))), some (.d (.tuple (intsD b.2.1))), some (.d (.tuple (intsD b.2.2))), some (.d (.list (os.map bsD))), none]) (w := w) bsD (fun o => PyData.int ((shr b.2.1 o : Nat) : Int)) os (items_s (vars rfl) rfl) rfl rfl fun o ho => by
      refine ⟨[some (.d (.list (G.map kyD))), some (.d (kyD b)), some (.d (.int (b.1 : Int))), some (.d (.tuple (intsD b.2.1))), some (.d (.tuple (intsD b.2.2))), some (.d (.list (os.map bsD))), some (.d (bsD o))], [some (.d (.list (G.map kyD))), some (.d (kyD b)), some (.d (.int (b.1 : Int))), some (.d (.tuple (intsD b.2.1))), some (.d (.tuple (intsD b.2.2))), some (.d (.list (os.map bsD))), some (.d (bsD o))], rfl, ?_, rfl⟩
      unfold eC3_left_out
      exact call2s (vars rfl) (vars rfl) (run_shared hb.bk (hbs o ho).1 (fun z => c (by rw [z]; exact ho)) (by omega) (by have := (hbs o ho).2; omega) w)
    have hcat : addD (.list (os.map fun o => PyData.int ((shr b.2.1 o : Nat) : Int))) (.list [.int 0]) = some (.list ((os.map fun o => PyData.int ((shr b.2.1 o : Nat) : Int)) ++ [.int 0])) := by
      unfold addD addL
      dsimp only
      rw [if_pos (by rw [List.length_map, sizeLine_eq]; simp only [List.length_cons, List.length_nil]; omega)]
    have hm := maxShr_le b.2.1 lb (os := os) fun o ho => (hbs o ho).2
    have hp := run_padded b.2.1 (1 + maxShr b.2.1 os) (by omega) (by omega) w
    obtain ⟨p, hpw, hpk⟩ := hb
    have sme : Sm b.1 := by rw [← hpk]; exact hpw.ep
    have smn : ∀ n ∈ pad b.2.1 (1 + maxShr b.2.1 os), Sm n := fun n hn => by
      rcases pad_mem hn with q | q
      · rw [← hpk] at q
        exact hpw.sm n (bas_mem q)
      · rw [q]; show 0 < 10 ^ 24; decide
    have hbt := run_blocktext (e := b.1) (ns := pad b.2.1 (1 + maxShr b.2.1 os)) sme smn (by rw [pad_len]; omega) .ne w
    have e : clD (blkC .ne b.1 (pad b.2.1 (1 + maxShr b.2.1 os))) = .tuple [.str "!=", .str (S (blkC .ne b.1 (pad b.2.1 (1 + maxShr b.2.1 os))).txt)] := rfl
    rw [e]
    exact ex_ret (tup2s cst (call2s (vars rfl) (call2s (vars rfl) (ops cst (b1s (ops L2 (lst1s cst) hcat) (max_shrs _ _)) (add_nat 1 _)) hp) hbt))
def wyD (w : Wy) : PyData := .tuple [.list (w.1.map clD), kyD w.2.1, okD w.2.2]
theorem ex_app {m : Ex} {env : Ev} {w : W} {i : Nat} {xs : List PyData} {x : PyData} {sb : Sx} {f : Fl} {w' : W} (h0 : env[i]? = some (some (.own xs))) (h : m env w = some (.d x, env, w)) (hl : xs.length < 1000) (k : ∃ e, sb (env.set i (some (.own (xs ++ [x])))) w = some (f, e, w')) : ∃ e, mSeq (mAppend i m) sb env w = some (f, e, w') := ex_nx (app_ok h0 h hl) k
theorem ex_own {env : Ev} {w : W} {i : Nat} {xs : List PyData} (h : env[i]? = some (some (.own xs))) : ∃ e, mRet (mVar i) env w = some (.rt (.d (.list xs)), e, w) := ⟨env.set i (some (.d (.list xs))), by simp only [mRet, mVar, h]⟩
theorem ex_setO {ms : Ax} {env : Ev} {w : W} {i : Nat} {rs : List SD} {ds : List PyData} {sb : Sx} {f : Fl} {w' : W} (h : ms env w = some (rs, env, w)) (hd : dsOf rs = some ds) (hl : ds.length ≤ 1000) (k : ∃ e, sb (env.set i (some (.own ds))) w = some (f, e, w')) : ∃ e, mSeq (mSetO i (mLst ms)) sb env w = some (f, e, w') := by
  refine ex_nx (e1 := env.set i (some (.own ds))) (w1 := w) ?_ k
  have := lst_ok h hd hl
  cases e : mLst ms env w with
  | none =>
    simp only [mFz, e] at this
    cases this
  | some r =>
    obtain ⟨xs, e1, w1⟩ := r
    simp only [mFz, e] at this
    cases this
    simp only [mSetO, e]
theorem tup3s {a b c : Ex} {env : Ev} {w : W} {x y z : PyData} (h1 : a env w = some (.d x, env, w)) (h2 : b env w = some (.d y, env, w)) (h3 : c env w = some (.d z, env, w)) : mTup (mCons a (mCons b (mCons c mNil))) env w = some (.d (.tuple [x, y, z]), env, w) := tup_ok (ds := [x, y, z]) (cons_ok h1 (cons_ok h2 (cons_ok h3 nil_ok))) rfl (by simp)
theorem lst0s {env : Ev} {w : W} : mFz (mLst mNil) env w = some (.d (.list []), env, w) := rfl
theorem ver_d {k : Ky} (h : VK k) (g : Sg) : clD (verC g k) = .tuple [.str g.s, .str (S (texK k))] := by
  unfold clD verC Cl.txt starS texK
  simp
theorem postMax_le {n : Nat} : ∀ {ps : List Nat}, (∀ p ∈ ps, p ≤ n) → postMax ps ≤ n + 1
  | [], _ => Nat.zero_le _
  | p :: ps, h => by
    show max (p + 1) (postMax ps) ≤ n + 1
    have h1 := h p (by simp)
    have h2 := postMax_le (ps := ps) fun q hq => h q (by simp [hq])
    omega
theorem near_gk {Bd L : Nat} {g0 : Ky} {B : List Ky} (N : List Nat) (h0 : Gk Bd L g0) (hB : ∀ k ∈ B, Gk Bd L k) : Gk (Bd + 1) L (nearKy g0 B N) := by
  unfold nearKy
  split
  · exact h0.mono (by omega) (Nat.le_refl _)
  · have hm : ∀ n ∈ nearOwn g0 N, n ∈ g0.2.1 := fun n hn => List.mem_of_mem_take (bas_mem hn)
    refine ⟨own_bas g0 N, ?_, fun n hn => Nat.le_succ_of_le (h0.ns n (hm n hn)), Nat.le_succ_of_le h0.ep, none, some (postMax (postsK g0.1 (nearOwn g0 N) B)), none, ⟨fun x n e => (by cases e), fun n e => ?_, fun n e => (by cases e)⟩, rfl⟩
    · have := bas_len (g0.2.1.take (N.length + 1))
      rw [List.length_take] at this
      have := h0.len
      show (nearOwn g0 N).length ≤ L
      unfold nearOwn
      omega
    · cases e
      refine postMax_le fun p hp => ?_
      unfold postsK at hp
      obtain ⟨k, hk, e⟩ := List.mem_filterMap.mp hp
      split at e
      · obtain ⟨fo, po, dv, t, et⟩ := (hB k hk).tl
        have hu : untail k.2.2 = (fo, po, dv) := by rw [et]; exact untail_tailK (fun x n e => (t.1 x n e).1) _ _
        rw [hu] at e
        exact t.2.1 p e
      · cases e
theorem common_len {g0 gl : Ky} {m : Nat} {N : List Nat} (h : commonN g0 gl m = some N) (l0 : g0.2.1.length ≤ m) (ll : gl.2.1.length ≤ m) : N.length ≤ 1 + m := by
  unfold commonN at h
  split at h
  · split at h
    · cases h; rw [pad_len]; omega
    · split at h
      · cases h
      · cases h
        rw [pad_len]
        have := shr_max g0.2.1 gl.2.1
        omega
  · cases h
theorem ixT_last {ds : List PyData} {d : PyData} (h : ds.getLast? = some d) : ixD (.tuple ds) (.int (-1)) = some d := ixL_last h
theorem incr_e {N : List Nat} (h : N ≠ []) (hl : N.length ≤ 1000) : ∃ x : Nat, ixD (.tuple (intsD N)) (.int (-1)) = some (.int (x : Int)) ∧ addD (.tuple (intsD N.dropLast)) (.tuple [.int ((x + 1 : Nat) : Int)]) = some (.tuple (intsD (incr N))) := by
  obtain ⟨xs, x, rfl⟩ : ∃ xs x, N = xs ++ [x] := ⟨N.dropLast, N.getLast h, (List.dropLast_concat_getLast h).symm⟩
  refine ⟨x, ixT_last (by unfold intsD; simp), ?_⟩
  have e1 : incr (xs ++ [x]) = xs ++ [x + 1] := by unfold incr; simp
  rw [e1, List.dropLast_concat]
  rw [List.length_append, List.length_singleton] at hl
  exact cat_e xs [x + 1] (by simp only [List.length_cons, List.length_nil]; omega)
theorem fw_5 {GD BD a2 a3 a4 a5 a7 a8 a9 a10 a11 a12 a13 g0D : PyData} {xs : List PyData} {w : W} (i0 : ixD GD (.int 0) = some g0D) (hl : xs.length + 5 ≤ 1000) : ∃ e,
    (mSeq (mAppend 6 (mTup (mCons (mFz (mLst (mCons (mVar 11) mNil))) (mCons (mVar 9) (mCons (mVar 10) mNil)))))
 (mSeq (mAppend 6 (mTup (mCons (mFz (mLst (mCons (mVar 11) (mCons (mVar 4) mNil)))) (mCons (mOp ixD (mVar 0) (mC (.int 0))) (mCons (mVar 10) mNil)))))
 (mSeq (mAppend 6 (mTup (mCons (mFz (mLst (mCons (mVar 11) (mCons (mVar 5) mNil)))) (mCons (mVar 9) (mCons (mVar 3) mNil)))))
 (mSeq (mAppend 6 (mTup (mCons (mFz (mLst (mCons (mVar 13) mNil))) (mCons (mVar 12) (mCons (mVar 10) mNil)))))
 (mSeq (mAppend 6 (mTup (mCons (mFz (mLst (mCons (mVar 13) (mCons (mVar 5) mNil)))) (mCons (mVar 12) (mCons (mVar 3) mNil)))))
 (mRet (mVar 6))))))) [some (.d GD), some (.d BD), some (.d a2), some (.d a3), some (.d a4), some (.d a5), some (.own xs), some (.d a7), some (.d a8), some (.d a9), some (.d a10), some (.d a11), some (.d a12), some (.d a13)] w =
      some (.rt (.d (.list (xs ++ [.tuple [.list [a11], a9, a10], .tuple [.list [a11, a4], g0D, a10], .tuple [.list [a11, a5], a9, a3], .tuple [.list [a13], a12, a10], .tuple [.list [a13, a5], a12, a3]]))), e, w) := by
  refine ex_nx (e1 := [some (.d GD), some (.d BD), some (.d a2), some (.d a3), some (.d a4), some (.d a5), some (.own (xs ++ [.tuple [.list [a11], a9, a10]])), some (.d a7), some (.d a8), some (.d a9), some (.d a10), some (.d a11), some (.d a12), some (.d a13)]) (w1 := w) (app_ok rfl (tup3s (lst1s (vars rfl)) (vars rfl) (vars rfl)) (by omega)) ?_
  refine ex_nx (e1 := [some (.d GD), some (.d BD), some (.d a2), some (.d a3), some (.d a4), some (.d a5), some (.own ((xs ++ [.tuple [.list [a11], a9, a10]]) ++ [.tuple [.list [a11, a4], g0D, a10]])), some (.d a7), some (.d a8), some (.d a9), some (.d a10), some (.d a11), some (.d a12), some (.d a13)]) (w1 := w) (app_ok rfl (tup3s (lst2s (vars rfl) (vars rfl)) (ops (vars rfl) cst i0) (vars rfl)) (by simp; omega)) ?_
  refine ex_nx (e1 := [some (.d GD), some (.d BD), some (.d a2), some (.d a3), some (.d a4), some (.d a5), some (.own (((xs ++ [.tuple [.list [a11], a9, a10]]) ++ [.tuple [.list [a11, a4], g0D, a10]]) ++ [.tuple [.list [a11, a5], a9, a3]])), some (.d a7), some (.d a8), some (.d a9), some (.d a10), some (.d a11), some (.d a12), some (.d a13)]) (w1 := w) (app_ok rfl (tup3s (lst2s (vars rfl) (vars rfl)) (vars rfl) (vars rfl)) (by simp; omega)) ?_
  refine ex_nx (e1 := [some (.d GD), some (.d BD), some (.d a2), some (.d a3), some (.d a4), some (.d a5), some (.own ((((xs ++ [.tuple [.list [a11], a9, a10]]) ++ [.tuple [.list [a11, a4], g0D, a10]]) ++ [.tuple [.list [a11, a5], a9, a3]]) ++ [.tuple [.list [a13], a12, a10]])), some (.d a7), some (.d a8), some (.d a9), some (.d a10), some (.d a11), some (.d a12), some (.d a13)]) (w1 := w) (app_ok rfl (tup3s (lst1s (vars rfl)) (vars rfl) (vars rfl)) (by simp; omega)) ?_
  refine ex_nx (e1 := [some (.d GD), some (.d BD), some (.d a2), some (.d a3), some (.d a4), some (.d a5), some (.own (((((xs ++ [.tuple [.list [a11], a9, a10]]) ++ [.tuple [.list [a11, a4], g0D, a10]]) ++ [.tuple [.list [a11, a5], a9, a3]]) ++ [.tuple [.list [a13], a12, a10]]) ++ [.tuple [.list [a13, a5], a12, a3]])), some (.d a7), some (.d a8), some (.d a9), some (.d a10), some (.d a11), some (.d a12), some (.d a13)]) (w1 := w) (app_ok rfl (tup3s (lst2s (vars rfl) (vars rfl)) (vars rfl) (vars rfl)) (by simp; omega)) ?_
  obtain ⟨e, he⟩ := ex_own (i := 6) (w := w) (env := [some (.d GD), some (.d BD), some (.d a2), some (.d a3), some (.d a4), some (.d a5), some (.own (((((xs ++ [.tuple [.list [a11], a9, a10]]) ++ [.tuple [.list [a11, a4], g0D, a10]]) ++ [.tuple [.list [a11, a5], a9, a3]]) ++ [.tuple [.list [a13], a12, a10]]) ++ [.tuple [.list [a13, a5], a12, a3]])), some (.d a7), some (.d a8), some (.d a9), some (.d a10), some (.d a11), some (.d a12), some (.d a13)]) rfl
  refine ⟨e, he.trans ?_⟩
  simp only [List.append_assoc, List.cons_append, List.nil_append]
theorem run_firstways {G B : List Ky} {g0 gl : Ky} {Bd L : Nat} (hh : G.head? = some g0) (ht : G.getLast? = some gl) (hG : ∀ k ∈ G, Gk Bd L k) (hB : ∀ k ∈ B, Gk Bd L k) (hBd : Bd ≤ 10000000000) (hL : L ≤ 30) (hn : G.length + B.length ≤ 500) (w : W) :
    m_first_ways [.d (.list (G.map kyD)), .d (.list (B.map kyD))] w = some (.d (.list ((waysK G B g0 gl).map wyD)), w) := by
  refine fn_ex rfl ?_
  unfold b_first_ways
  have m0 : g0 ∈ G := List.mem_of_head? hh
  have ml : gl ∈ G := List.mem_of_getLast? ht
  have v0 : VK g0 := (hG g0 m0).vk (by omega) (by omega)
  have vl : VK gl := (hG gl ml).vk (by omega) (by omega)
  have hmx : maxLen (G ++ B) ≤ 30 := by
    by_cases z : G ++ B = []
    · rw [z]; exact Nat.zero_le _
    · obtain ⟨k, hk, e⟩ := maxLen_mem z
      rw [← e]
      rcases List.mem_append.mp hk with q | q
      · exact Nat.le_trans (hG k q).len hL
      · exact Nat.le_trans (hB k q).len hL
  have i0 : ixD (.list (G.map kyD)) (.int 0) = some (kyD g0) := by
    cases G with
    | nil => cases hh
    | cons x xs => cases hh; exact ixL0 _ _
  have il : ixD (.list (G.map kyD)) (.int (-1)) = some (kyD gl) := ixL_last (by rw [List.getLast?_map, ht]; rfl)
  have hcm := run_common hh ht v0.bk vl.bk (by omega) (by omega) (B := B) w
  have hnk := fun N => run_nearkey (N := N) hh (fun k hk => (hB k hk).vk (by omega) (by omega)) (by have := (hG g0 m0).len; omega) (by omega) (B := B) w
  generalize PyData.list (G.map kyD) = GD at i0 il hcm hnk ⊢
  generalize PyData.list (B.map kyD) = BD at hcm hnk ⊢
  have hfol := run_folK vl w
  have t0 := run_textK v0 w
  have tl := run_textK vl w
  have eLeast : mTup (mCons (mC (.int 0)) (mCons (mTup mNil) (mCons (mTup (mCons (mC (.int 0)) (mCons (mC (.int 0)) mNil))) mNil))) [some (.d GD), some (.d BD), none, none, none, none, none, none, none, none, none, none, none, none] w = some (.d (kyD leastK), [some (.d GD), some (.d BD), none, none, none, none, none, none, none, none, none, none, none, none], w) := rfl
  refine ex_par eLeast (call1s (ops (vars rfl) neg1 il) hfol) ?_
  refine ex_par (tup2s cst (call1s (ops (vars rfl) cst i0) t0)) (tup2s cst (call1s (ops (vars rfl) neg1 il) tl)) ?_
  have dGe := ver_d v0 .ge
  have dLe := ver_d vl .le
  have eGe : PyData.tuple [.str ">=", .str (S (texK g0))] = clD (verC .ge g0) := dGe.symm
  have eLe : PyData.tuple [.str "<=", .str (S (texK gl))] = clD (verC .le gl) := dLe.symm
  rw [eGe, eLe]
  refine ex_setO (i := 6) (cons_ok (tup3s lst0s (vars rfl) cst) (cons_ok (tup3s (lst1s (vars rfl)) (ops (vars rfl) cst i0) cst) (cons_ok (tup3s (lst1s (vars rfl)) (vars rfl) (vars rfl)) nil_ok))) rfl (by simp) ?_
  refine ex_app (xs := _) rfl (tup3s (lst2s (vars rfl) (vars rfl)) (ops (vars rfl) cst i0) (vars rfl)) (by simp) ?_
  have e4 : ([.tuple [.list [], kyD leastK, .none], .tuple [.list [clD (verC .ge g0)], kyD g0, .none], .tuple [.list [clD (verC .le gl)], kyD leastK, kyD (folKy gl)]] ++ [.tuple [.list [clD (verC .ge g0), clD (verC .le gl)], kyD g0, kyD (folKy gl)]] : List PyData) = (ways4 g0 gl).map wyD := rfl
  rw [e4]
  refine ex_set (i := 7) (call2s (vars rfl) (vars rfl) hcm) ?_
  unfold waysK
  cases hN : commonN g0 gl (maxLen (G ++ B)) with
  | none =>
    rw [hN] at hcm
    obtain ⟨e, he⟩ := ex_own (i := 6) (w := w) (xs := (ways4 g0 gl).map wyD) (env := [some (.d GD), some (.d BD), some (.d (kyD leastK)), some (.d (kyD (folKy gl))), some (.d (clD (verC .ge g0))), some (.d (clD (verC .le gl))), some (.own ((ways4 g0 gl).map wyD)), some (.d (onN none)), none, none, none, none, none, none]) rfl
    exact ex_rt ((if_t (trus (ops (vars rfl) cst rfl))).trans he)
  | some N =>
    rw [hN] at hcm
    obtain ⟨c1, c2, c3, c4⟩ := common_ok hN
    have hNl := common_len hN (len_le_max (by simp [m0])) (len_le_max (by simp [ml]))
    have smN : ∀ n ∈ N, Sm n := fun n hn => by
      rw [c4] at hn
      rcases pad_mem hn with q | q
      · have := (hG g0 m0).ns n q
        show n < 10 ^ 24
        omega
      · rw [q]; show 0 < 10 ^ 24; decide
    have sme : Sm g0.1 := by
      have := (hG g0 m0).ep
      show g0.1 < 10 ^ 24
      omega
    have hgk := near_gk N (hG g0 m0) hB
    have hbt := run_blocktext (e := g0.1) (ns := N) sme smN (by omega) .eq w
    have hnt := run_neartext hgk (by omega) (N := N) (by omega) (nearKy_len B N) w
    have hbs := run_based (ns := N) (by omega) w
    obtain ⟨x, x1, x2⟩ := incr_e c1 (by omega)
    have hcut := cut_last c1
    have hnN := hnk N
    refine ex_skip (trus (b := false) (ops (vars rfl) cst rfl)) ?_
    refine ex_set (i := 8) (ops (ops (vars rfl) cst i0) cst (ky0 g0)) ?_
    refine ex_par (x := .d (kyD (g0.1, bas N, [0, 0]))) (y := .d (kyD (g0.1, incr N, [0, 0]))) (tup3s (vars rfl) (call1s (vars rfl) hbs) (tup2s cst cst)) (tup3s (vars rfl) (ops (slv (vars rfl) neg1 hcut) (tup1s (ops (ops (vars rfl) neg1 x1) cst (add_nat x 1))) x2) (tup2s cst cst)) ?_
    refine ex_par (tup2s cst (call2s (vars rfl) (vars rfl) hbt)) (call3s (vars rfl) (vars rfl) (vars rfl) hnN) ?_
    rw [show PyData.tuple [.str "==", .str (S (blkC .eq g0.1 N).txt)] = clD (blkC .eq g0.1 N) from rfl]
    refine ex_set (i := 13) (tup2s cst (call2s (vars rfl) (vars rfl) hnt)) ?_
    rw [show PyData.tuple [.str "~=", .str (S (nearC (nearKy g0 B N) N).txt)] = clD (nearC (nearKy g0 B N) N) from rfl]
    have e9 : (ways4 g0 gl).map wyD ++ [.tuple [.list [clD (blkC .eq g0.1 N)], kyD (g0.1, bas N, [0, 0]), kyD (g0.1, incr N, [0, 0])], .tuple [.list [clD (blkC .eq g0.1 N), clD (verC .ge g0)], kyD g0, kyD (g0.1, incr N, [0, 0])], .tuple [.list [clD (blkC .eq g0.1 N), clD (verC .le gl)], kyD (g0.1, bas N, [0, 0]), kyD (folKy gl)],
      .tuple [.list [clD (nearC (nearKy g0 B N) N)], kyD (nearKy g0 B N), kyD (g0.1, incr N, [0, 0])], .tuple [.list [clD (nearC (nearKy g0 B N) N), clD (verC .le gl)], kyD (nearKy g0 B N), kyD (folKy gl)]] = (ways4 g0 gl ++ ways5 g0 gl B N).map wyD := by rw [List.map_append]; rfl
    rw [← e9]
    exact fw_5 i0 (by simp [ways4])
end Dn

set_option maxHeartbeats 4000000
namespace Dn
open PySem PySem.Spec PyProof.Rows L2 SX
open TL (numL pre joinL)
def vD (p : Pt) : PyData := .str (S (prB false p))
theorem run_toldkeys {ps : List Pt} (h : ∀ p ∈ ps, p.Wf) (hl : ps.length ≤ 20) (w : W) : m_told_keys [.d (.tuple (ps.map vD))] w = some (.d (.list ((sortK (ps.map Pt.key)).map kyD)), w) := by
  refine fn_ex rfl ?_
  unfold b_told_keys
  have L1 := lcm_map (mi := mItems (mVar 0)) (g := mgName 2) (me := eC1_told_keys) (vs := [2]) (env := [some (.d (.tuple (ps.map vD))), none, none]) (w := w) vD (fun _ => .bool true) ps (items_s (vars rfl) rfl) rfl rfl fun p hp => by
    refine ⟨[some (.d (.tuple (ps.map vD))), none, some (.d (vD p))], [some (.d (.tuple (ps.map vD))), none, some (.d (vD p))], rfl, ?_, rfl⟩
    unfold eC1_told_keys
    exact call1s (vars rfl) (run_isv (prB_sh (h p hp)) (parts_print false (h p hp)) w)
  have L2 := lcm_map (mi := mItems (mVar 0)) (g := mgName 1) (me := eC2_told_keys) (vs := [1]) (env := [some (.d (.tuple (ps.map vD))), none, none]) (w := w) vD (fun p => kyD p.key) ps (items_s (vars rfl) rfl) rfl rfl fun p hp => by
    refine ⟨[some (.d (.tuple (ps.map vD))), some (.d (vD p)), none], [some (.d (.tuple (ps.map vD))), some (.d (vD p)), none], rfl, ?_, rfl⟩
    unfold eC2_told_keys
    exact call1s (vars rfl) (run_keyof false (h p hp) w)
  have e1 : (ps.map fun _ : Pt => PyData.bool true) = (ps.map fun _ => true).map PyData.bool := by rw [List.map_map]; rfl
  rw [e1] at L1
  have hall : allD [.list ((ps.map fun _ : Pt => true).map PyData.bool)] = some (.bool true) := by
    simp only [allD, boolsOf_map, Option.map_some]
    congr 2
    simp
  have hlen : gtI (.int ((ps.map vD).length : Int)) (.int 20) = some (.bool false) := by
    rw [List.length_map, gtI_int]
    congr 2
    simp
    omega
  refine ex_skip (ors (p := false) (q := false) (nots (b := true) (trus rfl)) fun _ => ors (p := false) (q := false) (trus (ops (b1s (vars rfl) rfl) cst hlen)) fun _ => nots (b := true) (trus (b1s L1 hall))) ?_
  rw [show (fun p : Pt => kyD p.key) = kyD ∘ Pt.key from rfl, ← List.map_map] at L2
  exact ⟨_, sortSet_ok L2 (sortSet_ky (by rw [List.length_map]; omega))⟩
def minC : List (List Cl) → List Cl → List Cl
  | [], x => x
  | y :: ys, x => minC ys (if y.length < x.length then y else x)
def bestW : List (List Cl) → List Cl
  | [] => []
  | x :: xs => minC xs x
theorem minC_ok : ∀ (ys : List (List Cl)) (x : List Cl), minC ys x ∈ x :: ys ∧ ∀ y ∈ x :: ys, (minC ys x).length ≤ y.length
  | [], x => ⟨by simp [minC], fun y hy => by rw [List.mem_singleton] at hy; rw [hy]; exact Nat.le_refl _⟩
  | z :: ys, x => by
    unfold minC
    by_cases c : z.length < x.length
    · rw [if_pos c]
      obtain ⟨h1, h2⟩ := minC_ok ys z
      refine ⟨by rcases List.mem_cons.mp h1 with q | q <;> simp [q], fun y hy => ?_⟩
      have hz := h2 z (by simp)
      rcases List.mem_cons.mp hy with rfl | hy
      · omega
      · exact h2 y hy
    · rw [if_neg c]
      obtain ⟨h1, h2⟩ := minC_ok ys x
      refine ⟨by rcases List.mem_cons.mp h1 with q | q <;> simp [q], fun y hy => ?_⟩
      have hz := h2 x (by simp)
      rcases List.mem_cons.mp hy with rfl | hy
      · exact hz
      · rcases List.mem_cons.mp hy with rfl | hy
        · omega
        · exact h2 y (by simp [hy])
def ltZ : Cl := ⟨.lt, false, false, ⟨0, [0], none, none, none⟩⟩
def tellK (G B : List Ky) : Option (List Cl) :=
  if (G.filter fun k => decide (k ∈ B)) ≠ [] then none else if B = [] then some [] else match G with
  | [] => some [ltZ]
  | [g] => some [verC .eq g]
  | g0 :: g1 :: gs => some (bestW ((waysK (g0 :: g1 :: gs) B g0 ((g1 :: gs).getLast (by simp))).map (rowW (g0 :: g1 :: gs) B)))
def rcD (r : List Cl) : PyData := .list (r.map clD)
theorem minLd_map : ∀ (ys : List (List Cl)) (x : List Cl), minLd (ys.map rcD) (rcD x) = rcD (minC ys x)
  | [], x => rfl
  | y :: ys, x => by
    rw [List.map_cons, minLd, minC]
    have e : (lenL (rcD y)).getD 0 < (lenL (rcD x)).getD 0 ↔ y.length < x.length := by
      unfold rcD lenL
      simp
    by_cases c : y.length < x.length
    · rw [if_pos (e.mpr c), if_pos c]; exact minLd_map ys y
    · rw [if_neg (fun z => c (e.mp z)), if_neg c]; exact minLd_map ys x
theorem minLen_rows {rows : List (List Cl)} (h : rows ≠ []) : minLenD (.list (rows.map rcD)) = some (rcD (bestW rows)) := by
  cases rows with
  | nil => exact absurd rfl h
  | cons x xs =>
    rw [List.map_cons]
    unfold minLenD bestW
    dsimp only
    rw [if_pos, minLd_map]
    rw [← List.map_cons, List.all_map, List.all_eq_true]
    intro r _
    rfl
theorem keysT_cl : ∀ (cs : List Cl), keysT (cs.map fun c => .tuple [clD c, .bool true]) = some (cs.map txtK)
  | [] => rfl
  | c :: cs => by
    rw [List.map_cons, clD_txt]
    unfold keysT
    have e : txtsOf ((txtK c).map .str) = some (txtK c) := rfl
    rw [e, keysT_cl cs]
    rfl
theorem dict_s {m : Ex} {env : Ev} {w : W} {cs : List Cl} (h : m env w = some (.d (.list (cs.map fun c => .tuple [clD c, .bool true])), env, w)) (hl : cs.length ≤ 1000) : mFz (mListDict (mCons m mNil)) env w = some (.d (rcD (ddpF txtK cs)), env, w) := by
  have e1 := keysT_cl cs
  have e2 : ((ddp (cs.map txtK)).map fun k => PyData.tuple (k.map .str)) = (ddpF txtK cs).map clD := by
    rw [ddp_map, List.map_map]
    rfl
  simp only [mFz, mListDict, argsD, mCons, mNil, h, dsOf, Option.map_some, e1]
  rw [if_pos (by rw [List.length_map]; omega), e2]
  rfl
theorem cat_rows (a b : List Cl) (h : a.length + b.length ≤ 100000) : addD (rcD a) (rcD b) = some (rcD (a ++ b)) := by
  unfold rcD addD addL
  dsimp only
  rw [if_pos (by rw [List.length_map, List.length_map, sizeLine_eq]; omega), List.map_append]
theorem ddpF_len {α β : Type} [DecidableEq β] (f : α → β) (l : List α) : (ddpF f l).length ≤ l.length := by
  have go : ∀ (l acc : List α), (l.foldl (fun acc a => if f a ∈ acc.map f then acc else acc ++ [a]) acc).length ≤ acc.length + l.length := by
    intro l
    induction l with
    | nil => intro acc; simp
    | cons x l ih =>
      intro acc
      rw [List.foldl_cons, List.length_cons]
      refine Nat.le_trans (ih _) ?_
      split
      · omega
      · rw [List.length_append, List.length_singleton]; omega
  have := go l []
  unfold ddpF
  simpa using this
theorem ways_len {G B : List Ky} {g0 gl : Ky} : ∀ v ∈ waysK G B g0 gl, v.1.length ≤ 2 := fun v hv => by
  unfold waysK at hv
  split at hv
  · unfold ways4 at hv
    simp only [List.mem_cons, List.mem_nil_iff, or_false] at hv
    rcases hv with rfl | rfl | rfl | rfl <;> simp
  · unfold ways4 ways5 at hv
    simp only [List.cons_append, List.nil_append, List.mem_cons, List.mem_nil_iff, or_false] at hv
    rcases hv with rfl | rfl | rfl | rfl | rfl | rfl | rfl | rfl | rfl <;> simp
theorem loop_tell {G B : List Ky} {P Q : PyData} (hG : ∀ g ∈ G, VK g ∧ g.2.1.length ≤ 40) (hB : ∀ b ∈ B, VK b ∧ b.2.1.length ≤ 40) (hn : G.length ≤ 500) (hnB : B.length ≤ 500) (w : W) : ∀ (ws : List Wy) (acc : List PyData) (a b c d : Option SD), (∀ v ∈ ws, v.1.length ≤ 2) → acc.length + ws.length < 900 → ∃ a' b' c' d',
    mLoop (mgTup 3 (mgCons (mgName 5) (mgCons (mgName 6) (mgCons (mgName 7) mgNil)))) bF4_telling (ws.map wyD) [some (.d P), some (.d Q), some (.d (.list (G.map kyD))), some (.d (.list (B.map kyD))), some (.own acc), a, b, c, d, none] w =
      some (.nx, [some (.d P), some (.d Q), some (.d (.list (G.map kyD))), some (.d (.list (B.map kyD))), some (.own (acc ++ ws.map fun v => rcD (rowW G B v))), a', b', c', d', none], w)
  | [], acc, a, b, c, d, _, _ => ⟨a, b, c, d, by rw [List.map_nil, List.map_nil, List.append_nil]; rfl⟩
  | v :: ws, acc, a, b, c, d, h2, hl => by
    have hv := h2 v (by simp)
    rw [List.length_cons] at hl
    obtain ⟨a', b', c', d', ih⟩ := loop_tell hG hB hn hnB w ws (acc ++ [rcD (rowW G B v)]) (some (.d (rcD v.1))) (some (.d (kyD v.2.1))) (some (.d (okD v.2.2))) (some (.d (.list ((leftW B v).map kyD)))) (fun x hx => h2 x (by simp [hx])) (by rw [List.length_append, List.length_singleton]; omega)
    refine ⟨a', b', c', d', ?_⟩
    rw [List.map_cons, List.map_cons]
    have L1 := lcm_filt (mi := mItems (mVar 3)) (g := mgName 9) (tt := tC2_telling) (me := mVar 9) (vs := [9]) (env := [some (.d P), some (.d Q), some (.d (.list (G.map kyD))), some (.d (.list (B.map kyD))), some (.own acc), some (.d (rcD v.1)), some (.d (kyD v.2.1)), some (.d (okD v.2.2)), d, none]) (w := w)
      kyD (fun k => !ltK k v.2.1 && belowK k v.2.2) kyD B (items_s (vars rfl) rfl) rfl rfl fun k hk => by
      refine ⟨[some (.d P), some (.d Q), some (.d (.list (G.map kyD))), some (.d (.list (B.map kyD))), some (.own acc), some (.d (rcD v.1)), some (.d (kyD v.2.1)), some (.d (okD v.2.2)), d, some (.d (kyD k))], [some (.d P), some (.d Q), some (.d (.list (G.map kyD))), some (.d (.list (B.map kyD))), some (.own acc), some (.d (rcD v.1)), some (.d (kyD v.2.1)), some (.d (okD v.2.2)), d, some (.d (kyD k))], rfl, ?_, fun _ => ⟨_, vars rfl, rfl⟩, fun _ => rfl⟩
      unfold tC2_telling
      refine ands (trus (ops (vars rfl) (vars rfl) (leD_ky _ _))) fun _ => ?_
      cases e : v.2.2 with
      | none => exact ors (p := true) (q := true) (trus (ops (vars rfl) cst rfl)) fun z => by cases z
      | some h => exact ors (p := false) (trus (ops (vars rfl) cst rfl)) fun _ => trus (ops (vars rfl) (vars rfl) (ltD_ky _ _))
    have L2 := lcm_map (mi := mItems (mVar 8)) (g := mgName 9) (me := eC3_telling) (vs := [9]) (env := [some (.d P), some (.d Q), some (.d (.list (G.map kyD))), some (.d (.list (B.map kyD))), some (.own acc), some (.d (rcD v.1)), some (.d (kyD v.2.1)), some (.d (okD v.2.2)), some (.d (.list ((leftW B v).map kyD))), none]) (w := w)
      kyD (fun k => .tuple [clD (leftC G k), .bool true]) (leftW B v) (items_s (vars rfl) rfl) rfl rfl fun k hk => by
      have hkB := (List.mem_filter.mp hk).1
      refine ⟨[some (.d P), some (.d Q), some (.d (.list (G.map kyD))), some (.d (.list (B.map kyD))), some (.own acc), some (.d (rcD v.1)), some (.d (kyD v.2.1)), some (.d (okD v.2.2)), some (.d (.list ((leftW B v).map kyD))), some (.d (kyD k))], [some (.d P), some (.d Q), some (.d (.list (G.map kyD))), some (.d (.list (B.map kyD))), some (.own acc), some (.d (rcD v.1)), some (.d (kyD v.2.1)), some (.d (okD v.2.2)), some (.d (.list ((leftW B v).map kyD))), some (.d (kyD k))], rfl, ?_, rfl⟩
      unfold eC3_telling
      exact tup2s (call2s (vars rfl) (vars rfl) (run_leftout hG (hB k hkB).1 (hB k hkB).2 (by omega) w)) cst
    have eL : ((leftW B v).map fun k => PyData.tuple [clD (leftC G k), .bool true]) = ((leftW B v).map (leftC G)).map fun c => .tuple [clD c, .bool true] := by rw [List.map_map]; rfl
    rw [eL] at L2
    have hlw : (leftW B v).length ≤ B.length := List.length_filter_le _ _
    have hd := dict_s L2 (by rw [List.length_map]; omega)
    have hdl := ddpF_len txtK ((leftW B v).map (leftC G))
    rw [List.length_map] at hdl
    have hcat := cat_rows v.1 (ddpF txtK ((leftW B v).map (leftC G))) (by omega)
    refine (loop_go (e1 := [some (.d P), some (.d Q), some (.d (.list (G.map kyD))), some (.d (.list (B.map kyD))), some (.own acc), some (.d (rcD v.1)), some (.d (kyD v.2.1)), some (.d (okD v.2.2)), d, none]) (e2 := [some (.d P), some (.d Q), some (.d (.list (G.map kyD))), some (.d (.list (B.map kyD))), some (.own (acc ++ [rcD (rowW G B v)])), some (.d (rcD v.1)), some (.d (kyD v.2.1)), some (.d (okD v.2.2)), some (.d (.list ((leftW B v).map kyD))), none]) (w2 := w) rfl ?_).trans (ih.trans (by rw [List.append_assoc]; rfl))
    unfold bF4_telling
    have s1 := set_ok (i := 8) L1
    have s2 := app_ok (i := 4) (xs := acc) (env := [some (.d P), some (.d Q), some (.d (.list (G.map kyD))), some (.d (.list (B.map kyD))), some (.own acc), some (.d (rcD v.1)), some (.d (kyD v.2.1)), some (.d (okD v.2.2)), some (.d (.list ((leftW B v).map kyD))), none]) (w := w) rfl (ops (vars (i := 5) rfl) hd hcat) (by omega)
    simp only [mSeq]
    rw [s1]
    exact s2
end Dn

set_option maxHeartbeats 4000000
namespace Dn
open PySem PySem.Spec PyProof.Rows L2 SX
open TL (numL pre joinL)
def teD : Option (List Cl) → PyData
  | none => .none
  | some cs => rqD cs
theorem tl_end {P Q R U : PyData} {a b c d : Option SD} {rows : List (List Cl)} (h : rows ≠ []) (w : W) : ∃ e, mRet (mB tupleD (mCons (mMinLen (mVar 4)) mNil)) [some (.d P), some (.d Q), some (.d R), some (.d U), some (.own (rows.map rcD)), a, b, c, d, none] w = some (.rt (.d (rqD (bestW rows))), e, w) := by
  have e1 := minLen_rows h
  refine ⟨[some (.d P), some (.d Q), some (.d R), some (.d U), some (.d (.list (rows.map rcD))), a, b, c, d, none], ?_⟩
  simp only [mRet, mB, argsD, mCons, mNil, mMinLen, seqE, mVar, List.getElem?_cons_zero, List.getElem?_cons_succ, e1, optE, dsOf, Option.map_some, rcD, tupleD]
  rfl
theorem run_tellK {G B : List Ky} {Bd L : Nat} {P Q : PyData} (hG : ∀ k ∈ G, Gk Bd L k) (hB : ∀ k ∈ B, Gk Bd L k) (hBd : Bd ≤ 10000000000) (hL : L ≤ 30) (hn : G.length ≤ 200) (hnB : B.length ≤ 200) (w : W)
    (h1 : m_told_keys [.d P] w = some (.d (.list (G.map kyD)), w)) (h2 : m_told_keys [.d Q] w = some (.d (.list (B.map kyD)), w)) : m_telling [.d P, .d Q] w = some (.d (teD (tellK G B)), w) := by
  refine fn_ex rfl ?_
  unfold b_telling
  refine ex_nx (e1 := [some (.d P), some (.d Q), some (.d (.list (G.map kyD))), some (.d (.list (B.map kyD))), none, none, none, none, none, none]) (w1 := w) ?_ ?_
  · generalize m_told_keys = m1 at h1 h2 ⊢
    generalize PyData.list (G.map kyD) = GD at h1 ⊢
    generalize PyData.list (B.map kyD) = BD at h2 ⊢
    push_cast [h1, h2]
  have L1 := lcm_filt (mi := mItems (mVar 2)) (g := mgName 9) (tt := tC1_telling) (me := mVar 9) (vs := [9]) (env := [some (.d P), some (.d Q), some (.d (.list (G.map kyD))), some (.d (.list (B.map kyD))), none, none, none, none, none, none]) (w := w) kyD (fun k => decide (k ∈ B)) kyD G (items_s (vars rfl) rfl) rfl rfl fun k hk => by
    refine ⟨[some (.d P), some (.d Q), some (.d (.list (G.map kyD))), some (.d (.list (B.map kyD))), none, none, none, none, none, some (.d (kyD k))], [some (.d P), some (.d Q), some (.d (.list (G.map kyD))), some (.d (.list (B.map kyD))), none, none, none, none, none, some (.d (kyD k))], rfl, ?_, fun _ => ⟨_, vars rfl, rfl⟩, fun _ => rfl⟩
    unfold tC1_telling
    exact trus (ops (vars rfl) (vars rfl) (inD_kys k B))
  have L2 := ne_ok L1
  unfold tellK
  by_cases c1 : (G.filter fun k => decide (k ∈ B)) = []
  · rw [if_neg (fun z => z c1)]
    rw [c1] at L2
    refine ex_skip (trus (b := false) L2) ?_
    by_cases c2 : B = []
    · rw [if_pos c2]
      exact ex_hit (trus (b := true) (ops (vars rfl) lst0s (by rw [eq_nilL, c2]; rfl))) rfl
    · rw [if_neg c2]
      have eB : (B.map kyD).isEmpty = false := by cases B with | nil => exact absurd rfl c2 | cons _ _ => rfl
      refine ex_skip (trus (b := false) (ops (vars rfl) lst0s (by rw [eq_nilL, eB]))) ?_
      match hGe : G with
      | [] => exact ex_hit (trus (b := true) (ops (vars rfl) lst0s rfl)) rfl
      | [g] =>
        refine ex_skip (trus (b := false) (ops (vars rfl) lst0s (eq_nilL _))) ?_
        have hv : VK g := (hG g (by simp)).vk (by omega) (by omega)
        have e : rqD [verC .eq g] = .tuple [.tuple [.str "==", .str (S (texK g))]] := by
          unfold rqD
          rw [List.map_cons, List.map_nil, ver_d hv]
          rfl
        show ∃ e, _ = some (Fl.rt (SD.d (rqD [verC .eq g])), e, w)
        rw [e]
        exact ex_hit (trus (b := true) (ops (b1s (vars rfl) rfl) cst rfl)) (tup1s (tup2s cst (call1s (ops (vars rfl) cst (ixL0 _ _)) (run_textK hv w))))
      | g0 :: g1 :: gs =>
        show ∃ e, _ = some (Fl.rt (SD.d (rqD (bestW ((waysK (g0 :: g1 :: gs) B g0 ((g1 :: gs).getLast (by simp))).map (rowW (g0 :: g1 :: gs) B))))), e, w)
        refine ex_skip (trus (b := false) (ops (vars rfl) lst0s (eq_nilL _))) ?_
        have hlen : eqD (.int (((g0 :: g1 :: gs).map kyD).length : Int)) (.int 1) = some (.bool false) := by
          rw [eqD_int]
          congr 2
        refine ex_skip (trus (b := false) (ops (b1s (vars rfl) rfl) cst hlen)) ?_
        refine ex_setO (i := 4) (ms := mNil) rfl rfl (by simp) ?_
        have hlast : (g0 :: g1 :: gs).getLast? = some ((g1 :: gs).getLast (by simp)) := by
          rw [List.getLast?_eq_some_getLast (by simp), List.getLast_cons (by simp)]
        have hfw := run_firstways (gl := (g1 :: gs).getLast (by simp)) rfl hlast hG hB hBd hL (by omega) w
        have vk : ∀ k : Ky, Gk Bd L k → VK k ∧ k.2.1.length ≤ 40 := fun k hk => ⟨hk.vk (by omega) (by omega), by have := hk.len; omega⟩
        generalize hW : waysK (g0 :: g1 :: gs) B g0 ((g1 :: gs).getLast (by simp)) = ws at hfw ⊢
        have hw2 : ∀ v ∈ ws, v.1.length ≤ 2 := fun v hv => ways_len v (by rw [hW]; exact hv)
        have hwl : ws.length ≤ 9 := by
          rw [← hW]
          unfold waysK
          split <;> simp [ways4, ways5]
        have hwn : ws ≠ [] := by
          rw [← hW]
          unfold waysK
          split <;> simp [ways4]
        obtain ⟨a', b', c', d', hL⟩ := loop_tell (P := P) (Q := Q) (fun g hg => vk g (hG g hg)) (fun g hg => vk g (hB g hg)) (by omega) (by omega) w ws [] none none none none hw2 (by simp; omega)
        rw [List.nil_append] at hL
        refine ex_for (items_s (call2s (vars rfl) (vars rfl) hfw) rfl) hL ?_
        have er : (ws.map fun v => rcD (rowW (g0 :: g1 :: gs) B v)) = (ws.map (rowW (g0 :: g1 :: gs) B)).map rcD := by rw [List.map_map]; rfl
        rw [er]
        exact tl_end (rows := ws.map (rowW (g0 :: g1 :: gs) B)) (by simpa using hwn) w
  · rw [if_pos c1]
    have : (((G.filter fun k => decide (k ∈ B)).map kyD).isEmpty) = false := by
      cases e : (G.filter fun k => decide (k ∈ B)) with
      | nil => exact absurd e c1
      | cons _ _ => rfl
    rw [this] at L2
    exact ex_hit (trus (b := true) L2) cst
theorem run_telling {gs bs : List Pt} {Bd L : Nat} (hg : ∀ p ∈ gs, p.Wf ∧ Gk Bd L p.key) (hb : ∀ p ∈ bs, p.Wf ∧ Gk Bd L p.key) (hBd : Bd ≤ 10000000000) (hL : L ≤ 30) (lg : gs.length ≤ 20) (lb : bs.length ≤ 20) (w : W) :
    m_telling [.d (.tuple (gs.map vD)), .d (.tuple (bs.map vD))] w = some (.d (teD (tellK (sortK (gs.map Pt.key)) (sortK (bs.map Pt.key)))), w) := by
  have mem : ∀ {ps : List Pt}, (∀ p ∈ ps, p.Wf ∧ Gk Bd L p.key) → ∀ k ∈ sortK (ps.map Pt.key), Gk Bd L k := fun h k hk => by
    obtain ⟨p, hp, rfl⟩ := List.mem_map.mp (mem_sortK.mp hk)
    exact (h p hp).2
  have l1 := sortK_len (gs.map Pt.key)
  have l2 := sortK_len (bs.map Pt.key)
  rw [List.length_map] at l1 l2
  exact run_tellK (mem hg) (mem hb) hBd hL (by omega) (by omega) w (run_toldkeys (fun p hp => (hg p hp).1) lg w) (run_toldkeys (fun p hp => (hb p hp).1) lb w)
end Dn

set_option maxHeartbeats 4000000
namespace Dn
open PySem PySem.Spec PyProof.Rows L2 SX
open TL (numL pre joinL)
theorem Cl.Wg.mn {c : Cl} (h : c.Wg) : c.Mn := ⟨fun z => ⟨(h.st z).1, h.wf.ne⟩, h.co⟩
theorem verC_wg {k : Ky} (h : VK k) {g : Sg} (hg : g = .eq ∨ g = .ne ∨ g = .ge ∨ g = .le) : (verC g k).Wg := by
  refine ⟨ptK_wf h, fun z => (by cases z), fun z => ?_, fun z => ?_⟩
  · have z : g = .lt ∨ g = .gt := z
    rcases hg with rfl | rfl | rfl | rfl <;> rcases z with z | z <;> cases z
  · have z : g = .co := z
    rcases hg with rfl | rfl | rfl | rfl <;> cases z
theorem blkC_wg {Bd L : Nat} {k : Ky} (h : Gk Bd L k) (hB : Bd ≤ 100000000000) {n : Nat} (hn : n ≤ 60) (h0 : 0 < n) {g : Sg} (hg : g = .eq ∨ g = .ne) : (blkC g k.1 (pad k.2.1 n)).Wg := by
  have sm : ∀ n : Nat, n ≤ Bd → Sm n := fun n hn => by show n < 10 ^ 24; omega
  refine ⟨⟨fun z => ?_, by show (pad k.2.1 n).length ≤ 60; rw [pad_len]; exact hn, fun m hm => ?_, sm _ h.ep, fun x n e => (by cases e), fun n e => (by cases e), fun n e => (by cases e)⟩, fun _ => ⟨hg, rfl⟩, fun z => rfl, fun z => ?_⟩
  · have := congrArg List.length z
    rw [show (blkC g k.1 (pad k.2.1 n)).p.ns = pad k.2.1 n from rfl, pad_len] at this
    simp at this
    omega
  · rcases pad_mem hm with q | q
    · exact sm m (h.ns m q)
    · rw [q]; exact sm 0 (Nat.zero_le _)
  · have z : g = .co := z
    rcases hg with rfl | rfl <;> cases z
theorem nearC_wg {Bd L : Nat} {k : Ky} (h : Gk Bd L k) (hB : Bd ≤ 100000000000) {N : List Nat} (hN : N ≠ []) (hn : N.length + 1 ≤ 60) : (nearC k N).Wg := by
  refine ⟨nearP_wf h hB hn, fun z => (by cases z), fun z => ?_, fun _ => ?_⟩
  · rcases z with z | z <;> cases z
  · show 2 ≤ (pad k.2.1 (N.length + 1)).length
    rw [pad_len]
    have := List.length_pos_iff.mpr hN
    omega
theorem leftC_wg {Bd L : Nat} {G : List Ky} {b : Ky} (hG : ∀ g ∈ G, Gk Bd L g) (hb : Gk Bd L b) (hB : Bd ≤ 100000000000) (hL : L ≤ 50) : (leftC G b).Wg := by
  unfold leftC
  split
  · exact verC_wg (hb.vk hB (by omega)) (.inr (.inl rfl))
  · refine blkC_wg hb hB ?_ (by omega) (.inr rfl)
    have := maxShr_le b.2.1 hb.len (os := basesOf G b.1) fun o ho => by
      obtain ⟨g, hg, _, rfl⟩ := mem_bases.mp ho
      exact (hG g hg).len
    omega
theorem txtK_inj {c d : Cl} (hc : c.p.Wf) (hd : d.p.Wf) (bc : c.b = false) (bd : d.b = false) (h : txtK c = txtK d) : c = d := by
  unfold txtK at h
  obtain ⟨h1, h2⟩ := List.cons.inj h
  have h2 := (List.cons.inj h2).1
  have h1 : c.sg = d.sg := sg_s_inj h1
  have h2 : c.txt = d.txt := S_inj h2
  have star : c.star = d.star := by
    have n1 : 42 ∉ prB c.b c.p := prB_no (by decide) (by decide) c.b hc
    have n2 : 42 ∉ prB d.b d.p := prB_no (by decide) (by decide) d.b hd
    unfold Cl.txt starS at h2
    cases e1 : c.star <;> cases e2 : d.star <;> rw [e1, e2] at h2
    · exfalso
      apply n1
      have : 42 ∈ prB d.b d.p ++ (if true = true then [46, 42] else []) := by simp
      rw [← h2] at this
      simpa using this
    · exfalso
      apply n2
      have : 42 ∈ prB c.b c.p ++ (if true = true then [46, 42] else []) := by simp
      rw [h2] at this
      simpa using this
  have hp : c.p = d.p := by
    unfold Cl.txt at h2
    rw [star, bc, bd] at h2
    have e := List.append_cancel_right h2
    have p1 := parts_print false hc
    rw [e, parts_print false hd] at p1
    exact (Option.some.inj p1).symm
  cases c
  cases d
  simp_all
theorem leftC_b (G : List Ky) (b : Ky) : (leftC G b).b = false := by
  unfold leftC
  split <;> rfl
/-- a requirement tells good keys from bad ones -/
def Tells (R : List Cl) (G B : List Ky) : Prop := (∀ g ∈ G, ∀ c ∈ R, letsK c g = true) ∧ ∀ b ∈ B, ∃ c ∈ R, letsK c b = false
structure TellOk (G B : List Ky) (T : List Cl) : Prop where
  wg : ∀ c ∈ T, c.Wg
  tells : Tells T G B
  min : ∀ R : List Cl, (∀ c ∈ R, c.Mn) → Tells R G B → T.length ≤ R.length
  len : T.length ≤ B.length + 2
theorem ltZ_wg : ltZ.Wg := ⟨⟨by decide, by decide, fun n hn => by
  have : n = 0 := by simpa [ltZ] using hn
  rw [this]; show 0 < 10 ^ 24; decide, by show 0 < 10 ^ 24; decide, fun x n e => (by cases e), fun n e => (by cases e), fun n e => (by cases e)⟩, fun z => (by cases z), fun _ => rfl, fun z => (by cases z)⟩
theorem ltZ_no {k : Ky} : letsK ltZ k = false := by
  unfold letsK ltZ
  rw [if_neg (by simp)]
  dsimp only
  split
  · exact ltL_nil_r _
  · simp
theorem ways_wg {Bd L : Nat} {G B : List Ky} {g0 gl : Ky} (h0 : g0 ∈ G) (hl : gl ∈ G) (hG : ∀ k ∈ G, Gk Bd L k) (hB : ∀ k ∈ B, Gk Bd L k) (hBd : Bd ≤ 10000000000) (hL : L ≤ 30) : ∀ v ∈ waysK G B g0 gl, ∀ c ∈ v.1, c.Wg := by
  have v0 := (hG g0 h0).vk (by omega) (by omega)
  have vl := (hG gl hl).vk (by omega) (by omega)
  have e1 := verC_wg v0 (g := .ge) (by simp)
  have e2 := verC_wg vl (g := .le) (by simp)
  have h4 : ∀ v ∈ ways4 g0 gl, ∀ c ∈ v.1, c.Wg := fun v hv c hc => by
    unfold ways4 at hv
    simp only [List.mem_cons, List.mem_nil_iff, or_false] at hv
    rcases hv with rfl | rfl | rfl | rfl <;> simp only [List.mem_cons, List.mem_nil_iff, or_false] at hc
    · subst hc; exact e1
    · subst hc; exact e2
    · rcases hc with rfl | rfl
      · exact e1
      · exact e2
  intro v hv
  unfold waysK at hv
  split at hv
  · exact h4 v hv
  · rename_i N hN
    rcases List.mem_append.mp hv with hv | hv
    · exact h4 v hv
    · obtain ⟨c1, c2, c3, c4⟩ := common_ok hN
      have hmx : maxLen (G ++ B) ≤ 30 := by
        obtain ⟨k, hk, e⟩ := maxLen_mem (ks := G ++ B) (fun z => by rw [List.append_eq_nil_iff] at z; rw [z.1] at h0; simp at h0)
        rw [← e]
        rcases List.mem_append.mp hk with q | q
        · exact Nat.le_trans (hG k q).len hL
        · exact Nat.le_trans (hB k q).len hL
      have hNl := common_len hN (len_le_max (by simp [h0])) (len_le_max (by simp [hl]))
      have e3 : (blkC .eq g0.1 N).Wg := by
        rw [c4]
        exact blkC_wg (hG g0 h0) (by omega) (by omega) (List.length_pos_iff.mpr c1) (.inl rfl)
      have e4 : (nearC (nearKy g0 B N) N).Wg := nearC_wg (near_gk N (hG g0 h0) hB) (by omega) c1 (by omega)
      intro c hc
      unfold ways5 at hv
      simp only [List.mem_cons, List.mem_nil_iff, or_false] at hv
      rcases hv with rfl | rfl | rfl | rfl | rfl <;> simp only [List.mem_cons, List.mem_nil_iff, or_false] at hc
      · subst hc; exact e3
      · rcases hc with rfl | rfl
        · exact e3
        · exact e1
      · rcases hc with rfl | rfl
        · exact e3
        · exact e2
      · subst hc; exact e4
      · rcases hc with rfl | rfl
        · exact e4
        · exact e2
theorem Srt.first {g : Ky} {gs : List Ky} (h : Srt (g :: gs)) : ∀ k ∈ g :: gs, ltK k g = false := fun k hk => by
  rcases List.mem_cons.mp hk with rfl | hk
  · exact ltK_irr k
  · exact ltK_asy ((List.pairwise_cons.mp h).1 k hk)
theorem Srt.last {G : List Ky} {g : Ky} (h : Srt G) (hg : G.getLast? = some g) : ∀ k ∈ G, ltK g k = false := fun k hk => by
  obtain ⟨xs, rfl⟩ := List.getLast?_eq_some_iff.mp hg
  rcases List.mem_append.mp hk with hk | hk
  · exact ltK_asy ((List.pairwise_append.mp h).2.2 k hk g (by simp))
  · rw [List.mem_singleton.mp hk]; exact ltK_irr g
theorem tell_none {G B : List Ky} : tellK G B = none ↔ ∃ k ∈ G, k ∈ B := by
  unfold tellK
  constructor
  · intro h
    split at h
    · rename_i hc
      obtain ⟨k, hk⟩ := List.exists_mem_of_ne_nil _ hc
      obtain ⟨h1, h2⟩ := List.mem_filter.mp hk
      exact ⟨k, h1, by simpa using h2⟩
    · split at h
      · cases h
      · split at h <;> cases h
  · rintro ⟨k, h1, h2⟩
    rw [if_pos]
    intro z
    have : k ∈ (G.filter fun k => decide (k ∈ B)) := List.mem_filter.mpr ⟨h1, by simpa using h2⟩
    rw [z] at this
    simp at this
theorem tell_ok {Bd L : Nat} {G B : List Ky} {T : List Cl} (sG : Srt G) (hG : ∀ k ∈ G, Gk Bd L k) (hB : ∀ k ∈ B, Gk Bd L k) (hBd : Bd ≤ 10000000000) (hL : L ≤ 30) (h : tellK G B = some T) : TellOk G B T := by
  have hdj : ∀ k ∈ B, k ∉ G := fun k hk hg => by
    have := tell_none.mpr ⟨k, hg, hk⟩
    rw [h] at this
    cases this
  have one : ∀ R : List Cl, Tells R G B → B ≠ [] → 1 ≤ R.length := fun R hR hne => by
    obtain ⟨b, hb⟩ := List.exists_mem_of_ne_nil _ hne
    obtain ⟨c, hc, _⟩ := hR.2 b hb
    exact List.length_pos_of_mem hc
  unfold tellK at h
  split at h
  · cases h
  · split at h
    · rename_i hBn
      cases h
      subst hBn
      exact ⟨by simp, ⟨by simp, by simp⟩, fun R _ _ => Nat.zero_le _, Nat.zero_le _⟩
    · rename_i hBn
      have hBl : 1 ≤ B.length := by cases B with | nil => exact absurd rfl hBn | cons _ _ => simp
      split at h
      · cases h
        refine ⟨fun c hc => by rw [List.mem_singleton.mp hc]; exact ltZ_wg, ⟨by simp, fun b _ => ⟨ltZ, by simp, ltZ_no⟩⟩, fun R _ hR => one R hR hBn, by simp⟩
      · rename_i g _
        cases h
        have vg := (hG g (by simp)).vk (by omega) (by omega)
        refine ⟨fun c hc => by rw [List.mem_singleton.mp hc]; exact verC_wg vg (.inl rfl), ⟨fun k hk c hc => ?_, fun b hb => ⟨verC .eq g, by simp, ?_⟩⟩, fun R _ hR => one R hR hBn, by simp⟩
        · rw [List.mem_singleton.mp hc, List.mem_singleton.mp hk, eqv_lets vg, decide_eq_true rfl]
        · rw [eqv_lets vg, decide_eq_false fun z => hdj b hb (by simp [z])]
      · rename_i g0 g1 gs _
        have h := Option.some.inj h
        have hlast : (g0 :: g1 :: gs).getLast? = some ((g1 :: gs).getLast (by simp)) := by
          rw [List.getLast?_eq_some_getLast (by simp), List.getLast_cons (by simp)]
        have hml := List.mem_of_getLast? hlast
        have hmt : (g1 :: gs).getLast (by simp) ∈ g1 :: gs := List.getLast_mem _
        have hne : g0 ≠ (g1 :: gs).getLast (by simp) := fun z => by
          have := (List.pairwise_cons.mp sG).1 _ hmt
          rw [← z, ltK_irr] at this
          cases this
        generalize (g1 :: gs).getLast (by simp) = gl at h hlast hml hne
        have vG : ∀ k ∈ g0 :: g1 :: gs, VK k := fun k hk => (hG k hk).vk (by omega) (by omega)
        have gb : GB (g0 :: g1 :: gs) B g0 gl := ⟨vG, fun k hk => (hB k hk).vk (by omega) (by omega), by simp, hml, sG.first, sG.last hlast, hdj⟩
        have hinj : ∀ a ∈ B, ∀ b ∈ B, txtK (leftC (g0 :: g1 :: gs) a) = txtK (leftC (g0 :: g1 :: gs) b) → leftC (g0 :: g1 :: gs) a = leftC (g0 :: g1 :: gs) b := fun a ha b hb e =>
          txtK_inj (leftC_wg hG (hB a ha) (by omega) (by omega)).wf (leftC_wg hG (hB b hb) (by omega) (by omega)).wf (leftC_b _ _) (leftC_b _ _) e
        have hwn : ∃ v vs, waysK (g0 :: g1 :: gs) B g0 gl = v :: vs := by
          unfold waysK
          split
          · exact ⟨_, _, rfl⟩
          · exact ⟨_, _, rfl⟩
        obtain ⟨v, vs, hv⟩ := hwn
        have hb : T = minC (vs.map (rowW (g0 :: g1 :: gs) B)) (rowW (g0 :: g1 :: gs) B v) := by
          rw [← h, hv]
          rfl
        obtain ⟨m1, m2⟩ := minC_ok (vs.map (rowW (g0 :: g1 :: gs) B)) (rowW (g0 :: g1 :: gs) B v)
        rw [← hb, ← List.map_cons, ← hv] at m1 m2
        obtain ⟨u, hu, hT⟩ := List.mem_map.mp m1
        refine ⟨fun c hc => ?_, ⟨fun g hg c hc => ?_, fun b hb => ?_⟩, fun R hR hRt => ?_, ?_⟩
        · rw [← hT] at hc
          rcases List.mem_append.mp hc with hc | hc
          · exact ways_wg (by simp) hml hG hB hBd hL u hu c hc
          · obtain ⟨b, hb, rfl⟩ := List.mem_map.mp (ddpF_sub hc)
            exact leftC_wg hG (hB b (List.mem_filter.mp hb).1) (by omega) (by omega)
        · rw [← hT] at hc
          exact row_good gb hu hg c hc
        · rw [← hT]
          exact row_bad gb hu hinj hb
        · obtain ⟨x, hx, hlen⟩ := row_least gb hne hR hRt.1 hRt.2
          exact Nat.le_trans (m2 _ (List.mem_map.mpr ⟨x, hx, rfl⟩)) hlen
        · rw [← hT]
          unfold rowW
          rw [List.length_append]
          have h1 := ways_len u hu
          have h2 := ddpF_len txtK ((leftW B u).map (leftC (g0 :: g1 :: gs)))
          have h3 : (leftW B u).length ≤ B.length := List.length_filter_le _ _
          rw [List.length_map] at h2
          omega
end Dn

set_option maxHeartbeats 4000000
namespace Dn
open PySem PySem.Spec PyProof.Rows L2 SX
open TL (numL pre joinL)
def shB (by_ : Nat) (ns : List Nat) : List Nat := (zz ns 0 + by_) :: ns.tail
def phK (e by_ : Nat) (k : Ky) : Ky := (k.1 + e, bas (shB by_ k.2.1), k.2.2)
def phP (e by_ : Nat) (p : Pt) : Pt := ⟨p.ep + e, shB by_ p.ns, p.fo, p.po, p.dv⟩
def phC (e by_ : Nat) (c : Cl) : Cl := ⟨c.sg, c.star, c.b, phP e by_ c.p⟩
theorem zz_tail (ns : List Nat) (i : Nat) : zz ns.tail i = zz ns (i + 1) := by cases ns <;> rfl
theorem zz_sh (b : Nat) (ns : List Nat) (i : Nat) : zz (shB b ns) i = if i = 0 then zz ns 0 + b else zz ns i := by
  cases i with
  | zero => rfl
  | succ i => rw [if_neg (by omega)]; exact zz_tail ns i
theorem sh_inj {b : Nat} {x y : List Nat} {i : Nat} : zz (shB b x) i = zz (shB b y) i ↔ zz x i = zz y i := by
  rw [zz_sh, zz_sh]
  by_cases c : i = 0
  · subst c
    rw [if_pos rfl, if_pos rfl]
    omega
  · rw [if_neg c, if_neg c]
theorem sh_lt {b : Nat} {x y : List Nat} {i : Nat} : zz (shB b x) i < zz (shB b y) i ↔ zz x i < zz y i := by
  rw [zz_sh, zz_sh]
  by_cases c : i = 0
  · subst c
    rw [if_pos rfl, if_pos rfl]
    omega
  · rw [if_neg c, if_neg c]
theorem ltP_sh (b : Nat) (x y : List Nat) : ltP (shB b x) (shB b y) = ltP x y := by
  rw [Bool.eq_iff_iff, ltP_iff, ltP_iff]
  constructor
  · rintro ⟨i, h1, h2⟩
    exact ⟨i, fun j hj => sh_inj.mp (h1 j hj), sh_lt.mp h2⟩
  · rintro ⟨i, h1, h2⟩
    exact ⟨i, fun j hj => sh_inj.mpr (h1 j hj), sh_lt.mpr h2⟩
theorem bas_sh (b : Nat) (x y : List Nat) : bas (shB b x) = bas (shB b y) ↔ bas x = bas y := by
  rw [bas_eq_iff, bas_eq_iff]
  exact ⟨fun h i => sh_inj.mp (h i), fun h i => sh_inj.mpr (h i)⟩
theorem sh_bas (b : Nat) (x : List Nat) : bas (shB b (bas x)) = bas (shB b x) := (bas_sh b _ _).mpr (bas_bas x)
theorem ph_key (e b : Nat) (p : Pt) : (phP e b p).key = phK e b p.key := by
  unfold phP phK Pt.key
  dsimp only
  rw [sh_bas]
theorem ph_lt (e b : Nat) {x y : Ky} (hx : Bk x) (hy : Bk y) : ltK (phK e b x) (phK e b y) = ltK x y := by
  unfold ltK phK
  dsimp only
  by_cases h1 : x.1 = y.1
  · rw [if_pos (by omega), if_pos h1]
    by_cases h2 : x.2.1 = y.2.1
    · rw [if_pos (by rw [h2]), if_pos h2]
    · rw [if_neg (fun z => h2 (by rw [← hx, ← hy]; exact (bas_sh b _ _).mp z)), if_neg h2, ltL_bas, ltP_sh, ← ltL_bas, hx, hy]
  · rw [if_neg (by omega), if_neg h1]
    exact decide_eq_decide.mpr (by omega)
theorem ph_inj (e b : Nat) {x y : Ky} (hx : Bk x) (hy : Bk y) : phK e b x = phK e b y ↔ x = y := by
  constructor
  · intro h
    refine leK_antisymm ?_ ?_
    · rw [← ph_lt e b hy hx, h, ltK_irr]
    · rw [← ph_lt e b hx hy, h, ltK_irr]
  · intro h; rw [h]
theorem ph_in (e b : Nat) {E : Nat} {N : List Nat} (hN : N ≠ []) (k : Ky) : inBK (E + e) (shB b N) (phK e b k) = inBK E N k := by
  have hl : (shB b N).length = N.length := by
    cases N with
    | nil => exact absurd rfl hN
    | cons x xs => rfl
  rw [Bool.eq_iff_iff, inBK_iff, inBK_iff, hl]
  unfold phK
  dsimp only
  constructor
  · rintro ⟨h1, h2⟩
    exact ⟨by omega, fun i hi => by have := h2 i hi; rw [zz_bas] at this; exact sh_inj.mp this⟩
  · rintro ⟨h1, h2⟩
    exact ⟨by omega, fun i hi => by rw [zz_bas]; exact sh_inj.mpr (h2 i hi)⟩
theorem sh_drop {b : Nat} {ns : List Nat} (h : 2 ≤ ns.length) : (shB b ns).dropLast = shB b ns.dropLast := by
  cases ns with
  | nil => simp at h
  | cons x xs =>
    cases xs with
    | nil => simp at h
    | cons y ys => rfl
/-- clauses go up with the versions -/
theorem ph_lets (e b : Nat) {c : Cl} (hm : c.Mn) {k : Ky} (hk : Bk k) : letsK (phC e b c) (phK e b k) = letsK c k := by
  have kb : Bk c.p.key := bas_bas c.p.ns
  have pk : (phC e b c).p.key = phK e b c.p.key := ph_key e b c.p
  unfold letsK
  have s1 : (phC e b c).star = c.star := rfl
  have s2 : (phC e b c).sg = c.sg := rfl
  rw [s1, s2, pk]
  by_cases hs : c.star = true
  · rw [if_pos hs, if_pos hs]
    have : inBK (phC e b c).p.ep (phC e b c).p.ns (phK e b k) = inBK c.p.ep c.p.ns k := ph_in e b (hm.st hs).2 k
    rw [this]
  · rw [if_neg hs, if_neg hs]
    have lt1 : ∀ x y : List Nat, bas x = x → ltL (bas (shB b x)) (bas (shB b y)) = ltL x (bas y) := fun x y hx => by
      rw [ltL_bas, ltP_sh, ← ltL_bas, hx]
    have lt2 : ∀ x y : List Nat, bas x = x → ltL (bas (shB b y)) (bas (shB b x)) = ltL (bas y) x := fun x y hx => by
      rw [ltL_bas, ltP_sh, ← ltL_bas, hx]
    cases hsg : c.sg with
    | lt =>
      dsimp only
      show (if k.1 + e = c.p.ep + e then ltL (bas (shB b k.2.1)) (bas (shB b c.p.ns)) else decide (k.1 + e < c.p.ep + e)) = _
      by_cases h1 : k.1 = c.p.ep
      · rw [if_pos (by omega), if_pos h1, lt1 _ _ hk]
      · rw [if_neg (by omega), if_neg h1]
        exact decide_eq_decide.mpr (by omega)
    | gt =>
      dsimp only
      show (if c.p.ep + e = k.1 + e then ltL (bas (shB b c.p.ns)) (bas (shB b k.2.1)) else decide (c.p.ep + e < k.1 + e)) = _
      by_cases h1 : c.p.ep = k.1
      · rw [if_pos (by omega), if_pos h1, lt2 _ _ hk]
      · rw [if_neg (by omega), if_neg h1]
        exact decide_eq_decide.mpr (by omega)
    | ge => dsimp only; rw [ph_lt e b hk kb]
    | le => dsimp only; rw [ph_lt e b kb hk]
    | eq => dsimp only; exact decide_eq_decide.mpr (ph_inj e b hk kb)
    | ne => dsimp only; rw [decide_eq_decide.mpr (ph_inj e b hk kb)]
    | co =>
      dsimp only
      rw [ph_lt e b hk kb]
      have hns := hm.co hsg
      have : inBK (phC e b c).p.ep (phC e b c).p.ns.dropLast (phK e b k) = inBK c.p.ep c.p.ns.dropLast k := by
        show inBK (c.p.ep + e) (shB b c.p.ns).dropLast (phK e b k) = _
        rw [sh_drop hns]
        exact ph_in e b (fun z => by
          have := congrArg List.length z
          rw [List.length_dropLast, List.length_nil] at this
          omega) k
      rw [this]
theorem phC_mn {e b : Nat} {c : Cl} (h : c.Mn) : (phC e b c).Mn := ⟨fun z => ⟨(h.st z).1, by show shB b c.p.ns ≠ []; unfold shB; simp⟩, fun z => by
  have := h.co z
  show 2 ≤ (shB b c.p.ns).length
  unfold shB
  rw [List.length_cons, List.length_tail]
  omega⟩
/-- all, none, what is ahead of an epoch, from an epoch on -/
def allC : Cl := ⟨.ge, false, false, ⟨0, [0], none, none, some 0⟩⟩
def preC (q : Nat) : Cl := ⟨.lt, false, false, ⟨q, [0], none, none, none⟩⟩
def frmC (q : Nat) : Cl := ⟨.ge, false, false, ⟨q, [0], none, none, some 0⟩⟩
theorem frm_lets {q : Nat} {k : Ky} (hk : VK k) : letsK (frmC q) k = decide (q ≤ k.1) := by
  show (!ltK k (q, [], [0, 0])) = _
  obtain ⟨p, hp, rfl⟩ := hk
  unfold ltK
  dsimp only
  by_cases h1 : p.key.1 = q
  · rw [if_pos h1, decide_eq_true (by omega)]
    by_cases h2 : p.key.2.1 = []
    · rw [if_pos h2]
      have : ltL p.key.2.2 [0, 0] = false := tail_ge0 p.fo p.po p.dv
      rw [this]; rfl
    · rw [if_neg h2, ltL_nil_r]; rfl
  · rw [if_neg h1, Bool.eq_iff_iff]
    simp
theorem pre_lets {q : Nat} {k : Ky} : letsK (preC q) k = decide (k.1 < q) := by
  show (if k.1 = q then ltL k.2.1 [] else decide (k.1 < q)) = _
  by_cases h1 : k.1 = q
  · rw [if_pos h1, ltL_nil_r, decide_eq_false (by omega)]
  · rw [if_neg h1]
theorem all_lets {k : Ky} (hk : VK k) : letsK allC k = true := by
  have := frm_lets (q := 0) hk
  exact this.trans (decide_eq_true (Nat.zero_le _))
theorem mn_of (g : Sg) (p : Pt) (h : g ≠ .co) : (⟨g, false, false, p⟩ : Cl).Mn := ⟨fun z => (by cases z), fun z => absurd z h⟩
/-- a clause goes down again -/
theorem ph_back (e b : Nat) {c : Cl} (hm : c.Mn) (hn : c.p.ns ≠ []) : ∃ d : Cl, d.Mn ∧ ∀ k, VK k → letsK d k = letsK c (phK e b k) := by
  by_cases h1 : e ≤ c.p.ep
  · by_cases h2 : b ≤ zz c.p.ns 0
    · -- it is one that went up
      refine ⟨⟨c.sg, c.star, c.b, ⟨c.p.ep - e, (zz c.p.ns 0 - b) :: c.p.ns.tail, c.p.fo, c.p.po, c.p.dv⟩⟩, ⟨fun z => ⟨(hm.st z).1, by simp⟩, fun z => ?_⟩, fun k hk => ?_⟩
      · have := hm.co z
        show 2 ≤ ((zz c.p.ns 0 - b) :: c.p.ns.tail).length
        rw [List.length_cons, List.length_tail]
        omega
      · have hd : (⟨c.sg, c.star, c.b, ⟨c.p.ep - e, (zz c.p.ns 0 - b) :: c.p.ns.tail, c.p.fo, c.p.po, c.p.dv⟩⟩ : Cl).Mn := ⟨fun z => ⟨(hm.st z).1, by simp⟩, fun z => by
          have := hm.co z
          show 2 ≤ ((zz c.p.ns 0 - b) :: c.p.ns.tail).length
          rw [List.length_cons, List.length_tail]
          omega⟩
        rw [← ph_lets e b hd hk.bk]
        congr 1
        unfold phC phP shB
        dsimp only
        rw [zz_0, List.tail_cons, Nat.sub_add_cancel h1, Nat.sub_add_cancel h2]
        have : zz c.p.ns 0 :: c.p.ns.tail = c.p.ns := by
          cases e : c.p.ns with
          | nil => exact absurd e hn
          | cons x xs => rfl
        rw [this]
    · -- all that went up in its epoch is above it
      have above : ∀ k : Ky, k.1 + e = c.p.ep → ltL (bas c.p.ns) (phK e b k).2.1 = true ∧ ltL (phK e b k).2.1 (bas c.p.ns) = false := fun k hk => by
        have : ltL (bas c.p.ns) (phK e b k).2.1 = true := by
          show ltL (bas c.p.ns) (bas (shB b k.2.1)) = true
          rw [ltL_bas, ltP_iff]
          refine ⟨0, fun j hj => absurd hj (by omega), ?_⟩
          rw [zz_sh, if_pos rfl]
          omega
        exact ⟨this, ltL_asy this⟩
      have nin : ∀ (k : Ky) (M : List Nat), M ≠ [] → zz M 0 = zz c.p.ns 0 → inBK c.p.ep M (phK e b k) = false := fun k M hM hz => by
        cases q : inBK c.p.ep M (phK e b k) with
        | false => rfl
        | true =>
          have := (inBK_iff.mp q).2 0 (List.length_pos_iff.mpr hM)
          have e2 : zz (phK e b k).2.1 0 = zz k.2.1 0 + b := by
            show zz (bas (shB b k.2.1)) 0 = _
            rw [zz_bas, zz_sh, if_pos rfl]
          omega
      have ltk : ∀ k : Ky, ltK (phK e b k) c.p.key = decide (k.1 + e < c.p.ep) := fun k => by
        unfold ltK
        by_cases q : k.1 + e = c.p.ep
        · rw [if_pos (show (phK e b k).1 = c.p.key.1 from q), decide_eq_false (by omega)]
          obtain ⟨a1, a2⟩ := above k q
          rw [if_neg (fun z => by
            have a1 : ltL c.p.key.2.1 (phK e b k).2.1 = true := a1
            rw [z, ltL_irr] at a1; cases a1)]
          exact a2
        · rw [if_neg (show ¬ (phK e b k).1 = c.p.key.1 from q)]
          rfl
      have gtk : ∀ k : Ky, ltK c.p.key (phK e b k) = decide (c.p.ep ≤ k.1 + e) := fun k => by
        unfold ltK
        by_cases q : k.1 + e = c.p.ep
        · rw [if_pos (show c.p.key.1 = (phK e b k).1 from q.symm), decide_eq_true (by omega)]
          obtain ⟨a1, a2⟩ := above k q
          rw [if_neg (fun z => by
            have a1 : ltL c.p.key.2.1 (phK e b k).2.1 = true := a1
            rw [z, ltL_irr] at a1; cases a1)]
          exact a1
        · rw [if_neg (show ¬ c.p.key.1 = (phK e b k).1 from fun z => q z.symm)]
          exact decide_eq_decide.mpr (by show c.p.ep < k.1 + e ↔ _; omega)
      have nek : ∀ k : Ky, phK e b k ≠ c.p.key := fun k z => by
        have g1 := ltk k
        have g2 := gtk k
        rw [z, ltK_irr] at g1 g2
        by_cases q : k.1 + e < c.p.ep
        · rw [decide_eq_true q] at g1; cases g1
        · rw [decide_eq_true (by omega)] at g2; cases g2
      unfold letsK
      by_cases hs : c.star = true
      · have hb : ∀ k, inBK c.p.ep c.p.ns (phK e b k) = false := fun k => nin k _ hn rfl
        by_cases hq : c.sg = .eq
        · refine ⟨ltZ, mn_of _ _ (by simp), fun k hk => ?_⟩
          have := ltZ_no (k := k)
          unfold letsK at this
          rw [this, if_pos hs, hb, hq]; rfl
        · refine ⟨allC, mn_of _ _ (by simp), fun k hk => ?_⟩
          have := all_lets hk
          unfold letsK at this
          rw [this, if_pos hs, hb, decide_eq_false hq]; rfl
      · simp only [if_neg hs]
        have fin : ∀ (d : Cl) (f : Ky → Bool), d.Mn → (∀ k, VK k → letsK d k = f k) → ∃ d : Cl, d.Mn ∧ ∀ k, VK k → letsK d k = f k := fun d f h1 h2 => ⟨d, h1, h2⟩
        have conv : ∀ f : Ky → Bool, (∃ d : Cl, d.Mn ∧ ∀ k, VK k → letsK d k = f k) → ∃ d : Cl, d.Mn ∧ ∀ k, VK k → (if d.star = true then inBK d.p.ep d.p.ns k == decide (d.sg = .eq) else match d.sg with
            | .lt => if k.1 = d.p.ep then ltL k.2.1 (bas d.p.ns) else decide (k.1 < d.p.ep)
            | .gt => if d.p.ep = k.1 then ltL (bas d.p.ns) k.2.1 else decide (d.p.ep < k.1)
            | .ge => !ltK k d.p.key
            | .le => !ltK d.p.key k
            | .eq => decide (k = d.p.key)
            | .ne => !decide (k = d.p.key)
            | .co => !ltK k d.p.key && inBK d.p.ep d.p.ns.dropLast k) = f k := fun f h => h
        refine conv _ ?_
        cases hsg : c.sg with
        | lt =>
          refine ⟨preC (c.p.ep - e), mn_of _ _ (by simp), fun k hk => ?_⟩
          rw [pre_lets]
          dsimp only
          by_cases q : k.1 + e = c.p.ep
          · rw [if_pos (show (phK e b k).1 = c.p.ep from q), (above k q).2, decide_eq_false (by omega)]
          · rw [if_neg (show ¬ (phK e b k).1 = c.p.ep from q)]
            exact decide_eq_decide.mpr (by show k.1 < c.p.ep - e ↔ k.1 + e < c.p.ep; omega)
        | gt =>
          refine ⟨frmC (c.p.ep - e), mn_of _ _ (by simp), fun k hk => ?_⟩
          rw [frm_lets hk]
          dsimp only
          by_cases q : k.1 + e = c.p.ep
          · rw [if_pos (show c.p.ep = (phK e b k).1 from q.symm), (above k q).1, decide_eq_true (by omega)]
          · rw [if_neg (show ¬ c.p.ep = (phK e b k).1 from fun z => q z.symm)]
            exact decide_eq_decide.mpr (by show c.p.ep - e ≤ k.1 ↔ c.p.ep < k.1 + e; omega)
        | ge =>
          refine ⟨frmC (c.p.ep - e), mn_of _ _ (by simp), fun k hk => ?_⟩
          rw [frm_lets hk]
          dsimp only
          rw [ltk k, Bool.eq_iff_iff]
          simp
        | le =>
          refine ⟨preC (c.p.ep - e), mn_of _ _ (by simp), fun k hk => ?_⟩
          rw [pre_lets]
          dsimp only
          rw [gtk k, Bool.eq_iff_iff]
          simp
          omega
        | eq =>
          refine ⟨ltZ, mn_of _ _ (by simp), fun k hk => ?_⟩
          rw [ltZ_no]
          exact (decide_eq_false (nek k)).symm
        | ne =>
          refine ⟨allC, mn_of _ _ (by simp), fun k hk => ?_⟩
          rw [all_lets hk]
          dsimp only
          rw [decide_eq_false (nek k)]
          rfl
        | co =>
          refine ⟨ltZ, mn_of _ _ (by simp), fun k hk => ?_⟩
          have hns := hm.co hsg
          rw [ltZ_no]
          dsimp only
          rw [nin k c.p.ns.dropLast (fun z => by
            have := congrArg List.length z
            rw [List.length_dropLast, List.length_nil] at this
            omega) (by rw [List.dropLast_eq_take, zz_take, if_pos (by omega)]), Bool.and_false]
  · -- an epoch that is below all
    have hne : ∀ k : Ky, (phK e b k).1 ≠ c.p.ep := fun k => by show k.1 + e ≠ c.p.ep; omega
    have hgt : ∀ k : Ky, c.p.ep < (phK e b k).1 := fun k => by show c.p.ep < k.1 + e; omega
    have nin : ∀ (k : Ky) (M : List Nat), inBK c.p.ep M (phK e b k) = false := fun k M => by
      unfold inBK
      rw [decide_eq_false (hne k), Bool.false_and]
    have lt1 : ∀ k : Ky, ltK (phK e b k) c.p.key = false := fun k => by
      unfold ltK
      rw [if_neg (show ¬ (phK e b k).1 = c.p.key.1 from hne k)]
      have := hgt k
      exact decide_eq_false (by show ¬ (phK e b k).1 < c.p.ep; omega)
    have lt2 : ∀ k : Ky, ltK c.p.key (phK e b k) = true := fun k => by
      unfold ltK
      rw [if_neg (show ¬ c.p.key.1 = (phK e b k).1 from fun z => hne k z.symm)]
      exact decide_eq_true (hgt k)
    have nek : ∀ k : Ky, phK e b k ≠ c.p.key := fun k z => hne k (by rw [z]; rfl)
    have yes : (∀ k, letsK c (phK e b k) = true) → ∃ d : Cl, d.Mn ∧ ∀ k, VK k → letsK d k = letsK c (phK e b k) := fun h => ⟨allC, mn_of _ _ (by simp), fun k hk => by rw [all_lets hk, h k]⟩
    have no : (∀ k, letsK c (phK e b k) = false) → ∃ d : Cl, d.Mn ∧ ∀ k, VK k → letsK d k = letsK c (phK e b k) := fun h => ⟨ltZ, mn_of _ _ (by simp), fun k hk => by rw [ltZ_no, h k]⟩
    by_cases hs : c.star = true
    · by_cases hq : c.sg = .eq
      · exact no fun k => by unfold letsK; rw [if_pos hs, nin, hq]; rfl
      · exact yes fun k => by unfold letsK; rw [if_pos hs, nin, decide_eq_false hq]; rfl
    · cases hsg : c.sg with
      | lt =>
        exact no fun k => by
          unfold letsK
          rw [if_neg hs, hsg]
          dsimp only
          rw [if_neg (hne k)]
          have := hgt k
          exact decide_eq_false (by omega)
      | gt =>
        exact yes fun k => by
          unfold letsK
          rw [if_neg hs, hsg]
          dsimp only
          rw [if_neg (fun z => hne k z.symm)]
          exact decide_eq_true (hgt k)
      | ge =>
        exact yes fun k => by
          unfold letsK
          rw [if_neg hs, hsg]
          dsimp only
          rw [lt1 k]; rfl
      | le =>
        exact no fun k => by
          unfold letsK
          rw [if_neg hs, hsg]
          dsimp only
          rw [lt2 k]; rfl
      | eq =>
        exact no fun k => by
          unfold letsK
          rw [if_neg hs, hsg]
          dsimp only
          rw [decide_eq_false (nek k)]
      | ne =>
        exact yes fun k => by
          unfold letsK
          rw [if_neg hs, hsg]
          dsimp only
          rw [decide_eq_false (nek k)]; rfl
      | co =>
        exact no fun k => by
          unfold letsK
          rw [if_neg hs, hsg]
          dsimp only
          rw [nin, Bool.and_false]
end Dn

set_option maxHeartbeats 4000000
namespace Dn
open PySem PySem.Spec PyProof.Rows L2 SX
open TL (numL pre joinL)
end Dn

set_option maxHeartbeats 4000000
namespace Dn
open PySem PySem.Spec PyProof.Rows L2 SX
open TL (numL pre joinL)
theorem sortK_gk {Bd L : Nat} {ks : List Ky} (h : ∀ k ∈ ks, Gk Bd L k) : ∀ k ∈ sortK ks, Gk Bd L k := fun k hk => h k (mem_sortK.mp hk)
theorem tells_sort {R : List Cl} {G B : List Ky} : Tells R (sortK G) (sortK B) ↔ Tells R G B := by
  unfold Tells
  constructor
  · rintro ⟨h1, h2⟩
    exact ⟨fun g hg => h1 g (mem_sortK.mpr hg), fun b hb => h2 b (mem_sortK.mpr hb)⟩
  · rintro ⟨h1, h2⟩
    exact ⟨fun g hg => h1 g (mem_sortK.mp hg), fun b hb => h2 b (mem_sortK.mp hb)⟩
def toldK (G B : List Ky) : Option (List Cl) := tellK (sortK G) (sortK B)
theorem sortK_congr {a b : List Ky} (h : ∀ k, k ∈ a ↔ k ∈ b) : sortK a = sortK b := srt_unique (srt_sortK a) (srt_sortK b) fun k => by rw [mem_sortK, mem_sortK]; exact h k
theorem told_congr {G B G' B' : List Ky} (h1 : ∀ k, k ∈ G ↔ k ∈ G') (h2 : ∀ k, k ∈ B ↔ k ∈ B') : toldK G B = toldK G' B' := by
  unfold toldK
  rw [sortK_congr h1, sortK_congr h2]
theorem told_some {G B : List Ky} (h : ∀ k ∈ B, k ∉ G) : ∃ T, toldK G B = some T := by
  cases e : toldK G B with
  | some T => exact ⟨T, rfl⟩
  | none =>
    obtain ⟨k, h1, h2⟩ := tell_none.mp e
    exact absurd (mem_sortK.mp h1) (h k (mem_sortK.mp h2))
section
variable {Bd L : Nat} (hBd : Bd ≤ 10000000000) (hL : L ≤ 30)
include hBd hL
theorem told_ok {G B : List Ky} {T : List Cl} (hG : ∀ k ∈ G, Gk Bd L k) (hB : ∀ k ∈ B, Gk Bd L k) (h : toldK G B = some T) : (∀ c ∈ T, c.Wg) ∧ Tells T G B ∧ (∀ R : List Cl, (∀ c ∈ R, c.Mn) → Tells R G B → T.length ≤ R.length) ∧ T.length ≤ B.length + 2 := by
  have := tell_ok (srt_sortK G) (sortK_gk hG) (sortK_gk hB) hBd hL h
  have hl := sortK_len B
  exact ⟨this.wg, tells_sort.mp this.tells, fun R hR ht => this.min R hR (tells_sort.mpr ht), by have := this.len; omega⟩
theorem told_shift {G B : List Ky} {e b : Nat} {T T' : List Cl} (hG : ∀ k ∈ G, Gk Bd L k) (hB : ∀ k ∈ B, Gk Bd L k) (hG' : ∀ k ∈ G.map (phK e b), Gk Bd L k) (hB' : ∀ k ∈ B.map (phK e b), Gk Bd L k) (h : toldK G B = some T) (h' : toldK (G.map (phK e b)) (B.map (phK e b)) = some T') : T'.length = T.length := by
  obtain ⟨w1, t1, m1, _⟩ := told_ok hBd hL hG hB h
  obtain ⟨w2, t2, m2, _⟩ := told_ok hBd hL hG' hB' h'
  have vk : ∀ k, Gk Bd L k → VK k := fun k hk => hk.vk (by omega) (by omega)
  refine Nat.le_antisymm ?_ ?_
  · have := m2 (T.map (phC e b)) (fun c hc => by
      obtain ⟨d, hd, rfl⟩ := List.mem_map.mp hc
      exact phC_mn (w1 d hd).mn) ⟨fun g hg c hc => ?_, fun k hk => ?_⟩
    · rw [List.length_map] at this
      exact this
    · obtain ⟨g, hg', rfl⟩ := List.mem_map.mp hg
      obtain ⟨d, hd, rfl⟩ := List.mem_map.mp hc
      rw [ph_lets e b (w1 d hd).mn (hG g hg').bs]
      exact t1.1 g hg' d hd
    · obtain ⟨k, hk', rfl⟩ := List.mem_map.mp hk
      obtain ⟨d, hd, q⟩ := t1.2 k hk'
      refine ⟨phC e b d, List.mem_map.mpr ⟨d, hd, rfl⟩, ?_⟩
      rw [ph_lets e b (w1 d hd).mn (hB k hk').bs]
      exact q
  · classical
    have ex : ∀ c : Cl, ∃ d : Cl, c ∈ T' → d.Mn ∧ ∀ k, VK k → letsK d k = letsK c (phK e b k) := fun c => by
      by_cases hc : c ∈ T'
      · obtain ⟨d, h1, h2⟩ := ph_back e b (w2 c hc).mn (w2 c hc).wf.ne
        exact ⟨d, fun _ => ⟨h1, h2⟩⟩
      · exact ⟨c, fun z => absurd z hc⟩
    have := m1 (T'.map fun c => Classical.choose (ex c)) (fun d hd => by
      obtain ⟨c, hc, rfl⟩ := List.mem_map.mp hd
      exact (Classical.choose_spec (ex c) hc).1) ⟨fun g hg d hd => ?_, fun k hk => ?_⟩
    · rw [List.length_map] at this
      exact this
    · obtain ⟨c, hc, rfl⟩ := List.mem_map.mp hd
      rw [(Classical.choose_spec (ex c) hc).2 g (vk g (hG g hg))]
      exact t2.1 _ (List.mem_map.mpr ⟨g, hg, rfl⟩) c hc
    · obtain ⟨c, hc, q⟩ := t2.2 _ (List.mem_map.mpr ⟨k, hk, rfl⟩)
      refine ⟨_, List.mem_map.mpr ⟨c, hc, rfl⟩, ?_⟩
      rw [(Classical.choose_spec (ex c) hc).2 k (vk k (hB k hk))]
      exact q
end
theorem lets_all_iff {cs : List Cl} {p : Pt} : letsAll cs p = true ↔ ∀ c ∈ cs, letsK c p.key = true := by
  unfold letsAll
  rw [List.all_eq_true]
  exact ⟨fun h c hc => by rw [← lets_K]; exact h c hc, fun h c hc => by rw [lets_K]; exact h c hc⟩
theorem lets_tells {T : List Cl} {G B : List Pt} (h : Tells T (G.map Pt.key) (B.map Pt.key)) : (∀ p ∈ G, letsAll T p = true) ∧ ∀ p ∈ B, letsAll T p = false := by
  refine ⟨fun p hp => lets_all_iff.mpr fun c hc => h.1 _ (List.mem_map.mpr ⟨p, hp, rfl⟩) c hc, fun p hp => ?_⟩
  cases e : letsAll T p with
  | false => rfl
  | true =>
    obtain ⟨c, hc, q⟩ := h.2 _ (List.mem_map.mpr ⟨p, hp, rfl⟩)
    rw [lets_all_iff.mp e c hc] at q
    cases q
end Dn

set_option maxHeartbeats 4000000
namespace Dn
open PySem PySem.Spec PyProof.Rows L2 SX
open TL (numL pre joinL)
def ptB (p : Pt) : Bool := !p.ns.isEmpty && decide (p.ns.length ≤ 8) && p.ns.all (fun n => decide (n ≤ 1000000000)) && decide (p.ep ≤ 1000000000) &&
  (match p.fo with
    | none => true
    | some (x, n) => decide (x ∈ WS) && decide (n ≤ 1000000000)) &&
  (match p.po with
    | none => true
    | some n => decide (n ≤ 1000000000)) &&
  (match p.dv with
    | none => true
    | some n => decide (n ≤ 1000000000))
theorem ptB_ok {p : Pt} (h : ptB p = true) : p.Wf ∧ p.Small := by
  unfold ptB at h
  simp only [Bool.and_eq_true, Bool.not_eq_true', decide_eq_true_eq, List.all_eq_true] at h
  obtain ⟨⟨⟨⟨⟨⟨h1, h2⟩, h3⟩, h4⟩, h5⟩, h6⟩, h7⟩ := h
  have sm : ∀ n : Nat, n ≤ 1000000000 → Sm n := fun n hn => by show n < 10 ^ 24; omega
  have f5 : ∀ x n, p.fo = some (x, n) → x ∈ WS ∧ n ≤ 1000000000 := fun x n e => by
    rw [e] at h5
    simpa using h5
  have f6 : ∀ n, p.po = some n → n ≤ 1000000000 := fun n e => by
    rw [e] at h6
    simpa using h6
  have f7 : ∀ n, p.dv = some n → n ≤ 1000000000 := fun n e => by
    rw [e] at h7
    simpa using h7
  have h0 : p.ns ≠ [] := by
    intro z
    rw [z] at h1
    cases h1
  exact ⟨⟨h0, by omega, fun n hn => sm n (h3 n hn), sm _ h4, fun x n e => ⟨(f5 x n e).1, sm n (f5 x n e).2⟩, fun n e => sm n (f6 n e), fun n e => sm n (f7 n e)⟩, ⟨h2, h3, h4, fun x n e => (f5 x n e).2, f6, f7⟩⟩
end Dn

set_option maxHeartbeats 4000000
namespace Dn
open PySem PySem.Spec PyProof.Rows L2
noncomputable section
def b__law_moved_k40 : Sx :=
 (mSeq (mAsg (mCall m__law_parts (mCons (mVar 0) mNil)) (mgTup 5 (mgCons (mgName 2) (mgCons (mgName 3) (mgCons (mgName 4) (mgCons (mgName 5) (mgCons (mgName 6) mgNil)))))))
 (mRet (mCall m__law_text (mCons (mVar 2) (mCons (mOp addD (mFz (mLst (mCons (mOp addD (mOp ixD (mVar 3) (mC (.int 0))) (mVar 1)) mNil))) (mSl (mVar 3) (mPart (mC (.int 1))) mNo)) (mCons (mVar 4) (mCons (mVar 5) (mCons (mVar 6) mNil))))))))
def m__law_moved_k40 : List SD → W → Option (SD × W) := mFn 2 7 b__law_moved_k40
def tC1__law_right_k40 : Tx :=
 (mNot (mTru (mCall m__law_lets (mCons (mVar 3) (mCons (mVar 4) mNil)))))
def eC2__law_right_k40 : Ex :=
 (mC (.int 1))
def tC3__law_right_k40 : Tx :=
 (mTru (mCall m__law_lets (mCons (mVar 3) (mCons (mVar 4) mNil))))
def eC4__law_right_k40 : Ex :=
 (mC (.int 1))
def b__law_right_k40 : Sx :=
 (mSeq (mSet 3 (mCall m_telling (mCons (mVar 0) (mCons (mVar 1) mNil))))
 (mSeq (mIf (mOr (mTru (mOp isD (mVar 3) (mC .none))) (mTru (mOp isD (mVar 2) (mC .none)))) (mRet (mAndV (mOp isD (mVar 3) (mC .none)) (mOp isD (mVar 2) (mC .none)))) mNx)
 (mSeq (mIf (mOr (mNot (mTru (mIs isTup (mVar 3)))) (mTru (mOp neD (mB lenD (mCons (mVar 3) mNil)) (mVar 2)))) (mRet (mC (.bool false))) mNx)
 (mSeq (mIf (mTru (mOp neD (mFz (mLc (mItems (mVar 0)) (mgName 4) tC1__law_right_k40 eC2__law_right_k40 [4])) (mFz (mLst mNil)))) (mRet (mC (.bool false))) mNx)
 (mRet (mOp eqD (mFz (mLc (mItems (mVar 1)) (mgName 4) tC3__law_right_k40 eC4__law_right_k40 [4])) (mFz (mLst mNil))))))))
def m__law_right_k40 : List SD → W → Option (SD × W) := mFn 3 5 b__law_right_k40
def b__law_rows_k40 : Sx :=
 (mSeq (mSetO 0 (mLst (mCons (mTup (mCons (mC (.str "")) (mCons (mC (.str "")) (mCons (mC (.int 0)) mNil)))) (mCons (mTup (mCons (mC (.str "")) (mCons (mC (.str "1")) (mCons (mC (.int 1)) mNil)))) (mCons (mTup (mCons (mC (.str "1")) (mCons (mC (.str "")) (mCons (mC (.int 0)) mNil)))) (mCons (mTup (mCons (mC (.str "1")) (mCons (mC (.str "1.0")) (mCons (mC .none) mNil)))) (mCons (mTup (mCons (mC (.str "1 1.0")) (mCons (mC (.str "2")) (mCons (mC (.int 1)) mNil)))) (mCons (mTup (mCons (mC (.str "1 2")) (mCons (mC (.str "3")) (mCons (mC (.int 1)) mNil)))) mNil))))))))
 (mSeq (mSetO 0 (mCatO (mVar 0) (mFz (mLst (mCons (mTup (mCons (mC (.str "1 2")) (mCons (mC (.str "0.5")) (mCons (mC (.int 1)) mNil)))) (mCons (mTup (mCons (mC (.str "1 2")) (mCons (mC (.str "0.5 3")) (mCons (mC (.int 2)) mNil)))) (mCons (mTup (mCons (mC (.str "1 3")) (mCons (mC (.str "2")) (mCons (mC (.int 1)) mNil)))) (mCons (mTup (mCons (mC (.str "1 3")) (mCons (mC (.str "2 2.1 2.5rc1")) (mCons (mC (.int 1)) mNil)))) mNil))))))))
 (mSeq (mSetO 0 (mCatO (mVar 0) (mFz (mLst (mCons (mTup (mCons (mC (.str "1 3")) (mCons (mC (.str "2 1.5")) (mCons (mC (.int 2)) mNil)))) (mCons (mTup (mCons (mC (.str "1.4 1.9")) (mCons (mC (.str "1.3 2")) (mCons (mC (.int 1)) mNil)))) (mCons (mTup (mCons (mC (.str "1.4.2 1.9")) (mCons (mC (.str "1.3 2")) (mCons (mC (.int 1)) mNil)))) (mCons (mTup (mCons (mC (.str "1.4.2 1.9")) (mCons (mC (.str "1.4 2")) (mCons (mC (.int 1)) mNil)))) mNil))))))))
 (mSeq (mSetO 0 (mCatO (mVar 0) (mFz (mLst (mCons (mTup (mCons (mC (.str "1.4.2 1.9")) (mCons (mC (.str "1.4.post7 2")) (mCons (mC (.int 1)) mNil)))) (mCons (mTup (mCons (mC (.str "1.4.2 1.9")) (mCons (mC (.str "1.4.1 2")) (mCons (mC (.int 2)) mNil)))) (mCons (mTup (mCons (mC (.str "1.0a1 1.0")) (mCons (mC (.str "1.0.1 0.9")) (mCons (mC (.int 1)) mNil)))) mNil)))))))
 (mSeq (mSetO 0 (mCatO (mVar 0) (mFz (mLst (mCons (mTup (mCons (mC (.str "1.0a1 1.0")) (mCons (mC (.str "1.0.1 0.9 1.0a0")) (mCons (mC (.int 1)) mNil)))) (mCons (mTup (mCons (mC (.str "1.0a1 1.0")) (mCons (mC (.str "1.0.1 0.9 1.0a0 1.0.post1")) (mCons (mC (.int 2)) mNil)))) mNil))))))
 (mSeq (mSetO 0 (mCatO (mVar 0) (mFz (mLst (mCons (mTup (mCons (mC (.str "1.0a1 1.0")) (mCons (mC (.str "1.0b1")) (mCons (mC (.int 1)) mNil)))) (mCons (mTup (mCons (mC (.str "1.0a1 1.0")) (mCons (mC (.str "1.0b1 1.0rc1")) (mCons (mC (.int 2)) mNil)))) (mCons (mTup (mCons (mC (.str "1 1!1")) (mCons (mC (.str "2")) (mCons (mC (.int 1)) mNil)))) mNil)))))))
 (mSeq (mSetO 0 (mCatO (mVar 0) (mFz (mLst (mCons (mTup (mCons (mC (.str "1 1!1")) (mCons (mC (.str "2 3 4")) (mCons (mC (.int 3)) mNil)))) (mCons (mTup (mCons (mC (.str "1.0 1.2")) (mCons (mC (.str "1.1 1.3 0.9")) (mCons (mC (.int 3)) mNil)))) (mCons (mTup (mCons (mC (.str "1.1.dev0 1.2")) (mCons (mC (.str "1.0 2")) (mCons (mC (.int 1)) mNil)))) mNil)))))))
 (mSeq (mSetO 0 (mCatO (mVar 0) (mFz (mLst (mCons (mTup (mCons (mC (.str "1 1.0.0.1")) (mCons (mC (.str "1.0.1 2")) (mCons (mC (.int 1)) mNil)))) (mCons (mTup (mCons (mC (.str "1.2 1.2.1")) (mCons (mC (.str "1.2rc1 1.3")) (mCons (mC (.int 1)) mNil)))) (mCons (mTup (mCons (mC (.str "1.2 1.2.1")) (mCons (mC (.str "1.2rc1 1.3 1.2.0.5")) (mCons (mC (.int 2)) mNil)))) mNil)))))))
 (mSeq (mSetO 0 (mCatO (mVar 0) (mFz (mLst (mCons (mTup (mCons (mC (.str "2 1 3")) (mCons (mC (.str "2.0 1")) (mCons (mC .none) mNil)))) (mCons (mTup (mCons (mC (.str "1a1 1")) (mCons (mC (.str "1a1.post0 1a1.post0.dev0")) (mCons (mC (.int 2)) mNil)))) mNil))))))
 (mSeq (mAppend 0 (mTup (mCons (mC (.str "1 1.post1")) (mCons (mC (.str "1.post0 1.post2")) (mCons (mC (.int 2)) mNil)))))
 (mSeq (mSetO 0 (mCatO (mVar 0) (mFz (mLst (mCons (mTup (mCons (mC (.str "1 4")) (mCons (mC (.str "2 2.1 3 3.1rc1 2.9.post1")) (mCons (mC (.int 2)) mNil)))) (mCons (mTup (mCons (mC (.str "1.5 1.7")) (mCons (mC (.str "1.6 1.6.1 1.6.2 1.6rc1")) (mCons (mC (.int 1)) mNil)))) mNil))))))
 (mSeq (mSetO 0 (mCatO (mVar 0) (mFz (mLst (mCons (mTup (mCons (mC (.str "1 2!1")) (mCons (mC (.str "1!1 1!2 1!1.5")) (mCons (mC (.int 2)) mNil)))) (mCons (mTup (mCons (mC (.str "1.0.0.0.0.2 1.0.0.0.0.4")) (mCons (mC (.str "1.0.0.0.0.1 1.0.0.0.0.5")) (mCons (mC (.int 2)) mNil)))) mNil))))))
 (mRet (mOp addD (mVar 0) (mFz (mLst (mCons (mTup (mCons (mC (.str "1.1 1.2 1.3")) (mCons (mC (.str "1.1.1 1.1.2 1.2.0.1")) (mCons (mC (.int 3)) mNil)))) (mCons (mTup (mCons (mC (.str "1.post9 1.1")) (mCons (mC (.str "1 1.post3 1.post8 2")) (mCons (mC (.int 1)) mNil)))) mNil))))))))))))))))))
def m__law_rows_k40 : List SD → W → Option (SD × W) := mFn 0 1 b__law_rows_k40
def tC1_law_k40 : Tx :=
 (mTru (mOp neD (mVar 11) (mC (.str ""))))
def eC2_law_k40 : Ex :=
 (mCall m__law_moved_k40 (mCons (mVar 11) (mCons (mVar 2) mNil)))
def tC3_law_k40 : Tx :=
 (mTru (mOp neD (mVar 11) (mC (.str ""))))
def eC4_law_k40 : Ex :=
 (mCall m__law_moved_k40 (mCons (mVar 11) (mCons (mVar 2) mNil)))
def bF5_law_k40 : Sx :=
 (mSeq (mSet 6 (mFz (mLc (mItems (mMtS splitD (mVar 3) (mCons (mC (.str " ")) mNil))) (mgName 11) tC1_law_k40 eC2_law_k40 [11])))
 (mSeq (mSet 7 (mFz (mLc (mItems (mMtS splitD (mVar 4) (mCons (mC (.str " ")) mNil))) (mgName 11) tC3_law_k40 eC4_law_k40 [11])))
 (mSeq (mPar 8 9 (mCall m__law_draw (mCons (mVar 1) (mCons (mOp addD (mB lenD (mCons (mVar 6) mNil)) (mC (.int 1))) mNil))) (mCall m__law_draw (mCons (mVar 1) (mCons (mOp addD (mB lenD (mCons (mVar 7) mNil)) (mC (.int 1))) mNil))))
 (mIf (mNot (mTru (mCall m__law_right_k40 (mCons (mB tupleD (mCons (mOp addD (mSl (mVar 6) (mPart (mVar 8)) mNo) (mSl (mVar 6) mNo (mPart (mVar 8)))) mNil)) (mCons (mB tupleD (mCons (mOp addD (mSl (mVar 7) (mPart (mVar 9)) mNo) (mSl (mVar 7) mNo (mPart (mVar 9)))) mNil)) (mCons (mVar 5) mNil)))))) (mRet (mC (.bool false))) mNx))))
def bF6_law_k40 : Sx :=
 (mIf (mNot (mTru (mCall m__law_right_k40 (mCons (mB tupleD (mCons (mMtS splitD (mVar 3) (mCons (mC (.str " ")) mNil)) mNil)) (mCons (mB tupleD (mCons (mMtS splitD (mVar 4) (mCons (mC (.str " ")) mNil)) mNil)) (mCons (mVar 5) mNil)))))) (mRet (mC (.bool false))) mNx)
def b_law_k40 : Sx :=
 (mSeq (mSet 2 (mCall m__law_of (mCons (mVar 1) (mCons (mFz (mLst (mCons (mC (.int 0)) (mCons (mC (.int 1)) (mCons (mC (.int 5)) (mCons (mCall m__law_draw (mCons (mVar 1) (mCons (mOp powI (mC (.int 10)) (mC (.int 6))) mNil))) mNil)))))) mNil))))
 (mSeq (mFor (mItems (mCall m__law_rows_k40 mNil)) (mgTup 3 (mgCons (mgName 3) (mgCons (mgName 4) (mgCons (mgName 5) mgNil)))) bF5_law_k40)
 (mSeq (mSet 10 (mFz (mLst (mCons (mTup (mCons (mC (.str "0 0.0.1")) (mCons (mC (.str "0.1 1")) (mCons (mC (.int 1)) mNil)))) (mCons (mTup (mCons (mC (.str "0 1")) (mCons (mC (.str "0.dev0")) (mCons (mC (.int 1)) mNil)))) (mCons (mTup (mCons (mC (.str "0.dev0 0.dev1")) (mCons (mC (.str "0.dev2")) (mCons (mC (.int 1)) mNil)))) (mCons (mTup (mCons (mC (.str "0.dev0 0.dev1")) (mCons (mC (.str "0")) (mCons (mC (.int 1)) mNil)))) mNil)))))))
 (mSeq (mFor (mItems (mVar 10)) (mgTup 3 (mgCons (mgName 3) (mgCons (mgName 4) (mgCons (mgName 5) mgNil)))) bF6_law_k40)
 (mRet (mC (.bool true)))))))
end
end Dn

set_option maxHeartbeats 4000000
namespace Dn
open PySem PySem.Spec PyProof.Rows L2 SX
open TL (numL pre joinL)
structure Rw40 where
  gt : Str
  bt : Str
  gs : List Pt
  bs : List Pt
  many : Option Nat
def r40M (o : Option Nat) : PyData := match o with
  | none => .none
  | some n => .int (n : Int)
def r40D (r : Rw40) : PyData := .tuple [.str r.gt, .str r.bt, r40M r.many]
def oD : Option Pt → PyData
  | none => .str ""
  | some p => vD p
def ossOf (gs : List Pt) : List (Option Pt) := if gs.isEmpty then [none] else gs.map some
def rw40 : List Rw40 := [
  ⟨"", "", [], [], some 0⟩,
  ⟨"", "1", [], [⟨0, [1], none, none, none⟩], some 1⟩,
  ⟨"1", "", [⟨0, [1], none, none, none⟩], [], some 0⟩,
  ⟨"1", "1.0", [⟨0, [1], none, none, none⟩], [⟨0, [1, 0], none, none, none⟩], none⟩,
  ⟨"1 1.0", "2", [⟨0, [1], none, none, none⟩, ⟨0, [1, 0], none, none, none⟩], [⟨0, [2], none, none, none⟩], some 1⟩,
  ⟨"1 2", "3", [⟨0, [1], none, none, none⟩, ⟨0, [2], none, none, none⟩], [⟨0, [3], none, none, none⟩], some 1⟩,
  ⟨"1 2", "0.5", [⟨0, [1], none, none, none⟩, ⟨0, [2], none, none, none⟩], [⟨0, [0, 5], none, none, none⟩], some 1⟩,
  ⟨"1 2", "0.5 3", [⟨0, [1], none, none, none⟩, ⟨0, [2], none, none, none⟩], [⟨0, [0, 5], none, none, none⟩, ⟨0, [3], none, none, none⟩], some 2⟩,
  ⟨"1 3", "2", [⟨0, [1], none, none, none⟩, ⟨0, [3], none, none, none⟩], [⟨0, [2], none, none, none⟩], some 1⟩,
  ⟨"1 3", "2 2.1 2.5rc1", [⟨0, [1], none, none, none⟩, ⟨0, [3], none, none, none⟩], [⟨0, [2], none, none, none⟩, ⟨0, [2, 1], none, none, none⟩, ⟨0, [2, 5], some ([114, 99], 1), none, none⟩], some 1⟩,
  ⟨"1 3", "2 1.5", [⟨0, [1], none, none, none⟩, ⟨0, [3], none, none, none⟩], [⟨0, [2], none, none, none⟩, ⟨0, [1, 5], none, none, none⟩], some 2⟩,
  ⟨"1.4 1.9", "1.3 2", [⟨0, [1, 4], none, none, none⟩, ⟨0, [1, 9], none, none, none⟩], [⟨0, [1, 3], none, none, none⟩, ⟨0, [2], none, none, none⟩], some 1⟩,
  ⟨"1.4.2 1.9", "1.3 2", [⟨0, [1, 4, 2], none, none, none⟩, ⟨0, [1, 9], none, none, none⟩], [⟨0, [1, 3], none, none, none⟩, ⟨0, [2], none, none, none⟩], some 1⟩,
  ⟨"1.4.2 1.9", "1.4 2", [⟨0, [1, 4, 2], none, none, none⟩, ⟨0, [1, 9], none, none, none⟩], [⟨0, [1, 4], none, none, none⟩, ⟨0, [2], none, none, none⟩], some 1⟩,
  ⟨"1.4.2 1.9", "1.4.post7 2", [⟨0, [1, 4, 2], none, none, none⟩, ⟨0, [1, 9], none, none, none⟩], [⟨0, [1, 4], none, some 7, none⟩, ⟨0, [2], none, none, none⟩], some 1⟩,
  ⟨"1.4.2 1.9", "1.4.1 2", [⟨0, [1, 4, 2], none, none, none⟩, ⟨0, [1, 9], none, none, none⟩], [⟨0, [1, 4, 1], none, none, none⟩, ⟨0, [2], none, none, none⟩], some 2⟩,
  ⟨"1.0a1 1.0", "1.0.1 0.9", [⟨0, [1, 0], some ([97], 1), none, none⟩, ⟨0, [1, 0], none, none, none⟩], [⟨0, [1, 0, 1], none, none, none⟩, ⟨0, [0, 9], none, none, none⟩], some 1⟩,
  ⟨"1.0a1 1.0", "1.0.1 0.9 1.0a0", [⟨0, [1, 0], some ([97], 1), none, none⟩, ⟨0, [1, 0], none, none, none⟩], [⟨0, [1, 0, 1], none, none, none⟩, ⟨0, [0, 9], none, none, none⟩, ⟨0, [1, 0], some ([97], 0), none, none⟩], some 1⟩,
  ⟨"1.0a1 1.0", "1.0.1 0.9 1.0a0 1.0.post1", [⟨0, [1, 0], some ([97], 1), none, none⟩, ⟨0, [1, 0], none, none, none⟩], [⟨0, [1, 0, 1], none, none, none⟩, ⟨0, [0, 9], none, none, none⟩, ⟨0, [1, 0], some ([97], 0), none, none⟩, ⟨0, [1, 0], none, some 1, none⟩], some 2⟩,
  ⟨"1.0a1 1.0", "1.0b1", [⟨0, [1, 0], some ([97], 1), none, none⟩, ⟨0, [1, 0], none, none, none⟩], [⟨0, [1, 0], some ([98], 1), none, none⟩], some 1⟩,
  ⟨"1.0a1 1.0", "1.0b1 1.0rc1", [⟨0, [1, 0], some ([97], 1), none, none⟩, ⟨0, [1, 0], none, none, none⟩], [⟨0, [1, 0], some ([98], 1), none, none⟩, ⟨0, [1, 0], some ([114, 99], 1), none, none⟩], some 2⟩,
  ⟨"1 1!1", "2", [⟨0, [1], none, none, none⟩, ⟨1, [1], none, none, none⟩], [⟨0, [2], none, none, none⟩], some 1⟩,
  ⟨"1 1!1", "2 3 4", [⟨0, [1], none, none, none⟩, ⟨1, [1], none, none, none⟩], [⟨0, [2], none, none, none⟩, ⟨0, [3], none, none, none⟩, ⟨0, [4], none, none, none⟩], some 3⟩,
  ⟨"1.0 1.2", "1.1 1.3 0.9", [⟨0, [1, 0], none, none, none⟩, ⟨0, [1, 2], none, none, none⟩], [⟨0, [1, 1], none, none, none⟩, ⟨0, [1, 3], none, none, none⟩, ⟨0, [0, 9], none, none, none⟩], some 3⟩,
  ⟨"1.1.dev0 1.2", "1.0 2", [⟨0, [1, 1], none, none, some 0⟩, ⟨0, [1, 2], none, none, none⟩], [⟨0, [1, 0], none, none, none⟩, ⟨0, [2], none, none, none⟩], some 1⟩,
  ⟨"1 1.0.0.1", "1.0.1 2", [⟨0, [1], none, none, none⟩, ⟨0, [1, 0, 0, 1], none, none, none⟩], [⟨0, [1, 0, 1], none, none, none⟩, ⟨0, [2], none, none, none⟩], some 1⟩,
  ⟨"1.2 1.2.1", "1.2rc1 1.3", [⟨0, [1, 2], none, none, none⟩, ⟨0, [1, 2, 1], none, none, none⟩], [⟨0, [1, 2], some ([114, 99], 1), none, none⟩, ⟨0, [1, 3], none, none, none⟩], some 1⟩,
  ⟨"1.2 1.2.1", "1.2rc1 1.3 1.2.0.5", [⟨0, [1, 2], none, none, none⟩, ⟨0, [1, 2, 1], none, none, none⟩], [⟨0, [1, 2], some ([114, 99], 1), none, none⟩, ⟨0, [1, 3], none, none, none⟩, ⟨0, [1, 2, 0, 5], none, none, none⟩], some 2⟩,
  ⟨"2 1 3", "2.0 1", [⟨0, [2], none, none, none⟩, ⟨0, [1], none, none, none⟩, ⟨0, [3], none, none, none⟩], [⟨0, [2, 0], none, none, none⟩, ⟨0, [1], none, none, none⟩], none⟩,
  ⟨"1a1 1", "1a1.post0 1a1.post0.dev0", [⟨0, [1], some ([97], 1), none, none⟩, ⟨0, [1], none, none, none⟩], [⟨0, [1], some ([97], 1), some 0, none⟩, ⟨0, [1], some ([97], 1), some 0, some 0⟩], some 2⟩,
  ⟨"1 1.post1", "1.post0 1.post2", [⟨0, [1], none, none, none⟩, ⟨0, [1], none, some 1, none⟩], [⟨0, [1], none, some 0, none⟩, ⟨0, [1], none, some 2, none⟩], some 2⟩,
  ⟨"1 4", "2 2.1 3 3.1rc1 2.9.post1", [⟨0, [1], none, none, none⟩, ⟨0, [4], none, none, none⟩], [⟨0, [2], none, none, none⟩, ⟨0, [2, 1], none, none, none⟩, ⟨0, [3], none, none, none⟩, ⟨0, [3, 1], some ([114, 99], 1), none, none⟩, ⟨0, [2, 9], none, some 1, none⟩], some 2⟩,
  ⟨"1.5 1.7", "1.6 1.6.1 1.6.2 1.6rc1", [⟨0, [1, 5], none, none, none⟩, ⟨0, [1, 7], none, none, none⟩], [⟨0, [1, 6], none, none, none⟩, ⟨0, [1, 6, 1], none, none, none⟩, ⟨0, [1, 6, 2], none, none, none⟩, ⟨0, [1, 6], some ([114, 99], 1), none, none⟩], some 1⟩,
  ⟨"1 2!1", "1!1 1!2 1!1.5", [⟨0, [1], none, none, none⟩, ⟨2, [1], none, none, none⟩], [⟨1, [1], none, none, none⟩, ⟨1, [2], none, none, none⟩, ⟨1, [1, 5], none, none, none⟩], some 2⟩,
  ⟨"1.0.0.0.0.2 1.0.0.0.0.4", "1.0.0.0.0.1 1.0.0.0.0.5", [⟨0, [1, 0, 0, 0, 0, 2], none, none, none⟩, ⟨0, [1, 0, 0, 0, 0, 4], none, none, none⟩], [⟨0, [1, 0, 0, 0, 0, 1], none, none, none⟩, ⟨0, [1, 0, 0, 0, 0, 5], none, none, none⟩], some 2⟩,
  ⟨"1.1 1.2 1.3", "1.1.1 1.1.2 1.2.0.1", [⟨0, [1, 1], none, none, none⟩, ⟨0, [1, 2], none, none, none⟩, ⟨0, [1, 3], none, none, none⟩], [⟨0, [1, 1, 1], none, none, none⟩, ⟨0, [1, 1, 2], none, none, none⟩, ⟨0, [1, 2, 0, 1], none, none, none⟩], some 3⟩,
  ⟨"1.post9 1.1", "1 1.post3 1.post8 2", [⟨0, [1], none, some 9, none⟩, ⟨0, [1, 1], none, none, none⟩], [⟨0, [1], none, none, none⟩, ⟨0, [1], none, some 3, none⟩, ⟨0, [1], none, some 8, none⟩, ⟨0, [2], none, none, none⟩], some 1⟩]
def rx40 : List Rw40 := [
  ⟨"0 0.0.1", "0.1 1", [⟨0, [0], none, none, none⟩, ⟨0, [0, 0, 1], none, none, none⟩], [⟨0, [0, 1], none, none, none⟩, ⟨0, [1], none, none, none⟩], some 1⟩,
  ⟨"0 1", "0.dev0", [⟨0, [0], none, none, none⟩, ⟨0, [1], none, none, none⟩], [⟨0, [0], none, none, some 0⟩], some 1⟩,
  ⟨"0.dev0 0.dev1", "0.dev2", [⟨0, [0], none, none, some 0⟩, ⟨0, [0], none, none, some 1⟩], [⟨0, [0], none, none, some 2⟩], some 1⟩,
  ⟨"0.dev0 0.dev1", "0", [⟨0, [0], none, none, some 0⟩, ⟨0, [0], none, none, some 1⟩], [⟨0, [0], none, none, none⟩], some 1⟩]
theorem sp_rw40 : rw40.map (fun r => (splitD (.str r.gt) [.str " "], splitD (.str r.bt) [.str " "])) = rw40.map (fun r => (some (.list ((ossOf r.gs).map oD)), some (.list ((ossOf r.bs).map oD)))) := by kernel_rfl
theorem cn_rw40 : rw40.all (fun r => decide ((toldK (r.gs.map Pt.key) (r.bs.map Pt.key)).map List.length = r.many) && r.gs.all ptB && r.bs.all ptB && decide (r.gs.length ≤ 15) && decide (r.bs.length ≤ 15)) = true := by decide +kernel
theorem sp_rx40 : rx40.map (fun r => (splitD (.str r.gt) [.str " "], splitD (.str r.bt) [.str " "])) = rx40.map (fun r => (some (.list ((ossOf r.gs).map oD)), some (.list ((ossOf r.bs).map oD)))) := by kernel_rfl
theorem cn_rx40 : rx40.all (fun r => decide ((toldK (r.gs.map Pt.key) (r.bs.map Pt.key)).map List.length = r.many) && r.gs.all ptB && r.bs.all ptB && decide (r.gs.length ≤ 15) && decide (r.bs.length ≤ 15)) = true := by decide +kernel
theorem rows40 (w : W) : m__law_rows_k40 [] w = some (.d (.list (rw40.map r40D)), w) := by kernel_rfl
end Dn

set_option maxHeartbeats 4000000
namespace Dn
open PySem PySem.Spec PyProof.Rows L2 SX
open TL (numL pre joinL)
/-- a version of the law -/
def V43 (p : Pt) : Prop := p.Wf ∧ Gk 2000000000 8 p.key
def chg (p : Pt) (b e j : Nat) : Pt := ⟨p.ep + e, shB b p.ns ++ List.replicate j 0, p.fo, p.po, p.dv⟩
theorem chg_key (p : Pt) (b e j : Nat) : (chg p b e j).key = phK e b p.key := by
  rw [← ph_key]
  unfold chg phP Pt.key
  dsimp only
  rw [show bas (shB b p.ns ++ List.replicate j 0) = bas (shB b p.ns) from bas_eq_iff.mpr fun i => zz_pad _ _ _]
theorem sh_mem {b : Nat} {ns : List Nat} {n : Nat} (h : n ∈ shB b ns) : (∃ m, (m ∈ ns ∨ m = 0) ∧ n = m + b) ∨ n ∈ ns := by
  unfold shB at h
  rcases List.mem_cons.mp h with rfl | h
  · refine .inl ⟨zz ns 0, ?_, rfl⟩
    cases ns with
    | nil => exact .inr rfl
    | cons x xs => exact .inl (by show x ∈ x :: xs; simp)
  · exact .inr (List.mem_of_mem_tail h)
theorem hn_p {sa sb : Sx} {env e1 : Ev} {k : Nat} {I : Ev → Prop} (h : ∀ w, sa env w = some (.nx, e1, w)) (hb : HN sb e1 k I) : HN (mSeq sa sb) env k I := fun n s hs => by
  obtain ⟨e, s2, q1, q2, q3⟩ := hb n s hs
  exact ⟨e, s2, (seq_nx (h _)).trans q1, q2, q3⟩
theorem cat_vs (a b : List Pt) (h : a.length + b.length ≤ 1000) : addD (.list (a.map vD)) (.list (b.map vD)) = some (.list ((a ++ b).map vD)) := by
  rw [addD_L (by rw [List.length_map, List.length_map]; omega), List.map_append]
theorem take_vs (a : List Pt) (k : Nat) : slD (.list (a.map vD)) none (some (k : Int)) = some (.list ((a.take k).map vD)) := by
  show some (PyData.list (cutL _ none (some (k : Int)))) = _
  rw [cutL_take, List.map_take]
theorem drop_vs (a : List Pt) (k : Nat) : slD (.list (a.map vD)) (some (k : Int)) none = some (.list ((a.drop k).map vD)) := by
  show some (PyData.list (cutL _ (some (k : Int)) none)) = _
  rw [cutL_drop, List.map_drop]
theorem steps {m : Ex} {env : Ev} {w : W} {x z : PyData} {k : Int} (h : m env w = some (.d x, env, w)) (hz : stepD k x = some z) : mStep k m env w = some (.d z, env, w) := by
  simp only [mStep, seqE, h, hz, optE]
theorem slt {m b : Ex} {env : Ev} {w : W} {x z : PyData} {k : Int} (h : m env w = some (.d x, env, w)) (h2 : b env w = some (.d (.int k), env, w)) (hz : slD x (some k) none = some z) : mSl m (mPart b) mNo env w = some (.d z, env, w) := by
  simp only [mSl, seqE, h, mNo, mPart, h2, hz, optE]
end Dn

set_option maxHeartbeats 4000000
namespace Dn
open PySem PySem.Spec PyProof.Rows L2 SX
open TL (numL pre joinL)
theorem mv_v {p : Pt} (h : p.Wf) (t : p.Small) {b : Nat} (hb : b ≤ 1000000) : V43 (chg p b 0 0) := by
  have hl : (shB b p.ns).length ≤ 8 := by
    have := t.len
    have := List.length_pos_iff.mpr h.ne
    unfold shB
    rw [List.length_cons, List.length_tail]
    omega
  have hns : ∀ n ∈ (chg p b 0 0).ns, n ≤ 2000000000 := fun n hn => by
    rcases List.mem_append.mp hn with q | q
    · rcases sh_mem q with ⟨m, hm, rfl⟩ | q
      · rcases hm with hm | hm
        · have := t.ns m hm; omega
        · omega
      · have := t.ns n q; omega
    · rw [(List.mem_replicate.mp q).2]; omega
  have hep : (chg p b 0 0).ep ≤ 2000000000 := by
    have := t.ep
    show p.ep + 0 ≤ _
    omega
  have wf : (chg p b 0 0).Wf := by
    refine ⟨by show shB b p.ns ++ _ ≠ []; unfold shB; simp, ?_, fun n hn => ?_, ?_, h.fo, h.po, h.dv⟩
    · show (shB b p.ns ++ List.replicate 0 0).length ≤ 60
      rw [List.length_append, List.length_replicate]; omega
    · have := hns n hn
      show n < 10 ^ 24
      omega
    · show (chg p b 0 0).ep < 10 ^ 24
      omega
  refine ⟨wf, gk_pt wf hns hep ⟨fun x n q => ⟨(h.fo x n q).1, by have := t.fo x n q; omega⟩, fun n q => by have := t.po n q; omega, fun n q => by have := t.dv n q; omega⟩ ?_⟩
  show (shB b p.ns ++ List.replicate 0 0).length ≤ 8
  rw [List.length_append, List.length_replicate]; omega
theorem small_v {p : Pt} (h : p.Wf) (t : p.Small) : V43 p := ⟨h, (gk_small h t).mono (by omega) (by omega)⟩
theorem mv_s {mp mt : Fx} {V Bq E N F P D N0 N1 X0 NR : PyData} {T : PyData} {w : W} (h1 : mp [.d V] w = some (.d (.tuple [E, N, F, P, D]), w)) (h4 : ixD N (.int 0) = some N0) (h5 : addD N0 Bq = some N1) (h6 : slD N (some 1) none = some NR) (h7 : addD (.list [N1]) NR = some X0) (h9 : mt [.d E, .d X0, .d F, .d P, .d D] w = some (.d T, w)) :
    ∃ e, mSeq (mAsg (mCall mp (mCons (mVar 0) mNil)) (mgTup 5 (mgCons (mgName 2) (mgCons (mgName 3) (mgCons (mgName 4) (mgCons (mgName 5) (mgCons (mgName 6) mgNil)))))))
 (mRet (mCall mt (mCons (mVar 2) (mCons (mOp addD (mFz (mLst (mCons (mOp addD (mOp ixD (mVar 3) (mC (.int 0))) (mVar 1)) mNil))) (mSl (mVar 3) (mPart (mC (.int 1))) mNo)) (mCons (mVar 4) (mCons (mVar 5) (mCons (mVar 6) mNil))))))) [some (.d V), some (.d Bq), none, none, none, none, none] w = some (.rt (.d T), e, w) := by
  refine ex_nx (by push_cast [h1]) ?_
  exact ⟨_, by push_cast [h4, h5, h6, h7, h9]⟩
theorem run_moved {p : Pt} (h : p.Wf) (t : p.Small) {b : Nat} (hb : b ≤ 1000000) (w : W) : m__law_moved_k40 [.d (vD p), .d (.int (b : Int))] w = some (.d (vD (chg p b 0 0)), w) := by
  refine fn_ex rfl ?_
  unfold b__law_moved_k40
  have hp := run_lparts false h w
  have ht := run_ltext (mv_v h t hb).1 w
  obtain ⟨x, xs, hx⟩ : ∃ x xs, p.ns = x :: xs := by
    cases q : p.ns with
    | nil => exact absurd q h.ne
    | cons x xs => exact ⟨x, xs, rfl⟩
  have lxs : xs.length ≤ 8 := by have := t.len; rw [hx, List.length_cons] at this; omega
  have e5 : addD (.int (x : Int)) (.int (b : Int)) = some (.int ((x + b : Nat) : Int)) := add_nat x b
  have e6 : slD (.list (intsD (x :: xs))) (some 1) none = some (.list (intsD xs)) := by
    show some (PyData.list (cutL (intsD (x :: xs)) (some ((1 : Nat) : Int)) none)) = _
    rw [cutL_drop]
    rfl
  have e7 : addD (.list [.int ((x + b : Nat) : Int)]) (.list (intsD xs)) = some (.list (intsD ((x + b) :: xs))) := by
    have := addD_L (xs := intsD [x + b]) (ys := intsD xs) (by rw [intsD_len, intsD_len, List.length_singleton]; omega)
    rw [intsD_app] at this
    exact this
  unfold lpD at hp
  rw [hx] at hp
  have ens : (chg p b 0 0).ns = (x + b) :: xs := by
    show shB b p.ns ++ _ = _
    rw [hx]
    simp [shB, zz]
  rw [ens] at ht
  exact mv_s hp (ixL0 _ _) e5 e6 e7 ht
theorem run_right40 {gs bs : List Pt} {many : Option Nat} (hg : ∀ p ∈ gs, V43 p) (hb : ∀ p ∈ bs, V43 p) (lg : gs.length ≤ 20) (lb : bs.length ≤ 20) (hT : (toldK (gs.map Pt.key) (bs.map Pt.key)).map List.length = many) (w : W) :
    m__law_right_k40 [.d (.tuple (gs.map vD)), .d (.tuple (bs.map vD)), .d (r40M many)] w = some (.d (.bool true), w) := by
  have gk : ∀ {ps : List Pt}, (∀ p ∈ ps, V43 p) → ∀ k ∈ ps.map Pt.key, Gk 2000000000 8 k := fun h k hk => by
    obtain ⟨p, hp, rfl⟩ := List.mem_map.mp hk
    exact (h p hp).2
  have hrun := run_telling (Bd := 2000000000) (L := 8) hg hb (by omega) (by omega) lg lb w
  refine fn_ex rfl ?_
  unfold b__law_right_k40
  cases e : toldK (gs.map Pt.key) (bs.map Pt.key) with
  | none =>
    rw [e] at hT
    subst hT
    rw [show tellK (sortK (gs.map Pt.key)) (sortK (bs.map Pt.key)) = none from e] at hrun
    refine ex_set (i := 3) (call2s (vars rfl) (vars rfl) hrun) ?_
    exact ex_hit (ors (p := true) (q := true) (trus (ops (vars rfl) cst rfl)) fun z => by cases z) rfl
  | some T =>
    rw [e] at hT
    subst hT
    rw [show tellK (sortK (gs.map Pt.key)) (sortK (bs.map Pt.key)) = some T from e] at hrun
    obtain ⟨t1, t2, _, t4⟩ := told_ok (by omega) (by omega) (gk hg) (gk hb) e
    obtain ⟨l1, l2⟩ := lets_tells t2
    refine ex_set (i := 3) (call2s (vars rfl) (vars rfl) hrun) ?_
    have hlen : neD (.int (((T.map clD).length : Nat) : Int)) (.int ((T.length : Nat) : Int)) = some (.bool false) := by
      rw [List.length_map, neD_int, decide_eq_true rfl]; rfl
    refine ex_skip (ors (p := false) (q := false) (trus (ops (vars rfl) cst rfl)) fun _ => trus (ops (vars rfl) cst rfl)) ?_
    refine ex_skip (ors (p := false) (q := false) (nots (b := true) (trus rfl)) fun _ => trus (ops (b1s (vars rfl) rfl) (vars rfl) hlen)) ?_
    have L1 := lcm_filt (mi := mItems (mVar 0)) (g := mgName 4) (tt := tC1__law_right_k40) (me := eC2__law_right_k40) (vs := [4]) (env := [some (.d (.tuple (gs.map vD))), some (.d (.tuple (bs.map vD))), some (.d (.int ((T.length : Nat) : Int))), some (.d (rqD T)), none]) (w := w) vD (fun p => !letsAll T p) (fun _ => .int 1) gs (items_s (vars rfl) rfl) rfl rfl fun p hp => by
      refine ⟨[some (.d (.tuple (gs.map vD))), some (.d (.tuple (bs.map vD))), some (.d (.int ((T.length : Nat) : Int))), some (.d (rqD T)), some (.d (vD p))], [some (.d (.tuple (gs.map vD))), some (.d (.tuple (bs.map vD))), some (.d (.int ((T.length : Nat) : Int))), some (.d (rqD T)), some (.d (vD p))], rfl, ?_, fun _ => ⟨_, rfl, rfl⟩, fun _ => rfl⟩
      unfold tC1__law_right_k40
      exact nots (trus (call2s (vars rfl) (vars rfl) (run_lletsG t1 (hg p hp).1 false w)))
    have e1 : gs.filter (fun p => !letsAll T p) = [] := List.filter_eq_nil_iff.mpr fun p hp => by rw [l1 p hp]; simp
    rw [e1] at L1
    have L2 := lcm_filt (mi := mItems (mVar 1)) (g := mgName 4) (tt := tC3__law_right_k40) (me := eC4__law_right_k40) (vs := [4]) (env := [some (.d (.tuple (gs.map vD))), some (.d (.tuple (bs.map vD))), some (.d (.int ((T.length : Nat) : Int))), some (.d (rqD T)), none]) (w := w) vD (fun p => letsAll T p) (fun _ => .int 1) bs (items_s (vars rfl) rfl) rfl rfl fun p hp => by
      refine ⟨[some (.d (.tuple (gs.map vD))), some (.d (.tuple (bs.map vD))), some (.d (.int ((T.length : Nat) : Int))), some (.d (rqD T)), some (.d (vD p))], [some (.d (.tuple (gs.map vD))), some (.d (.tuple (bs.map vD))), some (.d (.int ((T.length : Nat) : Int))), some (.d (rqD T)), some (.d (vD p))], rfl, ?_, fun _ => ⟨_, rfl, rfl⟩, fun _ => rfl⟩
      unfold tC3__law_right_k40
      exact trus (call2s (vars rfl) (vars rfl) (run_lletsG t1 (hb p hp).1 false w))
    have e2 : bs.filter (fun p => letsAll T p) = [] := List.filter_eq_nil_iff.mpr fun p hp => by rw [l2 p hp]; simp
    rw [e2] at L2
    refine ex_skip (trus (b := false) (ne_ok L1)) ?_
    exact ex_ret (ops L2 lst0s rfl)
structure R40 (r : Rw40) : Prop where
  sg : splitD (.str r.gt) [.str " "] = some (.list ((ossOf r.gs).map oD))
  sb : splitD (.str r.bt) [.str " "] = some (.list ((ossOf r.bs).map oD))
  cn : (toldK (r.gs.map Pt.key) (r.bs.map Pt.key)).map List.length = r.many
  g : ∀ p ∈ r.gs, p.Wf ∧ p.Small
  b : ∀ p ∈ r.bs, p.Wf ∧ p.Small
  lg : r.gs.length ≤ 15
  lb : r.bs.length ≤ 15
theorem row_ok {rs : List Rw40} (h1 : rs.map (fun r => (splitD (.str r.gt) [.str " "], splitD (.str r.bt) [.str " "])) = rs.map (fun r => (some (.list ((ossOf r.gs).map oD)), some (.list ((ossOf r.bs).map oD))))) (h2 : rs.all (fun r => decide ((toldK (r.gs.map Pt.key) (r.bs.map Pt.key)).map List.length = r.many) && r.gs.all ptB && r.bs.all ptB && decide (r.gs.length ≤ 15) && decide (r.bs.length ≤ 15)) = true) : ∀ r ∈ rs, R40 r := fun r hr => by
  have a := List.map_inj_left.mp h1 r hr
  have b := List.all_eq_true.mp h2 r hr
  simp only [Bool.and_eq_true, decide_eq_true_eq, List.all_eq_true] at b
  obtain ⟨⟨⟨⟨b1, b2⟩, b3⟩, b4⟩, b5⟩ := b
  exact ⟨congrArg Prod.fst a, congrArg Prod.snd a, b1, fun p hp => ptB_ok (b2 p hp), fun p hp => ptB_ok (b3 p hp), b4, b5⟩
theorem shift_cn {G B : List Pt} {b : Nat} {many : Option Nat} (hG : ∀ p ∈ G, p.Wf ∧ p.Small) (hB : ∀ p ∈ B, p.Wf ∧ p.Small) (hb : b ≤ 1000000) (h : (toldK (G.map Pt.key) (B.map Pt.key)).map List.length = many) : (toldK ((G.map fun p => chg p b 0 0).map Pt.key) ((B.map fun p => chg p b 0 0).map Pt.key)).map List.length = many := by
  have gk : ∀ {ps : List Pt}, (∀ p ∈ ps, p.Wf ∧ p.Small) → ∀ k ∈ ps.map Pt.key, Gk 2000000000 8 k := fun h k hk => by
    obtain ⟨p, hp, rfl⟩ := List.mem_map.mp hk
    exact (small_v (h p hp).1 (h p hp).2).2
  have gk' : ∀ {ps : List Pt}, (∀ p ∈ ps, p.Wf ∧ p.Small) → ∀ k ∈ (ps.map Pt.key).map (phK 0 b), Gk 2000000000 8 k := fun h k hk => by
    obtain ⟨x, hx, rfl⟩ := List.mem_map.mp hk
    obtain ⟨p, hp, rfl⟩ := List.mem_map.mp hx
    rw [← chg_key p b 0 0]
    exact (mv_v (h p hp).1 (h p hp).2 hb).2
  have e : ∀ ps : List Pt, (ps.map fun p => chg p b 0 0).map Pt.key = (ps.map Pt.key).map (phK 0 b) := fun ps => by
    rw [List.map_map, List.map_map]
    exact List.map_congr_left fun p _ => chg_key p b 0 0
  rw [e, e]
  cases q : toldK (G.map Pt.key) (B.map Pt.key) with
  | none =>
    rw [q] at h
    subst h
    obtain ⟨k, k1, k2⟩ := tell_none.mp q
    have : toldK ((G.map Pt.key).map (phK 0 b)) ((B.map Pt.key).map (phK 0 b)) = none := tell_none.mpr ⟨phK 0 b k, mem_sortK.mpr (List.mem_map.mpr ⟨k, mem_sortK.mp k1, rfl⟩), mem_sortK.mpr (List.mem_map.mpr ⟨k, mem_sortK.mp k2, rfl⟩)⟩
    rw [this]
  | some T =>
    rw [q] at h
    subst h
    have dj : ∀ k ∈ (B.map Pt.key).map (phK 0 b), k ∉ (G.map Pt.key).map (phK 0 b) := fun k hk hg => by
      obtain ⟨x, hx, rfl⟩ := List.mem_map.mp hk
      obtain ⟨y, hy, ey⟩ := List.mem_map.mp hg
      have := (ph_inj 0 b (gk hG y hy).bs (gk hB x hx).bs).mp ey
      rw [this] at hy
      have := tell_none.mpr ⟨x, mem_sortK.mpr hy, mem_sortK.mpr hx⟩
      rw [show tellK (sortK (G.map Pt.key)) (sortK (B.map Pt.key)) = some T from q] at this
      cases this
    obtain ⟨T', hT'⟩ := told_some dj
    rw [hT', Option.map_some, told_shift (by omega) (by omega) (gk hG) (gk hB) (gk' hG) (gk' hB) q hT']
    rfl
theorem rot_cn {G B : List Pt} {i j : Nat} : toldK ((G.drop i ++ G.take i).map Pt.key) ((B.drop j ++ B.take j).map Pt.key) = toldK (G.map Pt.key) (B.map Pt.key) := by
  have e : ∀ (l : List Pt) (n : Nat) (k : Ky), k ∈ (l.drop n ++ l.take n).map Pt.key ↔ k ∈ l.map Pt.key := fun l n k => by
    have : ∀ p, p ∈ l.drop n ++ l.take n ↔ p ∈ l := fun p => by
      rw [List.mem_append]
      constructor
      · exact fun h => h.elim List.mem_of_mem_drop List.mem_of_mem_take
      · intro h
        rw [← List.take_append_drop n l] at h
        exact (List.mem_append.mp h).symm
    simp only [List.mem_map, this]
  exact told_congr (e G i) (e B j)
theorem oss_items {gs : List Pt} {f : Pt → Pt} : ((ossOf gs).filter fun o => o.isSome).map (fun o => match o with | none => PyData.none | some p => vD (f p)) = (gs.map f).map vD := by
  unfold ossOf
  cases gs with
  | nil => rfl
  | cons p gs =>
    rw [if_neg (by simp)]
    have : ((p :: gs).map some).filter (fun o => o.isSome) = (p :: gs).map some := List.filter_eq_self.mpr fun o ho => by
      obtain ⟨q, _, rfl⟩ := List.mem_map.mp ho
      rfl
    rw [this, List.map_map, List.map_map]
    rfl
theorem oss_mem {gs : List Pt} {p : Pt} (h : some p ∈ ossOf gs) : p ∈ gs := by
  unfold ossOf at h
  split at h
  · simp at h
  · simpa using h
theorem prB_ne {p : Pt} (h : p.Wf) : prB false p ≠ [] := fun z => by
  have := parts_print false h
  rw [z] at this
  have e : partsR [] = none := by decide +kernel
  rw [e] at this
  cases this
theorem ne_oD (o : Option Pt) (h : ∀ p, o = some p → p.Wf) : neD (oD o) (.str "") = some (.bool o.isSome) := by
  cases o with
  | none => rfl
  | some p =>
    show neD (.str (S (prB false p))) (.str "") = _
    rw [str0, neD_S, decide_eq_false (prB_ne (h p rfl))]
    rfl
/-- the versions of a text, moved -/
theorem lc_moved {mi : Lx} {me : Ex} {tt : Tx} {env : Ev} {gs : List Pt} {b : Nat} (hg : ∀ p ∈ gs, p.Wf ∧ p.Small) (hb : b ≤ 1000000) (w : W) (hi : mi env w = some ((ossOf gs).map oD, env, w)) (hw : wipeE env [11] = env) (hr : rst env env [11] = env)
    (hs : ∀ o : Option Pt, ∃ e1, mgName 11 (oD o) env = some e1 ∧ e1[11]? = some (some (.d (oD o))) ∧ e1[2]? = some (some (.d (.int (b : Int)))) ∧ wipeE e1 [11] = env) (ht : tt = mTru (mOp neD (mVar 11) (mC (.str "")))) (hm : me = mCall m__law_moved_k40 (mCons (mVar 11) (mCons (mVar 2) mNil))) :
    mFz (mLc mi (mgName 11) tt me [11]) env w = some (.d (.list ((gs.map fun p => chg p b 0 0).map vD)), env, w) := by
  have := lcm_filt (mi := mi) (g := mgName 11) (tt := tt) (me := me) (vs := [11]) (env := env) (w := w) oD (fun o => o.isSome) (fun o => match o with | none => PyData.none | some p => vD (chg p b 0 0)) (ossOf gs) hi hw hr fun o ho => by
    obtain ⟨e1, h1, h2, h3, h4⟩ := hs o
    refine ⟨e1, e1, h1, ?_, fun q => ?_, fun _ => h4⟩
    · rw [ht]
      exact trus (ops (vars h2) cst (ne_oD o fun p hp => by subst hp; exact (hg p (oss_mem ho)).1))
    · cases o with
      | none => cases q
      | some p =>
        rw [hm]
        exact ⟨e1, call2s (vars h2) (vars h3) (run_moved (hg p (oss_mem ho)).1 (hg p (oss_mem ho)).2 hb w), h4⟩
  rw [oss_items (f := fun p => chg p b 0 0)] at this
  exact this
theorem turn40 {a : Option SD} {b : Nat} {r : Rw40} (hr : R40 r) (hb : b ≤ 1000000) {x6 x7 x8 x9 x10 : Option SD} : HN bF5_law_k40 [a, some .st, some (.d (.int (b : Int))), some (.d (.str r.gt)), some (.d (.str r.bt)), some (.d (r40M r.many)), x6, x7, x8, x9, x10, none] 2 (fun e' => ∃ x3 x4 x5 x6 x7 x8 x9, e' = [a, some .st, some (.d (.int (b : Int))), x3, x4, x5, x6, x7, x8, x9, x10, none]) := by
  unfold bF5_law_k40
  have M1 := fun w => lc_moved (mi := mItems (mMtS splitD (mVar 3) (mCons (mC (.str " ")) mNil))) (env := [a, some .st, some (.d (.int (b : Int))), some (.d (.str r.gt)), some (.d (.str r.bt)), some (.d (r40M r.many)), x6, x7, x8, x9, x10, none]) hr.g hb w (items_s (mts_s (vars rfl) cst hr.sg) rfl) rfl rfl (fun o => ⟨_, rfl, rfl, rfl, rfl⟩) (tt := tC1_law_k40) (me := eC2_law_k40) rfl rfl
  refine hn_p (fun w => set_ok (M1 w)) ?_
  have M2 := fun w => lc_moved (mi := mItems (mMtS splitD (mVar 4) (mCons (mC (.str " ")) mNil))) (env := [a, some .st, some (.d (.int (b : Int))), some (.d (.str r.gt)), some (.d (.str r.bt)), some (.d (r40M r.many)), some (.d (.list ((r.gs.map fun p => chg p b 0 0).map vD))), x7, x8, x9, x10, none]) hr.b hb w (items_s (mts_s (vars rfl) cst hr.sb) rfl) rfl rfl (fun o => ⟨_, rfl, rfl, rfl, rfl⟩) (tt := tC3_law_k40) (me := eC4_law_k40) rfl rfl
  refine hn_p (e1 := [a, some .st, some (.d (.int (b : Int))), some (.d (.str r.gt)), some (.d (.str r.bt)), some (.d (r40M r.many)), some (.d (.list ((r.gs.map fun p => chg p b 0 0).map vD))), some (.d (.list ((r.bs.map fun p => chg p b 0 0).map vD))), x8, x9, x10, none]) (fun w => set_ok (M2 w)) ?_
  have hG : ∀ p ∈ r.gs.map fun p => chg p b 0 0, V43 p := fun q hq => by
    obtain ⟨p, hp, rfl⟩ := List.mem_map.mp hq
    exact mv_v (hr.g p hp).1 (hr.g p hp).2 hb
  have hB : ∀ p ∈ r.bs.map fun p => chg p b 0 0, V43 p := fun q hq => by
    obtain ⟨p, hp, rfl⟩ := List.mem_map.mp hq
    exact mv_v (hr.b p hp).1 (hr.b p hp).2 hb
  have hcn := shift_cn hr.g hr.b hb hr.cn
  have lG : (r.gs.map fun p => chg p b 0 0).length ≤ 15 := by rw [List.length_map]; exact hr.lg
  have lB : (r.bs.map fun p => chg p b 0 0).length ≤ 15 := by rw [List.length_map]; exact hr.lb
  generalize (r.gs.map fun p => chg p b 0 0) = gs at hG hcn lG ⊢
  generalize (r.bs.map fun p => chg p b 0 0) = bs at hB hcn lB ⊢
  have dr : ∀ (i : Nat) (l : List Pt), l.length ≤ 15 → ∀ (env : Ev), env[1]? = some (some .st) → env[i]? = some (some (.d (.list (l.map vD)))) → HE (mCall m__law_draw (mCons (mVar 1) (mCons (mOp addD (mB lenD (mCons (mVar i) mNil)) (mC (.int 1))) mNil))) env 1 (fun x => ∃ k : Nat, x = .int (k : Int) ∧ k < l.length + 1) := fun i l hl env h1 h2 =>
    he_call1 (j := 0) (k := 1) (P := (· = .int ((l.length + 1 : Nat) : Int))) h1 (.pure (fun w => ops (b1s (vars h2) (by unfold lenD; dsimp only; rw [List.length_map])) cst (add_nat l.length 1)) rfl) fun x hx => by
      subst hx
      exact hf_draw (l.length + 1) (by omega) (by omega)
  intro n s hs
  obtain ⟨x, s1, p1, ⟨i, rfl, hi⟩, p3⟩ := dr 6 gs lG [a, some .st, some (.d (.int (b : Int))), some (.d (.str r.gt)), some (.d (.str r.bt)), some (.d (r40M r.many)), some (.d (.list (gs.map vD))), some (.d (.list (bs.map vD))), x8, x9, x10, none] rfl rfl (n + 1) s (hs.mono (by omega))
  obtain ⟨y, s2, q1, ⟨j, rfl, hj⟩, q3⟩ := dr 7 bs lB [a, some .st, some (.d (.int (b : Int))), some (.d (.str r.gt)), some (.d (.str r.bt)), some (.d (r40M r.many)), some (.d (.list (gs.map vD))), some (.d (.list (bs.map vD))), x8, x9, x10, none] rfl rfl n s1 p3
  have hright := run_right40 (gs := gs.drop i ++ gs.take i) (bs := bs.drop j ++ bs.take j) (fun p hp => hG p ((List.mem_append.mp hp).elim List.mem_of_mem_drop List.mem_of_mem_take)) (fun p hp => hB p ((List.mem_append.mp hp).elim List.mem_of_mem_drop List.mem_of_mem_take)) (by rw [List.length_append, List.length_drop, List.length_take]; omega) (by rw [List.length_append, List.length_drop, List.length_take]; omega) (many := r.many) ((congrArg (Option.map List.length) rot_cn).trans hcn) (some s2)
  refine ⟨[a, some .st, some (.d (.int (b : Int))), some (.d (.str r.gt)), some (.d (.str r.bt)), some (.d (r40M r.many)), some (.d (.list (gs.map vD))), some (.d (.list (bs.map vD))), some (.d (.int (i : Int))), some (.d (.int (j : Int))), x10, none], s2, ?_, ⟨_, _, _, _, _, _, _, rfl⟩, q3⟩
  refine (seq_nx (e1 := [a, some .st, some (.d (.int (b : Int))), some (.d (.str r.gt)), some (.d (.str r.bt)), some (.d (r40M r.many)), some (.d (.list (gs.map vD))), some (.d (.list (bs.map vD))), some (.d (.int (i : Int))), some (.d (.int (j : Int))), x10, none]) (w1 := some s2) ?_).trans ?_
  · generalize mCall m__law_draw (mCons (mVar 1) (mCons (mOp addD (mB lenD (mCons (mVar 6) mNil)) (mC (.int 1))) mNil)) = d1 at p1 ⊢
    generalize mCall m__law_draw (mCons (mVar 1) (mCons (mOp addD (mB lenD (mCons (mVar 7) mNil)) (mC (.int 1))) mNil)) = d2 at q1 ⊢
    simp only [mPar, mCons, mNil, p1, q1]
    rfl
  · refine (if_f (nots (b := true) (trus (call3s (b1s (ops (slt (vars rfl) (vars rfl) (drop_vs gs i)) (slv (vars rfl) (vars rfl) (take_vs gs i)) (cat_vs _ _ (by rw [List.length_drop, List.length_take]; omega))) rfl) (b1s (ops (slt (vars rfl) (vars rfl) (drop_vs bs j)) (slv (vars rfl) (vars rfl) (take_vs bs j)) (cat_vs _ _ (by rw [List.length_drop, List.length_take]; omega))) rfl) (vars rfl) hright)))).trans rfl
theorem turn40x {a : Option SD} {b : Nat} {r : Rw40} (hr : R40 r) (hn : r.gs ≠ []) (hn2 : r.bs ≠ []) {x6 x7 x8 x9 x10 : Option SD} : HN bF6_law_k40 [a, some .st, some (.d (.int (b : Int))), some (.d (.str r.gt)), some (.d (.str r.bt)), some (.d (r40M r.many)), x6, x7, x8, x9, x10, none] 0 (fun e' => ∃ x3 x4 x5, e' = [a, some .st, some (.d (.int (b : Int))), x3, x4, x5, x6, x7, x8, x9, x10, none]) := by
  unfold bF6_law_k40
  have hright := fun w => run_right40 (fun p hp => small_v (hr.g p hp).1 (hr.g p hp).2) (fun p hp => small_v (hr.b p hp).1 (hr.b p hp).2) (by have := hr.lg; omega) (by have := hr.lb; omega) hr.cn w
  have oe : ∀ gs : List Pt, gs ≠ [] → (ossOf gs).map oD = gs.map vD := fun gs h => by
    unfold ossOf
    rw [if_neg (by simpa using h), List.map_map]
    rfl
  have s1 := hr.sg
  have s2 := hr.sb
  rw [oe _ hn] at s1
  rw [oe _ hn2] at s2
  refine HN.mono (hn_ifF (j := 0) (.pure (fun w => nots (b := true) (trus (call3s (b1s (mts_s (vars rfl) cst s1) rfl) (b1s (mts_s (vars rfl) cst s2) rfl) (vars rfl) (hright w)))) rfl)) (Nat.le_refl _) fun e' he' => ⟨_, _, _, he'⟩
theorem law_math : ∀ ns : List Int, ns.length ≤ 63 → ∃ env' w', b_law_k40 (env0 ns.length 12 1) (some (beginDS ns)) = some (.rt (.d (.bool true)), env', w') := by
  intro ns hns
  have hg := gd_begin ns hns
  have he0 : env0 ns.length 12 1 = [some (.scr ns.length), some .st, none, none, none, none, none, none, none, none, none, none] := rfl
  rw [he0]
  refine HR.law (k := 202) ?_ (hg.mono (by decide))
  generalize ns.length = L at hns ⊢
  unfold b_law_k40
  refine hr_set (j := 2) (k := 200) (P := fun x => ∃ b : Nat, x = .int (b : Int) ∧ b ≤ 1000000) (he_call1 (j := 1) (k := 1) (P := Lst 4 fun x => ∃ b : Nat, x = .int (b : Int) ∧ b ≤ 1000000) rfl (he_lst (had_cons (j := 0) (.pure (x := .int ((0 : Nat) : Int)) (fun w => rfl) ⟨0, rfl, by omega⟩) (had_cons (j := 0) (.pure (x := .int ((1 : Nat) : Int)) (fun w => rfl) ⟨1, rfl, by omega⟩) (had_cons (j := 0) (.pure (x := .int ((5 : Nat) : Int)) (fun w => rfl) ⟨5, rfl, by omega⟩) (had_cons (j := 1) (he_call1 (j := 0) (k := 1) (P := (· = .int ((1000000 : Nat) : Int))) rfl (.pure (fun w => rfl) rfl) fun x hx => by
      subst hx
      exact (hf_draw 1000000 (by decide) (by decide)).mono (Nat.le_refl _) fun y hy => by
        obtain ⟨k, rfl, hk⟩ := hy
        exact ⟨k, rfl, by omega⟩) had_nil)))) (by decide)) fun x hx => by
    obtain ⟨ds, rfl, h1, h2⟩ := hx
    exact (hf_of_list (by intro z; rw [z] at h1; cases h1) (by omega)).mono (Nat.le_refl _) fun y hy => h2 y hy) fun x hx => ?_
  obtain ⟨b, rfl, hb⟩ := hx
  refine hr_seq (j := 100) (k := 100) (I := fun e' => ∃ x3 x4 x5 x6 x7 x8 x9, e' = [some (.scr L), some .st, some (.d (.int (b : Int))), x3, x4, x5, x6, x7, x8, x9, none, none]) (HN.up (hn_for (g := mgTup 3 (mgCons (mgName 3) (mgCons (mgName 4) (mgCons (mgName 5) mgNil)))) (j := 0) (k := 2) (N := 50) (A := fun d => ∃ r, R40 r ∧ d = r40D r) ?hl ⟨_, _, _, _, _, _, _, rfl⟩ ?hb) (by decide)) ?hk
  case hl =>
    refine .pure (x := rw40.map r40D) (fun w => items_s (x := .list (rw40.map r40D)) (by simp only [mCall, mNil, rows40]) rfl) ⟨by decide, fun d hd => ?_⟩
    obtain ⟨r, hr, rfl⟩ := List.mem_map.mp hd
    exact ⟨r, row_ok sp_rw40 cn_rw40 r hr, rfl⟩
  case hb =>
    intro e d he hd
    obtain ⟨x3, x4, x5, x6, x7, x8, x9, rfl⟩ := he
    obtain ⟨r, hr, rfl⟩ := hd
    exact ⟨_, rfl, (turn40 hr hb).mono (Nat.le_refl _) fun e' he' => he'⟩
  intro e he
  obtain ⟨x3, x4, x5, x6, x7, x8, x9, rfl⟩ := he
  refine hr_set (j := 0) (k := 100) (P := (· = .list (rx40.map r40D))) (.pure (fun w => rfl) rfl) fun x hx => ?_
  subst hx
  refine hr_seq (j := 0) (k := 100) (I := fun e' => ∃ x3 x4 x5, e' = [some (.scr L), some .st, some (.d (.int (b : Int))), x3, x4, x5, x6, x7, x8, x9, some (.d (.list (rx40.map r40D))), none]) (hn_for (g := mgTup 3 (mgCons (mgName 3) (mgCons (mgName 4) (mgCons (mgName 5) mgNil)))) (j := 0) (k := 0) (N := 4) (A := fun d => ∃ r, R40 r ∧ (r.gs ≠ [] ∧ r.bs ≠ []) ∧ d = r40D r) ?hl2 ⟨_, _, _, rfl⟩ ?hb2) ?hk2
  case hl2 =>
    refine .pure (x := rx40.map r40D) (fun w => items_s (vars rfl) rfl) ⟨by decide, fun d hd => ?_⟩
    obtain ⟨r, hr, rfl⟩ := List.mem_map.mp hd
    refine ⟨r, row_ok sp_rx40 cn_rx40 r hr, ?_, rfl⟩
    have : rx40.all (fun r => !r.gs.isEmpty && !r.bs.isEmpty) = true := by decide +kernel
    have := List.all_eq_true.mp this r hr
    simpa using this
  case hb2 =>
    intro e d he hd
    obtain ⟨x3, x4, x5, rfl⟩ := he
    obtain ⟨r, hr, hne, rfl⟩ := hd
    exact ⟨_, rfl, turn40x hr hne.1 hne.2⟩
  intro e he
  obtain ⟨x3, x4, x5, rfl⟩ := he
  exact hr_ret (.pure (fun w => rfl) rfl)
end Dn

set_option maxHeartbeats 4000000
namespace Dn
open PySem PySem.Spec PyProof.Rows L2
structure Facts (K : PySem.W.Frag) (mg : Str → Option Value) : Prop where
  b_all : mg "all" = none
  b_dict : mg "dict" = none
  b_int : mg "int" = none
  b_isinstance : mg "isinstance" = none
  b_len : mg "len" = none
  b_list : mg "list" = none
  b_max : mg "max" = none
  b_min : mg "min" = none
  b_range : mg "range" = none
  b_set : mg "set" = none
  b_sorted : mg "sorted" = none
  b_str : mg "str" = none
  b_tuple : mg "tuple" = none
  c_DEV : ∃ t, mg "DEV" = some (.str ".dev" t)
  c_FIGURES : ∃ t, mg "FIGURES" = some (.str "0123456789" t)
  c_MOST_FIGURES : ∃ t, mg "MOST_FIGURES" = some (.int 24 t)
  c_MOST_NUMBERS : ∃ t, mg "MOST_NUMBERS" = some (.int 60 t)
  c_MOST_TOLD : ∃ t, mg "MOST_TOLD" = some (.int 20 t)
  c_POST : ∃ t, mg "POST" = some (.str ".post" t)
  c_STAR : ∃ t, mg "STAR" = some (.str ".*" t)
  c_WORDS : GTup K mg "WORDS" ["a", "b", "rc"]
  d_number_at : ∃ f fd, FunD K "number_at" "number_at" (defArgs (top 10)) (defBody (top 10)) (defScope (top 10)) [] [] f fd ∧ mg "number_at" = some (.ref f)
  d_numbers_at : ∃ f fd, FunD K "numbers_at" "numbers_at" (defArgs (top 11)) (defBody (top 11)) (defScope (top 11)) [] [] f fd ∧ mg "numbers_at" = some (.ref f)
  d_word_at : ∃ f fd, FunD K "word_at" "word_at" (defArgs (top 12)) (defBody (top 12)) (defScope (top 12)) [] [] f fd ∧ mg "word_at" = some (.ref f)
  d_tail_at : ∃ f fd, FunD K "tail_at" "tail_at" (defArgs (top 13)) (defBody (top 13)) (defScope (top 13)) [] [] f fd ∧ mg "tail_at" = some (.ref f)
  d_parts_of : ∃ f fd, FunD K "parts_of" "parts_of" (defArgs (top 14)) (defBody (top 14)) (defScope (top 14)) [] [] f fd ∧ mg "parts_of" = some (.ref f)
  d_based : ∃ f fd, FunD K "based" "based" (defArgs (top 15)) (defBody (top 15)) (defScope (top 15)) [] [] f fd ∧ mg "based" = some (.ref f)
  d_tail_of : ∃ f fd, FunD K "tail_of" "tail_of" (defArgs (top 16)) (defBody (top 16)) (defScope (top 16)) [] [] f fd ∧ mg "tail_of" = some (.ref f)
  d_split_tail : ∃ f fd, FunD K "split_tail" "split_tail" (defArgs (top 17)) (defBody (top 17)) (defScope (top 17)) [] [] f fd ∧ mg "split_tail" = some (.ref f)
  d_key_from : ∃ f fd, FunD K "key_from" "key_from" (defArgs (top 18)) (defBody (top 18)) (defScope (top 18)) [] [] f fd ∧ mg "key_from" = some (.ref f)
  d_key_of : ∃ f fd, FunD K "key_of" "key_of" (defArgs (top 19)) (defBody (top 19)) (defScope (top 19)) [] [] f fd ∧ mg "key_of" = some (.ref f)
  d_text_of : ∃ f fd, FunD K "text_of" "text_of" (defArgs (top 20)) (defBody (top 20)) (defScope (top 20)) [] [] f fd ∧ mg "text_of" = some (.ref f)
  d_following_key : ∃ f fd, FunD K "following_key" "following_key" (defArgs (top 21)) (defBody (top 21)) (defScope (top 21)) [] [] f fd ∧ mg "following_key" = some (.ref f)
  d_is_version : ∃ f fd, FunD K "is_version" "is_version" (defArgs (top 22)) (defBody (top 22)) (defScope (top 22)) [] [] f fd ∧ mg "is_version" = some (.ref f)
  d_numbers_text : ∃ f fd, FunD K "numbers_text" "numbers_text" (defArgs (top 25)) (defBody (top 25)) (defScope (top 25)) [] [] f fd ∧ mg "numbers_text" = some (.ref f)
  d_block_text : ∃ f fd, FunD K "block_text" "block_text" (defArgs (top 26)) (defBody (top 26)) (defScope (top 26)) [] [] f fd ∧ mg "block_text" = some (.ref f)
  d_near_text : ∃ f fd, FunD K "near_text" "near_text" (defArgs (top 27)) (defBody (top 27)) (defScope (top 27)) [] [] f fd ∧ mg "near_text" = some (.ref f)
  d_told_keys : ∃ f fd, FunD K "told_keys" "told_keys" (defArgs (top 30)) (defBody (top 30)) (defScope (top 30)) [] [] f fd ∧ mg "told_keys" = some (.ref f)
  d_shared : ∃ f fd, FunD K "shared" "shared" (defArgs (top 31)) (defBody (top 31)) (defScope (top 31)) [] [] f fd ∧ mg "shared" = some (.ref f)
  d_padded : ∃ f fd, FunD K "padded" "padded" (defArgs (top 32)) (defBody (top 32)) (defScope (top 32)) [] [] f fd ∧ mg "padded" = some (.ref f)
  d_common_block : ∃ f fd, FunD K "common_block" "common_block" (defArgs (top 33)) (defBody (top 33)) (defScope (top 33)) [] [] f fd ∧ mg "common_block" = some (.ref f)
  d_near_key : ∃ f fd, FunD K "near_key" "near_key" (defArgs (top 34)) (defBody (top 34)) (defScope (top 34)) [] [] f fd ∧ mg "near_key" = some (.ref f)
  d_left_out : ∃ f fd, FunD K "left_out" "left_out" (defArgs (top 35)) (defBody (top 35)) (defScope (top 35)) [] [] f fd ∧ mg "left_out" = some (.ref f)
  d_first_ways : ∃ f fd, FunD K "first_ways" "first_ways" (defArgs (top 36)) (defBody (top 36)) (defScope (top 36)) [] [] f fd ∧ mg "first_ways" = some (.ref f)
  d_telling : ∃ f fd, FunD K "telling" "telling" (defArgs (top 37)) (defBody (top 37)) (defScope (top 37)) [] [] f fd ∧ mg "telling" = some (.ref f)
  d__law_mixed : ∃ f fd, FunD K "_law_mixed" "_law_mixed" (defArgs (top 39)) (defBody (top 39)) (defScope (top 39)) [] [] f fd ∧ mg "_law_mixed" = some (.ref f)
  d__law_begin : ∃ f fd, FunD K "_law_begin" "_law_begin" (defArgs (top 40)) (defBody (top 40)) (defScope (top 40)) [] [] f fd ∧ mg "_law_begin" = some (.ref f)
  d__law_draw : ∃ f fd, FunD K "_law_draw" "_law_draw" (defArgs (top 41)) (defBody (top 41)) (defScope (top 41)) [] [] f fd ∧ mg "_law_draw" = some (.ref f)
  d__law_of : ∃ f fd, FunD K "_law_of" "_law_of" (defArgs (top 42)) (defBody (top 42)) (defScope (top 42)) [] [] f fd ∧ mg "_law_of" = some (.ref f)
  d__law_parts : ∃ f fd, FunD K "_law_parts" "_law_parts" (defArgs (top 43)) (defBody (top 43)) (defScope (top 43)) [] [] f fd ∧ mg "_law_parts" = some (.ref f)
  d__law_base : ∃ f fd, FunD K "_law_base" "_law_base" (defArgs (top 44)) (defBody (top 44)) (defScope (top 44)) [] [] f fd ∧ mg "_law_base" = some (.ref f)
  d__law_key : ∃ f fd, FunD K "_law_key" "_law_key" (defArgs (top 45)) (defBody (top 45)) (defScope (top 45)) [] [] f fd ∧ mg "_law_key" = some (.ref f)
  d__law_is_forerunner : ∃ f fd, FunD K "_law_is_forerunner" "_law_is_forerunner" (defArgs (top 46)) (defBody (top 46)) (defScope (top 46)) [] [] f fd ∧ mg "_law_is_forerunner" = some (.ref f)
  d__law_text : ∃ f fd, FunD K "_law_text" "_law_text" (defArgs (top 47)) (defBody (top 47)) (defScope (top 47)) [] [] f fd ∧ mg "_law_text" = some (.ref f)
  d__law_in_block : ∃ f fd, FunD K "_law_in_block" "_law_in_block" (defArgs (top 48)) (defBody (top 48)) (defScope (top 48)) [] [] f fd ∧ mg "_law_in_block" = some (.ref f)
  d__law_clause_lets : ∃ f fd, FunD K "_law_clause_lets" "_law_clause_lets" (defArgs (top 49)) (defBody (top 49)) (defScope (top 49)) [] [] f fd ∧ mg "_law_clause_lets" = some (.ref f)
  d__law_lets : ∃ f fd, FunD K "_law_lets" "_law_lets" (defArgs (top 50)) (defBody (top 50)) (defScope (top 50)) [] [] f fd ∧ mg "_law_lets" = some (.ref f)
  d__law_moved : ∃ f fd, FunD K "_law_moved" "_law_moved" (defArgs (top 51)) (defBody (top 51)) (defScope (top 51)) [] [] f fd ∧ mg "_law_moved" = some (.ref f)
  d__law_right : ∃ f fd, FunD K "_law_right" "_law_right" (defArgs (top 52)) (defBody (top 52)) (defScope (top 52)) [] [] f fd ∧ mg "_law_right" = some (.ref f)
  d__law_rows : ∃ f fd, FunD K "_law_rows" "_law_rows" (defArgs (top 53)) (defBody (top 53)) (defScope (top 53)) [] [] f fd ∧ mg "_law_rows" = some (.ref f)
  d_law : ∃ f fd, FunD K "law" "law" (defArgs (top 54)) (defBody (top 54)) (defScope (top 54)) [] [] f fd ∧ mg "law" = some (.ref f)
section
variable {P : Program} {w : World} {K : PySem.W.Frag} {mg : Str → Option Value} {base : Heap}
theorem sc__law_mixed0 : FnScope [("cell" : Str), ("k" : Str)] [("cell" : Str), ("k" : Str)] (defScope (top 39)) := ⟨rfl, rfl, rfl, by decide +kernel, rfl, by decide +kernel, by decide +kernel⟩
theorem mixed_ok (T : Facts K mg) : ∃ f fd, FnOk P w K mg base CX0 1 f fd [("cell" : Str), ("k" : Str)] spMixed ∧ mg "_law_mixed" = some (.ref f) ∧ PySem.W.keepIn K (.ref f) = true ∧ Binds K fd [("cell" : Str), ("k" : Str)] [] := by
  obtain ⟨f, fd, F, hf⟩ := T.d__law_mixed
  refine ⟨f, fd, ?_, hf, F.kp, F.bindsN fun _ _ _ _ _ _ us hl => match us, hl with | [_, _], _ => rfl⟩
  refine F.ok (k := 0) sc__law_mixed0 (fun vs H Q E h => ?_) (fun cdv A outer s H vs Q E hr h => ⟨_, PSs.nox (pss_cons (ps_set (i := 0) sc__law_mixed0.nd rfl (Or.inl rfl) (pe_op op_mod (pe_callTy call_int1 rfl T.b_int (by decide +kernel) (pa_cons (pv 0) pa_nil)) pe_int))
      (pss_one (ps_ret (pe_op op_mod (pe_op op_mul (pe_op op_mod (pe_op op_add (pe_op op_add (pe_op op_mul (pv 0) (pe_op op_add pe_int (pe_op op_mul (pe_op op_mul pe_int (pv 1)) (pv 1)))) (pe_op op_mul pe_int (pv 1))) pe_int) pe_int) pe_int) pe_int)))), ?_⟩)
  · obtain ⟨c, k, rfl, _⟩ := h
    rfl
  · obtain ⟨c, k, rfl, h0, h1, q⟩ := h
    have c0 : 0 ≤ c % 2147483647 := Int.emod_nonneg _ (by decide)
    have c1 : c % 2147483647 < 2147483647 := Int.emod_lt_of_pos _ (by decide)
    have e0 : 0 ≤ ((c % 2147483647) * (48271 + 2 * k * k) + 69621 * k + 11) % 2147483647 := Int.emod_nonneg _ (by decide)
    have e1 : ((c % 2147483647) * (48271 + 2 * k * k) + 69621 * k + 11) % 2147483647 < 2147483647 := Int.emod_lt_of_pos _ (by decide)
    refine ⟨_, rfl, .inl ⟨c, rfl, _, _, rfl, rfl, (by show (0 : Int) < 2147483647; decide), ?_⟩⟩
    refine ⟨_, rfl, _, rfl, _, _, rfl, rfl, .inl (by decide), _, rfl, _, _, rfl, rfl, .inr ⟨by omega, by omega⟩, _, _, rfl, rfl, _, _, rfl, rfl, .inl ⟨by omega, by omega⟩, _, rfl, _, _, rfl, rfl, .inl (by decide), _, _, rfl, rfl, _, _, rfl, rfl, _, _, rfl, rfl, (by show (0 : Int) < 2147483647; decide), _, _, rfl, rfl, .inr (by decide), _, _, rfl, rfl, (by show (0 : Int) < 2147483629; decide), q⟩
theorem sc__law_draw : FnScope [("state" : Str), ("many" : Str), ("at" : Str), ("place" : Str), ("left" : Str), ("number" : Str)] [("state" : Str), ("many" : Str)] (defScope (top 41)) := ⟨rfl, rfl, rfl, by decide +kernel, rfl, by decide +kernel, by decide +kernel⟩
theorem F__law_draw (T : Facts K mg) : Fn P w K mg base 2 "_law_draw" m__law_draw := by
  obtain ⟨fm, fdm, GM, hm, kpM, bM⟩ := mixed_ok (P := P) (w := w) (base := base) T
  obtain ⟨f, fd, F, hf⟩ := T.d__law_draw
  refine ⟨f, fd, [("state" : Str), ("many" : Str)], ?_, hf, F.kp, F.bindsN fun _ _ _ _ _ _ us hl => match us, hl with | [_, _], _ => rfl⟩
  refine F.ok (k := 1) sc__law_draw (fun vs H Q E h => ?_) (fun cdv A outer s H vs Q E hr h => ⟨_, PSs.nox (
      pss_cons (ps_set (i := 2) sc__law_draw.nd rfl (Or.inl rfl) (pe_dget (hu_of hr) (pv 0) pe_str (fun _ _ => rfl)))
      (pss_cons (ps_dput (hu_of hr) (pv 0) pe_str (pe_op op_add (pv 2) pe_int) rfl)
      (pss_cons (ps_set (i := 3) sc__law_draw.nd rfl (Or.inl rfl) (pe_op op_mod (pe_callTy call_int1 rfl T.b_int (by decide +kernel) (pa_cons (pv 2) pa_nil)) (pe_callB call_len_seq rfl T.b_len PySem.boot_len (pa_cons (pe_dget (hu_of hr) (pv 0) pe_str (fun _ _ => rfl)) pa_nil))))
      (pss_cons (ps_set (i := 4) sc__law_draw.nd rfl (Or.inl rfl) (pe_ix ix_list (pe_dget (hu_of hr) (pv 0) pe_str (fun _ _ => rfl)) (pv 3) (fun _ _ => rfl)))
      (pss_cons (ps_if (pt_cmpR op_gt (pv 4) pe_int (nomark _)) (pss_cons (ps_asg (pe_op op_fdiv (pv 4) (pv 1)) (pg_sub (pe_dget (hu_of hr) (pv 0) pe_str (fun _ _ => rfl)) (pv 3) set_list)) (pss_one (ps_ret (pe_op op_mod (pe_callTy call_int1 rfl T.b_int (by decide +kernel) (pa_cons (pv 4) pa_nil)) (pv 1))))) pss_nil)
      (pss_cons (ps_set (i := 5) sc__law_draw.nd rfl (Or.inl rfl) (pe_call GM hr rfl hm kpM bM .nil pass0 (pa_cons (pe_call GM hr rfl hm kpM bM .nil pass0 (pa_cons (pe_ix ix_list (pe_dget (hu_of hr) (pv 0) pe_str (fun _ _ => rfl)) (pv 3) (fun _ _ => rfl)) (pa_cons (pv 2) pa_nil))) (pa_cons (pe_op op_add pe_int (pv 2)) pa_nil))))
      (pss_one (ps_ret (pe_op op_mod (pe_op op_fdiv (pe_callTy call_int1 rfl T.b_int (by decide +kernel) (pa_cons (pe_op op_add (pe_op op_mul (pv 5) pe_int) (pe_call GM hr rfl hm kpM bM .nil pass0 (pa_cons (pv 5) (pa_cons (pe_op op_add pe_int (pv 2)) pa_nil)))) pa_nil)) pe_int) (pv 1)))))))))), ?_⟩)
  · obtain ⟨G, ad, w, as, r, w', _, _, _, a, hm, _⟩ := h
    have hl : as.length = 2 := by
      unfold m__law_draw at hm
      split at hm
      · rfl
      · cases hm
    rw [← a.length]; exact hl
  · obtain ⟨G, ad, w, as, r, w', sg, st, tb, a, hm, k⟩ := h
    unfold m__law_draw at hm
    split at hm
    · rename_i many sd
      split at hm
      · rename_i hc
        cases hm
        obtain ⟨ok, m1, m2⟩ := hc
        have S := st sd rfl
        cases a with
        | cons a1 ar =>
        cases ar with
        | cons a2 ar =>
        cases ar
        obtain ⟨_, rfl⟩ := a1
        cases a2
        have hlt := DS.at_lt ok
        have hl : (0 : Int) < sd.cells.length := by have := List.length_pos_iff.mpr ok.ne; omega
        have p0 := ok.p0
        have p1 := ok.p1
        have nsl : ad.sa ≠ ad.la := ne_of S.sa S.la (by intro z; cases z)
        have nsc : ad.sa ≠ ad.ca := ne_of S.sa S.ca (by intro z; cases z)
        have pe : sd.pos % ((sd.cells.length : Nat) : Int) = ((sd.at_ : Nat) : Int) := by
          have h1 := Int.emod_nonneg sd.pos (show (sd.cells.length : Int) ≠ 0 by omega)
          unfold DS.at_
          omega
        -- at = state['at']; state['at'] = at + 1
        refine ⟨_, rfl, ad.sa, .int sd.pos, rfl, (by have := DGet.k (k := kAt) S.sa; rw [valAt] at this; exact this), ?_⟩
        refine ⟨_, rfl, _, _, rfl, rfl, _, rfl, ad.sa, _, rfl, DPut.k (k := kAt) S.sa (by show 4 < sizeLine; decide), ?_⟩
        rw [putAt]
        have hsa : (upd H ad.sa (.dK [(kCells, .ref ad.ca), (kLefts, .ref ad.la), (kAt, .int (sd.pos + 1)), (kRoom, .int sd.room)])) ad.sa = some (.dK [(kCells, .ref ad.ca), (kLefts, .ref ad.la), (kAt, .int (sd.pos + 1)), (kRoom, .int sd.room)]) := upd_same
        have hla : (upd H ad.sa (.dK [(kCells, .ref ad.ca), (kLefts, .ref ad.la), (kAt, .int (sd.pos + 1)), (kRoom, .int sd.room)])) ad.la = some (.lst (sd.lefts.map V.int)) := by rw [upd_ne nsl.symm]; exact S.la
        have hca : (upd H ad.sa (.dK [(kCells, .ref ad.ca), (kLefts, .ref ad.la), (kAt, .int (sd.pos + 1)), (kRoom, .int sd.room)])) ad.ca = some (.lst (sd.cells.map V.int)) := by rw [upd_ne nsc.symm]; exact S.ca
        -- place, left
        refine ⟨_, rfl, .inl ⟨sd.pos, rfl, _, rfl, ad.sa, .ref ad.ca, rfl, (by have := DGet.k (k := kCells) hsa; rw [valCells] at this; exact this), ad.ca, _, rfl, .inl (SqL.of hca), _, _, rfl, rfl, (by rw [List.length_map]; exact hl), ?_⟩⟩
        have pe' : sd.pos % (((sd.cells.map V.int).length : Nat) : Int) = ((sd.at_ : Nat) : Int) := by rw [List.length_map]; exact pe
        have hll : sd.at_ < sd.lefts.length := by rw [ok.ln]; exact hlt
        refine ⟨_, rfl, ad.sa, .ref ad.la, rfl, (by have := DGet.k (k := kLefts) hsa; rw [valLefts] at this; exact this), _, rfl, ad.la, _, _, .int sd.left, rfl, rfl, SqL.of hla, atI_int hll pe', ?_⟩
        refine ⟨_, rfl, _, _, rfl, rfl, _, rfl, ?_⟩
        have gh' : ∀ (H1 : Hp), (∀ b o, H b = some o → b ≠ ad.sa → b ≠ ad.la → H1 b = some o) → Same G H1 := fun H1 kp b o e =>
          kp b o (sg b o e) (fun z => by rw [z, S.gs] at e; cases e) (fun z => by rw [z, S.gl] at e; cases e)
        refine ite2 (fun hpos => ?_) (fun hneg => ?_)
        · -- the digits of a great cell
          have hp : 0 < sd.left := of_decide_eq_true hpos
          refine ⟨_, rfl, _, rfl, _, _, rfl, rfl, ⟨m1, m2⟩, _, rfl, ad.sa, .ref ad.la, rfl, (by have := DGet.k (k := kLefts) hsa; rw [valLefts] at this; exact this), _, rfl, ad.la, _, _, sd.at_, rfl, rfl, hla, (by rw [pe', List.length_map]; unfold ixN; rw [if_pos (by omega), if_pos (by omega)]; rfl), ?_⟩
          refine ⟨_, rfl, .inl ⟨sd.left, rfl, _, rfl, _, _, rfl, rfl, m1, ?_⟩⟩
          have ev : sd.val many = sd.left % many := by unfold DS.val; rw [if_pos hp]
          have en : sd.next many = { sd with lefts := sd.lefts.set sd.at_ (sd.left / many), pos := sd.pos + 1 } := by unfold DS.next; rw [if_pos hp]
          rw [ev, en] at k
          refine k _ G _ (Same.refl G) (gh' _ fun b o e h1 h2 => by rw [upd_ne h2, upd_ne h1]; exact e) (fun b o e nm => ?_) (fun _ _ _ => rfl) rfl (fun s e => ?_) ((tb.hobj S.sa (fun _ z => by cases z) (fun _ z => by cases z)).hobj hla (fun _ z => by cases z) (fun _ z => by cases z)) (.int _)
          · rw [upd_ne (fun z => nm (.inl ⟨rfl, .inr z⟩)), upd_ne (fun z => nm (.inl ⟨rfl, .inl z⟩))]; exact e
          · cases e
            refine ⟨by rw [upd_ne nsl]; exact hsa, by rw [upd_same, List.map_set], by rw [upd_ne S.ne]; exact hca, S.gs, S.gl, S.gc, S.ne, S.tk⟩
        · have hp : ¬ 0 < sd.left := fun z => hneg (decide_eq_true z)
          have n0 := mixed_nn (mixed sd.cell sd.pos) (40 + sd.pos)
          have n1 := mixed_lt (mixed sd.cell sd.pos) (40 + sd.pos)
          refine ⟨_, rfl, ad.sa, .ref ad.ca, rfl, (by have := DGet.k (k := kCells) hsa; rw [valCells] at this; exact this), _, rfl, ad.ca, _, _, .int sd.cell, rfl, rfl, SqL.of hca, atI_int hlt pe', _, rfl, sd.cell, sd.pos, rfl, p0, by omega, _, rfl, _, _, rfl, rfl, mixed sd.cell sd.pos, 40 + sd.pos, rfl, by omega, by omega, ?_⟩
          refine ⟨_, rfl, _, _, rfl, rfl, .inr (by decide), _, rfl, _, rfl, _, _, rfl, rfl, mixed (mixed sd.cell sd.pos) (40 + sd.pos), 7 + sd.pos, rfl, by omega, by omega, _, _, rfl, rfl, .inl ⟨_, rfl, _, _, rfl, rfl, ⟨by decide, by decide⟩, _, rfl, _, _, rfl, rfl, m1, ?_⟩⟩
          have ev : sd.val many = (sd.num * 2147483647 + mixed sd.num (7 + sd.pos)) / 64 % many := by unfold DS.val; rw [if_neg hp]
          have en : sd.next many = { sd with pos := sd.pos + 1 } := by unfold DS.next; rw [if_neg hp]
          rw [ev, en] at k
          refine k _ G _ (Same.refl G) (gh' _ fun b o e h1 h2 => by rw [upd_ne h1]; exact e) (fun b o e nm => ?_) (fun _ _ _ => rfl) rfl (fun s e => ?_) (tb.hobj S.sa (fun _ z => by cases z) (fun _ z => by cases z)) (.int _)
          · rw [upd_ne (fun z => nm (.inl ⟨rfl, .inl z⟩))]; exact e
          · cases e
            exact ⟨hsa, hla, hca, S.gs, S.gl, S.gc, S.ne, S.tk⟩
      · cases hm
    · cases hm
theorem sc__law_begin : FnScope [("script" : Str), ("cells" : Str), ("cell" : Str)] [("script" : Str)] (defScope (top 40)) := ⟨rfl, rfl, rfl, by decide +kernel, rfl, by decide +kernel, by decide +kernel⟩
theorem begin_row (T : Facts K mg) : ∃ f fd, FnOk P w K mg base CX0 1 f fd [("script" : Str)] (spBegin K) ∧ mg "_law_begin" = some (.ref f) ∧ PySem.W.keepIn K (.ref f) = true ∧ Binds K fd [("script" : Str)] [] := by
  obtain ⟨f, fd, F, hf⟩ := T.d__law_begin
  refine ⟨f, fd, ?_, hf, F.kp, F.bindsN fun _ _ _ _ _ _ us hl => match us, hl with | [_], _ => rfl⟩
  refine F.ok (k := 0) sc__law_begin (fun vs H Q E h => ?_) (fun cdv A outer s H vs Q E hr h => ⟨_, PSs.nox (
      pss_cons (ps_set (i := 1) sc__law_begin.nd rfl (Or.inl rfl) (pe_ifExp (pt_cmpR (op_neP hr.units) (pv 0) (pe_lst pa_nil) (nomark _)) (pe_callTy call_list_of rfl T.b_list (by decide +kernel) (pa_cons (pv 0) pa_nil)) (pe_lst (pa_cons pe_int pa_nil))))
      (pss_one (ps_ret (pe_disp (pps_cons pe_str (pv 1) (pps_cons pe_str (pe_lc (own := [("cell", 2)]) (g := gName 2) (tt := tYes) rfl sc__law_begin.nd (pi_list (pv 1)) (blkOk_by (N := [("script" : Str), ("cells" : Str), ("cell" : Str)]) (sc := defScope (top 40)) (own := [("cell", 2)]) (by decide +kernel)) (fun _ _ _ _ _ => pg_name (i := 2) sc__law_begin.nd rfl (Or.inl rfl)) (fun _ _ _ _ _ => pts_nil)
          (fun _ _ _ _ _ => pe_ifExp (pt_cmpR op_ge (pv 2) (pe_op op_pow pe_int pe_int) (nomark _)) (pv 2) pe_int)) (pps_cons pe_str pe_int (pps_cons pe_str pe_int pps_nil)))) (by rfl) (by rfl) (fun z => by cases z) (by decide))))), ?_⟩)
  · obtain ⟨a, ns, rfl, _⟩ := h
    rfl
  · obtain ⟨a, ns, rfl, hS, hlen, k⟩ := h
    -- the rest, once the cells stand at c
    have rest : ∀ (c : Addr) (H1 : Hp), Same H H1 → H c = none → H1 c = some (.lst ((beginCells ns).map V.int)) →
        tRet (tDisp [(tC (.str "cells"), tVar 1), (tC (.str "lefts"), tLc (iList K (tVar 1)) (gName 2) tYes (tIf (tTest (tOp (rI0 fun i j => .bl (decide (j ≤ i))) (tVar 2) (tOp (rI CPow fun i j => .int (i ^ j.toNat)) (tC (.int 10)) (tC (.int 18))))) (tVar 2) (tC (.int 0))) [2]), (tC (.str "at"), tC (.int 0)), (tC (.str "room"), tC (.int 0))])
          { nx := fun _ H' => Q .non H', rt := Q } [some (.ref a), some (.ref c), none] H1 := by
      intro c H1 s1 hc0 hc
      intro p hp
      have npc : p ≠ c := fun z => by rw [z, hc] at hp; cases hp
      have hc2 : (upd H1 p (.dK [])) c = some (.lst ((beginCells ns).map V.int)) := by rw [upd_ne npc.symm]; exact hc
      refine ⟨_, rfl, _, rfl, c, rfl, ⟨_, SqL.of hc2⟩, fun D hD => ?_⟩
      have nDp : D ≠ p := fun z => by rw [z, upd_same] at hD; cases hD
      have nDc : D ≠ c := fun z => by rw [z, hc2] at hD; cases hD
      have hD1 : H1 D = none := by rw [upd_ne nDp] at hD; exact hD
      refine lc_list (K := K) (a := c) (xs := (beginCells ns).map V.int) (fun i H2 => H2 = upd (upd H1 p (.dK [])) D (.lst ((((beginCells ns).take i).map fun c => if 1000000000000000000 ≤ c then c else 0).map V.int))) ?_ ?_ ?_ ?_
      · simp
      · rintro i H2 _ rfl
        exact SqL.of (by rw [upd_ne nDc.symm]; exact hc2)
      · rintro i x H2 hx rfl
        have hi : i < (beginCells ns).length := by
          have := (List.getElem?_eq_some_iff.mp hx).1
          rwa [List.length_map] at this
        rw [List.getElem?_map, List.getElem?_eq_getElem hi] at hx
        cases hx
        refine ⟨rfl, ?_⟩
        dsimp only [tYes]
        rw [if_pos rfl]
        refine ⟨_, rfl, _, _, rfl, rfl, ⟨by decide, by decide, by decide⟩, _, _, rfl, rfl, _, rfl, ?_⟩
        have hz : (((beginCells ns).take i).map fun c => if 1000000000000000000 ≤ c then c else 0).length < sizeLine := by
          have e : (beginCells ns).length ≤ 64 := by
            unfold beginCells
            split
            · simp
            · omega
          rw [List.length_map, List.length_take, sizeLine_eq]
          omega
        have fin : ∀ y : Int, y = (if 1000000000000000000 ≤ (beginCells ns)[i] then (beginCells ns)[i] else 0) → upd (upd (upd H1 p (.dK [])) D (.lst ((((beginCells ns).take i).map fun c => if 1000000000000000000 ≤ c then c else 0).map V.int))) D (.lst ((((beginCells ns).take i).map fun c => if 1000000000000000000 ≤ c then c else 0).map V.int ++ [.int y])) = upd (upd H1 p (.dK [])) D (.lst ((((beginCells ns).take (i + 1)).map fun c => if 1000000000000000000 ≤ c then c else 0).map V.int)) := fun y e => by
          rw [upd_upd, List.take_succ_eq_append_getElem hi, e, List.map_append, List.map_append]
          rfl
        refine ite2 (fun hb => ?_) (fun hb => ?_)
        · have hb' : (10 : Int) ^ (18 : Int).toNat ≤ (beginCells ns)[i] := of_decide_eq_true hb
          have e18 : (10 : Int) ^ (18 : Int).toNat = 1000000000000000000 := by decide
          rw [e18] at hb'
          exact ⟨_, rfl, _, upd_same, by rw [List.length_map]; exact hz, fin _ (by rw [if_pos hb'])⟩
        · have hb' : ¬ (10 : Int) ^ (18 : Int).toNat ≤ (beginCells ns)[i] := fun z => hb (decide_eq_true z)
          have e18 : (10 : Int) ^ (18 : Int).toNat = 1000000000000000000 := by decide
          rw [e18] at hb'
          exact ⟨_, upd_same, by rw [List.length_map]; exact hz, fin _ (by rw [if_neg hb'])⟩
      · rintro H2 rfl
        refine ⟨?_, [(kCells, .ref c), (kLefts, .ref D), (kAt, .int 0), (kRoom, .int 0)], rfl, by show 4 ≤ 15; decide, ?_⟩
        · rw [upd_ne nDp.symm, upd_same]
        · rw [merge4]
          refine k ⟨p, c, D, []⟩ _ (fun b o e => ?_) (s1.free hp) hc0 (s1.free hD1) nDc.symm upd_same ?_ ?_
          · rw [upd_ne (ne_of_none e (s1.free hp)), upd_ne (ne_of_none e (s1.free hD1)), upd_ne (ne_of_none e (s1.free hp))]
            exact s1 b o e
          · show upd (upd _ D _) p _ D = _
            rw [upd_ne nDp, upd_same, List.length_map, List.take_length]
            rfl
          · show upd (upd _ D _) p _ c = _
            rw [upd_ne npc.symm, upd_ne nDc.symm, upd_ne npc.symm]
            exact hc
    refine ⟨_, rfl, (by show 0 ≤ sizeLine; decide), fun e he => ?_⟩
    have se : Same H (upd H e (.lst [])) := same_upd he
    refine ⟨.list (ns.map .int), .list [], .lst (se.seq hS) (dpAll_ints ns), .lst (SqL.of upd_same) .nil, by simpa [PyData.plain] using plain_ints ns, by simp [PyData.plain, PyData.plainAll], by rfl, _, rfl, ?_⟩
    by_cases hns : ns = []
    · subst hns
      refine iteF ?_
      refine ⟨(by show 1 ≤ sizeLine; decide), fun c hc => ?_⟩
      have hce : c ≠ e := fun z => by rw [z, upd_same] at hc; cases hc
      exact rest c _ (se.trans (same_upd hc)) (se.free hc) (by rw [upd_same]; rfl)
    · have ev : (!PyData.eqv (.list (ns.map .int)) (.list [])) = true := by
        cases ns with
        | nil => exact absurd rfl hns
        | cons n r => simp [PyData.eqv, PyData.eqvAll]
      rw [ev]
      refine iteT ?_
      refine ⟨_, rfl, a, _, rfl, .inl (se.seq hS), fun c hc => ?_⟩
      exact rest c _ (se.trans (same_upd hc)) (se.free hc) (by rw [upd_same]; unfold beginCells; rw [if_neg hns])
theorem sc_number_at : FnScope [("text" : Str), ("at" : Str), ("behind" : Str), ("figures" : Str)] [("text" : Str), ("at" : Str)] (defScope (top 10)) := ⟨rfl, rfl, rfl, by decide +kernel, rfl, by decide +kernel, by decide +kernel⟩
theorem F_number_at (T : Facts K mg) : Fn P w K mg base 1 "number_at" m_number_at := by
  obtain ⟨f, fd, F, hf⟩ := T.d_number_at
  show Fn P w K mg base 1 "number_at" (mFn 2 4 b_number_at)
  refine ⟨f, fd, [("text" : Str), ("at" : Str)], fn_ok (k := 0) (m := b_number_at) rfl rfl F sc_number_at fun cdv A outer s H E hr => ?_, hf, F.kp, F.bindsN fun _ _ _ _ _ _ us hl => match us, hl with | [_, _], _ => rfl⟩
  have hu := hr.units
  exact (dss_cons (ds_set (ps_set (i := 2) sc_number_at.nd rfl (by first | exact Or.inl rfl | exact Or.inr rfl) (de_var (pv 1))))
 (dss_cons (ds_while (n := fuel) (ps_while PassesOwn.never (DW.dt (dw_and (dt_cmp (od_ne hu) (de_sl (de_var (pv 0)) (dpo_some (de_var (pv 2))) (dpo_some (de_op od_add (de_var (pv 2)) de_int))) de_str (nomark _)) (dw_and1 (dt_cmp (od_in hu) (de_ix (de_var (pv 0)) (de_var (pv 2))) (de_gstr T.c_FIGURES) rfl)))) (dss_one (ds_aug oi_addI (ps_aug (i := 2) sc_number_at.nd rfl (by first | exact Or.inl rfl | exact Or.inr rfl) de_int op_sem)))))
 (dss_cons (ds_set (ps_set (i := 3) sc_number_at.nd rfl (by first | exact Or.inl rfl | exact Or.inr rfl) (de_sl (de_var (pv 0)) (dpo_some (de_var (pv 1))) (dpo_some (de_var (pv 2))))))
 (dss_cons (ds_if (ps_if (DW.dt (dw_or (dt_cmp (od_eq hu) (de_var (pv 3)) de_str (nomark _)) (dw_or (dt_cmp od_gtI (de_callB cd_len T.b_len (by decide +kernel) (da_cons (de_var (pv 3)) da_nil)) (de_gint T.c_MOST_FIGURES) (nomark _)) (dw_or1 (DW.dt (dw_and (dt_cmp (od_eq hu) (de_ix (de_var (pv 3)) de_int) de_str (nomark _)) (dw_and1 (dt_cmp (od_ne hu) (de_var (pv 3)) de_str (nomark _))))))))) (dss_one (ds_ret (ps_ret de_non))) dss_nil))
 (dss_one (ds_ret (ps_ret (de_tup (pe_tup (da_cons (de_callTy cd_int T.b_int (by decide +kernel) (da_cons (de_var (pv 3)) da_nil)) (da_cons (de_var (pv 2)) da_nil)))))))))))
theorem sc_numbers_at : FnScope [("text" : Str), ("at" : Str), ("found" : Str), ("place" : Str), ("told" : Str)] [("text" : Str), ("at" : Str)] (defScope (top 11)) := ⟨rfl, rfl, rfl, by decide +kernel, rfl, by decide +kernel, by decide +kernel⟩
theorem F_numbers_at (T : Facts K mg) : Fn P w K mg base 2 "numbers_at" m_numbers_at := by
  have F_number_at := F_number_at (P := P) (w := w) (base := base) T
  obtain ⟨f, fd, F, hf⟩ := T.d_numbers_at
  show Fn P w K mg base 2 "numbers_at" (mFn 2 5 b_numbers_at)
  refine ⟨f, fd, [("text" : Str), ("at" : Str)], fn_ok (k := 1) (m := b_numbers_at) rfl rfl F sc_numbers_at fun cdv A outer s H E hr => ?_, hf, F.kp, F.bindsN fun _ _ _ _ _ _ us hl => match us, hl with | [_, _], _ => rfl⟩
  have hu := hr.units
  exact (dss_cons (ds_parO (ps_par (i := 2) (j := 3) rfl sc_numbers_at.nd rfl rfl (by decide) rfl rfl (pa_cons (do_lst (pe_lst da_nil)) (pa_cons (de_var (pv 1)) pa_nil)) rfl))
 (dss_one (ds_while (n := fuel) (ps_while PassesOwn.never (dt_val de_bl) (dss_cons (ds_set (ps_set (i := 4) sc_numbers_at.nd rfl (by first | exact Or.inl rfl | exact Or.inr rfl) (de_call F_number_at hr (by decide) (da_cons (de_var (pv 0)) (da_cons (de_var (pv 3)) da_nil)))))
 (dss_cons (ds_if (ps_if (dt_cmp od_is (de_var (pv 4)) de_non (nomark _)) (dss_one (ds_ret (ps_ret de_non))) dss_nil))
 (dss_cons (ds_append (ps_expr (pe_bm PySem.F.plainAttrs_list PySem.F.slot_list_append PySem.F.type_list_append mt_append (pv 2) (pa_cons (de_ix (de_var (pv 4)) de_int) pa_nil))))
 (dss_cons (ds_set (ps_set (i := 3) sc_numbers_at.nd rfl (by first | exact Or.inl rfl | exact Or.inr rfl) (de_ix (de_var (pv 4)) de_int)))
 (dss_cons (ds_if (ps_if (DW.dt (dw_or (dt_cmp (od_ne hu) (de_sl (de_var (pv 0)) (dpo_some (de_var (pv 3))) (dpo_some (de_op od_add (de_var (pv 3)) de_int))) de_str (nomark _)) (dw_or1 (dt_cmp (od_notIn hu) (de_sl (de_var (pv 0)) (dpo_some (de_op od_add (de_var (pv 3)) de_int)) (dpo_some (de_op od_add (de_var (pv 3)) de_int))) (de_callTy (cd_tupStr rfl) T.b_tuple (by decide +kernel) (da_cons (de_gstr T.c_FIGURES) da_nil)) rfl)))) (dss_one (ds_ret (ps_ret (de_if (dt_cmp od_leI (de_pklen T.b_len (pv 2)) (de_gint T.c_MOST_NUMBERS) (nomark _)) (de_tup (pe_tup (da_cons (de_callTy cd_tuple T.b_tuple (by decide +kernel) (da_cons (de_var (pv 2)) da_nil)) (da_cons (de_var (pv 3)) da_nil)))) de_non)))) dss_nil))
 (dss_one (ds_aug oi_addI (ps_aug (i := 3) sc_numbers_at.nd rfl (by first | exact Or.inl rfl | exact Or.inr rfl) de_int op_sem))))))))))))
theorem sc_word_at : FnScope [("text" : Str), ("at" : Str), ("words" : Str), ("word" : Str), ("told" : Str)] [("text" : Str), ("at" : Str), ("words" : Str)] (defScope (top 12)) := ⟨rfl, rfl, rfl, by decide +kernel, rfl, by decide +kernel, by decide +kernel⟩
theorem F_word_at (T : Facts K mg) : Fn P w K mg base 2 "word_at" m_word_at := by
  have F_number_at := F_number_at (P := P) (w := w) (base := base) T
  obtain ⟨f, fd, F, hf⟩ := T.d_word_at
  show Fn P w K mg base 2 "word_at" (mFn 3 5 b_word_at)
  refine ⟨f, fd, [("text" : Str), ("at" : Str), ("words" : Str)], fn_ok (k := 1) (m := b_word_at) rfl rfl F sc_word_at fun cdv A outer s H E hr => ?_, hf, F.kp, F.bindsN fun _ _ _ _ _ _ us hl => match us, hl with | [_, _, _], _ => rfl⟩
  have hu := hr.units
  exact (dss_cons (ds_for (vs := [3]) (ps_for PassesOwn.never rfl (di_seq (de_var (pv 2))) (dg_name (pg_name (i := 3) sc_word_at.nd rfl (by first | exact Or.inl rfl | exact Or.inr rfl))) (dss_one (ds_if (ps_if (dt_val (de_mtS PySem.F.slot_str_startswith PySem.F.type_str_startswith md_starts2 (de_var (pv 0)) (da_cons (de_var (pv 3)) (da_cons (de_var (pv 1)) da_nil)))) (dss_cons (ds_set (ps_set (i := 4) sc_word_at.nd rfl (by first | exact Or.inl rfl | exact Or.inr rfl) (de_call F_number_at hr (by decide) (da_cons (de_var (pv 0)) (da_cons (de_op od_add (de_var (pv 1)) (de_callB cd_len T.b_len (by decide +kernel) (da_cons (de_var (pv 3)) da_nil))) da_nil)))))
 (dss_one (ds_ret (ps_ret (de_if (dt_cmp od_is (de_var (pv 4)) de_non (nomark _)) de_non (de_tup (pe_tup (da_cons (de_tup (pe_tup (da_cons (de_var (pv 3)) (da_cons (de_ix (de_var (pv 4)) de_int) da_nil)))) (da_cons (de_ix (de_var (pv 4)) de_int) da_nil))))))))) dss_nil)))))
 (dss_one (ds_ret (ps_ret (de_tup (pe_tup (da_cons de_non (da_cons (de_var (pv 1)) da_nil))))))))
theorem sc_tail_at : FnScope [("text" : Str), ("at" : Str), ("found" : Str), ("place" : Str), ("words" : Str), ("told" : Str), ("ahead" : Str), ("post" : Str), ("dev" : Str)] [("text" : Str), ("at" : Str)] (defScope (top 13)) := ⟨rfl, rfl, rfl, by decide +kernel, rfl, by decide +kernel, by decide +kernel⟩
theorem F_tail_at (T : Facts K mg) : Fn P w K mg base 3 "tail_at" m_tail_at := by
  have F_word_at := F_word_at (P := P) (w := w) (base := base) T
  obtain ⟨f, fd, F, hf⟩ := T.d_tail_at
  show Fn P w K mg base 3 "tail_at" (mFn 2 9 b_tail_at)
  refine ⟨f, fd, [("text" : Str), ("at" : Str)], fn_ok (k := 2) (m := b_tail_at) rfl rfl F sc_tail_at fun cdv A outer s H E hr => ?_, hf, F.kp, F.bindsN fun _ _ _ _ _ _ us hl => match us, hl with | [_, _], _ => rfl⟩
  have hu := hr.units
  exact (dss_cons (ds_parO (ps_par (i := 2) (j := 3) rfl sc_tail_at.nd rfl rfl (by decide) rfl rfl (pa_cons (do_lst (pe_lst da_nil)) (pa_cons (de_var (pv 1)) pa_nil)) rfl))
 (dss_cons (ds_for (vs := [4]) (ps_for PassesOwn.never rfl (di_seq (de_tup (pe_tup (da_cons (de_gtup T.c_WORDS) (da_cons (de_tup (pe_tup (da_cons (de_gstr T.c_POST) da_nil))) (da_cons (de_tup (pe_tup (da_cons (de_gstr T.c_DEV) da_nil))) da_nil)))))) (dg_name (pg_name (i := 4) sc_tail_at.nd rfl (by first | exact Or.inl rfl | exact Or.inr rfl))) (dss_cons (ds_set (ps_set (i := 5) sc_tail_at.nd rfl (by first | exact Or.inl rfl | exact Or.inr rfl) (de_call F_word_at hr (by decide) (da_cons (de_var (pv 0)) (da_cons (de_var (pv 3)) (da_cons (de_var (pv 4)) da_nil))))))
 (dss_cons (ds_if (ps_if (dt_cmp od_is (de_var (pv 5)) de_non (nomark _)) (dss_one (ds_ret (ps_ret de_non))) dss_nil))
 (dss_cons (ds_append (ps_expr (pe_bm PySem.F.plainAttrs_list PySem.F.slot_list_append PySem.F.type_list_append mt_append (pv 2) (pa_cons (de_ix (de_var (pv 5)) de_int) pa_nil))))
 (dss_one (ds_set (ps_set (i := 3) sc_tail_at.nd rfl (by first | exact Or.inl rfl | exact Or.inr rfl) (de_ix (de_var (pv 5)) de_int)))))))))
 (dss_cons (ds_if (ps_if (dt_cmp (od_ne hu) (de_var (pv 3)) (de_callB cd_len T.b_len (by decide +kernel) (da_cons (de_var (pv 0)) da_nil)) (nomark _)) (dss_one (ds_ret (ps_ret de_non))) dss_nil))
 (dss_cons (ds_asg (vs := [6, 7, 8]) (ps_asg (de_var (pv 2)) (dg_unl (pg_unl rfl (dgs_cons (dg_name (pg_name (i := 6) sc_tail_at.nd rfl (by first | exact Or.inl rfl | exact Or.inr rfl))) (dgs_cons (dg_name (pg_name (i := 7) sc_tail_at.nd rfl (by first | exact Or.inl rfl | exact Or.inr rfl))) (dgs_cons (dg_name (pg_name (i := 8) sc_tail_at.nd rfl (by first | exact Or.inl rfl | exact Or.inr rfl))) dgs_nil)))))))
 (dss_one (ds_ret (ps_ret (de_tup (pe_tup (da_cons (de_var (pv 6)) (da_cons (de_if (dt_cmp od_is (de_var (pv 7)) de_non (nomark _)) de_non (de_ix (de_var (pv 7)) de_int)) (da_cons (de_if (dt_cmp od_is (de_var (pv 8)) de_non (nomark _)) de_non (de_ix (de_var (pv 8)) de_int)) da_nil))))))))))))
theorem sc_parts_of : FnScope [("thing" : Str), ("epoch" : Str), ("at" : Str), ("told" : Str), ("found" : Str), ("tail" : Str)] [("thing" : Str)] (defScope (top 14)) := ⟨rfl, rfl, rfl, by decide +kernel, rfl, by decide +kernel, by decide +kernel⟩
theorem F_parts_of (T : Facts K mg) : Fn P w K mg base 4 "parts_of" m_parts_of := by
  have F_number_at := F_number_at (P := P) (w := w) (base := base) T
  have F_numbers_at := F_numbers_at (P := P) (w := w) (base := base) T
  have F_tail_at := F_tail_at (P := P) (w := w) (base := base) T
  obtain ⟨f, fd, F, hf⟩ := T.d_parts_of
  show Fn P w K mg base 4 "parts_of" (mFn 1 6 b_parts_of)
  refine ⟨f, fd, [("thing" : Str)], fn_ok (k := 3) (m := b_parts_of) rfl rfl F sc_parts_of fun cdv A outer s H E hr => ?_, hf, F.kp, F.bindsN fun _ _ _ _ _ _ us hl => match us, hl with | [_], _ => rfl⟩
  have hu := hr.units
  exact (dss_cons (ds_if (ps_if (dt_not (dt_val (de_is (de_var (pv 0)) kit_str T.b_isinstance T.b_str (by decide +kernel)))) (dss_one (ds_ret (ps_ret de_non))) dss_nil))
 (dss_cons (ds_asg (vs := [1, 2]) (ps_asg (de_tup (pe_tup (da_cons de_int (da_cons de_int da_nil)))) (dg_tup (pg_tup rfl (dgs_cons (dg_name (pg_name (i := 1) sc_parts_of.nd rfl (by first | exact Or.inl rfl | exact Or.inr rfl))) (dgs_cons (dg_name (pg_name (i := 2) sc_parts_of.nd rfl (by first | exact Or.inl rfl | exact Or.inr rfl))) dgs_nil))))))
 (dss_cons (ds_if (ps_if (dt_cmp (od_in hu) de_str (de_var (pv 0)) rfl) (dss_cons (ds_set (ps_set (i := 3) sc_parts_of.nd rfl (by first | exact Or.inl rfl | exact Or.inr rfl) (de_call F_number_at hr (by decide) (da_cons (de_var (pv 0)) (da_cons de_int da_nil)))))
 (dss_cons (ds_if (ps_if (DW.dt (dw_or (dt_cmp od_is (de_var (pv 3)) de_non (nomark _)) (dw_or1 (dt_cmp (od_ne hu) (de_ix (de_var (pv 0)) (de_ix (de_var (pv 3)) de_int)) de_str (nomark _))))) (dss_one (ds_ret (ps_ret de_non))) dss_nil))
 (dss_one (ds_par (ps_par (i := 1) (j := 2) rfl sc_parts_of.nd rfl rfl (by decide) rfl rfl (da_cons (de_ix (de_var (pv 3)) de_int) (da_cons (de_op od_add (de_ix (de_var (pv 3)) de_int) de_int) da_nil)) rfl))))) dss_nil))
 (dss_cons (ds_set (ps_set (i := 4) sc_parts_of.nd rfl (by first | exact Or.inl rfl | exact Or.inr rfl) (de_call F_numbers_at hr (by decide) (da_cons (de_var (pv 0)) (da_cons (de_var (pv 2)) da_nil)))))
 (dss_cons (ds_if (ps_if (dt_cmp od_is (de_var (pv 4)) de_non (nomark _)) (dss_one (ds_ret (ps_ret de_non))) dss_nil))
 (dss_cons (ds_set (ps_set (i := 5) sc_parts_of.nd rfl (by first | exact Or.inl rfl | exact Or.inr rfl) (de_call F_tail_at hr (by decide) (da_cons (de_var (pv 0)) (da_cons (de_ix (de_var (pv 4)) de_int) da_nil)))))
 (dss_one (ds_ret (ps_ret (de_if (dt_cmp od_is (de_var (pv 5)) de_non (nomark _)) de_non (de_tup (pe_tup (da_cons (de_var (pv 1)) (da_cons (de_ix (de_var (pv 4)) de_int) (da_star (de_var (pv 5)) da_nil)))))))))))))))
theorem sc_based : FnScope [("numbers" : Str), ("many" : Str)] [("numbers" : Str)] (defScope (top 15)) := ⟨rfl, rfl, rfl, by decide +kernel, rfl, by decide +kernel, by decide +kernel⟩
theorem F_based (T : Facts K mg) : Fn P w K mg base 1 "based" m_based := by
  obtain ⟨f, fd, F, hf⟩ := T.d_based
  show Fn P w K mg base 1 "based" (mFn 1 2 b_based)
  refine ⟨f, fd, [("numbers" : Str)], fn_ok (k := 0) (m := b_based) rfl rfl F sc_based fun cdv A outer s H E hr => ?_, hf, F.kp, F.bindsN fun _ _ _ _ _ _ us hl => match us, hl with | [_], _ => rfl⟩
  have hu := hr.units
  exact (dss_cons (ds_set (ps_set (i := 1) sc_based.nd rfl (by first | exact Or.inl rfl | exact Or.inr rfl) (de_callB cd_len T.b_len (by decide +kernel) (da_cons (de_var (pv 0)) da_nil))))
 (dss_cons (ds_while (n := fuel) (ps_while PassesOwn.never (DW.dt (dw_and (dt_cmp od_gtI (de_var (pv 1)) de_int (nomark _)) (dw_and1 (dt_cmp (od_eq hu) (de_ix (de_var (pv 0)) (de_op od_sub (de_var (pv 1)) de_int)) de_int (nomark _))))) (dss_one (ds_aug oi_sub (ps_aug (i := 1) sc_based.nd rfl (by first | exact Or.inl rfl | exact Or.inr rfl) de_int op_sem)))))
 (dss_one (ds_ret (ps_ret (de_sl (de_var (pv 0)) dpo_none (dpo_some (de_var (pv 1)))))))))
theorem sc_tail_of : FnScope [("ahead" : Str), ("post" : Str), ("dev" : Str), ("own" : Str), ("head" : Str)] [("ahead" : Str), ("post" : Str), ("dev" : Str)] (defScope (top 16)) := ⟨rfl, rfl, rfl, by decide +kernel, rfl, by decide +kernel, by decide +kernel⟩
theorem F_tail_of (T : Facts K mg) : Fn P w K mg base 1 "tail_of" m_tail_of := by
  obtain ⟨f, fd, F, hf⟩ := T.d_tail_of
  show Fn P w K mg base 1 "tail_of" (mFn 3 5 b_tail_of)
  refine ⟨f, fd, [("ahead" : Str), ("post" : Str), ("dev" : Str)], fn_ok (k := 0) (m := b_tail_of) rfl rfl F sc_tail_of fun cdv A outer s H E hr => ?_, hf, F.kp, F.bindsN fun _ _ _ _ _ _ us hl => match us, hl with | [_, _, _], _ => rfl⟩
  have hu := hr.units
  exact (dss_cons (ds_set (ps_set (i := 3) sc_tail_of.nd rfl (by first | exact Or.inl rfl | exact Or.inr rfl) (de_if (dt_cmp od_is (de_var (pv 2)) de_non (nomark _)) (de_tup (pe_tup (da_cons de_int da_nil))) (de_tup (pe_tup (da_cons de_int (da_cons (de_var (pv 2)) da_nil)))))))
 (dss_cons (ds_if (ps_if (dt_cmp od_isNot (de_var (pv 0)) de_non (nomark _)) (dss_cons (ds_set (ps_set (i := 4) sc_tail_of.nd rfl (by first | exact Or.inl rfl | exact Or.inr rfl) (de_tup (pe_tup (da_cons de_int (da_cons (de_gidx T.c_WORDS (da_cons (de_ix (de_var (pv 0)) de_int) da_nil)) (da_cons (de_ix (de_var (pv 0)) de_int) da_nil)))))))
 (dss_one (ds_ret (ps_ret (de_if (dt_cmp od_is (de_var (pv 1)) de_non (nomark _)) (de_op od_add (de_var (pv 4)) (de_var (pv 3))) (de_op od_add (de_op od_add (de_var (pv 4)) (de_tup (pe_tup (da_cons de_int (da_cons (de_var (pv 1)) da_nil))))) (de_var (pv 3)))))))) dss_nil))
 (dss_cons (ds_if (ps_if (dt_cmp od_isNot (de_var (pv 1)) de_non (nomark _)) (dss_one (ds_ret (ps_ret (de_op od_add (de_tup (pe_tup (da_cons de_int (da_cons (de_var (pv 1)) da_nil)))) (de_var (pv 3)))))) dss_nil))
 (dss_one (ds_ret (ps_ret (de_if (dt_cmp od_is (de_var (pv 2)) de_non (nomark _)) (de_tup (pe_tup (da_cons de_int da_nil))) (de_var (pv 3)))))))))
theorem sc_split_tail : FnScope [("tail" : Str), ("ahead" : Str), ("post" : Str), ("rest" : Str)] [("tail" : Str)] (defScope (top 17)) := ⟨rfl, rfl, rfl, by decide +kernel, rfl, by decide +kernel, by decide +kernel⟩
theorem F_split_tail (T : Facts K mg) : Fn P w K mg base 1 "split_tail" m_split_tail := by
  obtain ⟨f, fd, F, hf⟩ := T.d_split_tail
  show Fn P w K mg base 1 "split_tail" (mFn 1 4 b_split_tail)
  refine ⟨f, fd, [("tail" : Str)], fn_ok (k := 0) (m := b_split_tail) rfl rfl F sc_split_tail fun cdv A outer s H E hr => ?_, hf, F.kp, F.bindsN fun _ _ _ _ _ _ us hl => match us, hl with | [_], _ => rfl⟩
  have hu := hr.units
  exact (dss_cons (ds_par3 (ps_par3 (i := 1) (j := 2) (l := 3) rfl sc_split_tail.nd rfl rfl rfl (by decide) (by decide) (by decide) rfl rfl rfl (da_cons de_non (da_cons de_non (da_cons (de_var (pv 0)) da_nil))) rfl))
 (dss_cons (ds_if (ps_if (dt_cmp (od_eq hu) (de_var (pv 0)) (de_tup (pe_tup (da_cons de_int da_nil))) (nomark _)) (dss_one (ds_ret (ps_ret (de_tup (pe_tup (da_cons de_non (da_cons de_non (da_cons de_non da_nil)))))))) dss_nil))
 (dss_cons (ds_if (ps_if (dt_cmp (od_eq hu) (de_ix (de_var (pv 0)) de_int) de_int (nomark _)) (dss_one (ds_par (ps_par (i := 1) (j := 3) rfl sc_split_tail.nd rfl rfl (by decide) rfl rfl (da_cons (de_tup (pe_tup (da_cons (de_ix (de_gtup T.c_WORDS) (de_ix (de_var (pv 0)) de_int)) (da_cons (de_ix (de_var (pv 0)) de_int) da_nil)))) (da_cons (de_sl (de_var (pv 0)) (dpo_some de_int) dpo_none) da_nil)) rfl))) dss_nil))
 (dss_cons (ds_if (ps_if (dt_cmp (od_in hu) (de_ix (de_var (pv 3)) de_int) (de_tup (pe_tup (da_cons de_int (da_cons de_int da_nil)))) rfl) (dss_one (ds_par (ps_par (i := 2) (j := 3) rfl sc_split_tail.nd rfl rfl (by decide) rfl rfl (da_cons (de_ix (de_var (pv 3)) de_int) (da_cons (de_sl (de_var (pv 3)) (dpo_some de_int) dpo_none) da_nil)) rfl))) dss_nil))
 (dss_one (ds_ret (ps_ret (de_tup (pe_tup (da_cons (de_var (pv 1)) (da_cons (de_var (pv 2)) (da_cons (de_if (dt_cmp (od_eq hu) (de_ix (de_var (pv 3)) de_int) de_int (nomark _)) de_non (de_ix (de_var (pv 3)) de_int)) da_nil))))))))))))
theorem sc_key_from : FnScope [("parts" : Str), ("epoch" : Str), ("numbers" : Str), ("ahead" : Str), ("post" : Str), ("dev" : Str)] [("parts" : Str)] (defScope (top 18)) := ⟨rfl, rfl, rfl, by decide +kernel, rfl, by decide +kernel, by decide +kernel⟩
theorem F_key_from (T : Facts K mg) : Fn P w K mg base 2 "key_from" m_key_from := by
  have F_based := F_based (P := P) (w := w) (base := base) T
  have F_tail_of := F_tail_of (P := P) (w := w) (base := base) T
  obtain ⟨f, fd, F, hf⟩ := T.d_key_from
  show Fn P w K mg base 2 "key_from" (mFn 1 6 b_key_from)
  refine ⟨f, fd, [("parts" : Str)], fn_ok (k := 1) (m := b_key_from) rfl rfl F sc_key_from fun cdv A outer s H E hr => ?_, hf, F.kp, F.bindsN fun _ _ _ _ _ _ us hl => match us, hl with | [_], _ => rfl⟩
  have hu := hr.units
  exact (dss_cons (ds_asg (vs := [1, 2, 3, 4, 5]) (ps_asg (de_var (pv 0)) (dg_tup (pg_tup rfl (dgs_cons (dg_name (pg_name (i := 1) sc_key_from.nd rfl (by first | exact Or.inl rfl | exact Or.inr rfl))) (dgs_cons (dg_name (pg_name (i := 2) sc_key_from.nd rfl (by first | exact Or.inl rfl | exact Or.inr rfl))) (dgs_cons (dg_name (pg_name (i := 3) sc_key_from.nd rfl (by first | exact Or.inl rfl | exact Or.inr rfl))) (dgs_cons (dg_name (pg_name (i := 4) sc_key_from.nd rfl (by first | exact Or.inl rfl | exact Or.inr rfl))) (dgs_cons (dg_name (pg_name (i := 5) sc_key_from.nd rfl (by first | exact Or.inl rfl | exact Or.inr rfl))) dgs_nil)))))))))
 (dss_one (ds_ret (ps_ret (de_tup (pe_tup (da_cons (de_var (pv 1)) (da_cons (de_call F_based hr (by decide) (da_cons (de_var (pv 2)) da_nil)) (da_cons (de_call F_tail_of hr (by decide) (da_cons (de_var (pv 3)) (da_cons (de_var (pv 4)) (da_cons (de_var (pv 5)) da_nil)))) da_nil)))))))))
theorem sc_key_of : FnScope [("version" : Str)] [("version" : Str)] (defScope (top 19)) := ⟨rfl, rfl, rfl, by decide +kernel, rfl, by decide +kernel, by decide +kernel⟩
theorem F_key_of (T : Facts K mg) : Fn P w K mg base 5 "key_of" m_key_of := by
  have F_key_from := F_key_from (P := P) (w := w) (base := base) T
  have F_parts_of := F_parts_of (P := P) (w := w) (base := base) T
  obtain ⟨f, fd, F, hf⟩ := T.d_key_of
  show Fn P w K mg base 5 "key_of" (mFn 1 1 b_key_of)
  refine ⟨f, fd, [("version" : Str)], fn_ok (k := 4) (m := b_key_of) rfl rfl F sc_key_of fun cdv A outer s H E hr => ?_, hf, F.kp, F.bindsN fun _ _ _ _ _ _ us hl => match us, hl with | [_], _ => rfl⟩
  have hu := hr.units
  exact (dss_one (ds_ret (ps_ret (de_call F_key_from hr (by decide) (da_cons (de_call F_parts_of hr (by decide) (da_cons (de_var (pv 0)) da_nil)) da_nil)))))
theorem sc_text_of : FnScope [("key" : Str), ("epoch" : Str), ("base" : Str), ("tail" : Str), ("ahead" : Str), ("post" : Str), ("dev" : Str), ("found" : Str), ("number" : Str)] [("key" : Str)] (defScope (top 20)) := ⟨rfl, rfl, rfl, by decide +kernel, rfl, by decide +kernel, by decide +kernel⟩
theorem F_text_of (T : Facts K mg) : Fn P w K mg base 2 "text_of" m_text_of := by
  have F_split_tail := F_split_tail (P := P) (w := w) (base := base) T
  obtain ⟨f, fd, F, hf⟩ := T.d_text_of
  show Fn P w K mg base 2 "text_of" (mFn 1 9 b_text_of)
  refine ⟨f, fd, [("key" : Str)], fn_ok (k := 1) (m := b_text_of) rfl rfl F sc_text_of fun cdv A outer s H E hr => ?_, hf, F.kp, F.bindsN fun _ _ _ _ _ _ us hl => match us, hl with | [_], _ => rfl⟩
  have hu := hr.units
  exact (dss_cons (ds_asg (vs := [1, 2, 3]) (ps_asg (de_var (pv 0)) (dg_tup (pg_tup rfl (dgs_cons (dg_name (pg_name (i := 1) sc_text_of.nd rfl (by first | exact Or.inl rfl | exact Or.inr rfl))) (dgs_cons (dg_name (pg_name (i := 2) sc_text_of.nd rfl (by first | exact Or.inl rfl | exact Or.inr rfl))) (dgs_cons (dg_name (pg_name (i := 3) sc_text_of.nd rfl (by first | exact Or.inl rfl | exact Or.inr rfl))) dgs_nil)))))))
 (dss_cons (ds_asg (vs := [4, 5, 6]) (ps_asg (de_call F_split_tail hr (by decide) (da_cons (de_var (pv 3)) da_nil)) (dg_tup (pg_tup rfl (dgs_cons (dg_name (pg_name (i := 4) sc_text_of.nd rfl (by first | exact Or.inl rfl | exact Or.inr rfl))) (dgs_cons (dg_name (pg_name (i := 5) sc_text_of.nd rfl (by first | exact Or.inl rfl | exact Or.inr rfl))) (dgs_cons (dg_name (pg_name (i := 6) sc_text_of.nd rfl (by first | exact Or.inl rfl | exact Or.inr rfl))) dgs_nil)))))))
 (dss_cons (ds_set (ps_set (i := 7) sc_text_of.nd rfl (by first | exact Or.inl rfl | exact Or.inr rfl) (de_if (dt_cmp (od_eq hu) (de_var (pv 1)) de_int (nomark _)) de_str (de_js (.cons (de_fmt (de_var (pv 1))) (.cons de_str .nil))))))
 (dss_cons (ds_aug oi_addS (ps_aug (i := 7) sc_text_of.nd rfl (by first | exact Or.inl rfl | exact Or.inr rfl) (de_if (dt_cmp (od_ne hu) (de_var (pv 2)) (de_tup (pe_tup da_nil)) (nomark _)) (de_mtS PySem.F.slot_str_join PySem.F.type_str_join md_join de_str (da_cons (DO.de (do_lc (pe_lc (own := [("number", 8)]) rfl sc_text_of.nd (di_seq (de_var (pv 2))) (blkOk_by (N := ["key", "epoch", "base", "tail", "ahead", "post", "dev", "found", "number"]) (sc := defScope (top 20)) (own := [("number", 8)]) (by decide +kernel)) (fun _ _ _ _ _ => (dg_name (pg_name (i := 8) sc_text_of.nd rfl (by first | exact Or.inl rfl | exact Or.inr rfl)))) (fun _ _ _ _ _ => dts_nil) (fun _ _ _ _ _ => (de_callTy cd_str T.b_str (by decide +kernel) (da_cons (de_var (pv 8)) da_nil)))))) da_nil)) de_str) op_sem))
 (dss_cons (ds_if (ps_if (dt_cmp od_isNot (de_var (pv 4)) de_non (nomark _)) (dss_one (ds_aug oi_addS (ps_aug (i := 7) sc_text_of.nd rfl (by first | exact Or.inl rfl | exact Or.inr rfl) (de_js (.cons (de_fmt (de_ix (de_var (pv 4)) de_int)) (.cons (de_fmt (de_ix (de_var (pv 4)) de_int)) .nil))) op_sem))) dss_nil))
 (dss_cons (ds_if (ps_if (dt_cmp od_isNot (de_var (pv 5)) de_non (nomark _)) (dss_one (ds_aug oi_addS (ps_aug (i := 7) sc_text_of.nd rfl (by first | exact Or.inl rfl | exact Or.inr rfl) (de_js (.cons (de_fmt (de_gstr T.c_POST)) (.cons (de_fmt (de_var (pv 5))) .nil))) op_sem))) dss_nil))
 (dss_one (ds_ret (ps_ret (de_if (dt_cmp od_is (de_var (pv 6)) de_non (nomark _)) (de_var (pv 7)) (de_js (.cons (de_fmt (de_var (pv 7))) (.cons (de_fmt (de_gstr T.c_DEV)) (.cons (de_fmt (de_var (pv 6))) .nil))))))))))))))
theorem sc_following_key : FnScope [("key" : Str), ("epoch" : Str), ("base" : Str), ("tail" : Str), ("ahead" : Str), ("post" : Str), ("dev" : Str)] [("key" : Str)] (defScope (top 21)) := ⟨rfl, rfl, rfl, by decide +kernel, rfl, by decide +kernel, by decide +kernel⟩
theorem F_following_key (T : Facts K mg) : Fn P w K mg base 2 "following_key" m_following_key := by
  have F_split_tail := F_split_tail (P := P) (w := w) (base := base) T
  have F_tail_of := F_tail_of (P := P) (w := w) (base := base) T
  obtain ⟨f, fd, F, hf⟩ := T.d_following_key
  show Fn P w K mg base 2 "following_key" (mFn 1 7 b_following_key)
  refine ⟨f, fd, [("key" : Str)], fn_ok (k := 1) (m := b_following_key) rfl rfl F sc_following_key fun cdv A outer s H E hr => ?_, hf, F.kp, F.bindsN fun _ _ _ _ _ _ us hl => match us, hl with | [_], _ => rfl⟩
  have hu := hr.units
  exact (dss_cons (ds_asg (vs := [1, 2, 3]) (ps_asg (de_var (pv 0)) (dg_tup (pg_tup rfl (dgs_cons (dg_name (pg_name (i := 1) sc_following_key.nd rfl (by first | exact Or.inl rfl | exact Or.inr rfl))) (dgs_cons (dg_name (pg_name (i := 2) sc_following_key.nd rfl (by first | exact Or.inl rfl | exact Or.inr rfl))) (dgs_cons (dg_name (pg_name (i := 3) sc_following_key.nd rfl (by first | exact Or.inl rfl | exact Or.inr rfl))) dgs_nil)))))))
 (dss_cons (ds_asg (vs := [4, 5, 6]) (ps_asg (de_call F_split_tail hr (by decide) (da_cons (de_var (pv 3)) da_nil)) (dg_tup (pg_tup rfl (dgs_cons (dg_name (pg_name (i := 4) sc_following_key.nd rfl (by first | exact Or.inl rfl | exact Or.inr rfl))) (dgs_cons (dg_name (pg_name (i := 5) sc_following_key.nd rfl (by first | exact Or.inl rfl | exact Or.inr rfl))) (dgs_cons (dg_name (pg_name (i := 6) sc_following_key.nd rfl (by first | exact Or.inl rfl | exact Or.inr rfl))) dgs_nil)))))))
 (dss_cons (ds_if (ps_if (dt_cmp od_isNot (de_var (pv 6)) de_non (nomark _)) (dss_one (ds_ret (ps_ret (de_tup (pe_tup (da_cons (de_var (pv 1)) (da_cons (de_var (pv 2)) (da_cons (de_call F_tail_of hr (by decide) (da_cons (de_var (pv 4)) (da_cons (de_var (pv 5)) (da_cons (de_op od_add (de_var (pv 6)) de_int) da_nil)))) da_nil)))))))) dss_nil))
 (dss_one (ds_ret (ps_ret (de_tup (pe_tup (da_cons (de_var (pv 1)) (da_cons (de_var (pv 2)) (da_cons (de_call F_tail_of hr (by decide) (da_cons (de_var (pv 4)) (da_cons (de_if (dt_cmp od_is (de_var (pv 5)) de_non (nomark _)) de_int (de_op od_add (de_var (pv 5)) de_int)) (da_cons de_int da_nil)))) da_nil)))))))))))
theorem sc_is_version : FnScope [("thing" : Str)] [("thing" : Str)] (defScope (top 22)) := ⟨rfl, rfl, rfl, by decide +kernel, rfl, by decide +kernel, by decide +kernel⟩
theorem F_is_version (T : Facts K mg) : Fn P w K mg base 5 "is_version" m_is_version := by
  have F_parts_of := F_parts_of (P := P) (w := w) (base := base) T
  obtain ⟨f, fd, F, hf⟩ := T.d_is_version
  show Fn P w K mg base 5 "is_version" (mFn 1 1 b_is_version)
  refine ⟨f, fd, [("thing" : Str)], fn_ok (k := 4) (m := b_is_version) rfl rfl F sc_is_version fun cdv A outer s H E hr => ?_, hf, F.kp, F.bindsN fun _ _ _ _ _ _ us hl => match us, hl with | [_], _ => rfl⟩
  have hu := hr.units
  exact (dss_one (ds_ret (ps_ret (de_cmp od_isNot (de_call F_parts_of hr (by decide) (da_cons (de_var (pv 0)) da_nil)) de_non (nomark _)))))
theorem sc_numbers_text : FnScope [("epoch" : Str), ("numbers" : Str), ("number" : Str)] [("epoch" : Str), ("numbers" : Str)] (defScope (top 25)) := ⟨rfl, rfl, rfl, by decide +kernel, rfl, by decide +kernel, by decide +kernel⟩
theorem F_numbers_text (T : Facts K mg) : Fn P w K mg base 1 "numbers_text" m_numbers_text := by
  obtain ⟨f, fd, F, hf⟩ := T.d_numbers_text
  show Fn P w K mg base 1 "numbers_text" (mFn 2 3 b_numbers_text)
  refine ⟨f, fd, [("epoch" : Str), ("numbers" : Str)], fn_ok (k := 0) (m := b_numbers_text) rfl rfl F sc_numbers_text fun cdv A outer s H E hr => ?_, hf, F.kp, F.bindsN fun _ _ _ _ _ _ us hl => match us, hl with | [_, _], _ => rfl⟩
  have hu := hr.units
  exact (dss_one (ds_ret (ps_ret (de_op od_add (de_if (dt_cmp od_gtI (de_var (pv 0)) de_int (nomark _)) (de_js (.cons (de_fmt (de_var (pv 0))) (.cons de_str .nil))) de_str) (de_mtS PySem.F.slot_str_join PySem.F.type_str_join md_join de_str (da_cons (DO.de (do_lc (pe_lc (own := [("number", 2)]) rfl sc_numbers_text.nd (di_seq (de_var (pv 1))) (blkOk_by (N := ["epoch", "numbers", "number"]) (sc := defScope (top 25)) (own := [("number", 2)]) (by decide +kernel)) (fun _ _ _ _ _ => (dg_name (pg_name (i := 2) sc_numbers_text.nd rfl (by first | exact Or.inl rfl | exact Or.inr rfl)))) (fun _ _ _ _ _ => dts_nil) (fun _ _ _ _ _ => (de_callTy cd_str T.b_str (by decide +kernel) (da_cons (de_var (pv 2)) da_nil)))))) da_nil))))))
theorem sc_block_text : FnScope [("epoch" : Str), ("numbers" : Str)] [("epoch" : Str), ("numbers" : Str)] (defScope (top 26)) := ⟨rfl, rfl, rfl, by decide +kernel, rfl, by decide +kernel, by decide +kernel⟩
theorem F_block_text (T : Facts K mg) : Fn P w K mg base 2 "block_text" m_block_text := by
  have F_numbers_text := F_numbers_text (P := P) (w := w) (base := base) T
  obtain ⟨f, fd, F, hf⟩ := T.d_block_text
  show Fn P w K mg base 2 "block_text" (mFn 2 2 b_block_text)
  refine ⟨f, fd, [("epoch" : Str), ("numbers" : Str)], fn_ok (k := 1) (m := b_block_text) rfl rfl F sc_block_text fun cdv A outer s H E hr => ?_, hf, F.kp, F.bindsN fun _ _ _ _ _ _ us hl => match us, hl with | [_, _], _ => rfl⟩
  have hu := hr.units
  exact (dss_one (ds_ret (ps_ret (de_op od_add (de_call F_numbers_text hr (by decide) (da_cons (de_var (pv 0)) (da_cons (de_var (pv 1)) da_nil))) (de_gstr T.c_STAR)))))
theorem sc_near_text : FnScope [("key" : Str), ("numbers" : Str), ("epoch" : Str), ("base" : Str), ("tail" : Str), ("many" : Str)] [("key" : Str), ("numbers" : Str)] (defScope (top 27)) := ⟨rfl, rfl, rfl, by decide +kernel, rfl, by decide +kernel, by decide +kernel⟩
theorem F_near_text (T : Facts K mg) : Fn P w K mg base 3 "near_text" m_near_text := by
  have F_numbers_text := F_numbers_text (P := P) (w := w) (base := base) T
  have F_text_of := F_text_of (P := P) (w := w) (base := base) T
  obtain ⟨f, fd, F, hf⟩ := T.d_near_text
  show Fn P w K mg base 3 "near_text" (mFn 2 6 b_near_text)
  refine ⟨f, fd, [("key" : Str), ("numbers" : Str)], fn_ok (k := 2) (m := b_near_text) rfl rfl F sc_near_text fun cdv A outer s H E hr => ?_, hf, F.kp, F.bindsN fun _ _ _ _ _ _ us hl => match us, hl with | [_, _], _ => rfl⟩
  have hu := hr.units
  exact (dss_cons (ds_asg (vs := [2, 3, 4]) (ps_asg (de_var (pv 0)) (dg_tup (pg_tup rfl (dgs_cons (dg_name (pg_name (i := 2) sc_near_text.nd rfl (by first | exact Or.inl rfl | exact Or.inr rfl))) (dgs_cons (dg_name (pg_name (i := 3) sc_near_text.nd rfl (by first | exact Or.inl rfl | exact Or.inr rfl))) (dgs_cons (dg_name (pg_name (i := 4) sc_near_text.nd rfl (by first | exact Or.inl rfl | exact Or.inr rfl))) dgs_nil)))))))
 (dss_cons (ds_set (ps_set (i := 5) sc_near_text.nd rfl (by first | exact Or.inl rfl | exact Or.inr rfl) (de_op od_add (de_callB cd_len T.b_len (by decide +kernel) (da_cons (de_var (pv 1)) da_nil)) de_int)))
 (dss_cons (ds_if (ps_if (dt_cmp od_gtI (de_callB cd_len T.b_len (by decide +kernel) (da_cons (de_var (pv 3)) da_nil)) (de_var (pv 5)) (nomark _)) (dss_one (ds_ret (ps_ret de_non))) dss_nil))
 (dss_one (ds_ret (ps_ret (de_op od_add (de_call F_numbers_text hr (by decide) (da_cons (de_var (pv 2)) (da_cons (de_op od_add (de_var (pv 3)) (de_op od_mulE (de_tup (pe_tup (da_cons de_int da_nil))) (de_op od_sub (de_var (pv 5)) (de_callB cd_len T.b_len (by decide +kernel) (da_cons (de_var (pv 3)) da_nil))))) da_nil))) (de_sl (de_call F_text_of hr (by decide) (da_cons (de_tup (pe_tup (da_cons de_int (da_cons (de_tup (pe_tup da_nil)) (da_cons (de_var (pv 4)) da_nil))))) da_nil)) (dpo_some de_int) dpo_none))))))))
theorem sc_told_keys : FnScope [("thing" : Str), ("version" : Str), ("one" : Str)] [("thing" : Str)] (defScope (top 30)) := ⟨rfl, rfl, rfl, by decide +kernel, rfl, by decide +kernel, by decide +kernel⟩
theorem F_told_keys (T : Facts K mg) : Fn P w K mg base 6 "told_keys" m_told_keys := by
  have F_is_version := F_is_version (P := P) (w := w) (base := base) T
  have F_key_of := F_key_of (P := P) (w := w) (base := base) T
  obtain ⟨f, fd, F, hf⟩ := T.d_told_keys
  show Fn P w K mg base 6 "told_keys" (mFn 1 3 b_told_keys)
  refine ⟨f, fd, [("thing" : Str)], fn_ok (k := 5) (m := b_told_keys) rfl rfl F sc_told_keys fun cdv A outer s H E hr => ?_, hf, F.kp, F.bindsN fun _ _ _ _ _ _ us hl => match us, hl with | [_], _ => rfl⟩
  have hu := hr.units
  exact (dss_cons (ds_if (ps_if (DW.dt (dw_or (dt_not (dt_val (de_is (de_var (pv 0)) kit_tup T.b_isinstance T.b_tuple (by decide +kernel)))) (dw_or (dt_cmp od_gtI (de_callB cd_len T.b_len (by decide +kernel) (da_cons (de_var (pv 0)) da_nil)) (de_gint T.c_MOST_TOLD) (nomark _)) (dw_or1 (dt_not (dt_val (de_callB (cd_all rfl) T.b_all (by decide +kernel) (da_cons (DO.de (do_lc (pe_lc (own := [("one", 2)]) rfl sc_told_keys.nd (di_seq (de_var (pv 0))) (blkOk_by (N := ["thing", "version", "one"]) (sc := defScope (top 30)) (own := [("one", 2)]) (by decide +kernel)) (fun _ _ _ _ _ => (dg_name (pg_name (i := 2) sc_told_keys.nd rfl (by first | exact Or.inl rfl | exact Or.inr rfl)))) (fun _ _ _ _ _ => dts_nil) (fun _ _ _ _ _ => (de_call F_is_version hr (by decide) (da_cons (de_var (pv 2)) da_nil)))))) da_nil)))))))) (dss_one ds_fail) dss_nil))
 (dss_one (ds_ret (ps_ret (DO.de (do_sortSet rfl hu T.b_sorted T.b_set (da_cons (DO.de (do_lc (pe_lc (own := [("version", 1)]) rfl sc_told_keys.nd (di_seq (de_var (pv 0))) (blkOk_by (N := ["thing", "version", "one"]) (sc := defScope (top 30)) (own := [("version", 1)]) (by decide +kernel)) (fun _ _ _ _ _ => (dg_name (pg_name (i := 1) sc_told_keys.nd rfl (by first | exact Or.inl rfl | exact Or.inr rfl)))) (fun _ _ _ _ _ => dts_nil) (fun _ _ _ _ _ => (de_call F_key_of hr (by decide) (da_cons (de_var (pv 1)) da_nil)))))) da_nil) (by decide +kernel) (by decide +kernel)))))))
theorem sc_shared : FnScope [("one" : Str), ("other" : Str), ("many" : Str), ("mine" : Str), ("theirs" : Str), ("at" : Str)] [("one" : Str), ("other" : Str)] (defScope (top 31)) := ⟨rfl, rfl, rfl, by decide +kernel, rfl, by decide +kernel, by decide +kernel⟩
theorem F_shared (T : Facts K mg) : Fn P w K mg base 1 "shared" m_shared := by
  obtain ⟨f, fd, F, hf⟩ := T.d_shared
  show Fn P w K mg base 1 "shared" (mFn 2 6 b_shared)
  refine ⟨f, fd, [("one" : Str), ("other" : Str)], fn_ok (k := 0) (m := b_shared) rfl rfl F sc_shared fun cdv A outer s H E hr => ?_, hf, F.kp, F.bindsN fun _ _ _ _ _ _ us hl => match us, hl with | [_, _], _ => rfl⟩
  have hu := hr.units
  exact (dss_cons (ds_set (ps_set (i := 2) sc_shared.nd rfl (by first | exact Or.inl rfl | exact Or.inr rfl) (de_callB (cd_max2 rfl) T.b_max (by decide +kernel) (da_cons (de_callB cd_len T.b_len (by decide +kernel) (da_cons (de_var (pv 0)) da_nil)) (da_cons (de_callB cd_len T.b_len (by decide +kernel) (da_cons (de_var (pv 1)) da_nil)) da_nil)))))
 (dss_cons (ds_asg (vs := [3, 4]) (ps_asg (de_tup (pe_tup (da_cons (de_op od_add (de_var (pv 0)) (de_op od_mulE (de_tup (pe_tup (da_cons de_int da_nil))) (de_op od_sub (de_var (pv 2)) (de_callB cd_len T.b_len (by decide +kernel) (da_cons (de_var (pv 0)) da_nil))))) (da_cons (de_op od_add (de_var (pv 1)) (de_op od_mulE (de_tup (pe_tup (da_cons de_int da_nil))) (de_op od_sub (de_var (pv 2)) (de_callB cd_len T.b_len (by decide +kernel) (da_cons (de_var (pv 1)) da_nil))))) da_nil)))) (dg_tup (pg_tup rfl (dgs_cons (dg_name (pg_name (i := 3) sc_shared.nd rfl (by first | exact Or.inl rfl | exact Or.inr rfl))) (dgs_cons (dg_name (pg_name (i := 4) sc_shared.nd rfl (by first | exact Or.inl rfl | exact Or.inr rfl))) dgs_nil))))))
 (dss_one (ds_ret (ps_ret (de_idxB (pe_bm PySem.F.plainAttrs_list PySem.F.slot_list_index PySem.F.type_list_index mt_index (DO.de (do_lc (pe_lc (own := [("at", 5)]) rfl sc_shared.nd (di_range1 (pi_range1 rfl T.b_range (da_cons (de_var (pv 2)) da_nil))) (blkOk_by (N := ["one", "other", "many", "mine", "theirs", "at"]) (sc := defScope (top 31)) (own := [("at", 5)]) (by decide +kernel)) (fun _ _ _ _ _ => (dg_name (pg_name (i := 5) sc_shared.nd rfl (by first | exact Or.inl rfl | exact Or.inr rfl)))) (fun _ _ _ _ _ => dts_nil) (fun _ _ _ _ _ => (de_cmp (od_eq hu) (de_ix (de_var (pv 3)) (de_var (pv 5))) (de_ix (de_var (pv 4)) (de_var (pv 5))) (nomark _)))))) (pa_cons pe_bl pa_nil))))))))
theorem sc_padded : FnScope [("base" : Str), ("many" : Str)] [("base" : Str), ("many" : Str)] (defScope (top 32)) := ⟨rfl, rfl, rfl, by decide +kernel, rfl, by decide +kernel, by decide +kernel⟩
theorem F_padded (T : Facts K mg) : Fn P w K mg base 1 "padded" m_padded := by
  obtain ⟨f, fd, F, hf⟩ := T.d_padded
  show Fn P w K mg base 1 "padded" (mFn 2 2 b_padded)
  refine ⟨f, fd, [("base" : Str), ("many" : Str)], fn_ok (k := 0) (m := b_padded) rfl rfl F sc_padded fun cdv A outer s H E hr => ?_, hf, F.kp, F.bindsN fun _ _ _ _ _ _ us hl => match us, hl with | [_, _], _ => rfl⟩
  have hu := hr.units
  exact (dss_one (ds_ret (ps_ret (de_sl (de_op od_add (de_var (pv 0)) (de_op od_mulE (de_tup (pe_tup (da_cons de_int da_nil))) (de_var (pv 1)))) dpo_none (dpo_some (de_var (pv 1)))))))
theorem sc_common_block : FnScope [("good" : Str), ("bad" : Str), ("first" : Str), ("last" : Str), ("numbers" : Str), ("key" : Str)] [("good" : Str), ("bad" : Str)] (defScope (top 33)) := ⟨rfl, rfl, rfl, by decide +kernel, rfl, by decide +kernel, by decide +kernel⟩
theorem F_common_block (T : Facts K mg) : Fn P w K mg base 2 "common_block" m_common_block := by
  have F_padded := F_padded (P := P) (w := w) (base := base) T
  have F_shared := F_shared (P := P) (w := w) (base := base) T
  obtain ⟨f, fd, F, hf⟩ := T.d_common_block
  show Fn P w K mg base 2 "common_block" (mFn 2 6 b_common_block)
  refine ⟨f, fd, [("good" : Str), ("bad" : Str)], fn_ok (k := 1) (m := b_common_block) rfl rfl F sc_common_block fun cdv A outer s H E hr => ?_, hf, F.kp, F.bindsN fun _ _ _ _ _ _ us hl => match us, hl with | [_, _], _ => rfl⟩
  have hu := hr.units
  exact (dss_cons (ds_par (ps_par (i := 2) (j := 3) rfl sc_common_block.nd rfl rfl (by decide) rfl rfl (da_cons (de_ix (de_var (pv 0)) de_int) (da_cons (de_ix (de_var (pv 0)) (de_neg de_int)) da_nil)) rfl))
 (dss_cons (ds_if (ps_if (dt_cmp (od_ne hu) (de_ix (de_var (pv 2)) de_int) (de_ix (de_var (pv 3)) de_int) (nomark _)) (dss_one (ds_ret (ps_ret de_non))) dss_nil))
 (dss_cons (ds_if (ps_if (dt_cmp (od_ne hu) (de_ix (de_var (pv 2)) de_int) (de_ix (de_var (pv 3)) de_int) (nomark _)) (dss_cons (ds_set (ps_set (i := 4) sc_common_block.nd rfl (by first | exact Or.inl rfl | exact Or.inr rfl) (de_call F_padded hr (by decide) (da_cons (de_ix (de_var (pv 2)) de_int) (da_cons (de_call F_shared hr (by decide) (da_cons (de_ix (de_var (pv 2)) de_int) (da_cons (de_ix (de_var (pv 3)) de_int) da_nil))) da_nil)))))
 (dss_one (ds_ret (ps_ret (de_if (dt_cmp (od_eq hu) (de_var (pv 4)) (de_tup (pe_tup da_nil)) (nomark _)) de_non (de_var (pv 4))))))) dss_nil))
 (dss_one (ds_ret (ps_ret (de_call F_padded hr (by decide) (da_cons (de_ix (de_var (pv 2)) de_int) (da_cons (de_op od_add de_int (de_callB (cd_maxL hu rfl) T.b_max (by decide +kernel) (da_cons (DO.de (do_lc (pe_lc (own := [("key", 5)]) rfl sc_common_block.nd (di_seq (de_op od_add (de_var (pv 0)) (de_var (pv 1)))) (blkOk_by (N := ["good", "bad", "first", "last", "numbers", "key"]) (sc := defScope (top 33)) (own := [("key", 5)]) (by decide +kernel)) (fun _ _ _ _ _ => (dg_name (pg_name (i := 5) sc_common_block.nd rfl (by first | exact Or.inl rfl | exact Or.inr rfl)))) (fun _ _ _ _ _ => dts_nil) (fun _ _ _ _ _ => (de_callB cd_len T.b_len (by decide +kernel) (da_cons (de_ix (de_var (pv 5)) de_int) da_nil)))))) da_nil))) da_nil)))))))))
theorem sc_near_key : FnScope [("good" : Str), ("bad" : Str), ("numbers" : Str), ("epoch" : Str), ("base" : Str), ("tail" : Str), ("many" : Str), ("own" : Str), ("posts" : Str), ("key" : Str), ("post" : Str)] [("good" : Str), ("bad" : Str), ("numbers" : Str)] (defScope (top 34)) := ⟨rfl, rfl, rfl, by decide +kernel, rfl, by decide +kernel, by decide +kernel⟩
theorem F_near_key (T : Facts K mg) : Fn P w K mg base 2 "near_key" m_near_key := by
  have F_based := F_based (P := P) (w := w) (base := base) T
  have F_split_tail := F_split_tail (P := P) (w := w) (base := base) T
  obtain ⟨f, fd, F, hf⟩ := T.d_near_key
  show Fn P w K mg base 2 "near_key" (mFn 3 11 b_near_key)
  refine ⟨f, fd, [("good" : Str), ("bad" : Str), ("numbers" : Str)], fn_ok (k := 1) (m := b_near_key) rfl rfl F sc_near_key fun cdv A outer s H E hr => ?_, hf, F.kp, F.bindsN fun _ _ _ _ _ _ us hl => match us, hl with | [_, _, _], _ => rfl⟩
  have hu := hr.units
  exact (dss_cons (ds_asg (vs := [3, 4, 5]) (ps_asg (de_ix (de_var (pv 0)) de_int) (dg_tup (pg_tup rfl (dgs_cons (dg_name (pg_name (i := 3) sc_near_key.nd rfl (by first | exact Or.inl rfl | exact Or.inr rfl))) (dgs_cons (dg_name (pg_name (i := 4) sc_near_key.nd rfl (by first | exact Or.inl rfl | exact Or.inr rfl))) (dgs_cons (dg_name (pg_name (i := 5) sc_near_key.nd rfl (by first | exact Or.inl rfl | exact Or.inr rfl))) dgs_nil)))))))
 (dss_cons (ds_set (ps_set (i := 6) sc_near_key.nd rfl (by first | exact Or.inl rfl | exact Or.inr rfl) (de_op od_add (de_callB cd_len T.b_len (by decide +kernel) (da_cons (de_var (pv 2)) da_nil)) de_int)))
 (dss_cons (ds_if (ps_if (dt_cmp od_leI (de_callB cd_len T.b_len (by decide +kernel) (da_cons (de_var (pv 4)) da_nil)) (de_var (pv 6)) (nomark _)) (dss_one (ds_ret (ps_ret (de_ix (de_var (pv 0)) de_int)))) dss_nil))
 (dss_cons (ds_set (ps_set (i := 7) sc_near_key.nd rfl (by first | exact Or.inl rfl | exact Or.inr rfl) (de_call F_based hr (by decide) (da_cons (de_sl (de_var (pv 4)) dpo_none (dpo_some (de_var (pv 6)))) da_nil))))
 (dss_cons (ds_setLc (ps_setLc (i := 8) (own := [("key", 9)]) rfl sc_near_key.nd rfl rfl (sw_true rfl rfl rfl (by decide +kernel)) (di_seq (de_var (pv 1))) (blkOk_by (N := ["good", "bad", "numbers", "epoch", "base", "tail", "many", "own", "posts", "key", "post"]) (sc := defScope (top 34)) (own := [("key", 9)]) (by decide +kernel)) (fun _ _ _ _ _ => (dg_name (pg_name (i := 9) sc_near_key.nd rfl (by first | exact Or.inl rfl | exact Or.inr rfl)))) (fun _ _ _ _ _ => (dts_one (DW.dt (dw_and (dt_cmp (od_eq hu) (de_sl (de_var (pv 9)) dpo_none (dpo_some de_int)) (de_tup (pe_tup (da_cons (de_var (pv 3)) (da_cons (de_var (pv 7)) da_nil)))) (nomark _)) (dw_and1 (dt_cmp od_is (de_ix (de_call F_split_tail hr (by decide) (da_cons (de_ix (de_var (pv 9)) de_int) da_nil)) de_int) de_non (nomark _))))))) (fun _ _ _ _ _ => (de_ix (de_call F_split_tail hr (by decide) (da_cons (de_ix (de_var (pv 9)) de_int) da_nil)) de_int))))
 (dss_one (ds_ret (ps_ret (de_tup (pe_tup (da_cons (de_var (pv 3)) (da_cons (de_var (pv 7)) (da_cons (de_tup (pe_tup (da_cons de_int (da_cons (de_op od_add de_int (de_callB (cd_maxL hu rfl) T.b_max (by decide +kernel) (da_cons (de_op od_add (DO.de (do_lc (pe_lc (own := [("post", 10)]) rfl sc_near_key.nd (di_seq (de_var (pv 8))) (blkOk_by (N := ["good", "bad", "numbers", "epoch", "base", "tail", "many", "own", "posts", "key", "post"]) (sc := defScope (top 34)) (own := [("post", 10)]) (by decide +kernel)) (fun _ _ _ _ _ => (dg_name (pg_name (i := 10) sc_near_key.nd rfl (by first | exact Or.inl rfl | exact Or.inr rfl)))) (fun _ _ _ _ _ => (dts_one (dt_cmp od_isNot (de_var (pv 10)) de_non (nomark _)))) (fun _ _ _ _ _ => (de_var (pv 10)))))) (DO.de (do_lst (pe_lst (da_cons (de_neg de_int) da_nil))))) da_nil))) (da_cons de_int da_nil))))) da_nil)))))))))))))
theorem sc_left_out : FnScope [("good" : Str), ("key" : Str), ("epoch" : Str), ("base" : Str), ("tail" : Str), ("bases" : Str), ("one" : Str)] [("good" : Str), ("key" : Str)] (defScope (top 35)) := ⟨rfl, rfl, rfl, by decide +kernel, rfl, by decide +kernel, by decide +kernel⟩
theorem F_left_out (T : Facts K mg) : Fn P w K mg base 3 "left_out" m_left_out := by
  have F_block_text := F_block_text (P := P) (w := w) (base := base) T
  have F_padded := F_padded (P := P) (w := w) (base := base) T
  have F_shared := F_shared (P := P) (w := w) (base := base) T
  have F_text_of := F_text_of (P := P) (w := w) (base := base) T
  obtain ⟨f, fd, F, hf⟩ := T.d_left_out
  show Fn P w K mg base 3 "left_out" (mFn 2 7 b_left_out)
  refine ⟨f, fd, [("good" : Str), ("key" : Str)], fn_ok (k := 2) (m := b_left_out) rfl rfl F sc_left_out fun cdv A outer s H E hr => ?_, hf, F.kp, F.bindsN fun _ _ _ _ _ _ us hl => match us, hl with | [_, _], _ => rfl⟩
  have hu := hr.units
  exact (dss_cons (ds_asg (vs := [2, 3, 4]) (ps_asg (de_var (pv 1)) (dg_tup (pg_tup rfl (dgs_cons (dg_name (pg_name (i := 2) sc_left_out.nd rfl (by first | exact Or.inl rfl | exact Or.inr rfl))) (dgs_cons (dg_name (pg_name (i := 3) sc_left_out.nd rfl (by first | exact Or.inl rfl | exact Or.inr rfl))) (dgs_cons (dg_name (pg_name (i := 4) sc_left_out.nd rfl (by first | exact Or.inl rfl | exact Or.inr rfl))) dgs_nil)))))))
 (dss_cons (ds_setLc (ps_setLc (i := 5) (own := [("one", 6)]) rfl sc_left_out.nd rfl rfl (sw_true rfl rfl rfl (by decide +kernel)) (di_seq (de_var (pv 0))) (blkOk_by (N := ["good", "key", "epoch", "base", "tail", "bases", "one"]) (sc := defScope (top 35)) (own := [("one", 6)]) (by decide +kernel)) (fun _ _ _ _ _ => (dg_name (pg_name (i := 6) sc_left_out.nd rfl (by first | exact Or.inl rfl | exact Or.inr rfl)))) (fun _ _ _ _ _ => (dts_one (dt_cmp (od_eq hu) (de_ix (de_var (pv 6)) de_int) (de_var (pv 2)) (nomark _)))) (fun _ _ _ _ _ => (de_ix (de_var (pv 6)) de_int))))
 (dss_cons (ds_if (ps_if (dt_cmp (od_in hu) (de_var (pv 3)) (de_var (pv 5)) rfl) (dss_one (ds_ret (ps_ret (de_tup (pe_tup (da_cons de_str (da_cons (de_call F_text_of hr (by decide) (da_cons (de_var (pv 1)) da_nil)) da_nil))))))) dss_nil))
 (dss_one (ds_ret (ps_ret (de_tup (pe_tup (da_cons de_str (da_cons (de_call F_block_text hr (by decide) (da_cons (de_var (pv 2)) (da_cons (de_call F_padded hr (by decide) (da_cons (de_var (pv 3)) (da_cons (de_op od_add de_int (de_callB (cd_maxL hu rfl) T.b_max (by decide +kernel) (da_cons (de_op od_add (DO.de (do_lc (pe_lc (own := [("one", 6)]) rfl sc_left_out.nd (di_seq (de_var (pv 5))) (blkOk_by (N := ["good", "key", "epoch", "base", "tail", "bases", "one"]) (sc := defScope (top 35)) (own := [("one", 6)]) (by decide +kernel)) (fun _ _ _ _ _ => (dg_name (pg_name (i := 6) sc_left_out.nd rfl (by first | exact Or.inl rfl | exact Or.inr rfl)))) (fun _ _ _ _ _ => dts_nil) (fun _ _ _ _ _ => (de_call F_shared hr (by decide) (da_cons (de_var (pv 3)) (da_cons (de_var (pv 6)) da_nil))))))) (DO.de (do_lst (pe_lst (da_cons de_int da_nil))))) da_nil))) da_nil))) da_nil))) da_nil))))))))))
theorem sc_first_ways : FnScope [("good" : Str), ("bad" : Str), ("least" : Str), ("greatest" : Str), ("from_least" : Str), ("to_greatest" : Str), ("found" : Str), ("numbers" : Str), ("epoch" : Str), ("start" : Str), ("end" : Str), ("whole" : Str), ("key" : Str), ("near" : Str)] [("good" : Str), ("bad" : Str)] (defScope (top 36)) := ⟨rfl, rfl, rfl, by decide +kernel, rfl, by decide +kernel, by decide +kernel⟩
theorem F_first_ways (T : Facts K mg) : Fn P w K mg base 4 "first_ways" m_first_ways := by
  have F_based := F_based (P := P) (w := w) (base := base) T
  have F_block_text := F_block_text (P := P) (w := w) (base := base) T
  have F_common_block := F_common_block (P := P) (w := w) (base := base) T
  have F_following_key := F_following_key (P := P) (w := w) (base := base) T
  have F_near_key := F_near_key (P := P) (w := w) (base := base) T
  have F_near_text := F_near_text (P := P) (w := w) (base := base) T
  have F_text_of := F_text_of (P := P) (w := w) (base := base) T
  obtain ⟨f, fd, F, hf⟩ := T.d_first_ways
  show Fn P w K mg base 4 "first_ways" (mFn 2 14 b_first_ways)
  refine ⟨f, fd, [("good" : Str), ("bad" : Str)], fn_ok (k := 3) (m := b_first_ways) rfl rfl F sc_first_ways fun cdv A outer s H E hr => ?_, hf, F.kp, F.bindsN fun _ _ _ _ _ _ us hl => match us, hl with | [_, _], _ => rfl⟩
  have hu := hr.units
  exact (dss_cons (ds_par (ps_par (i := 2) (j := 3) rfl sc_first_ways.nd rfl rfl (by decide) rfl rfl (da_cons (de_tup (pe_tup (da_cons de_int (da_cons (de_tup (pe_tup da_nil)) (da_cons (de_tup (pe_tup (da_cons de_int (da_cons de_int da_nil)))) da_nil))))) (da_cons (de_call F_following_key hr (by decide) (da_cons (de_ix (de_var (pv 0)) (de_neg de_int)) da_nil)) da_nil)) rfl))
 (dss_cons (ds_par (ps_par (i := 4) (j := 5) rfl sc_first_ways.nd rfl rfl (by decide) rfl rfl (da_cons (de_tup (pe_tup (da_cons de_str (da_cons (de_call F_text_of hr (by decide) (da_cons (de_ix (de_var (pv 0)) de_int) da_nil)) da_nil)))) (da_cons (de_tup (pe_tup (da_cons de_str (da_cons (de_call F_text_of hr (by decide) (da_cons (de_ix (de_var (pv 0)) (de_neg de_int)) da_nil)) da_nil)))) da_nil)) rfl))
 (dss_cons (ds_setO (ps_set (i := 6) sc_first_ways.nd rfl (by first | exact Or.inl rfl | exact Or.inr rfl) (do_lst (pe_lst (da_cons (de_tup (pe_tup (da_cons (DO.de (do_lst (pe_lst da_nil))) (da_cons (de_var (pv 2)) (da_cons de_non da_nil))))) (da_cons (de_tup (pe_tup (da_cons (DO.de (do_lst (pe_lst (da_cons (de_var (pv 4)) da_nil)))) (da_cons (de_ix (de_var (pv 0)) de_int) (da_cons de_non da_nil))))) (da_cons (de_tup (pe_tup (da_cons (DO.de (do_lst (pe_lst (da_cons (de_var (pv 5)) da_nil)))) (da_cons (de_var (pv 2)) (da_cons (de_var (pv 3)) da_nil))))) da_nil)))))))
 (dss_cons (ds_append (ps_expr (pe_bm PySem.F.plainAttrs_list PySem.F.slot_list_append PySem.F.type_list_append mt_append (pv 6) (pa_cons (de_tup (pe_tup (da_cons (DO.de (do_lst (pe_lst (da_cons (de_var (pv 4)) (da_cons (de_var (pv 5)) da_nil))))) (da_cons (de_ix (de_var (pv 0)) de_int) (da_cons (de_var (pv 3)) da_nil))))) pa_nil))))
 (dss_cons (ds_set (ps_set (i := 7) sc_first_ways.nd rfl (by first | exact Or.inl rfl | exact Or.inr rfl) (de_call F_common_block hr (by decide) (da_cons (de_var (pv 0)) (da_cons (de_var (pv 1)) da_nil)))))
 (dss_cons (ds_if (ps_if (dt_cmp od_is (de_var (pv 7)) de_non (nomark _)) (dss_one (ds_ret (ps_ret (de_var (pv 6))))) dss_nil))
 (dss_cons (ds_set (ps_set (i := 8) sc_first_ways.nd rfl (by first | exact Or.inl rfl | exact Or.inr rfl) (de_ix (de_ix (de_var (pv 0)) de_int) de_int)))
 (dss_cons (ds_par (ps_par (i := 9) (j := 10) rfl sc_first_ways.nd rfl rfl (by decide) rfl rfl (da_cons (de_tup (pe_tup (da_cons (de_var (pv 8)) (da_cons (de_call F_based hr (by decide) (da_cons (de_var (pv 7)) da_nil)) (da_cons (de_tup (pe_tup (da_cons de_int (da_cons de_int da_nil)))) da_nil))))) (da_cons (de_tup (pe_tup (da_cons (de_var (pv 8)) (da_cons (de_op od_add (de_sl (de_var (pv 7)) dpo_none (dpo_some (de_neg de_int))) (de_tup (pe_tup (da_cons (de_op od_add (de_ix (de_var (pv 7)) (de_neg de_int)) de_int) da_nil)))) (da_cons (de_tup (pe_tup (da_cons de_int (da_cons de_int da_nil)))) da_nil))))) da_nil)) rfl))
 (dss_cons (ds_par (ps_par (i := 11) (j := 12) rfl sc_first_ways.nd rfl rfl (by decide) rfl rfl (da_cons (de_tup (pe_tup (da_cons de_str (da_cons (de_call F_block_text hr (by decide) (da_cons (de_var (pv 8)) (da_cons (de_var (pv 7)) da_nil))) da_nil)))) (da_cons (de_call F_near_key hr (by decide) (da_cons (de_var (pv 0)) (da_cons (de_var (pv 1)) (da_cons (de_var (pv 7)) da_nil)))) da_nil)) rfl))
 (dss_cons (ds_set (ps_set (i := 13) sc_first_ways.nd rfl (by first | exact Or.inl rfl | exact Or.inr rfl) (de_tup (pe_tup (da_cons de_str (da_cons (de_call F_near_text hr (by decide) (da_cons (de_var (pv 12)) (da_cons (de_var (pv 7)) da_nil))) da_nil))))))
 (dss_cons (ds_append (ps_expr (pe_bm PySem.F.plainAttrs_list PySem.F.slot_list_append PySem.F.type_list_append mt_append (pv 6) (pa_cons (de_tup (pe_tup (da_cons (DO.de (do_lst (pe_lst (da_cons (de_var (pv 11)) da_nil)))) (da_cons (de_var (pv 9)) (da_cons (de_var (pv 10)) da_nil))))) pa_nil))))
 (dss_cons (ds_append (ps_expr (pe_bm PySem.F.plainAttrs_list PySem.F.slot_list_append PySem.F.type_list_append mt_append (pv 6) (pa_cons (de_tup (pe_tup (da_cons (DO.de (do_lst (pe_lst (da_cons (de_var (pv 11)) (da_cons (de_var (pv 4)) da_nil))))) (da_cons (de_ix (de_var (pv 0)) de_int) (da_cons (de_var (pv 10)) da_nil))))) pa_nil))))
 (dss_cons (ds_append (ps_expr (pe_bm PySem.F.plainAttrs_list PySem.F.slot_list_append PySem.F.type_list_append mt_append (pv 6) (pa_cons (de_tup (pe_tup (da_cons (DO.de (do_lst (pe_lst (da_cons (de_var (pv 11)) (da_cons (de_var (pv 5)) da_nil))))) (da_cons (de_var (pv 9)) (da_cons (de_var (pv 3)) da_nil))))) pa_nil))))
 (dss_cons (ds_append (ps_expr (pe_bm PySem.F.plainAttrs_list PySem.F.slot_list_append PySem.F.type_list_append mt_append (pv 6) (pa_cons (de_tup (pe_tup (da_cons (DO.de (do_lst (pe_lst (da_cons (de_var (pv 13)) da_nil)))) (da_cons (de_var (pv 12)) (da_cons (de_var (pv 10)) da_nil))))) pa_nil))))
 (dss_cons (ds_append (ps_expr (pe_bm PySem.F.plainAttrs_list PySem.F.slot_list_append PySem.F.type_list_append mt_append (pv 6) (pa_cons (de_tup (pe_tup (da_cons (DO.de (do_lst (pe_lst (da_cons (de_var (pv 13)) (da_cons (de_var (pv 5)) da_nil))))) (da_cons (de_var (pv 12)) (da_cons (de_var (pv 3)) da_nil))))) pa_nil))))
 (dss_one (ds_ret (ps_ret (de_var (pv 6))))))))))))))))))))
theorem sc_telling : FnScope [("good" : Str), ("bad" : Str), ("wanted" : Str), ("barred" : Str), ("rows" : Str), ("clauses" : Str), ("low" : Str), ("high" : Str), ("left" : Str), ("key" : Str)] [("good" : Str), ("bad" : Str)] (defScope (top 37)) := ⟨rfl, rfl, rfl, by decide +kernel, rfl, by decide +kernel, by decide +kernel⟩
theorem F_telling (T : Facts K mg) : Fn P w K mg base 7 "telling" m_telling := by
  have F_first_ways := F_first_ways (P := P) (w := w) (base := base) T
  have F_left_out := F_left_out (P := P) (w := w) (base := base) T
  have F_text_of := F_text_of (P := P) (w := w) (base := base) T
  have F_told_keys := F_told_keys (P := P) (w := w) (base := base) T
  obtain ⟨f, fd, F, hf⟩ := T.d_telling
  show Fn P w K mg base 7 "telling" (mFn 2 10 b_telling)
  refine ⟨f, fd, [("good" : Str), ("bad" : Str)], fn_ok (k := 6) (m := b_telling) rfl rfl F sc_telling fun cdv A outer s H E hr => ?_, hf, F.kp, F.bindsN fun _ _ _ _ _ _ us hl => match us, hl with | [_, _], _ => rfl⟩
  have hu := hr.units
  exact (dss_cons (ds_asg (vs := [2, 3]) (ps_asg (de_tup (pe_tup (da_cons (de_call F_told_keys hr (by decide) (da_cons (de_var (pv 0)) da_nil)) (da_cons (de_call F_told_keys hr (by decide) (da_cons (de_var (pv 1)) da_nil)) da_nil)))) (dg_tup (pg_tup rfl (dgs_cons (dg_name (pg_name (i := 2) sc_telling.nd rfl (by first | exact Or.inl rfl | exact Or.inr rfl))) (dgs_cons (dg_name (pg_name (i := 3) sc_telling.nd rfl (by first | exact Or.inl rfl | exact Or.inr rfl))) dgs_nil))))))
 (dss_cons (ds_if (ps_if (dt_cmp (od_ne hu) (DO.de (do_lc (pe_lc (own := [("key", 9)]) rfl sc_telling.nd (di_seq (de_var (pv 2))) (blkOk_by (N := ["good", "bad", "wanted", "barred", "rows", "clauses", "low", "high", "left", "key"]) (sc := defScope (top 37)) (own := [("key", 9)]) (by decide +kernel)) (fun _ _ _ _ _ => (dg_name (pg_name (i := 9) sc_telling.nd rfl (by first | exact Or.inl rfl | exact Or.inr rfl)))) (fun _ _ _ _ _ => (dts_one (dt_cmp (od_in hu) (de_var (pv 9)) (de_var (pv 3)) rfl))) (fun _ _ _ _ _ => (de_var (pv 9)))))) (DO.de (do_lst (pe_lst da_nil))) (nomark _)) (dss_one (ds_ret (ps_ret de_non))) dss_nil))
 (dss_cons (ds_if (ps_if (dt_cmp (od_eq hu) (de_var (pv 3)) (DO.de (do_lst (pe_lst da_nil))) (nomark _)) (dss_one (ds_ret (ps_ret (de_tup (pe_tup da_nil))))) dss_nil))
 (dss_cons (ds_if (ps_if (dt_cmp (od_eq hu) (de_var (pv 2)) (DO.de (do_lst (pe_lst da_nil))) (nomark _)) (dss_one (ds_ret (ps_ret (de_tup (pe_tup (da_cons (de_tup (pe_tup (da_cons de_str (da_cons de_str da_nil)))) da_nil)))))) dss_nil))
 (dss_cons (ds_if (ps_if (dt_cmp (od_eq hu) (de_callB cd_len T.b_len (by decide +kernel) (da_cons (de_var (pv 2)) da_nil)) de_int (nomark _)) (dss_one (ds_ret (ps_ret (de_tup (pe_tup (da_cons (de_tup (pe_tup (da_cons de_str (da_cons (de_call F_text_of hr (by decide) (da_cons (de_ix (de_var (pv 2)) de_int) da_nil)) da_nil)))) da_nil)))))) dss_nil))
 (dss_cons (ds_setO (ps_set (i := 4) sc_telling.nd rfl (by first | exact Or.inl rfl | exact Or.inr rfl) (do_lst (pe_lst da_nil))))
 (dss_cons (ds_for (vs := [5, 6, 7]) (ps_for PassesOwn.never rfl (di_seq (de_call F_first_ways hr (by decide) (da_cons (de_var (pv 2)) (da_cons (de_var (pv 3)) da_nil)))) (dg_tup (pg_tup rfl (dgs_cons (dg_name (pg_name (i := 5) sc_telling.nd rfl (by first | exact Or.inl rfl | exact Or.inr rfl))) (dgs_cons (dg_name (pg_name (i := 6) sc_telling.nd rfl (by first | exact Or.inl rfl | exact Or.inr rfl))) (dgs_cons (dg_name (pg_name (i := 7) sc_telling.nd rfl (by first | exact Or.inl rfl | exact Or.inr rfl))) dgs_nil))))) (dss_cons (ds_setLc (ps_setLc (i := 8) (own := [("key", 9)]) rfl sc_telling.nd rfl rfl (sw_true rfl rfl rfl (by decide +kernel)) (di_seq (de_var (pv 3))) (blkOk_by (N := ["good", "bad", "wanted", "barred", "rows", "clauses", "low", "high", "left", "key"]) (sc := defScope (top 37)) (own := [("key", 9)]) (by decide +kernel)) (fun _ _ _ _ _ => (dg_name (pg_name (i := 9) sc_telling.nd rfl (by first | exact Or.inl rfl | exact Or.inr rfl)))) (fun _ _ _ _ _ => (dts_one (DW.dt (dw_and (dt_cmp (od_le hu) (de_var (pv 6)) (de_var (pv 9)) (nomark _)) (dw_and1 (DW.dt (dw_or (dt_cmp od_is (de_var (pv 7)) de_non (nomark _)) (dw_or1 (dt_cmp (od_lt hu) (de_var (pv 9)) (de_var (pv 7)) (nomark _)))))))))) (fun _ _ _ _ _ => (de_var (pv 9)))))
 (dss_one (ds_append (ps_expr (pe_bm PySem.F.plainAttrs_list PySem.F.slot_list_append PySem.F.type_list_append mt_append (pv 4) (pa_cons (de_op od_add (de_var (pv 5)) (DO.de (do_listDict rfl hu T.b_list T.b_dict (da_cons (DO.de (do_lc (pe_lc (own := [("key", 9)]) rfl sc_telling.nd (di_seq (de_var (pv 8))) (blkOk_by (N := ["good", "bad", "wanted", "barred", "rows", "clauses", "low", "high", "left", "key"]) (sc := defScope (top 37)) (own := [("key", 9)]) (by decide +kernel)) (fun _ _ _ _ _ => (dg_name (pg_name (i := 9) sc_telling.nd rfl (by first | exact Or.inl rfl | exact Or.inr rfl)))) (fun _ _ _ _ _ => dts_nil) (fun _ _ _ _ _ => (de_tup (pe_tup (da_cons (de_call F_left_out hr (by decide) (da_cons (de_var (pv 2)) (da_cons (de_var (pv 9)) da_nil))) (da_cons de_bl da_nil)))))))) da_nil) (by decide +kernel) (by decide +kernel)))) pa_nil))))))))
 (dss_one (ds_ret (ps_ret (de_callTy cd_tuple T.b_tuple (by decide +kernel) (da_cons (de_minLen rfl T.b_min (by decide +kernel) T.b_len (by decide +kernel) (de_var (pv 4))) da_nil))))))))))))
theorem sc__law_of : FnScope [("state" : Str), ("some" : Str)] [("state" : Str), ("some" : Str)] (defScope (top 42)) := ⟨rfl, rfl, rfl, by decide +kernel, rfl, by decide +kernel, by decide +kernel⟩
theorem F__law_of (T : Facts K mg) : Fn P w K mg base 3 "_law_of" m__law_of := by
  have F__law_draw := F__law_draw (P := P) (w := w) (base := base) T
  obtain ⟨f, fd, F, hf⟩ := T.d__law_of
  show Fn P w K mg base 3 "_law_of" (mFn 2 2 b__law_of)
  refine ⟨f, fd, [("state" : Str), ("some" : Str)], fn_ok (k := 2) (m := b__law_of) rfl rfl F sc__law_of fun cdv A outer s H E hr => ?_, hf, F.kp, F.bindsN fun _ _ _ _ _ _ us hl => match us, hl with | [_, _], _ => rfl⟩
  have hu := hr.units
  exact (dss_one (ds_ret (ps_ret (de_ix (de_var (pv 1)) (de_call F__law_draw hr (by decide) (da_cons (de_var (pv 0)) (da_cons (de_callB cd_len T.b_len (by decide +kernel) (da_cons (de_var (pv 1)) da_nil)) da_nil)))))))
theorem sc__law_parts : FnScope [("text" : Str), ("epoch" : Str), ("mark" : Str), ("rest" : Str), ("dev" : Str), ("post" : Str), ("fore" : Str), ("sign" : Str), ("number" : Str), ("numbers" : Str)] [("text" : Str)] (defScope (top 43)) := ⟨rfl, rfl, rfl, by decide +kernel, rfl, by decide +kernel, by decide +kernel⟩
theorem F__law_parts (T : Facts K mg) : Fn P w K mg base 1 "_law_parts" m__law_parts := by
  obtain ⟨f, fd, F, hf⟩ := T.d__law_parts
  show Fn P w K mg base 1 "_law_parts" (mFn 1 10 b__law_parts)
  refine ⟨f, fd, [("text" : Str)], fn_ok (k := 0) (m := b__law_parts) rfl rfl F sc__law_parts fun cdv A outer s H E hr => ?_, hf, F.kp, F.bindsN fun _ _ _ _ _ _ us hl => match us, hl with | [_], _ => rfl⟩
  have hu := hr.units
  exact (dss_cons (ds_asg (vs := [1, 2, 3]) (ps_asg (de_mtS PySem.F.slot_str_rpartition PySem.F.type_str_rpartition md_rpart (de_var (pv 0)) (da_cons de_str da_nil)) (dg_tup (pg_tup rfl (dgs_cons (dg_name (pg_name (i := 1) sc__law_parts.nd rfl (by first | exact Or.inl rfl | exact Or.inr rfl))) (dgs_cons (dg_name (pg_name (i := 2) sc__law_parts.nd rfl (by first | exact Or.inl rfl | exact Or.inr rfl))) (dgs_cons (dg_name (pg_name (i := 3) sc__law_parts.nd rfl (by first | exact Or.inl rfl | exact Or.inr rfl))) dgs_nil)))))))
 (dss_cons (ds_asg (vs := [3, 2, 4]) (ps_asg (de_mtS PySem.F.slot_str_partition PySem.F.type_str_partition md_part (de_var (pv 3)) (da_cons de_str da_nil)) (dg_tup (pg_tup rfl (dgs_cons (dg_name (pg_name (i := 3) sc__law_parts.nd rfl (by first | exact Or.inl rfl | exact Or.inr rfl))) (dgs_cons (dg_name (pg_name (i := 2) sc__law_parts.nd rfl (by first | exact Or.inl rfl | exact Or.inr rfl))) (dgs_cons (dg_name (pg_name (i := 4) sc__law_parts.nd rfl (by first | exact Or.inl rfl | exact Or.inr rfl))) dgs_nil)))))))
 (dss_cons (ds_asg (vs := [3, 2, 5]) (ps_asg (de_mtS PySem.F.slot_str_partition PySem.F.type_str_partition md_part (de_var (pv 3)) (da_cons de_str da_nil)) (dg_tup (pg_tup rfl (dgs_cons (dg_name (pg_name (i := 3) sc__law_parts.nd rfl (by first | exact Or.inl rfl | exact Or.inr rfl))) (dgs_cons (dg_name (pg_name (i := 2) sc__law_parts.nd rfl (by first | exact Or.inl rfl | exact Or.inr rfl))) (dgs_cons (dg_name (pg_name (i := 5) sc__law_parts.nd rfl (by first | exact Or.inl rfl | exact Or.inr rfl))) dgs_nil)))))))
 (dss_cons (ds_set (ps_set (i := 6) sc__law_parts.nd rfl (by first | exact Or.inl rfl | exact Or.inr rfl) (DO.de (do_lst (pe_lst da_nil)))))
 (dss_cons (ds_for (vs := [7]) (ps_for PassesOwn.never rfl (di_seq (de_tup (pe_tup (da_cons de_str (da_cons de_str (da_cons de_str da_nil)))))) (dg_name (pg_name (i := 7) sc__law_parts.nd rfl (by first | exact Or.inl rfl | exact Or.inr rfl))) (dss_one (ds_if (ps_if (DW.dt (dw_and (dt_cmp (od_eq hu) (de_var (pv 6)) (DO.de (do_lst (pe_lst da_nil))) (nomark _)) (dw_and1 (dt_cmp (od_in hu) (de_var (pv 7)) (de_var (pv 3)) rfl)))) (dss_cons (ds_asg (vs := [3, 2, 8]) (ps_asg (de_mtS PySem.F.slot_str_partition PySem.F.type_str_partition md_part (de_var (pv 3)) (da_cons (de_var (pv 7)) da_nil)) (dg_tup (pg_tup rfl (dgs_cons (dg_name (pg_name (i := 3) sc__law_parts.nd rfl (by first | exact Or.inl rfl | exact Or.inr rfl))) (dgs_cons (dg_name (pg_name (i := 2) sc__law_parts.nd rfl (by first | exact Or.inl rfl | exact Or.inr rfl))) (dgs_cons (dg_name (pg_name (i := 8) sc__law_parts.nd rfl (by first | exact Or.inl rfl | exact Or.inr rfl))) dgs_nil)))))))
 (dss_one (ds_set (ps_set (i := 6) sc__law_parts.nd rfl (by first | exact Or.inl rfl | exact Or.inr rfl) (DO.de (do_lst (pe_lst (da_cons (de_var (pv 7)) (da_cons (de_callTy cd_int T.b_int (by decide +kernel) (da_cons (de_var (pv 8)) da_nil)) da_nil))))))))) dss_nil)))))
 (dss_cons (ds_setLc (ps_setLc (i := 9) (own := [("number", 8)]) rfl sc__law_parts.nd rfl rfl (sw_true rfl rfl rfl (by decide +kernel)) (di_seq (de_mtS PySem.F.slot_str_split PySem.F.type_str_split md_split (de_var (pv 3)) (da_cons de_str da_nil))) (blkOk_by (N := ["text", "epoch", "mark", "rest", "dev", "post", "fore", "sign", "number", "numbers"]) (sc := defScope (top 43)) (own := [("number", 8)]) (by decide +kernel)) (fun _ _ _ _ _ => (dg_name (pg_name (i := 8) sc__law_parts.nd rfl (by first | exact Or.inl rfl | exact Or.inr rfl)))) (fun _ _ _ _ _ => dts_nil) (fun _ _ _ _ _ => (de_callTy cd_int T.b_int (by decide +kernel) (da_cons (de_var (pv 8)) da_nil)))))
 (dss_one (ds_ret (ps_ret (de_tup (pe_tup (da_cons (de_callTy cd_int T.b_int (by decide +kernel) (da_cons (de_op od_add de_str (de_var (pv 1))) da_nil)) (da_cons (de_var (pv 9)) (da_cons (de_var (pv 6)) (da_cons (de_if (dt_cmp (od_ne hu) (de_var (pv 5)) de_str (nomark _)) (DO.de (do_lst (pe_lst (da_cons (de_callTy cd_int T.b_int (by decide +kernel) (da_cons (de_var (pv 5)) da_nil)) da_nil)))) (DO.de (do_lst (pe_lst da_nil)))) (da_cons (de_if (dt_cmp (od_ne hu) (de_var (pv 4)) de_str (nomark _)) (DO.de (do_lst (pe_lst (da_cons (de_callTy cd_int T.b_int (by decide +kernel) (da_cons (de_var (pv 4)) da_nil)) da_nil)))) (DO.de (do_lst (pe_lst da_nil)))) da_nil))))))))))))))))
theorem sc__law_base : FnScope [("parts" : Str), ("numbers" : Str)] [("parts" : Str)] (defScope (top 44)) := ⟨rfl, rfl, rfl, by decide +kernel, rfl, by decide +kernel, by decide +kernel⟩
theorem F__law_base (T : Facts K mg) : Fn P w K mg base 1 "_law_base" m__law_base := by
  obtain ⟨f, fd, F, hf⟩ := T.d__law_base
  show Fn P w K mg base 1 "_law_base" (mFn 1 2 b__law_base)
  refine ⟨f, fd, [("parts" : Str)], fn_ok (k := 0) (m := b__law_base) rfl rfl F sc__law_base fun cdv A outer s H E hr => ?_, hf, F.kp, F.bindsN fun _ _ _ _ _ _ us hl => match us, hl with | [_], _ => rfl⟩
  have hu := hr.units
  exact (dss_cons (ds_setO (ps_set (i := 1) sc__law_base.nd rfl (by first | exact Or.inl rfl | exact Or.inr rfl) (do_list T.b_list (da_cons (de_ix (de_var (pv 0)) de_int) da_nil))))
 (dss_cons (ds_while (n := fuel) (ps_while PassesOwn.never (DW.dt (dw_and (dt_pkcmp (od_ne hu) (pv 1) (DO.de (do_lst (pe_lst da_nil))) (nomark _)) (dw_and1 (dt_cmp (od_eq hu) (de_pkix (pv 1) (de_neg de_int)) de_int (nomark _))))) (dss_one (ds_pop (ps_expr (pe_bm0 PySem.F.plainAttrs_list PySem.F.slot_list_pop PySem.F.type_list_pop mt_pop (pv 1)))))))
 (dss_one (ds_ret (ps_ret (de_tup (pe_tup (da_cons (de_ix (de_var (pv 0)) de_int) (da_cons (de_var (pv 1)) da_nil)))))))))
theorem sc__law_key : FnScope [("text" : Str), ("parts" : Str), ("epoch" : Str), ("numbers" : Str), ("fore" : Str), ("post" : Str), ("dev" : Str), ("stage" : Str)] [("text" : Str)] (defScope (top 45)) := ⟨rfl, rfl, rfl, by decide +kernel, rfl, by decide +kernel, by decide +kernel⟩
theorem F__law_key (T : Facts K mg) : Fn P w K mg base 2 "_law_key" m__law_key := by
  have F__law_base := F__law_base (P := P) (w := w) (base := base) T
  have F__law_parts := F__law_parts (P := P) (w := w) (base := base) T
  obtain ⟨f, fd, F, hf⟩ := T.d__law_key
  show Fn P w K mg base 2 "_law_key" (mFn 1 8 b__law_key)
  refine ⟨f, fd, [("text" : Str)], fn_ok (k := 1) (m := b__law_key) rfl rfl F sc__law_key fun cdv A outer s H E hr => ?_, hf, F.kp, F.bindsN fun _ _ _ _ _ _ us hl => match us, hl with | [_], _ => rfl⟩
  have hu := hr.units
  exact (dss_cons (ds_set (ps_set (i := 1) sc__law_key.nd rfl (by first | exact Or.inl rfl | exact Or.inr rfl) (de_call F__law_parts hr (by decide) (da_cons (de_var (pv 0)) da_nil))))
 (dss_cons (ds_asg (vs := [2, 3, 4, 5, 6]) (ps_asg (de_var (pv 1)) (dg_tup (pg_tup rfl (dgs_cons (dg_name (pg_name (i := 2) sc__law_key.nd rfl (by first | exact Or.inl rfl | exact Or.inr rfl))) (dgs_cons (dg_name (pg_name (i := 3) sc__law_key.nd rfl (by first | exact Or.inl rfl | exact Or.inr rfl))) (dgs_cons (dg_name (pg_name (i := 4) sc__law_key.nd rfl (by first | exact Or.inl rfl | exact Or.inr rfl))) (dgs_cons (dg_name (pg_name (i := 5) sc__law_key.nd rfl (by first | exact Or.inl rfl | exact Or.inr rfl))) (dgs_cons (dg_name (pg_name (i := 6) sc__law_key.nd rfl (by first | exact Or.inl rfl | exact Or.inr rfl))) dgs_nil)))))))))
 (dss_cons (ds_set (ps_set (i := 7) sc__law_key.nd rfl (by first | exact Or.inl rfl | exact Or.inr rfl) (de_if (dt_cmp (od_ne hu) (de_var (pv 4)) (DO.de (do_lst (pe_lst da_nil))) (nomark _)) (de_op od_add (DO.de (do_lst (pe_lst (da_cons de_int da_nil)))) (de_var (pv 4))) (DO.de (do_lst (pe_lst (da_cons (de_if (DW.dt (dw_and (dt_cmp (od_eq hu) (de_var (pv 5)) (DO.de (do_lst (pe_lst da_nil))) (nomark _)) (dw_and1 (dt_cmp (od_ne hu) (de_var (pv 6)) (DO.de (do_lst (pe_lst da_nil))) (nomark _))))) de_int de_int) da_nil)))))))
 (dss_one (ds_ret (ps_ret (de_tup (pe_tup (da_cons (de_call F__law_base hr (by decide) (da_cons (de_var (pv 1)) da_nil)) (da_cons (de_var (pv 7)) (da_cons (de_if (dt_cmp (od_ne hu) (de_var (pv 5)) (DO.de (do_lst (pe_lst da_nil))) (nomark _)) (de_var (pv 5)) (DO.de (do_lst (pe_lst (da_cons (de_neg de_int) da_nil))))) (da_cons (de_if (dt_cmp (od_ne hu) (de_var (pv 6)) (DO.de (do_lst (pe_lst da_nil))) (nomark _)) (de_op od_add (DO.de (do_lst (pe_lst (da_cons de_int da_nil)))) (de_var (pv 6))) (DO.de (do_lst (pe_lst (da_cons de_int da_nil))))) da_nil))))))))))))
theorem sc__law_text : FnScope [("epoch" : Str), ("numbers" : Str), ("fore" : Str), ("post" : Str), ("dev" : Str), ("found" : Str), ("number" : Str)] [("epoch" : Str), ("numbers" : Str), ("fore" : Str), ("post" : Str), ("dev" : Str)] (defScope (top 47)) := ⟨rfl, rfl, rfl, by decide +kernel, rfl, by decide +kernel, by decide +kernel⟩
theorem F__law_text (T : Facts K mg) : Fn P w K mg base 1 "_law_text" m__law_text := by
  obtain ⟨f, fd, F, hf⟩ := T.d__law_text
  show Fn P w K mg base 1 "_law_text" (mFn 5 7 b__law_text)
  refine ⟨f, fd, [("epoch" : Str), ("numbers" : Str), ("fore" : Str), ("post" : Str), ("dev" : Str)], fn_ok (k := 0) (m := b__law_text) rfl rfl F sc__law_text fun cdv A outer s H E hr => ?_, hf, F.kp, F.bindsN fun _ _ _ _ _ _ us hl => match us, hl with | [_, _, _, _, _], _ => rfl⟩
  have hu := hr.units
  exact (dss_cons (ds_set (ps_set (i := 5) sc__law_text.nd rfl (by first | exact Or.inl rfl | exact Or.inr rfl) (de_op od_add (de_if (dt_cmp od_gtI (de_var (pv 0)) de_int (nomark _)) (de_op od_add (de_callTy cd_str T.b_str (by decide +kernel) (da_cons (de_var (pv 0)) da_nil)) de_str) de_str) (de_mtS PySem.F.slot_str_join PySem.F.type_str_join md_join de_str (da_cons (DO.de (do_lc (pe_lc (own := [("number", 6)]) rfl sc__law_text.nd (di_seq (de_var (pv 1))) (blkOk_by (N := ["epoch", "numbers", "fore", "post", "dev", "found", "number"]) (sc := defScope (top 47)) (own := [("number", 6)]) (by decide +kernel)) (fun _ _ _ _ _ => (dg_name (pg_name (i := 6) sc__law_text.nd rfl (by first | exact Or.inl rfl | exact Or.inr rfl)))) (fun _ _ _ _ _ => dts_nil) (fun _ _ _ _ _ => (de_callTy cd_str T.b_str (by decide +kernel) (da_cons (de_var (pv 6)) da_nil)))))) da_nil)))))
 (dss_cons (ds_set (ps_set (i := 5) sc__law_text.nd rfl (by first | exact Or.inl rfl | exact Or.inr rfl) (de_op od_add (de_var (pv 5)) (de_if (dt_cmp (od_ne hu) (de_var (pv 2)) (DO.de (do_lst (pe_lst da_nil))) (nomark _)) (de_op od_add (de_ix (de_var (pv 2)) de_int) (de_callTy cd_str T.b_str (by decide +kernel) (da_cons (de_ix (de_var (pv 2)) de_int) da_nil))) de_str))))
 (dss_cons (ds_set (ps_set (i := 5) sc__law_text.nd rfl (by first | exact Or.inl rfl | exact Or.inr rfl) (de_op od_add (de_var (pv 5)) (de_if (dt_cmp (od_ne hu) (de_var (pv 3)) (DO.de (do_lst (pe_lst da_nil))) (nomark _)) (de_op od_add de_str (de_callTy cd_str T.b_str (by decide +kernel) (da_cons (de_ix (de_var (pv 3)) de_int) da_nil))) de_str))))
 (dss_one (ds_ret (ps_ret (de_op od_add (de_var (pv 5)) (de_if (dt_cmp (od_ne hu) (de_var (pv 4)) (DO.de (do_lst (pe_lst da_nil))) (nomark _)) (de_op od_add de_str (de_callTy cd_str T.b_str (by decide +kernel) (da_cons (de_ix (de_var (pv 4)) de_int) da_nil))) de_str))))))))
theorem sc__law_in_block : FnScope [("parts" : Str), ("numbers" : Str), ("epoch" : Str), ("own" : Str)] [("parts" : Str), ("numbers" : Str), ("epoch" : Str)] (defScope (top 48)) := ⟨rfl, rfl, rfl, by decide +kernel, rfl, by decide +kernel, by decide +kernel⟩
theorem F__law_in_block (T : Facts K mg) : Fn P w K mg base 1 "_law_in_block" m__law_in_block := by
  obtain ⟨f, fd, F, hf⟩ := T.d__law_in_block
  show Fn P w K mg base 1 "_law_in_block" (mFn 3 4 b__law_in_block)
  refine ⟨f, fd, [("parts" : Str), ("numbers" : Str), ("epoch" : Str)], fn_ok (k := 0) (m := b__law_in_block) rfl rfl F sc__law_in_block fun cdv A outer s H E hr => ?_, hf, F.kp, F.bindsN fun _ _ _ _ _ _ us hl => match us, hl with | [_, _, _], _ => rfl⟩
  have hu := hr.units
  exact (dss_cons (ds_set (ps_set (i := 3) sc__law_in_block.nd rfl (by first | exact Or.inl rfl | exact Or.inr rfl) (de_op od_add (de_ix (de_var (pv 0)) de_int) (de_op od_mul (DO.de (do_lst (pe_lst (da_cons de_int da_nil)))) (de_callB cd_len T.b_len (by decide +kernel) (da_cons (de_var (pv 1)) da_nil))))))
 (dss_one (ds_ret (ps_ret (de_and (de_cmp (od_eq hu) (de_ix (de_var (pv 0)) de_int) (de_var (pv 2)) (nomark _)) (de_one (de_cmp (od_eq hu) (de_sl (de_var (pv 3)) dpo_none (dpo_some (de_callB cd_len T.b_len (by decide +kernel) (da_cons (de_var (pv 1)) da_nil)))) (de_var (pv 1)) (nomark _))))))))
theorem sc__law_clause_lets : FnScope [("clause" : Str), ("version" : Str), ("sign" : Str), ("text" : Str), ("own" : Str), ("parts" : Str), ("bound" : Str), ("base" : Str), ("other" : Str), ("due" : Str)] [("clause" : Str), ("version" : Str)] (defScope (top 49)) := ⟨rfl, rfl, rfl, by decide +kernel, rfl, by decide +kernel, by decide +kernel⟩
theorem F__law_clause_lets (T : Facts K mg) : Fn P w K mg base 3 "_law_clause_lets" m__law_clause_lets := by
  have F__law_base := F__law_base (P := P) (w := w) (base := base) T
  have F__law_in_block := F__law_in_block (P := P) (w := w) (base := base) T
  have F__law_key := F__law_key (P := P) (w := w) (base := base) T
  have F__law_parts := F__law_parts (P := P) (w := w) (base := base) T
  obtain ⟨f, fd, F, hf⟩ := T.d__law_clause_lets
  show Fn P w K mg base 3 "_law_clause_lets" (mFn 2 10 b__law_clause_lets)
  refine ⟨f, fd, [("clause" : Str), ("version" : Str)], fn_ok (k := 2) (m := b__law_clause_lets) rfl rfl F sc__law_clause_lets fun cdv A outer s H E hr => ?_, hf, F.kp, F.bindsN fun _ _ _ _ _ _ us hl => match us, hl with | [_, _], _ => rfl⟩
  have hu := hr.units
  exact (dss_cons (ds_asg (vs := [2, 3]) (ps_asg (de_var (pv 0)) (dg_tup (pg_tup rfl (dgs_cons (dg_name (pg_name (i := 2) sc__law_clause_lets.nd rfl (by first | exact Or.inl rfl | exact Or.inr rfl))) (dgs_cons (dg_name (pg_name (i := 3) sc__law_clause_lets.nd rfl (by first | exact Or.inl rfl | exact Or.inr rfl))) dgs_nil))))))
 (dss_cons (ds_par (ps_par (i := 4) (j := 5) rfl sc__law_clause_lets.nd rfl rfl (by decide) rfl rfl (da_cons (de_call F__law_key hr (by decide) (da_cons (de_var (pv 1)) da_nil)) (da_cons (de_call F__law_parts hr (by decide) (da_cons (de_var (pv 1)) da_nil)) da_nil)) rfl))
 (dss_cons (ds_set (ps_set (i := 6) sc__law_clause_lets.nd rfl (by first | exact Or.inl rfl | exact Or.inr rfl) (de_call F__law_parts hr (by decide) (da_cons (de_if (dt_cmp (od_eq hu) (de_sl (de_var (pv 3)) (dpo_some (de_neg de_int)) dpo_none) de_str (nomark _)) (de_sl (de_var (pv 3)) dpo_none (dpo_some (de_neg de_int))) (de_var (pv 3))) da_nil))))
 (dss_cons (ds_if (ps_if (dt_cmp (od_eq hu) (de_sl (de_var (pv 3)) (dpo_some (de_neg de_int)) dpo_none) de_str (nomark _)) (dss_one (ds_ret (ps_ret (de_cmp (od_eq hu) (de_call F__law_in_block hr (by decide) (da_cons (de_var (pv 5)) (da_cons (de_ix (de_var (pv 6)) de_int) (da_cons (de_ix (de_var (pv 6)) de_int) da_nil)))) (de_cmp (od_eq hu) (de_var (pv 2)) de_str (nomark _)) (nomark _))))) dss_nil))
 (dss_cons (ds_if (ps_if (dt_cmp (od_in hu) (de_var (pv 2)) (de_tup (pe_tup (da_cons de_str (da_cons de_str da_nil)))) rfl) (dss_cons (ds_par (ps_par (i := 7) (j := 8) rfl sc__law_clause_lets.nd rfl rfl (by decide) rfl rfl (da_cons (de_call F__law_base hr (by decide) (da_cons (de_var (pv 5)) da_nil)) (da_cons (de_call F__law_base hr (by decide) (da_cons (de_var (pv 6)) da_nil)) da_nil)) rfl))
 (dss_one (ds_ret (ps_ret (de_if (dt_cmp (od_eq hu) (de_var (pv 2)) de_str (nomark _)) (de_cmp (od_lt hu) (de_var (pv 7)) (de_var (pv 8)) (nomark _)) (de_cmp (od_gt hu) (de_var (pv 7)) (de_var (pv 8)) (nomark _))))))) dss_nil))
 (dss_cons (ds_set (ps_set (i := 9) sc__law_clause_lets.nd rfl (by first | exact Or.inl rfl | exact Or.inr rfl) (de_call F__law_key hr (by decide) (da_cons (de_var (pv 3)) da_nil))))
 (dss_cons (ds_if (ps_if (dt_cmp (od_eq hu) (de_var (pv 2)) de_str (nomark _)) (dss_one (ds_ret (ps_ret (de_and (de_cmp (od_ge hu) (de_var (pv 4)) (de_var (pv 9)) (nomark _)) (de_one (de_call F__law_in_block hr (by decide) (da_cons (de_var (pv 5)) (da_cons (de_sl (de_ix (de_var (pv 6)) de_int) dpo_none (dpo_some (de_neg de_int))) (da_cons (de_ix (de_var (pv 6)) de_int) da_nil))))))))) dss_nil))
 (dss_one (ds_ret (ps_ret (de_disp (l := [(">=", (mOp geD (mVar 4) (mVar 9))), ("<=", (mOp leD (mVar 4) (mVar 9))), ("==", (mOp eqD (mVar 4) (mVar 9))), ("!=", (mOp neD (mVar 4) (mVar 9)))]) hu (pps_cons pe_str (de_cmp (od_ge hu) (de_var (pv 4)) (de_var (pv 9)) (nomark _)) (pps_cons pe_str (de_cmp (od_le hu) (de_var (pv 4)) (de_var (pv 9)) (nomark _)) (pps_cons pe_str (de_cmp (od_eq hu) (de_var (pv 4)) (de_var (pv 9)) (nomark _)) (pps_cons pe_str (de_cmp (od_ne hu) (de_var (pv 4)) (de_var (pv 9)) (nomark _)) pps_nil)))) rfl rfl rfl (by simp) (by decide) (de_var (pv 2)))))))))))))
theorem sc__law_lets : FnScope [("requirement" : Str), ("version" : Str), ("clause" : Str)] [("requirement" : Str), ("version" : Str)] (defScope (top 50)) := ⟨rfl, rfl, rfl, by decide +kernel, rfl, by decide +kernel, by decide +kernel⟩
theorem F__law_lets (T : Facts K mg) : Fn P w K mg base 4 "_law_lets" m__law_lets := by
  have F__law_clause_lets := F__law_clause_lets (P := P) (w := w) (base := base) T
  obtain ⟨f, fd, F, hf⟩ := T.d__law_lets
  show Fn P w K mg base 4 "_law_lets" (mFn 2 3 b__law_lets)
  refine ⟨f, fd, [("requirement" : Str), ("version" : Str)], fn_ok (k := 3) (m := b__law_lets) rfl rfl F sc__law_lets fun cdv A outer s H E hr => ?_, hf, F.kp, F.bindsN fun _ _ _ _ _ _ us hl => match us, hl with | [_, _], _ => rfl⟩
  have hu := hr.units
  exact (dss_one (ds_ret (ps_ret (de_cmp (od_eq hu) (DO.de (do_lc (pe_lc (own := [("clause", 2)]) rfl sc__law_lets.nd (di_seq (de_var (pv 0))) (blkOk_by (N := ["requirement", "version", "clause"]) (sc := defScope (top 50)) (own := [("clause", 2)]) (by decide +kernel)) (fun _ _ _ _ _ => (dg_name (pg_name (i := 2) sc__law_lets.nd rfl (by first | exact Or.inl rfl | exact Or.inr rfl)))) (fun _ _ _ _ _ => (dts_one (dt_not (dt_val (de_call F__law_clause_lets hr (by decide) (da_cons (de_var (pv 2)) (da_cons (de_var (pv 1)) da_nil))))))) (fun _ _ _ _ _ => de_int)))) (DO.de (do_lst (pe_lst da_nil))) (nomark _)))))
theorem sc__law_moved : FnScope [("text" : Str), ("by" : Str), ("epoch" : Str), ("numbers" : Str), ("fore" : Str), ("post" : Str), ("dev" : Str)] [("text" : Str), ("by" : Str)] (defScope (top 51)) := ⟨rfl, rfl, rfl, by decide +kernel, rfl, by decide +kernel, by decide +kernel⟩
theorem F__law_moved (T : Facts K mg) : Fn P w K mg base 2 "_law_moved" m__law_moved_k40 := by
  have F__law_parts := F__law_parts (P := P) (w := w) (base := base) T
  have F__law_text := F__law_text (P := P) (w := w) (base := base) T
  obtain ⟨f, fd, F, hf⟩ := T.d__law_moved
  show Fn P w K mg base 2 "_law_moved" (mFn 2 7 b__law_moved_k40)
  refine ⟨f, fd, [("text" : Str), ("by" : Str)], fn_ok (k := 1) (m := b__law_moved_k40) rfl rfl F sc__law_moved fun cdv A outer s H E hr => ?_, hf, F.kp, F.bindsN fun _ _ _ _ _ _ us hl => match us, hl with | [_, _], _ => rfl⟩
  have hu := hr.units
  exact (dss_cons (ds_asg (vs := [2, 3, 4, 5, 6]) (ps_asg (de_call F__law_parts hr (by decide) (da_cons (de_var (pv 0)) da_nil)) (dg_tup (pg_tup rfl (dgs_cons (dg_name (pg_name (i := 2) sc__law_moved.nd rfl (by first | exact Or.inl rfl | exact Or.inr rfl))) (dgs_cons (dg_name (pg_name (i := 3) sc__law_moved.nd rfl (by first | exact Or.inl rfl | exact Or.inr rfl))) (dgs_cons (dg_name (pg_name (i := 4) sc__law_moved.nd rfl (by first | exact Or.inl rfl | exact Or.inr rfl))) (dgs_cons (dg_name (pg_name (i := 5) sc__law_moved.nd rfl (by first | exact Or.inl rfl | exact Or.inr rfl))) (dgs_cons (dg_name (pg_name (i := 6) sc__law_moved.nd rfl (by first | exact Or.inl rfl | exact Or.inr rfl))) dgs_nil)))))))))
 (dss_one (ds_ret (ps_ret (de_call F__law_text hr (by decide) (da_cons (de_var (pv 2)) (da_cons (de_op od_add (DO.de (do_lst (pe_lst (da_cons (de_op od_add (de_ix (de_var (pv 3)) de_int) (de_var (pv 1))) da_nil)))) (de_sl (de_var (pv 3)) (dpo_some de_int) dpo_none)) (da_cons (de_var (pv 4)) (da_cons (de_var (pv 5)) (da_cons (de_var (pv 6)) da_nil))))))))))
theorem sc__law_right : FnScope [("good" : Str), ("bad" : Str), ("many" : Str), ("found" : Str), ("version" : Str)] [("good" : Str), ("bad" : Str), ("many" : Str)] (defScope (top 52)) := ⟨rfl, rfl, rfl, by decide +kernel, rfl, by decide +kernel, by decide +kernel⟩
theorem F__law_right (T : Facts K mg) : Fn P w K mg base 8 "_law_right" m__law_right_k40 := by
  have F__law_lets := F__law_lets (P := P) (w := w) (base := base) T
  have F_telling := F_telling (P := P) (w := w) (base := base) T
  obtain ⟨f, fd, F, hf⟩ := T.d__law_right
  show Fn P w K mg base 8 "_law_right" (mFn 3 5 b__law_right_k40)
  refine ⟨f, fd, [("good" : Str), ("bad" : Str), ("many" : Str)], fn_ok (k := 7) (m := b__law_right_k40) rfl rfl F sc__law_right fun cdv A outer s H E hr => ?_, hf, F.kp, F.bindsN fun _ _ _ _ _ _ us hl => match us, hl with | [_, _, _], _ => rfl⟩
  have hu := hr.units
  exact (dss_cons (ds_set (ps_set (i := 3) sc__law_right.nd rfl (by first | exact Or.inl rfl | exact Or.inr rfl) (de_call F_telling hr (by decide) (da_cons (de_var (pv 0)) (da_cons (de_var (pv 1)) da_nil)))))
 (dss_cons (ds_if (ps_if (DW.dt (dw_or (dt_cmp od_is (de_var (pv 3)) de_non (nomark _)) (dw_or1 (dt_cmp od_is (de_var (pv 2)) de_non (nomark _))))) (dss_one (ds_ret (ps_ret (de_and (de_cmp od_is (de_var (pv 3)) de_non (nomark _)) (de_one (de_cmp od_is (de_var (pv 2)) de_non (nomark _))))))) dss_nil))
 (dss_cons (ds_if (ps_if (DW.dt (dw_or (dt_not (dt_val (de_is (de_var (pv 3)) kit_tup T.b_isinstance T.b_tuple (by decide +kernel)))) (dw_or1 (dt_cmp (od_ne hu) (de_callB cd_len T.b_len (by decide +kernel) (da_cons (de_var (pv 3)) da_nil)) (de_var (pv 2)) (nomark _))))) (dss_one (ds_ret (ps_ret de_bl))) dss_nil))
 (dss_cons (ds_if (ps_if (dt_cmp (od_ne hu) (DO.de (do_lc (pe_lc (own := [("version", 4)]) rfl sc__law_right.nd (di_seq (de_var (pv 0))) (blkOk_by (N := ["good", "bad", "many", "found", "version"]) (sc := defScope (top 52)) (own := [("version", 4)]) (by decide +kernel)) (fun _ _ _ _ _ => (dg_name (pg_name (i := 4) sc__law_right.nd rfl (by first | exact Or.inl rfl | exact Or.inr rfl)))) (fun _ _ _ _ _ => (dts_one (dt_not (dt_val (de_call F__law_lets hr (by decide) (da_cons (de_var (pv 3)) (da_cons (de_var (pv 4)) da_nil))))))) (fun _ _ _ _ _ => de_int)))) (DO.de (do_lst (pe_lst da_nil))) (nomark _)) (dss_one (ds_ret (ps_ret de_bl))) dss_nil))
 (dss_one (ds_ret (ps_ret (de_cmp (od_eq hu) (DO.de (do_lc (pe_lc (own := [("version", 4)]) rfl sc__law_right.nd (di_seq (de_var (pv 1))) (blkOk_by (N := ["good", "bad", "many", "found", "version"]) (sc := defScope (top 52)) (own := [("version", 4)]) (by decide +kernel)) (fun _ _ _ _ _ => (dg_name (pg_name (i := 4) sc__law_right.nd rfl (by first | exact Or.inl rfl | exact Or.inr rfl)))) (fun _ _ _ _ _ => (dts_one (dt_val (de_call F__law_lets hr (by decide) (da_cons (de_var (pv 3)) (da_cons (de_var (pv 4)) da_nil)))))) (fun _ _ _ _ _ => de_int)))) (DO.de (do_lst (pe_lst da_nil))) (nomark _)))))))))
theorem sc__law_rows : FnScope [("rows" : Str)] [] (defScope (top 53)) := ⟨rfl, rfl, rfl, by decide +kernel, rfl, by decide +kernel, by decide +kernel⟩
theorem F__law_rows (T : Facts K mg) : Fn P w K mg base 1 "_law_rows" m__law_rows_k40 := by
  obtain ⟨f, fd, F, hf⟩ := T.d__law_rows
  show Fn P w K mg base 1 "_law_rows" (mFn 0 1 b__law_rows_k40)
  refine ⟨f, fd, [], fn_ok (k := 0) (m := b__law_rows_k40) rfl rfl F sc__law_rows fun cdv A outer s H E hr => ?_, hf, F.kp, F.bindsN fun _ _ _ _ _ _ us hl => match us, hl with | [], _ => rfl⟩
  have hu := hr.units
  exact (dss_cons (ds_setO (ps_set (i := 0) sc__law_rows.nd rfl (by first | exact Or.inl rfl | exact Or.inr rfl) (do_lst (pe_lst (da_cons (de_tup (pe_tup (da_cons de_str (da_cons de_str (da_cons de_int da_nil))))) (da_cons (de_tup (pe_tup (da_cons de_str (da_cons de_str (da_cons de_int da_nil))))) (da_cons (de_tup (pe_tup (da_cons de_str (da_cons de_str (da_cons de_int da_nil))))) (da_cons (de_tup (pe_tup (da_cons de_str (da_cons de_str (da_cons de_non da_nil))))) (da_cons (de_tup (pe_tup (da_cons de_str (da_cons de_str (da_cons de_int da_nil))))) (da_cons (de_tup (pe_tup (da_cons de_str (da_cons de_str (da_cons de_int da_nil))))) da_nil))))))))))
 (dss_cons (ds_setO (ps_set (i := 0) sc__law_rows.nd rfl (by first | exact Or.inl rfl | exact Or.inr rfl) (do_cat (de_var (pv 0)) (DO.de (do_lst (pe_lst (da_cons (de_tup (pe_tup (da_cons de_str (da_cons de_str (da_cons de_int da_nil))))) (da_cons (de_tup (pe_tup (da_cons de_str (da_cons de_str (da_cons de_int da_nil))))) (da_cons (de_tup (pe_tup (da_cons de_str (da_cons de_str (da_cons de_int da_nil))))) (da_cons (de_tup (pe_tup (da_cons de_str (da_cons de_str (da_cons de_int da_nil))))) da_nil))))))))))
 (dss_cons (ds_setO (ps_set (i := 0) sc__law_rows.nd rfl (by first | exact Or.inl rfl | exact Or.inr rfl) (do_cat (de_var (pv 0)) (DO.de (do_lst (pe_lst (da_cons (de_tup (pe_tup (da_cons de_str (da_cons de_str (da_cons de_int da_nil))))) (da_cons (de_tup (pe_tup (da_cons de_str (da_cons de_str (da_cons de_int da_nil))))) (da_cons (de_tup (pe_tup (da_cons de_str (da_cons de_str (da_cons de_int da_nil))))) (da_cons (de_tup (pe_tup (da_cons de_str (da_cons de_str (da_cons de_int da_nil))))) da_nil))))))))))
 (dss_cons (ds_setO (ps_set (i := 0) sc__law_rows.nd rfl (by first | exact Or.inl rfl | exact Or.inr rfl) (do_cat (de_var (pv 0)) (DO.de (do_lst (pe_lst (da_cons (de_tup (pe_tup (da_cons de_str (da_cons de_str (da_cons de_int da_nil))))) (da_cons (de_tup (pe_tup (da_cons de_str (da_cons de_str (da_cons de_int da_nil))))) (da_cons (de_tup (pe_tup (da_cons de_str (da_cons de_str (da_cons de_int da_nil))))) da_nil)))))))))
 (dss_cons (ds_setO (ps_set (i := 0) sc__law_rows.nd rfl (by first | exact Or.inl rfl | exact Or.inr rfl) (do_cat (de_var (pv 0)) (DO.de (do_lst (pe_lst (da_cons (de_tup (pe_tup (da_cons de_str (da_cons de_str (da_cons de_int da_nil))))) (da_cons (de_tup (pe_tup (da_cons de_str (da_cons de_str (da_cons de_int da_nil))))) da_nil))))))))
 (dss_cons (ds_setO (ps_set (i := 0) sc__law_rows.nd rfl (by first | exact Or.inl rfl | exact Or.inr rfl) (do_cat (de_var (pv 0)) (DO.de (do_lst (pe_lst (da_cons (de_tup (pe_tup (da_cons de_str (da_cons de_str (da_cons de_int da_nil))))) (da_cons (de_tup (pe_tup (da_cons de_str (da_cons de_str (da_cons de_int da_nil))))) (da_cons (de_tup (pe_tup (da_cons de_str (da_cons de_str (da_cons de_int da_nil))))) da_nil)))))))))
 (dss_cons (ds_setO (ps_set (i := 0) sc__law_rows.nd rfl (by first | exact Or.inl rfl | exact Or.inr rfl) (do_cat (de_var (pv 0)) (DO.de (do_lst (pe_lst (da_cons (de_tup (pe_tup (da_cons de_str (da_cons de_str (da_cons de_int da_nil))))) (da_cons (de_tup (pe_tup (da_cons de_str (da_cons de_str (da_cons de_int da_nil))))) (da_cons (de_tup (pe_tup (da_cons de_str (da_cons de_str (da_cons de_int da_nil))))) da_nil)))))))))
 (dss_cons (ds_setO (ps_set (i := 0) sc__law_rows.nd rfl (by first | exact Or.inl rfl | exact Or.inr rfl) (do_cat (de_var (pv 0)) (DO.de (do_lst (pe_lst (da_cons (de_tup (pe_tup (da_cons de_str (da_cons de_str (da_cons de_int da_nil))))) (da_cons (de_tup (pe_tup (da_cons de_str (da_cons de_str (da_cons de_int da_nil))))) (da_cons (de_tup (pe_tup (da_cons de_str (da_cons de_str (da_cons de_int da_nil))))) da_nil)))))))))
 (dss_cons (ds_setO (ps_set (i := 0) sc__law_rows.nd rfl (by first | exact Or.inl rfl | exact Or.inr rfl) (do_cat (de_var (pv 0)) (DO.de (do_lst (pe_lst (da_cons (de_tup (pe_tup (da_cons de_str (da_cons de_str (da_cons de_non da_nil))))) (da_cons (de_tup (pe_tup (da_cons de_str (da_cons de_str (da_cons de_int da_nil))))) da_nil))))))))
 (dss_cons (ds_append (ps_expr (pe_bm PySem.F.plainAttrs_list PySem.F.slot_list_append PySem.F.type_list_append mt_append (pv 0) (pa_cons (de_tup (pe_tup (da_cons de_str (da_cons de_str (da_cons de_int da_nil))))) pa_nil))))
 (dss_cons (ds_setO (ps_set (i := 0) sc__law_rows.nd rfl (by first | exact Or.inl rfl | exact Or.inr rfl) (do_cat (de_var (pv 0)) (DO.de (do_lst (pe_lst (da_cons (de_tup (pe_tup (da_cons de_str (da_cons de_str (da_cons de_int da_nil))))) (da_cons (de_tup (pe_tup (da_cons de_str (da_cons de_str (da_cons de_int da_nil))))) da_nil))))))))
 (dss_cons (ds_setO (ps_set (i := 0) sc__law_rows.nd rfl (by first | exact Or.inl rfl | exact Or.inr rfl) (do_cat (de_var (pv 0)) (DO.de (do_lst (pe_lst (da_cons (de_tup (pe_tup (da_cons de_str (da_cons de_str (da_cons de_int da_nil))))) (da_cons (de_tup (pe_tup (da_cons de_str (da_cons de_str (da_cons de_int da_nil))))) da_nil))))))))
 (dss_one (ds_ret (ps_ret (de_op od_add (de_var (pv 0)) (DO.de (do_lst (pe_lst (da_cons (de_tup (pe_tup (da_cons de_str (da_cons de_str (da_cons de_int da_nil))))) (da_cons (de_tup (pe_tup (da_cons de_str (da_cons de_str (da_cons de_int da_nil))))) da_nil)))))))))))))))))))))
theorem sc_law : FnScope [("script" : Str), ("state" : Str), ("by" : Str), ("good" : Str), ("bad" : Str), ("many" : Str), ("mine" : Str), ("theirs" : Str), ("at" : Str), ("place" : Str), ("rows" : Str), ("text" : Str)] [("script" : Str)] (defScope (top 54)) := ⟨rfl, rfl, rfl, by decide +kernel, rfl, by decide +kernel, by decide +kernel⟩
def LawMath : Prop := ∀ ns : List Int, ns.length ≤ 63 → ∃ env' w', b_law_k40 (env0 ns.length 12 1) (some (beginDS ns)) = some (.rt (.d (.bool true)), env', w')
theorem F_law (T : Facts K mg) (hM : LawMath) {f : Addr} {fd : FuncData} (F : FunD K "law" "law" (defArgs (top 54)) (defBody (top 54)) (defScope (top 54)) [] [] f fd) : OkG P w K mg base 9 f fd [("script" : Str)] (spLaw K) := by
  have F__law_draw := F__law_draw (P := P) (w := w) (base := base) T
  have F__law_moved := F__law_moved (P := P) (w := w) (base := base) T
  have F__law_of := F__law_of (P := P) (w := w) (base := base) T
  have F__law_right := F__law_right (P := P) (w := w) (base := base) T
  have F__law_rows := F__law_rows (P := P) (w := w) (base := base) T
  obtain ⟨fB, fdB, GB, gB, kB, bB⟩ := begin_row (P := P) (w := w) (base := base) T
  refine OkG.of F (k := 8) sc_law (fun vs H Q E h => ?_) (fun cdv A outer s H vs Q E hG hr h => ⟨_, PSs.nox (pss_cons (ps_set (i := 1) sc_law.nd rfl (by first | exact Or.inl rfl | exact Or.inr rfl) (pe_call GB (hr.mono (by decide)) rfl gB kB bB .nil pass0 (pa_cons (pv 0) pa_nil))) (show DSs _ _ b_law_k40 from ?body)), ?_⟩)
  case body =>
    have hu := hr.units
    exact (dss_cons (ds_set (ps_set (i := 2) sc_law.nd rfl (by first | exact Or.inl rfl | exact Or.inr rfl) (de_call F__law_of hr (by decide) (da_cons (de_var (pv 1)) (da_cons (DO.de (do_lst (pe_lst (da_cons de_int (da_cons de_int (da_cons de_int (da_cons (de_call F__law_draw hr (by decide) (da_cons (de_var (pv 1)) (da_cons (de_op od_pow de_int de_int) da_nil))) da_nil))))))) da_nil)))))
 (dss_cons (ds_for (vs := [3, 4, 5]) (ps_for PassesOwn.never rfl (di_seq (de_call0 F__law_rows hr (by decide))) (dg_tup (pg_tup rfl (dgs_cons (dg_name (pg_name (i := 3) sc_law.nd rfl (by first | exact Or.inl rfl | exact Or.inr rfl))) (dgs_cons (dg_name (pg_name (i := 4) sc_law.nd rfl (by first | exact Or.inl rfl | exact Or.inr rfl))) (dgs_cons (dg_name (pg_name (i := 5) sc_law.nd rfl (by first | exact Or.inl rfl | exact Or.inr rfl))) dgs_nil))))) (dss_cons (ds_setLc (ps_setLc (i := 6) (own := [("text", 11)]) rfl sc_law.nd rfl rfl (sw_true rfl rfl rfl (by decide +kernel)) (di_seq (de_mtS PySem.F.slot_str_split PySem.F.type_str_split md_split (de_var (pv 3)) (da_cons de_str da_nil))) (blkOk_by (N := ["script", "state", "by", "good", "bad", "many", "mine", "theirs", "at", "place", "rows", "text"]) (sc := defScope (top 54)) (own := [("text", 11)]) (by decide +kernel)) (fun _ _ _ _ _ => (dg_name (pg_name (i := 11) sc_law.nd rfl (by first | exact Or.inl rfl | exact Or.inr rfl)))) (fun _ _ _ _ _ => (dts_one (dt_cmp (od_ne hu) (de_var (pv 11)) de_str (nomark _)))) (fun _ _ _ _ _ => (de_call F__law_moved hr (by decide) (da_cons (de_var (pv 11)) (da_cons (de_var (pv 2)) da_nil))))))
 (dss_cons (ds_setLc (ps_setLc (i := 7) (own := [("text", 11)]) rfl sc_law.nd rfl rfl (sw_true rfl rfl rfl (by decide +kernel)) (di_seq (de_mtS PySem.F.slot_str_split PySem.F.type_str_split md_split (de_var (pv 4)) (da_cons de_str da_nil))) (blkOk_by (N := ["script", "state", "by", "good", "bad", "many", "mine", "theirs", "at", "place", "rows", "text"]) (sc := defScope (top 54)) (own := [("text", 11)]) (by decide +kernel)) (fun _ _ _ _ _ => (dg_name (pg_name (i := 11) sc_law.nd rfl (by first | exact Or.inl rfl | exact Or.inr rfl)))) (fun _ _ _ _ _ => (dts_one (dt_cmp (od_ne hu) (de_var (pv 11)) de_str (nomark _)))) (fun _ _ _ _ _ => (de_call F__law_moved hr (by decide) (da_cons (de_var (pv 11)) (da_cons (de_var (pv 2)) da_nil))))))
 (dss_cons (ds_par (ps_par (i := 8) (j := 9) rfl sc_law.nd rfl rfl (by decide) rfl rfl (da_cons (de_call F__law_draw hr (by decide) (da_cons (de_var (pv 1)) (da_cons (de_op od_add (de_callB cd_len T.b_len (by decide +kernel) (da_cons (de_var (pv 6)) da_nil)) de_int) da_nil))) (da_cons (de_call F__law_draw hr (by decide) (da_cons (de_var (pv 1)) (da_cons (de_op od_add (de_callB cd_len T.b_len (by decide +kernel) (da_cons (de_var (pv 7)) da_nil)) de_int) da_nil))) da_nil)) rfl))
 (dss_one (ds_if (ps_if (dt_not (dt_val (de_call F__law_right hr (by decide) (da_cons (de_callTy cd_tuple T.b_tuple (by decide +kernel) (da_cons (de_op od_add (de_sl (de_var (pv 6)) (dpo_some (de_var (pv 8))) dpo_none) (de_sl (de_var (pv 6)) dpo_none (dpo_some (de_var (pv 8))))) da_nil)) (da_cons (de_callTy cd_tuple T.b_tuple (by decide +kernel) (da_cons (de_op od_add (de_sl (de_var (pv 7)) (dpo_some (de_var (pv 9))) dpo_none) (de_sl (de_var (pv 7)) dpo_none (dpo_some (de_var (pv 9))))) da_nil)) (da_cons (de_var (pv 5)) da_nil)))))) (dss_one (ds_ret (ps_ret de_bl))) dss_nil))))))))
 (dss_cons (ds_set (ps_set (i := 10) sc_law.nd rfl (by first | exact Or.inl rfl | exact Or.inr rfl) (DO.de (do_lst (pe_lst (da_cons (de_tup (pe_tup (da_cons de_str (da_cons de_str (da_cons de_int da_nil))))) (da_cons (de_tup (pe_tup (da_cons de_str (da_cons de_str (da_cons de_int da_nil))))) (da_cons (de_tup (pe_tup (da_cons de_str (da_cons de_str (da_cons de_int da_nil))))) (da_cons (de_tup (pe_tup (da_cons de_str (da_cons de_str (da_cons de_int da_nil))))) da_nil)))))))))
 (dss_cons (ds_for (vs := [3, 4, 5]) (ps_for PassesOwn.never rfl (di_seq (de_var (pv 10))) (dg_tup (pg_tup rfl (dgs_cons (dg_name (pg_name (i := 3) sc_law.nd rfl (by first | exact Or.inl rfl | exact Or.inr rfl))) (dgs_cons (dg_name (pg_name (i := 4) sc_law.nd rfl (by first | exact Or.inl rfl | exact Or.inr rfl))) (dgs_cons (dg_name (pg_name (i := 5) sc_law.nd rfl (by first | exact Or.inl rfl | exact Or.inr rfl))) dgs_nil))))) (dss_one (ds_if (ps_if (dt_not (dt_val (de_call F__law_right hr (by decide) (da_cons (de_callTy cd_tuple T.b_tuple (by decide +kernel) (da_cons (de_mtS PySem.F.slot_str_split PySem.F.type_str_split md_split (de_var (pv 3)) (da_cons de_str da_nil)) da_nil)) (da_cons (de_callTy cd_tuple T.b_tuple (by decide +kernel) (da_cons (de_mtS PySem.F.slot_str_split PySem.F.type_str_split md_split (de_var (pv 4)) (da_cons de_str da_nil)) da_nil)) (da_cons (de_var (pv 5)) da_nil)))))) (dss_one (ds_ret (ps_ret de_bl))) dss_nil)))))
 (dss_one (ds_ret (ps_ret de_bl)))))))
  · obtain ⟨a, ns, rfl, _⟩ := h
    rfl
  · obtain ⟨a, ns, rfl, hl, hO, hS, hQ⟩ := h
    obtain ⟨env', w', hm⟩ := hM ns hl
    refine ⟨_, rfl, a, ns, rfl, hS, hl, fun ad H1 sm n1 n2 n3 ne e1 e2 e3 => ?_⟩
    exact law_rest (N := [("script" : Str), ("state" : Str), ("by" : Str), ("good" : Str), ("bad" : Str), ("many" : Str), ("mine" : Str), ("theirs" : Str), ("at" : Str), ("place" : Str), ("rows" : Str), ("text" : Str)]) hO hS rfl (by decide) (by decide) sm n1 n2 n3 ne e1 e2 e3 hm hQ
end
end Dn

set_option maxHeartbeats 4000000
set_option maxHeartbeats 0
namespace Dn
open PySem PySem.Spec PyProof.Rows L2
theorem facts {K : PySem.W.Frag} {h : Heap} {mg : Str → Option Value} (X : K.In h) (G : h.Ns mainGlobals mg) (c : He.SaysD hfa hfn K) (e : hex K = true) : Facts K mg := by
  simp only [hex, Bool.and_eq_true] at e
  obtain ⟨e_DEV, e_FIGURES, e_MOST_FIGURES, e_MOST_NUMBERS, e_MOST_TOLD, e_POST, e_STAR, e_WORDS, e_tab, _⟩ := e
  exact {
    b_all := He.free_ok X G (c.fact 40 rfl)
    b_dict := He.free_ok X G (c.fact 41 rfl)
    b_int := He.free_ok X G (c.fact 42 rfl)
    b_isinstance := He.free_ok X G (c.fact 43 rfl)
    b_len := He.free_ok X G (c.fact 44 rfl)
    b_list := He.free_ok X G (c.fact 45 rfl)
    b_max := He.free_ok X G (c.fact 46 rfl)
    b_min := He.free_ok X G (c.fact 47 rfl)
    b_range := He.free_ok X G (c.fact 48 rfl)
    b_set := He.free_ok X G (c.fact 49 rfl)
    b_sorted := He.free_ok X G (c.fact 50 rfl)
    b_str := He.free_ok X G (c.fact 51 rfl)
    b_tuple := He.free_ok X G (c.fact 52 rfl)
    c_DEV := con_str X G e_DEV
    c_FIGURES := con_str X G e_FIGURES
    c_MOST_FIGURES := con_int X G e_MOST_FIGURES
    c_MOST_NUMBERS := con_int X G e_MOST_NUMBERS
    c_MOST_TOLD := con_int X G e_MOST_TOLD
    c_POST := con_str X G e_POST
    c_STAR := con_str X G e_STAR
    c_WORDS := gtB_ok X G e_WORDS
    d_number_at := def_ok X G c 0 0 rfl rfl
    d_numbers_at := def_ok X G c 1 1 rfl rfl
    d_word_at := def_ok X G c 2 2 rfl rfl
    d_tail_at := def_ok X G c 3 3 rfl rfl
    d_parts_of := def_ok X G c 4 4 rfl rfl
    d_based := def_ok X G c 5 5 rfl rfl
    d_tail_of := def_ok X G c 6 6 rfl rfl
    d_split_tail := def_ok X G c 7 7 rfl rfl
    d_key_from := def_ok X G c 8 8 rfl rfl
    d_key_of := def_ok X G c 9 9 rfl rfl
    d_text_of := def_ok X G c 10 10 rfl rfl
    d_following_key := def_ok X G c 11 11 rfl rfl
    d_is_version := def_ok X G c 12 12 rfl rfl
    d_numbers_text := def_ok X G c 13 13 rfl rfl
    d_block_text := def_ok X G c 14 14 rfl rfl
    d_near_text := def_ok X G c 15 15 rfl rfl
    d_told_keys := def_ok X G c 16 16 rfl rfl
    d_shared := def_ok X G c 17 17 rfl rfl
    d_padded := def_ok X G c 18 18 rfl rfl
    d_common_block := def_ok X G c 19 19 rfl rfl
    d_near_key := def_ok X G c 20 20 rfl rfl
    d_left_out := def_ok X G c 21 21 rfl rfl
    d_first_ways := def_ok X G c 22 22 rfl rfl
    d_telling := def_ok X G c 23 23 rfl rfl
    d__law_mixed := def_ok X G c 24 24 rfl rfl
    d__law_begin := def_ok X G c 25 25 rfl rfl
    d__law_draw := def_ok X G c 26 26 rfl rfl
    d__law_of := def_ok X G c 27 27 rfl rfl
    d__law_parts := def_ok X G c 28 28 rfl rfl
    d__law_base := def_ok X G c 29 29 rfl rfl
    d__law_key := def_ok X G c 30 30 rfl rfl
    d__law_is_forerunner := def_ok X G c 31 31 rfl rfl
    d__law_text := def_ok X G c 32 32 rfl rfl
    d__law_in_block := def_ok X G c 33 33 rfl rfl
    d__law_clause_lets := def_ok X G c 34 34 rfl rfl
    d__law_lets := def_ok X G c 35 35 rfl rfl
    d__law_moved := def_ok X G c 36 36 rfl rfl
    d__law_right := def_ok X G c 37 37 rfl rfl
    d__law_rows := def_ok X G c 38 38 rfl rfl
    d_law := def_ok X G c 39 39 rfl rfl
  }
theorem facts_tab {K : PySem.W.Frag} (e : hex K = true) : tabsOf K = [] := by
  simp only [hex, Bool.and_eq_true] at e
  obtain ⟨e_DEV, e_FIGURES, e_MOST_FIGURES, e_MOST_NUMBERS, e_MOST_TOLD, e_POST, e_STAR, e_WORDS, e_tab, _⟩ := e
  exact List.isEmpty_iff.mp e_tab
end Dn
open PySem PySem.W PySem.Calls PyProof.Rows
theorem law_holds (hM : Dn.LawMath) : PySem.Challenge.rw_pickedrelease_k40_telling_by_hand.Holds := by
  w_on; o_law
  refine HandSHeadRun.head_any (r := OpenLaw.row PySem.Challenge.rw_pickedrelease_k40_telling_by_hand) (q := view (OpenLaw.row PySem.Challenge.rw_pickedrelease_k40_telling_by_hand).prog [54]) (H := Dn.hk) (ob := Dn.hob) (M := 40000) (loose := Dn.hloose) (d := HandSHeadRun.topDef (OpenLaw.row PySem.Challenge.rw_pickedrelease_k40_telling_by_hand).prog 54) (kwd := []) Dn.hob_eq
    (by kernel_rfl) (fun s => by kernel_rfl) Dn.hrun (by kernel_rfl) (by kernel_rfl) (by kernel_rfl) (by rfl) (by first | assumption | decide +kernel) (by decide +kernel) ⟨rfl, rfl, rfl, rfl, rfl, by decide +kernel⟩ ?hw ?hc
  case hw => w_witness2
  case hc =>
    refine Dn.walkG (l := PySem.Challenge.rw_pickedrelease_k40_telling_by_hand) (n := 63) (k := 9) (x := "script") rfl (by decide) (by kernel_rfl) ⟨rfl, by decide, by decide⟩ ?F
    intro w mg fa h Y G hmg0
    obtain ⟨K, KX, c⟩ := Y
    have hmg : mg ("law" : PySem.Str) = some (.ref fa) := by
      have e : (HandSHeadRun.topDef (OpenLaw.row PySem.Challenge.rw_pickedrelease_k40_telling_by_hand).prog 54).name = ("law" : PySem.Str) := by kernel_rfl
      rw [← e]
      exact hmg0
    have T := Dn.facts KX G (He.SaysT.d c.t) c.more
    obtain ⟨f, fd, F, hf⟩ := T.d_law
    have e0 := hmg.symm.trans hf
    cases e0
    have bnd := L2.FunD.bindsA (ps := [("script" : PySem.Str)]) F fun _ _ _ _ _ _ us hl => match us, hl with | [_], _ => rfl
    exact ⟨K, fd, Dn.spLaw K, KX, fun s v => bnd s [v] rfl, fun H a ns hl hO hS => ⟨a, ns, rfl, hl, Dn.OnlyT.of hO (Dn.facts_tab c.more), hS, fun _ => rfl⟩, fun base _ _ => Dn.F_law T hM F⟩

theorem PySem.Challenge.cw_pickedrelease_k40_telling_by_hand_holds : PySem.Challenge.rw_pickedrelease_k40_telling_by_hand.Holds := by
  exact law_holds Dn.law_math

#print axioms PySem.Challenge.cw_pickedrelease_k40_telling_by_hand_holds
