import PyProof.Rows.All
import Wide.All
import OpenK.AllK
import Wide.FinOn
import HandS.ForMost
import HandS.More
import HandS.Defaults
import KE.DataEq
import KE.LtData
import HandS.TupAny
import HandS.Style
import HandS.StrMore
import HandS.IsInst
import HandS.FStr
import HandS.Strs
import HandS.Conv
import HandS.NoneIn
import HandS.Star
import HandS.HeadEnd
import KE.KStateDown
import HandS.WordsExc
import HandS.Head0
import HandS.Head1
import HandS.Head2
import HandS.HeadHook1
import HandS.HeadHook2
import HandS.HeadHook3
import HandS.HeadHook4
import KE.SortKeyHeap
import HandS.SortKw
import HandS.Iter
import HandS.Codes
import Lean
import PySem.Challenge.RW_pickedrelease_k04_whole_plainest_texts
set_option Elab.async false
set_option linter.all false
set_option maxRecDepth 100000
set_option autoImplicit false
set_option maxHeartbeats 4000000
/-! Dn1: a def's body as a pure function over data. -/
namespace Dn
open PySem PySem.Spec PyProof.Rows L2

/-! ### data in a heap -/
mutual
/-- the value v is the datum d, over the heap G of what is data (lists: tracked ones) -/
inductive Dq (K : PySem.W.Frag) (G : Hp) : V → PyData → Prop
  | non : Dq K G .non .none
  | bl (b : Bool) : Dq K G (.bl b) (.bool b)
  | int (i : Int) : Dq K G (.int i) (.int i)
  | str (x : Str) : Dq K G (.str x) (.str x)
  | lst {a : Addr} {xs : List V} {ds : List PyData} : G a = some (.lst xs) → DqA K G xs ds → Dq K G (.ref a) (.list ds)
  | tup {a : Addr} {xs : List V} {ds : List PyData} : SqT K G a xs → DqA K G xs ds → Dq K G (.ref a) (.tuple ds)
inductive DqA (K : PySem.W.Frag) (G : Hp) : List V → List PyData → Prop
  | nil : DqA K G [] []
  | cons {v : V} {vs : List V} {d : PyData} {ds : List PyData} : Dq K G v d → DqA K G vs ds → DqA K G (v :: vs) (d :: ds)
end
mutual
theorem Dq.dp {K : PySem.W.Frag} {G : Hp} : ∀ {v : V} {d : PyData}, Dq K G v d → Dp K G v d
  | _, _, .non => .non
  | _, _, .bl b => .bl b
  | _, _, .int i => .int i
  | _, _, .str x => .str x
  | _, _, .lst h a => .lst (SqL.of h) a.dp
  | _, _, .tup h a => .tup h a.dp
theorem DqA.dp {K : PySem.W.Frag} {G : Hp} : ∀ {vs : List V} {ds : List PyData}, DqA K G vs ds → DpAll K G vs ds
  | _, _, .nil => .nil
  | _, _, .cons a b => .cons a.dp b.dp
end
mutual
theorem dp_mono {K : PySem.W.Frag} {G G' : Hp} (s : Same G G') : ∀ {v : V} {d : PyData}, Dq K G v d → Dq K G' v d
  | _, _, .non => .non
  | _, _, .bl b => .bl b
  | _, _, .int i => .int i
  | _, _, .str x => .str x
  | _, _, .lst h a => .lst (s _ _ h) (dpA_mono s a)
  | _, _, .tup h a => .tup (by
      rcases h with (h | ⟨o, h⟩) | h
      · exact .inl (.inl (s _ _ h))
      · exact .inl (.inr ⟨o, s _ _ h⟩)
      · exact .inr h) (dpA_mono s a)
theorem dpA_mono {K : PySem.W.Frag} {G G' : Hp} (s : Same G G') : ∀ {vs : List V} {ds : List PyData}, DqA K G vs ds → DqA K G' vs ds
  | _, _, .nil => .nil
  | _, _, .cons a b => .cons (dp_mono s a) (dpA_mono s b)
end
theorem Same.sqT {K : PySem.W.Frag} {G G' : Hp} {a : Addr} {xs : List V} (s : Same G G') (h : SqT K G a xs) : SqT K G' a xs := by
  rcases h with (h | ⟨o, h⟩) | h
  · exact .inl (.inl (s _ _ h))
  · exact .inl (.inr ⟨o, s _ _ h⟩)
  · exact .inr h
theorem same_upd {G : Hp} {p : Addr} {o : HO} (h : G p = none) : Same G (upd G p o) := fun b u e => by rw [upd_ne (ne_of_none e h)]; exact e
theorem dpA_len {K : PySem.W.Frag} {G : Hp} : ∀ {vs : List V} {ds : List PyData}, DqA K G vs ds → vs.length = ds.length
  | _, _, .nil => rfl
  | _, _, .cons _ b => congrArg Nat.succ (dpA_len b)
theorem dpA_get {K : PySem.W.Frag} {G : Hp} : ∀ {vs : List V} {ds : List PyData} {i : Nat} {d : PyData}, DqA K G vs ds → ds[i]? = some d → ∃ v, vs[i]? = some v ∧ Dq K G v d
  | _, _, _, _, .nil, e => by simp at e
  | _, _, 0, _, .cons a _, e => by simp at e; subst e; exact ⟨_, rfl, a⟩
  | _, _, i + 1, _, .cons _ b, e => by
    obtain ⟨v, h1, h2⟩ := dpA_get (i := i) b (by simpa using e)
    exact ⟨v, by simpa using h1, h2⟩
theorem dpA_get' {K : PySem.W.Frag} {G : Hp} : ∀ {vs : List V} {ds : List PyData} {i : Nat} {v : V}, DqA K G vs ds → vs[i]? = some v → ∃ d, ds[i]? = some d ∧ Dq K G v d
  | _, _, _, _, .nil, e => by simp at e
  | _, _, 0, _, .cons a _, e => by simp at e; subst e; exact ⟨_, rfl, a⟩
  | _, _, i + 1, _, .cons _ b, e => by
    obtain ⟨v, h1, h2⟩ := dpA_get' (i := i) b (by simpa using e)
    exact ⟨v, by simpa using h1, h2⟩
theorem dpA_app {K : PySem.W.Frag} {G : Hp} : ∀ {vs ws : List V} {ds es : List PyData}, DqA K G vs ds → DqA K G ws es → DqA K G (vs ++ ws) (ds ++ es)
  | _, _, _, _, .nil, h => h
  | _, _, _, _, .cons a b, h => .cons a (dpA_app b h)
theorem dpA_take {K : PySem.W.Frag} {G : Hp} : ∀ {vs : List V} {ds : List PyData} (n : Nat), DqA K G vs ds → DqA K G (vs.take n) (ds.take n)
  | _, _, 0, _ => by simpa using DqA.nil
  | _, _, _ + 1, .nil => .nil
  | _, _, n + 1, .cons a b => .cons a (dpA_take n b)
theorem dpA_drop {K : PySem.W.Frag} {G : Hp} : ∀ {vs : List V} {ds : List PyData} (n : Nat), DqA K G vs ds → DqA K G (vs.drop n) (ds.drop n)
  | _, _, 0, h => by simpa using h
  | _, _, _ + 1, .nil => .nil
  | _, _, n + 1, .cons _ b => dpA_drop n b
theorem dpA_ints {K : PySem.W.Frag} {G : Hp} : ∀ (ns : List Int), DqA K G (ns.map V.int) (ns.map PyData.int)
  | [] => .nil
  | n :: ns => .cons (.int n) (dpA_ints ns)
theorem dpA_strs {K : PySem.W.Frag} {G : Hp} : ∀ (ns : List Str), DqA K G (ns.map V.str) (ns.map PyData.str)
  | [] => .nil
  | n :: ns => .cons (.str n) (dpA_strs ns)

/-! ### the mirror's world -/
/-- what a slot holds: data; a list of this def's own that may still be changed; the law's drawing state -/
inductive SD where
  | d (x : PyData)
  | own (xs : List PyData)
  | st
  | scr (n : Nat)
/-- the drawing state -/
structure DS where
  cells : List Int
  lefts : List Int
  pos : Int
  room : Int
abbrev Ev := List (Option SD)
abbrev W := Option DS
structure Ad where
  sa : Addr
  ca : Addr
  la : Addr
structure Ct where
  ad : Ad
  H0 : Hp
  G0 : Hp
def kCells : Key := .inr "cells"
def kLefts : Key := .inr "lefts"
def kAt : Key := .inr "at"
def kRoom : Key := .inr "room"
structure StAt (ad : Ad) (s : DS) (G H : Hp) : Prop where
  sa : H ad.sa = some (.dK [(kCells, .ref ad.ca), (kLefts, .ref ad.la), (kAt, .int s.pos), (kRoom, .int s.room)])
  la : H ad.la = some (.lst (s.lefts.map V.int))
  ca : H ad.ca = some (.lst (s.cells.map V.int))
  gs : G ad.sa = none
  gl : G ad.la = none
  gc : G ad.ca = none
  ne : ad.ca ≠ ad.la
/-- the addresses that a def may change -/
def Mt (ad : Ad) (w : W) (b : Addr) : Prop := w.isSome = true ∧ (b = ad.sa ∨ b = ad.la)
def SlotOk (K : PySem.W.Frag) (C : Ct) (w : W) (G H : Hp) : SD → V → Prop
  | .d x, v => Dq K G v x
  | .own xs, v => ∃ a vs, v = .ref a ∧ H a = some (.lst vs) ∧ DqA K G vs xs ∧ G a = none ∧ C.H0 a = none
  | .st, v => w.isSome = true ∧ v = .ref C.ad.sa
  | .scr n, v => ∃ a xs, v = .ref a ∧ xs.length = n ∧ ((∃ o, C.H0 a = some (.frz o (.lst xs)) ∧ ¬ Mt C.ad w a) ∨ ∀ H1, SqL K H1 a xs)
def ArgOk (K : PySem.W.Frag) (ad : Ad) (w : W) (G : Hp) : SD → V → Prop
  | .d x, v => Dq K G v x
  | .own _, _ => False
  | .st, v => w.isSome = true ∧ v = .ref ad.sa
  | .scr _, _ => False
inductive ArgsOk (K : PySem.W.Frag) (ad : Ad) (w : W) (G : Hp) : List SD → List V → Prop
  | nil : ArgsOk K ad w G [] []
  | cons {r : SD} {rs : List SD} {v : V} {vs : List V} : ArgOk K ad w G r v → ArgsOk K ad w G rs vs → ArgsOk K ad w G (r :: rs) (v :: vs)
structure Rel (K : PySem.W.Frag) (C : Ct) (env : Ev) (w : W) (σ : L2.St) (G H : Hp) : Prop where
  sub : Same G H
  len : env.length = σ.length
  slot : ∀ (i : Nat) (sd : SD), env[i]? = some (some sd) → ∃ v, σ[i]? = some (some v) ∧ SlotOk K C w G H sd v
  sep : ∀ (i j : Nat) (xs ys : List PyData) (a : Addr), env[i]? = some (some (.own xs)) → env[j]? = some (some (.own ys)) → σ[i]? = some (some (.ref a)) → σ[j]? = some (some (.ref a)) → i = j
  st : ∀ s, w = some s → StAt C.ad s G H
  st0 : w.isSome = true → C.H0 C.ad.sa ≠ none ∧ C.H0 C.ad.la ≠ none ∧ C.H0 C.ad.ca ≠ none
  fr : ∀ b o, C.H0 b = some o → ¬ Mt C.ad w b → H b = some o
  gr : ∀ b o, C.H0 b = some o → G b = C.G0 b
theorem ArgOk.mono {K : PySem.W.Frag} {ad : Ad} {w w' : W} {G G' : Hp} (s : Same G G') (hw : w'.isSome = w.isSome) : ∀ {r : SD} {v : V}, ArgOk K ad w G r v → ArgOk K ad w' G' r v
  | .d _, _, h => dp_mono s h
  | .own _, _, h => h.elim
  | .st, _, h => ⟨by rw [hw]; exact h.1, h.2⟩
  | .scr _, _, h => h.elim
theorem ArgsOk.mono {K : PySem.W.Frag} {ad : Ad} {w w' : W} {G G' : Hp} (s : Same G G') (hw : w'.isSome = w.isSome) : ∀ {rs : List SD} {vs : List V}, ArgsOk K ad w G rs vs → ArgsOk K ad w' G' rs vs
  | _, _, .nil => .nil
  | _, _, .cons a b => .cons (a.mono s hw) (b.mono s hw)
theorem ArgsOk.length {K : PySem.W.Frag} {ad : Ad} {w : W} {G : Hp} : ∀ {rs : List SD} {vs : List V}, ArgsOk K ad w G rs vs → rs.length = vs.length
  | _, _, .nil => rfl
  | _, _, .cons _ b => congrArg Nat.succ b.length
theorem Mt.of_none {ad : Ad} {b : Addr} : ¬ Mt ad none b := fun h => by cases h.1
/-- what stood at the entry stands (something stands) now -/
theorem Rel.some0 {K : PySem.W.Frag} {C : Ct} {env : Ev} {w : W} {σ : L2.St} {G H : Hp} (R : Rel K C env w σ G H) {b : Addr} {o : HO} (h : C.H0 b = some o) : ∃ u, H b = some u := by
  by_cases m : Mt C.ad w b
  · obtain ⟨h1, h2⟩ := m
    cases e : w with
    | none => rw [e] at h1; cases h1
    | some s =>
      have q := R.st s e
      rcases h2 with rfl | rfl
      · exact ⟨_, q.sa⟩
      · exact ⟨_, q.la⟩
  · exact ⟨o, R.fr b o h m⟩
theorem Rel.none0 {K : PySem.W.Frag} {C : Ct} {env : Ev} {w : W} {σ : L2.St} {G H : Hp} (R : Rel K C env w σ G H) {b : Addr} (h : H b = none) : C.H0 b = none := by
  cases e : C.H0 b with
  | none => rfl
  | some o => obtain ⟨u, q⟩ := R.some0 e; rw [h] at q; cases q
/-- an own list's address is none of the state's -/
theorem Rel.own_ne {K : PySem.W.Frag} {C : Ct} {env : Ev} {w : W} {σ : L2.St} {G H : Hp} (R : Rel K C env w σ G H) {a : Addr} (h : C.H0 a = none) (hw : w.isSome = true) : a ≠ C.ad.sa ∧ a ≠ C.ad.la ∧ a ≠ C.ad.ca := by
  obtain ⟨h1, h2, h3⟩ := R.st0 hw
  exact ⟨fun e => h1 (e ▸ h), fun e => h2 (e ▸ h), fun e => h3 (e ▸ h)⟩

/-- the heap grew, nothing else -/
structure Ext (G H G' H' : Hp) : Prop where
  hh : Same H H'
  gg : Same G G'
  gh : Same G' H'
  old : ∀ b o, H b = some o → G' b = G b
theorem Ext.refl {G H : Hp} (s : Same G H) : Ext G H G H := ⟨Same.refl H, Same.refl G, s, fun _ _ _ => rfl⟩
theorem Ext.new {G H : Hp} {p : Addr} {o : HO} (s : Same G H) (h : H p = none) : Ext G H (upd G p o) (upd H p o) := by
  have hg : G p = none := s.free h
  refine ⟨same_upd h, same_upd hg, fun b u e => ?_, fun b u e => upd_ne (ne_of_none e h)⟩
  by_cases hb : b = p
  · subst hb; rw [upd_same] at e ⊢; exact e
  · rw [upd_ne hb] at e ⊢; exact s b u e
/-- .. where the new object is not data -/
theorem Ext.drop {G H H' : Hp} (s : Same G H) (h : Same H H') : Ext G H G H' := ⟨h, Same.refl G, s.trans h, fun _ _ _ => rfl⟩
theorem Ext.trans {G H G1 H1 G2 H2 : Hp} (a : Ext G H G1 H1) (b : Ext G1 H1 G2 H2) : Ext G H G2 H2 := ⟨a.hh.trans b.hh, a.gg.trans b.gg, b.gh, fun c o e => (b.old c o (a.hh c o e)).trans (a.old c o e)⟩
theorem StAt.ext {ad : Ad} {s : DS} {G H G' H' : Hp} (q : StAt ad s G H) (e : Ext G H G' H') : StAt ad s G' H' :=
  ⟨e.hh _ _ q.sa, e.hh _ _ q.la, e.hh _ _ q.ca, (e.old _ _ q.sa).trans q.gs, (e.old _ _ q.la).trans q.gl, (e.old _ _ q.ca).trans q.gc, q.ne⟩
theorem Rel.ext {K : PySem.W.Frag} {C : Ct} {env : Ev} {w : W} {σ : L2.St} {G H G' H' : Hp} (R : Rel K C env w σ G H) (e : Ext G H G' H') : Rel K C env w σ G' H' where
  sub := e.gh
  len := R.len
  slot := fun i sd h => by
    obtain ⟨v, h1, h2⟩ := R.slot i sd h
    refine ⟨v, h1, ?_⟩
    cases sd with
    | d x => exact dp_mono e.gg h2
    | own xs =>
      obtain ⟨a, vs, rfl, ha, hd, hg, h0⟩ := h2
      exact ⟨a, vs, rfl, e.hh _ _ ha, dpA_mono e.gg hd, (e.old _ _ ha).trans hg, h0⟩
    | st => exact h2
    | scr n => exact h2
  sep := R.sep
  st := fun s h => (R.st s h).ext e
  st0 := R.st0
  fr := fun b o h m => e.hh _ _ (R.fr b o h m)
  gr := fun b o h => by
    obtain ⟨u, q⟩ := R.some0 h
    exact (e.old _ _ q).trans (R.gr b o h)

/-! ### denotations -/
abbrev Ex := Ev → W → Option (SD × Ev × W)
abbrev Tx := Ev → W → Option (Bool × Ev × W)
abbrev Ax := Ev → W → Option (List SD × Ev × W)
inductive Fl where
  | nx
  | rt (r : SD)
  | bk
  | ct
abbrev Sx := Ev → W → Option (Fl × Ev × W)
def tD (K : PySem.W.Frag) (m : Ex) : TE := fun σ H Q => ∃ C G env w r env' w', Rel K C env w σ G H ∧ m env w = some (r, env', w') ∧
  ∀ v G' H', Rel K C env' w' σ G' H' → Same G G' → w'.isSome = w.isSome → ArgOk K C.ad w' G' r v → Q v H'
def tT (K : PySem.W.Frag) (m : Tx) : TT := fun σ H Q => ∃ C G env w r env' w', Rel K C env w σ G H ∧ m env w = some (r, env', w') ∧
  ∀ G' H', Rel K C env' w' σ G' H' → Same G G' → w'.isSome = w.isSome → Q r H'
def tA (K : PySem.W.Frag) (m : Ax) : TA := fun σ H Q => ∃ C G env w r env' w', Rel K C env w σ G H ∧ m env w = some (r, env', w') ∧
  ∀ vs G' H', Rel K C env' w' σ G' H' → Same G G' → w'.isSome = w.isSome → ArgsOk K C.ad w' G' r vs → Q vs H'
def tS (K : PySem.W.Frag) (m : Sx) : TS := fun D σ H => ∃ C G env w fl env' w', Rel K C env w σ G H ∧ m env w = some (fl, env', w') ∧
  ∀ σ' G' H', Rel K C env' w' σ' G' H' → Same G G' → w'.isSome = w.isSome → match fl with
    | .nx => D.nx σ' H'
    | .bk => D.bk σ' H'
    | .ct => D.ct σ' H'
    | .rt r => ∀ v, ArgOk K C.ad w' G' r v → D.rt v H'
abbrev DE (X : Cx) (e : Expr) (m : Ex) : Prop := PE X e (tD X.K m)
abbrev DT (X : Cx) (e : Expr) (m : Tx) : Prop := PT X e (tT X.K m)
abbrev DA (X : Cx) (es : List Expr) (m : Ax) : Prop := PA X es (tA X.K m)
abbrev DSt (X : Cx) (s : Stmt) (m : Sx) : Prop := PS X s (tS X.K m)
abbrev DSs (X : Cx) (s : List Stmt) (m : Sx) : Prop := PSs X s (tS X.K m)
theorem PE.weak {X : Cx} {e : Expr} {t t' : TE} (h : PE X e t) (k : ∀ σ H Q, t' σ H Q → t σ H Q) : PE X e t' := ⟨fun pins s σ H Q I q => h.run pins s σ H Q I (k σ H Q q)⟩
theorem PT.weak {X : Cx} {e : Expr} {t t' : TT} (h : PT X e t) (k : ∀ σ H Q, t' σ H Q → t σ H Q) : PT X e t' := ⟨fun pins s σ H Q I q => h.run pins s σ H Q I (k σ H Q q)⟩
theorem PW.weak {X : Cx} {e : Expr} {t t' : TT} (h : PW X e t) (k : ∀ σ H Q, t' σ H Q → t σ H Q) : PW X e t' := ⟨fun wh pins s σ H Q I q => h.run wh pins s σ H Q I (k σ H Q q)⟩
theorem PA.weak {X : Cx} {e : List Expr} {t t' : TA} (h : PA X e t) (k : ∀ σ H Q, t' σ H Q → t σ H Q) : PA X e t' := ⟨fun pos pins s σ H Q I q => h.run pos pins s σ H Q I (k σ H Q q)⟩
theorem PS.weak {X : Cx} {e : Stmt} {t t' : TS} (h : PS X e t) (k : ∀ D σ H, t' D σ H → t D σ H) : PS X e t' := ⟨fun pins s σ H D I q => h.run pins s σ H D I (k D σ H q)⟩
theorem PSs.weak {X : Cx} {e : List Stmt} {t t' : TS} (h : PSs X e t) (k : ∀ D σ H, t' D σ H → t D σ H) : PSs X e t' := ⟨fun pins s σ H D I q => h.run pins s σ H D I (k D σ H q)⟩

/-! ### names, constants -/
def mVar (i : Nat) : Ex := fun env w => match env[i]? with
  | some (some (.d x)) => some (.d x, env, w)
  | some (some .st) => some (.st, env, w)
  | some (some (.own xs)) => some (.d (.list xs), env.set i (some (.d (.list xs))), w)
  | _ => none
/-- an own list is data from now on -/
theorem Rel.freeze {K : PySem.W.Frag} {C : Ct} {env : Ev} {w : W} {σ : L2.St} {G H : Hp} (R : Rel K C env w σ G H) {i : Nat} {xs : List PyData} (h : env[i]? = some (some (.own xs))) :
    ∃ a G', σ[i]? = some (some (.ref a)) ∧ Same G G' ∧ Dq K G' (.ref a) (.list xs) ∧ Rel K C (env.set i (some (.d (.list xs)))) w σ G' H := by
  obtain ⟨v, h1, a, vs, rfl, ha, hd, hg, h0⟩ := R.slot i _ h
  have hi : i < env.length := (List.getElem?_eq_some_iff.mp h).1
  have sg : Same G (upd G a (.lst vs)) := same_upd hg
  have dp : Dq K (upd G a (.lst vs)) (.ref a) (.list xs) := .lst upd_same (dpA_mono sg hd)
  refine ⟨a, upd G a (.lst vs), h1, sg, dp, ?_, ?_, ?_, ?_, ?_, R.st0, R.fr, ?_⟩
  · intro b o e
    by_cases hb : b = a
    · subst hb; rw [upd_same] at e; rw [ha]; exact e
    · rw [upd_ne hb] at e; exact R.sub b o e
  · rw [List.length_set]; exact R.len
  · intro j sd e
    by_cases hj : i = j
    · subst hj
      rw [List.getElem?_set_self hi] at e
      cases e
      exact ⟨_, h1, dp⟩
    · rw [List.getElem?_set_ne hj] at e
      obtain ⟨v, q1, q2⟩ := R.slot j sd e
      refine ⟨v, q1, ?_⟩
      cases sd with
      | d x => exact dp_mono sg q2
      | own ys =>
        obtain ⟨b, us, rfl, hb, hd', hg', h0'⟩ := q2
        refine ⟨b, us, rfl, hb, dpA_mono sg hd', ?_, h0'⟩
        rw [upd_ne]
        · exact hg'
        · rintro rfl
          exact hj (R.sep i j xs ys b h e h1 q1)
      | st => exact q2
      | scr n => exact q2
  · intro j k ys zs b e1 e2 s1 s2
    have hj : i ≠ j := by
      rintro rfl
      rw [List.getElem?_set_self hi] at e1; cases e1
    have hk : i ≠ k := by
      rintro rfl
      rw [List.getElem?_set_self hi] at e2; cases e2
    rw [List.getElem?_set_ne hj] at e1
    rw [List.getElem?_set_ne hk] at e2
    exact R.sep j k ys zs b e1 e2 s1 s2
  · intro s e
    have q := R.st s e
    have ne := R.own_ne h0 (by rw [e]; rfl)
    exact ⟨q.sa, q.la, q.ca, by rw [upd_ne ne.1.symm]; exact q.gs, by rw [upd_ne ne.2.1.symm]; exact q.gl, by rw [upd_ne ne.2.2.symm]; exact q.gc, q.ne⟩
  · intro b o e
    rw [upd_ne]
    · exact R.gr b o e
    · rintro rfl
      rw [h0] at e; cases e
theorem de_var {X : Cx} {i : Nat} {x : Str} {pos : Pos} (h : PE X (.Name x pos) (tVar i)) : DE X (.Name x pos) (mVar i) := PE.weak h fun σ H Q ⟨C, G, env, w, r, env', w', R, hm, k⟩ => by
  unfold mVar at hm
  cases e : env[i]? with
  | none => rw [e] at hm; cases hm
  | some o =>
    rw [e] at hm
    cases o with
    | none => cases hm
    | some sd =>
      cases sd with
      | d y =>
        cases hm
        obtain ⟨v, h1, h2⟩ := R.slot i _ e
        exact ⟨v, h1, k v G H R (Same.refl G) rfl h2⟩
      | own xs =>
        cases hm
        obtain ⟨a, G', h1, sg, dp, R'⟩ := R.freeze e
        exact ⟨.ref a, h1, k _ G' H R' sg rfl dp⟩
      | st =>
        cases hm
        obtain ⟨v, h1, h2⟩ := R.slot i _ e
        exact ⟨v, h1, k v G H R (Same.refl G) rfl h2⟩
      | scr n => cases hm
def mC (x : PyData) : Ex := fun env w => some (.d x, env, w)
theorem de_c {X : Cx} {e : Expr} {v : V} {x : PyData} (h : PE X e (tC v)) (hd : ∀ G, Dq X.K G v x) : DE X e (mC x) := PE.weak h fun σ H Q ⟨C, G, env, w, r, env', w', R, hm, k⟩ => by
  cases hm
  exact k v G H R (Same.refl G) rfl (hd G)
theorem de_int {X : Cx} {i j pos} : DE X (.Constant (.int i) j pos) (mC (.int i)) := de_c pe_int fun _ => .int i
theorem de_str {X : Cx} {i j pos} : DE X (.Constant (.str i) j pos) (mC (.str i)) := de_c pe_str fun _ => .str i
theorem de_bl {X : Cx} {i j pos} : DE X (.Constant (.bool i) j pos) (mC (.bool i)) := de_c pe_bl fun _ => .bl i
theorem de_non {X : Cx} {j pos} : DE X (.Constant .none j pos) (mC .none) := de_c pe_non fun _ => .non

/-! ### gluing -/
def seqE {α : Type} (m : Ex) (k : PyData → Ev → W → Option α) : Ev → W → Option α := fun env w => match m env w with
  | some (.d x, e1, w1) => k x e1 w1
  | _ => none
def optE (o : Option PyData) : Ex := fun env w => match o with
  | some z => some (.d z, env, w)
  | none => none
theorem optE_some {z : PyData} {env : Ev} {w : W} : optE (some z) env w = some (.d z, env, w) := rfl
theorem seqE_inv {α : Type} {m : Ex} {k : PyData → Ev → W → Option α} {env : Ev} {w : W} {r : α} (h : seqE m k env w = some r) : ∃ x e1 w1, m env w = some (.d x, e1, w1) ∧ k x e1 w1 = some r := by
  unfold seqE at h
  split at h
  · rename_i x e1 w1 e
    exact ⟨x, e1, w1, e, h⟩
  · cases h
theorem seqE_of {α : Type} {m : Ex} {k : PyData → Ev → W → Option α} {env : Ev} {w : W} {x : PyData} {e1 : Ev} {w1 : W} (h : m env w = some (.d x, e1, w1)) : seqE m k env w = k x e1 w1 := by
  unfold seqE; rw [h]
theorem optE_inv {o : Option PyData} {env : Ev} {w : W} {r : SD} {env' : Ev} {w' : W} (h : optE o env w = some (r, env', w')) : ∃ z, o = some z ∧ r = .d z ∧ env' = env ∧ w' = w := by
  unfold optE at h
  cases o with
  | none => cases h
  | some z => cases h; exact ⟨z, rfl, rfl, rfl, rfl⟩

/-! ### operators -/
/-- a two-place operation on data -/
def OpD (X : Cx) (f : Value → Value → Sem Value) (g : PyData → PyData → Option PyData) : Prop :=
  ∀ (pins : List (Addr × Obj)) (s : Shared) (σ : L2.St) (G H : Hp) (x y : V) (v u : Value) (dx dy dz : PyData) (Q : VK), Inv X pins σ H s → RelV x v → RelV y u → Same G H → Dq X.K G x dx → Dq X.K G y dy → g dx dy = some dz →
    (∀ z G' H', Ext G H G' H' → Dq X.K G' z dz → Q z H') → wpAny (model X.prog X.w) X.A (f v u) (EP X pins σ Q) X.xe s
def mOp (g : PyData → PyData → Option PyData) (ma mb : Ex) : Ex := seqE ma fun x => seqE mb fun y => optE (g x y)
def rSem (X : Cx) (f : Value → Value → Sem Value) : R2 := fun x y H Q => ∀ (pins : List (Addr × Obj)) (s : Shared) (σ : L2.St) (v u : Value), Inv X pins σ H s → RelV x v → RelV y u → wpAny (model X.prog X.w) X.A (f v u) (EP X pins σ Q) X.xe s
theorem op_sem {X : Cx} {f : Value → Value → Sem Value} : OpR X f (rSem X f) := fun pins s σ H x y v u Q I rx ry h => h pins s σ v u I rx ry
theorem two_D {X : Cx} {f : Value → Value → Sem Value} {g : PyData → PyData → Option PyData} {ma mb : Ex} (ho : OpD X f g) {σ : L2.St} {H : Hp} {Q : VK} (h : tD X.K (mOp g ma mb) σ H Q) :
    tD X.K ma σ H fun x H1 => tD X.K mb σ H1 fun y H2 => rSem X f x y H2 Q := by
  obtain ⟨C, G, env, w, r, env', w', R, hm, k⟩ := h
  obtain ⟨x, e1, w1, h1, hm⟩ := seqE_inv hm
  obtain ⟨y, e2, w2, h2, hm⟩ := seqE_inv hm
  obtain ⟨z, h3, rfl, rfl, rfl⟩ := optE_inv hm
  refine ⟨C, G, env, w, _, e1, w1, R, h1, fun v G1 H1 R1 s1 i1 a1 => ?_⟩
  refine ⟨C, G1, e1, w1, _, _, _, R1, h2, fun u G2 H2 R2 s2 i2 a2 => ?_⟩
  intro pins s σ' vv uu I rx ry
  exact ho pins s σ' G2 H2 v u vv uu x y z Q I rx ry R2.sub (dp_mono s2 a1) a2 h3 fun zz G' H' e dz => k zz G' H' (R2.ext e) (s1.trans (s2.trans e.gg)) (i2.trans i1) dz
section
variable {X : Cx} {a b : Expr} {ma mb : Ex} {pos : Pos} {g : PyData → PyData → Option PyData}
theorem de_op {op : Operator} (ho : OpD X (binaryOp op) g) (ha : DE X a ma) (hb : DE X b mb) : DE X (.BinOp a op b pos) (mOp g ma mb) := PE.weak (pe_op op_sem ha hb) fun _ _ _ h => two_D ho h
theorem de_cmp {op : CmpOp} (ho : OpD X (compareOp op) g) (ha : DE X a ma) (hb : DE X b mb) (hm : behindInMarks op b = false) : DE X (.Compare a [op] [b] pos) (mOp g ma mb) := PE.weak (pe_cmpR op_sem ha hb hm) fun _ _ _ h => two_D ho h
end
/-- a value's truth -/
def truD : PyData → Option Bool
  | .none => some false
  | .bool b => some b
  | .int i => some (i != 0)
  | .str y => if y.length ≤ sizeLine then some ((y.length : Int) != 0) else none
  | .list xs => some (!xs.isEmpty)
  | .tuple xs => some (!xs.isEmpty)
  | .dict _ => none
def mTru (m : Ex) : Tx := seqE m fun x env w => (truD x).map fun b => (b, env, w)
theorem mTru_inv {m : Ex} {env : Ev} {w : W} {b : Bool} {env' : Ev} {w' : W} (h : mTru m env w = some (b, env', w')) : ∃ x, m env w = some (.d x, env', w') ∧ truD x = some b := by
  obtain ⟨x, e1, w1, h1, h2⟩ := seqE_inv h
  cases e : truD x with
  | none => rw [e] at h2; cases h2
  | some c => rw [e] at h2; cases h2; exact ⟨x, h1, e⟩
theorem isEmpty_dpA {K : PySem.W.Frag} {G : Hp} : ∀ {vs : List V} {ds : List PyData}, DqA K G vs ds → (!ds.isEmpty) = !vs.isEmpty
  | _, _, .nil => rfl
  | _, _, .cons _ _ => rfl
theorem tru_ofD {K : PySem.W.Frag} {G H : Hp} {v : V} {x : PyData} {b : Bool} (s : Same G H) (hd : Dq K G v x) (h : truD x = some b) : TruV K v H b := by
  cases hd with
  | non => cases h; rfl
  | bl c => cases h; rfl
  | int i => cases h; rfl
  | str y =>
    simp only [truD] at h
    split at h
    · cases h; exact ⟨by assumption, rfl⟩
    · cases h
  | lst hs ha =>
    cases h
    exact .inl ⟨_, SqL.of (s _ _ hs), isEmpty_dpA ha⟩
  | tup hs ha =>
    cases h
    exact .inr (.inl ⟨_, Same.sqT s hs, isEmpty_dpA ha⟩)
theorem dt_val {X : Cx} {a : Expr} {m : Ex} (ha : DE X a m) (he : ∀ whole, isTrue a X.env whole = (do let v ← whole; standAt a.pos; holding [v] (truthy v)) := by intro _; rfl) : DT X a (mTru m) := by
  refine ⟨fun pins s σ H Q I h => ?_⟩
  obtain ⟨C, G, env, w, r, env', w', R, hm, k⟩ := h
  obtain ⟨x, h1, h2⟩ := mTru_inv hm
  refine isTrue_plain (thn (ha.run pins s σ H (fun v H1 => TruV X.K v H1 r ∧ Q r H1) I ⟨C, G, env, w, _, env', w', R, h1, fun v G' H' R' s' i' a' => ⟨tru_ofD R'.sub a' h2, k G' H' R' s' i'⟩⟩) fun v s1 ⟨y, H1, I1, r1, q1, q2⟩ => ?_) (he _)
  exact tru_ok pins s1 σ H1 y v Q I1 r1 ⟨r, q1, q2⟩
/-- a comparison as a test -/
theorem dt_cmp {X : Cx} {a b : Expr} {ma mb : Ex} {pos : Pos} {g : PyData → PyData → Option PyData} {op : CmpOp} (ho : OpD X (compareOp op) g) (ha : DE X a ma) (hb : DE X b mb) (hm : behindInMarks op b = false) :
    DT X (.Compare a [op] [b] pos) (mTru (mOp g ma mb)) := by
  refine ⟨fun pins s σ H Q I h => ?_⟩
  obtain ⟨C, G, env, w, r, env', w', R, h0, k⟩ := h
  obtain ⟨x, h1, h2⟩ := mTru_inv h0
  have t : tD X.K (mOp g ma mb) σ H fun v H1 => TruV X.K v H1 r ∧ Q r H1 := ⟨C, G, env, w, _, env', w', R, h1, fun v G' H' R' s' i' a' => ⟨tru_ofD R'.sub a' h2, k G' H' R' s' i'⟩⟩
  refine wpAny_isTrue_Compare1 ?_ hm
  refine binT ha hb I (two_D ho t) fun v u s2 x y H2 I2 rx ry q => ?_
  refine thn (q pins s2 σ v u I2 rx ry) fun c s3 ⟨z, H3, I3, r3, q1, q2⟩ => ?_
  exact tru_ok pins s3 σ H3 z c Q I3 r3 ⟨r, q1, q2⟩
/-! ### and, or, not, x if t else y -/
def mAnd (a b : Tx) : Tx := fun env w => match a env w with
  | some (true, e1, w1) => b e1 w1
  | r => r
def mOr (a b : Tx) : Tx := fun env w => match a env w with
  | some (false, e1, w1) => b e1 w1
  | r => r
def mNot (a : Tx) : Tx := fun env w => match a env w with
  | some (b, e1, w1) => some (!b, e1, w1)
  | none => none
def mIf {α : Type} (t : Tx) (a b : Ev → W → Option α) : Ev → W → Option α := fun env w => match t env w with
  | some (true, e1, w1) => a e1 w1
  | some (false, e1, w1) => b e1 w1
  | none => none
/-- .. as values -/
def mBl (t : Tx) : Ex := fun env w => match t env w with
  | some (b, e1, w1) => some (.d (.bool b), e1, w1)
  | none => none
section
variable {X : Cx} {a b : Expr} {ta tb : Tx} {pos : Pos} {rest : List Expr}
abbrev DW (X : Cx) (e : Expr) (m : Tx) : Prop := PW X e (tT X.K m)
theorem dw_and1 (ha : DT X a ta) : DW X (.BoolOp .And [a] pos) ta := pw_and1 ha
theorem dw_or1 (ha : DT X a ta) : DW X (.BoolOp .Or [a] pos) ta := pw_or1 ha
theorem dw_and (ha : DT X a ta) (hb : DW X (.BoolOp .And (b :: rest) pos) tb) : DW X (.BoolOp .And (a :: b :: rest) pos) (mAnd ta tb) := PW.weak (pw_and ha hb) fun σ H Q ⟨C, G, env, w, r, env', w', R, hm, k⟩ => by
  unfold mAnd at hm
  split at hm
  · rename_i e1 w1 h1
    exact ⟨C, G, env, w, _, _, _, R, h1, fun G1 H1 R1 s1 i1 => ⟨C, G1, e1, w1, r, env', w', R1, hm, fun G2 H2 R2 s2 i2 => k G2 H2 R2 (s1.trans s2) (i2.trans i1)⟩⟩
  · rename_i h1
    cases r with
    | true => exact absurd hm (h1 _ _)
    | false => exact ⟨C, G, env, w, _, _, _, R, hm, fun G1 H1 R1 s1 i1 => k G1 H1 R1 s1 i1⟩
theorem dw_or (ha : DT X a ta) (hb : DW X (.BoolOp .Or (b :: rest) pos) tb) : DW X (.BoolOp .Or (a :: b :: rest) pos) (mOr ta tb) := PW.weak (pw_or ha hb) fun σ H Q ⟨C, G, env, w, r, env', w', R, hm, k⟩ => by
  unfold mOr at hm
  split at hm
  · rename_i e1 w1 h1
    exact ⟨C, G, env, w, _, _, _, R, h1, fun G1 H1 R1 s1 i1 => ⟨C, G1, e1, w1, r, env', w', R1, hm, fun G2 H2 R2 s2 i2 => k G2 H2 R2 (s1.trans s2) (i2.trans i1)⟩⟩
  · rename_i h1
    cases r with
    | false => exact absurd hm (h1 _ _)
    | true => exact ⟨C, G, env, w, _, _, _, R, hm, fun G1 H1 R1 s1 i1 => k G1 H1 R1 s1 i1⟩
theorem DW.dt {e : Expr} {m : Tx} (h : DW X e m) : DT X e m := PW.pt h
theorem dt_not (ha : DT X a ta) : DT X (.UnaryOp .Not a pos) (mNot ta) := PT.weak (pt_not ha) fun σ H Q ⟨C, G, env, w, r, env', w', R, hm, k⟩ => by
  unfold mNot at hm
  split at hm
  · rename_i c e1 w1 h1
    cases hm
    exact ⟨C, G, env, w, _, _, _, R, h1, fun G1 H1 R1 s1 i1 => k G1 H1 R1 s1 i1⟩
  · cases hm
theorem de_if {c : Expr} {tc : Tx} {ma mb : Ex} (hc : DT X c tc) (ha : DE X a ma) (hb : DE X b mb) : DE X (.IfExp c a b pos) (mIf tc ma mb) := PE.weak (pe_ifExp hc ha hb) fun σ H Q ⟨C, G, env, w, r, env', w', R, hm, k⟩ => by
  unfold mIf at hm
  split at hm
  · rename_i e1 w1 h1
    exact ⟨C, G, env, w, _, _, _, R, h1, fun G1 H1 R1 s1 i1 => ⟨C, G1, e1, w1, r, env', w', R1, hm, fun v G2 H2 R2 s2 i2 a2 => k v G2 H2 R2 (s1.trans s2) (i2.trans i1) a2⟩⟩
  · rename_i e1 w1 h1
    exact ⟨C, G, env, w, _, _, _, R, h1, fun G1 H1 R1 s1 i1 => ⟨C, G1, e1, w1, r, env', w', R1, hm, fun v G2 H2 R2 s2 i2 a2 => k v G2 H2 R2 (s1.trans s2) (i2.trans i1) a2⟩⟩
  · cases hm
end
end Dn

set_option maxHeartbeats 4000000
/-! Dn2: arguments, calls, displays, statements, loops, defs. -/
namespace Dn
open PySem PySem.Spec PyProof.Rows L2

/-! ### arguments -/
def mNil : Ax := fun env w => some ([], env, w)
def mCons (a : Ex) (b : Ax) : Ax := fun env w => match a env w with
  | some (r, e1, w1) => (match b e1 w1 with
    | some (rs, e2, w2) => some (r :: rs, e2, w2)
    | none => none)
  | none => none
section
variable {X : Cx} {e : Expr} {es : List Expr} {m : Ex} {ms : Ax}
theorem da_nil : DA X [] mNil := PA.weak pa_nil fun σ H Q ⟨C, G, env, w, r, env', w', R, hm, k⟩ => by
  cases hm
  exact k [] G H R (Same.refl G) rfl .nil
theorem da_cons (ha : DE X e m) (hr : DA X es ms) (hs : starEach (e :: es) X.env = (false, eval e X.env) :: starEach es X.env := by rfl) : DA X (e :: es) (mCons m ms) := PA.weak (pa_cons ha hr hs) fun σ H Q ⟨C, G, env, w, r, env', w', R, hm, k⟩ => by
  unfold mCons at hm
  split at hm
  · rename_i r1 e1 w1 h1
    split at hm
    · rename_i rs e2 w2 h2
      cases hm
      refine ⟨C, G, env, w, _, _, _, R, h1, fun v G1 H1 R1 s1 i1 a1 => ⟨C, G1, e1, w1, _, _, _, R1, h2, fun vs G2 H2 R2 s2 i2 a2 => ?_⟩⟩
      exact k _ G2 H2 R2 (s1.trans s2) (i2.trans i1) (.cons (a1.mono s2 i2) a2)
    · cases hm
  · cases hm
end

/-! ### a def's promise, its call -/
def spM (K : PySem.W.Frag) (m : List SD → W → Option (SD × W)) : Sp := fun vs H Q _ => ∃ (G : Hp) (ad : Ad) (w : W) (as : List SD) (r : SD) (w' : W),
  Same G H ∧ (∀ s, w = some s → StAt ad s G H) ∧ ArgsOk K ad w G as vs ∧ m as w = some (r, w') ∧
  ∀ v G' H', Same G G' → Same G' H' → (∀ b o, H b = some o → ¬ Mt ad w b → H' b = some o) → (∀ b o, H b = some o → G' b = G b) → w'.isSome = w.isSome → (∀ s, w' = some s → StAt ad s G' H') → ArgOk K ad w' G' r v → Q v H'
def mCall (m : List SD → W → Option (SD × W)) (ms : Ax) : Ex := fun env w => match ms env w with
  | some (as, e1, w1) => (match m as w1 with
    | some (r, w2) => some (r, e1, w2)
    | none => none)
  | none => none
theorem Rel.called {K : PySem.W.Frag} {C : Ct} {env : Ev} {w w' : W} {σ : L2.St} {G H G' H' : Hp} (R : Rel K C env w σ G H) (sg : Same G G') (gh : Same G' H') (fr : ∀ b o, H b = some o → ¬ Mt C.ad w b → H' b = some o)
    (old : ∀ b o, H b = some o → G' b = G b) (hw : w'.isSome = w.isSome) (st : ∀ s, w' = some s → StAt C.ad s G' H') : Rel K C env w' σ G' H' where
  sub := gh
  len := R.len
  slot := fun i sd h => by
    obtain ⟨v, h1, h2⟩ := R.slot i sd h
    refine ⟨v, h1, ?_⟩
    cases sd with
    | d x => exact dp_mono sg h2
    | own xs =>
      obtain ⟨a, vs, rfl, ha, hd, hg, h0⟩ := h2
      refine ⟨a, vs, rfl, fr _ _ ha fun m => ?_, dpA_mono sg hd, (old _ _ ha).trans hg, h0⟩
      have ne := R.own_ne h0 m.1
      rcases m.2 with e | e
      · exact ne.1 e
      · exact ne.2.1 e
    | st => exact ⟨by rw [hw]; exact h2.1, h2.2⟩
    | scr n =>
      obtain ⟨a, xs, h3, h4, h5⟩ := h2
      refine ⟨a, xs, h3, h4, ?_⟩
      rcases h5 with ⟨o, h5, h6⟩ | h5
      · exact .inl ⟨o, h5, fun z => h6 ⟨by rw [← hw]; exact z.1, z.2⟩⟩
      · exact .inr h5
  sep := R.sep
  st := st
  st0 := fun h => R.st0 (by rw [← hw]; exact h)
  fr := fun b o h m => by
    have m' : ¬ Mt C.ad w b := fun z => m ⟨by rw [hw]; exact z.1, z.2⟩
    exact fr b o (R.fr b o h m') m'
  gr := fun b o h => by
    obtain ⟨u, q⟩ := R.some0 h
    exact (old _ _ q).trans (R.gr b o h)
theorem call_D {K : PySem.W.Frag} {m : List SD → W → Option (SD × W)} {ms : Ax} {σ : L2.St} {H : Hp} {Q : VK} {E : XK} (h : tD K (mCall m ms) σ H Q) : tA K ms σ H fun vs H1 => spM K m (vs ++ []) H1 Q E := by
  obtain ⟨C, G, env, w, r, env', w', R, hm, k⟩ := h
  unfold mCall at hm
  split at hm
  · rename_i as e1 w1 h1
    split at hm
    · rename_i r2 w2 h2
      cases hm
      refine ⟨C, G, env, w, _, _, _, R, h1, fun vs G1 H1 R1 s1 i1 a1 => ?_⟩
      show spM K m (vs ++ []) H1 Q E
      rw [List.append_nil]
      exact ⟨G1, C.ad, w1, as, _, _, R1.sub, R1.st, a1, h2, fun v G' H' sg gh fr old hw st ar => k v G' H' (R1.called sg gh fr old hw st) (s1.trans sg) (hw.trans i1) ar⟩
    · cases hm
  · cases hm
/-- a def of the text that may be called -/
structure Fn (P : Program) (w : World) (K : PySem.W.Frag) (mg : Str → Option Value) (base : Heap) (k : Nat) (x : Str) (m : List SD → W → Option (SD × W)) : Prop where
  ex : ∃ (f : Addr) (fd : FuncData) (ps : List Str), FnOk P w K mg base CX0 k f fd ps (spM K m) ∧ mg x = some (.ref f) ∧ PySem.W.keepIn K (.ref f) = true ∧ Binds K fd ps []
section
variable {X : Cx} {x : Str} {e : Expr} {es : List Expr} {p pos : Pos} {m : List SD → W → Option (SD × W)} {ms : Ax} {j k : Nat}
theorem de_call (F : Fn X.prog X.w X.K X.mg X.base k x m) (hr : Room j X.A) (hk : k ≤ j) (ha : DA X (e :: es) ms) (hg : Gl X x := by rfl) (hdb : (x == ("__debug__" : Str)) = false := by decide)
    (he : starEach (e :: es) X.env = (false, eval e X.env) :: starEach es X.env := by rfl) (hpl : (backTo pos (starEach es X.env)).any (·.1) = false := by rfl) : DE X (.Call (.Name x p) (e :: es) [] pos) (mCall m ms) := by
  obtain ⟨f, fd, ps, F, hm, kp, hb⟩ := F.ex
  exact PE.weak (pe_call F (hr.mono hk) hg hm kp hb .nil pass0 ha hdb he hpl) fun _ _ _ h => call_D h
theorem de_call0 (F : Fn X.prog X.w X.K X.mg X.base k x m) (hr : Room j X.A) (hk : k ≤ j) (hg : Gl X x := by rfl) (hdb : (x == ("__debug__" : Str)) = false := by decide) : DE X (.Call (.Name x p) [] [] pos) (mCall m mNil) := by
  obtain ⟨f, fd, ps, F, hm, kp, hb⟩ := F.ex
  refine PE.weak (pe_call0 F (hr.mono hk) hg hm kp hb .nil pass0 hdb) fun σ H Q h => ?_
  obtain ⟨C, G, env, w, r, env', w', R, hm, k⟩ := h
  unfold mCall mNil at hm
  dsimp only at hm
  split at hm
  · rename_i r2 w2 h2
    cases hm
    show spM X.K m ([] ++ []) H Q E0
    exact ⟨G, C.ad, w, [], _, _, R.sub, R.st, .nil, h2, fun v G' H' sg gh fr old hw st ar => k v G' H' (R.called sg gh fr old hw st) sg hw ar⟩
  · cases hm
end

/-! ### tuples -/
def dsOf : List SD → Option (List PyData)
  | [] => some []
  | .d x :: r => (dsOf r).map (x :: ·)
  | _ :: _ => none
theorem dsOf_ok {K : PySem.W.Frag} {ad : Ad} {w : W} {G : Hp} : ∀ {rs : List SD} {vs : List V} {ds : List PyData}, ArgsOk K ad w G rs vs → dsOf rs = some ds → DqA K G vs ds
  | _, _, _, .nil, h => by cases h; exact .nil
  | .d x :: r, _, ds, .cons a b, h => by
    simp only [dsOf] at h
    cases e : dsOf r with
    | none => rw [e] at h; cases h
    | some es => rw [e] at h; cases h; exact .cons a (dsOf_ok b e)
  | .own _ :: _, _, _, .cons a _, _ => a.elim
  | .st :: _, _, _, .cons _ _, h => by cases h
  | .scr _ :: _, _, _, .cons a _, _ => a.elim
def argsD {α : Type} (ms : Ax) (k : List PyData → Ev → W → Option α) : Ev → W → Option α := fun env w => match ms env w with
  | some (rs, e1, w1) => (match dsOf rs with
    | some ds => k ds e1 w1
    | none => none)
  | none => none
theorem argsD_inv {α : Type} {ms : Ax} {k : List PyData → Ev → W → Option α} {env : Ev} {w : W} {r : α} (h : argsD ms k env w = some r) : ∃ rs ds e1 w1, ms env w = some (rs, e1, w1) ∧ dsOf rs = some ds ∧ k ds e1 w1 = some r := by
  unfold argsD at h
  split at h
  · rename_i rs e1 w1 h1
    split at h
    · rename_i ds h2
      exact ⟨rs, ds, e1, w1, h1, h2, h⟩
    · cases h
  · cases h
def tupD (ds : List PyData) : Option PyData := if ds.length ≤ 1000 then some (.tuple ds) else none
theorem len1000 {n : Nat} (h : n ≤ 1000) : n ≤ sizeLine := Nat.le_trans h (by decide)
def mTup (ms : Ax) : Ex := argsD ms fun ds => optE (tupD ds)
theorem de_tup {X : Cx} {e : Expr} {ms : Ax} (h : PE X e (tTup (tA X.K ms))) : DE X e (mTup ms) := PE.weak h fun σ H Q ⟨C, G, env, w, r, env', w', R, hm, k⟩ => by
  obtain ⟨rs, ds, e1, w1, h1, h2, hm⟩ := argsD_inv hm
  obtain ⟨z, h3, rfl, rfl, rfl⟩ := optE_inv hm
  unfold tupD at h3
  split at h3
  · rename_i hl
    cases h3
    refine ⟨C, G, env, w, _, _, _, R, h1, fun vs G1 H1 R1 s1 i1 a1 => ?_⟩
    have dA := dsOf_ok a1 h2
    refine ⟨len1000 (by rw [dpA_len dA]; exact hl), fun p hp => ?_⟩
    have ex : Ext G1 H1 (upd G1 p (.tup vs)) (upd H1 p (.tup vs)) := Ext.new R1.sub hp
    exact k _ _ _ (R1.ext ex) (s1.trans ex.gg) i1 (show Dq X.K _ _ _ from .tup (SqT.of upd_same) (dpA_mono ex.gg dA))
  · cases h3

/-! ### fresh lists -/
abbrev Lx := Ev → W → Option (List PyData × Ev × W)
def tO (K : PySem.W.Frag) (m : Lx) : TE := fun σ H Q => ∃ C G env w xs env' w', Rel K C env w σ G H ∧ m env w = some (xs, env', w') ∧
  ∀ a vs G' H', Rel K C env' w' σ G' H' → Same G G' → w'.isSome = w.isSome → H' a = some (.lst vs) → DqA K G' vs xs → G' a = none → C.H0 a = none →
    (∀ (i : Nat) (ys : List PyData), env'[i]? = some (some (.own ys)) → σ[i]? ≠ some (some (.ref a))) → Q (.ref a) H'
abbrev DO (X : Cx) (e : Expr) (m : Lx) : Prop := PE X e (tO X.K m)
def mFz (m : Lx) : Ex := fun env w => match m env w with
  | some (xs, e, w) => some (.d (.list xs), e, w)
  | none => none
/-- an object that is not data becomes data -/
theorem Rel.add {K : PySem.W.Frag} {C : Ct} {env : Ev} {w : W} {σ : L2.St} {G H : Hp} {a : Addr} {o : HO} (R : Rel K C env w σ G H) (ha : H a = some o) (hg : G a = none) (h0 : C.H0 a = none)
    (hne : ∀ (i : Nat) (ys : List PyData), env[i]? = some (some (.own ys)) → σ[i]? ≠ some (some (.ref a))) : Rel K C env w σ (upd G a o) H where
  sub := fun b u e => by
    by_cases hb : b = a
    · subst hb; rw [upd_same] at e; rw [ha]; exact e
    · rw [upd_ne hb] at e; exact R.sub b u e
  len := R.len
  slot := fun i sd h => by
    obtain ⟨v, h1, h2⟩ := R.slot i sd h
    refine ⟨v, h1, ?_⟩
    cases sd with
    | d x => exact dp_mono (same_upd hg) h2
    | own xs =>
      obtain ⟨b, vs, rfl, hb, hd, hgb, h0b⟩ := h2
      refine ⟨b, vs, rfl, hb, dpA_mono (same_upd hg) hd, ?_, h0b⟩
      rw [upd_ne]
      · exact hgb
      · rintro rfl
        exact hne i xs h h1
    | st => exact h2
    | scr n => exact h2
  sep := R.sep
  st := fun s e => by
    have q := R.st s e
    have ne := R.own_ne h0 (by rw [e]; rfl)
    exact ⟨q.sa, q.la, q.ca, by rw [upd_ne ne.1.symm]; exact q.gs, by rw [upd_ne ne.2.1.symm]; exact q.gl, by rw [upd_ne ne.2.2.symm]; exact q.gc, q.ne⟩
  st0 := R.st0
  fr := R.fr
  gr := fun b u e => by
    rw [upd_ne]
    · exact R.gr b u e
    · rintro rfl
      rw [h0] at e; cases e
theorem do_fz {K : PySem.W.Frag} {m : Lx} {σ : L2.St} {H : Hp} {Q : VK} (h : tD K (mFz m) σ H Q) : tO K m σ H Q := by
  obtain ⟨C, G, env, w, r, env', w', R, hm, k⟩ := h
  unfold mFz at hm
  split at hm
  · rename_i xs e1 w1 h1
    cases hm
    refine ⟨C, G, env, w, _, _, _, R, h1, fun a vs G1 H1 R1 s1 i1 ha hd hg h0 hne => ?_⟩
    exact k _ (upd G1 a (.lst vs)) H1 (R1.add ha hg h0 hne) (s1.trans (same_upd hg)) i1 (show Dq K _ _ _ from .lst upd_same (dpA_mono (same_upd hg) hd))
  · cases hm
theorem DO.de {X : Cx} {e : Expr} {m : Lx} (h : DO X e m) : DE X e (mFz m) := PE.weak h fun _ _ _ h => do_fz h
def lstD (ds : List PyData) : Option (List PyData) := if ds.length ≤ 1000 then some ds else none
def mLst (ms : Ax) : Lx := argsD ms fun ds env w => if ds.length ≤ 1000 then some (ds, env, w) else none
/-- what is new is no own slot's -/
theorem Rel.fresh_ne {K : PySem.W.Frag} {C : Ct} {env : Ev} {w : W} {σ : L2.St} {G H : Hp} (R : Rel K C env w σ G H) {p : Addr} (hp : H p = none) : ∀ (i : Nat) (ys : List PyData), env[i]? = some (some (.own ys)) → σ[i]? ≠ some (some (.ref p)) := fun i ys h e => by
  obtain ⟨v, h1, a, vs, rfl, ha, _⟩ := R.slot i _ h
  rw [h1] at e
  cases e
  rw [hp] at ha; cases ha
/-- a new list, not data yet -/
theorem new_O {K : PySem.W.Frag} {C : Ct} {G H : Hp} {env : Ev} {w : W} {σ : L2.St} {p : Addr} {vs : List V} (R : Rel K C env w σ G H) (hp : H p = none) :
    Rel K C env w σ G (upd H p (.lst vs)) ∧ (upd H p (.lst vs)) p = some (.lst vs) ∧ G p = none ∧ C.H0 p = none ∧ ∀ (i : Nat) (ys : List PyData), env[i]? = some (some (.own ys)) → σ[i]? ≠ some (some (.ref p)) :=
  ⟨R.ext (Ext.drop R.sub (same_upd hp)), upd_same, R.sub.free hp, R.none0 hp, R.fresh_ne hp⟩
theorem do_lst {X : Cx} {e : Expr} {ms : Ax} (h : PE X e (tLst (tA X.K ms))) : DO X e (mLst ms) := PE.weak h fun σ H Q ⟨C, G, env, w, r, env', w', R, hm, k⟩ => by
  obtain ⟨rs, ds, e1, w1, h1, h2, hm⟩ := argsD_inv hm
  split at hm
  · rename_i hl
    cases hm
    refine ⟨C, G, env, w, _, _, _, R, h1, fun vs G1 H1 R1 s1 i1 a1 => ?_⟩
    have dA := dsOf_ok a1 h2
    refine ⟨len1000 (by rw [dpA_len dA]; exact hl), fun p hp => ?_⟩
    obtain ⟨R2, q1, q2, q3, q4⟩ := new_O (vs := vs) R1 hp
    exact k p vs G1 _ R2 s1 i1 q1 dA q2 q3 q4
  · cases hm

/-! ### statements -/
def mSet (i : Nat) (m : Ex) : Sx := fun env w => match m env w with
  | some (r, e1, w1) => some (.nx, e1.set i (some r), w1)
  | none => none
theorem Rel.set {K : PySem.W.Frag} {C : Ct} {env : Ev} {w : W} {σ : L2.St} {G H : Hp} {r : SD} {v : V} (R : Rel K C env w σ G H) (a : ArgOk K C.ad w G r v) (i : Nat) : Rel K C (env.set i (some r)) w (σ.set i (some v)) G H where
  sub := R.sub
  len := by rw [List.length_set, List.length_set]; exact R.len
  slot := fun j sd h => by
    by_cases hj : i = j
    · subst hj
      have hi : i < env.length := by
        have := (List.getElem?_eq_some_iff.mp h).1
        rwa [List.length_set] at this
      rw [List.getElem?_set_self hi] at h
      cases h
      refine ⟨v, List.getElem?_set_self (by rw [← R.len]; exact hi), ?_⟩
      cases r with
      | d x => exact a
      | own _ => exact a.elim
      | st => exact a
      | scr _ => exact a.elim
    · rw [List.getElem?_set_ne hj] at h
      obtain ⟨v, h1, h2⟩ := R.slot j sd h
      exact ⟨v, by rw [List.getElem?_set_ne hj]; exact h1, h2⟩
  sep := fun j k xs ys b e1 e2 s1 s2 => by
    have no : ∀ (l : Nat) (zs : List PyData), (env.set i (some r))[l]? = some (some (.own zs)) → i ≠ l := fun l zs h z => by
      subst z
      have hi : i < env.length := by
        have := (List.getElem?_eq_some_iff.mp h).1
        rwa [List.length_set] at this
      rw [List.getElem?_set_self hi] at h
      cases h
      exact a.elim
    have hj := no j xs e1
    have hk := no k ys e2
    rw [List.getElem?_set_ne hj] at e1 s1
    rw [List.getElem?_set_ne hk] at e2 s2
    exact R.sep j k xs ys b e1 e2 s1 s2
  st := R.st
  st0 := R.st0
  fr := R.fr
  gr := R.gr
section
variable {X : Cx} {s : Stmt} {m : Ex}
theorem ds_set {i : Nat} (h : PS X s (tAsg (tD X.K m) (gName i))) : DSt X s (mSet i m) := PS.weak h fun D σ H ⟨C, G, env, w, r, env', w', R, hm, k⟩ => by
  unfold mSet at hm
  split at hm
  · rename_i r1 e1 w1 h1
    cases hm
    exact ⟨C, G, env, w, _, _, _, R, h1, fun v G1 H1 R1 s1 i1 a1 => k _ G1 H1 (R1.set a1 i) s1 i1⟩
  · cases hm
def mRet (m : Ex) : Sx := fun env w => match m env w with
  | some (r, e1, w1) => some (.rt r, e1, w1)
  | none => none
theorem ds_ret (h : PS X s (tRet (tD X.K m))) : DSt X s (mRet m) := PS.weak h fun D σ H ⟨C, G, env, w, r, env', w', R, hm, k⟩ => by
  unfold mRet at hm
  split at hm
  · rename_i r1 e1 w1 h1
    cases hm
    exact ⟨C, G, env, w, _, _, _, R, h1, fun v G1 H1 R1 s1 i1 a1 => k σ G1 H1 R1 s1 i1 v a1⟩
  · cases hm
def mDrop (m : Ex) : Sx := fun env w => match m env w with
  | some (_, e1, w1) => some (.nx, e1, w1)
  | none => none
theorem ds_expr (h : PS X s (tDrop (tD X.K m))) : DSt X s (mDrop m) := PS.weak h fun D σ H ⟨C, G, env, w, r, env', w', R, hm, k⟩ => by
  unfold mDrop at hm
  split at hm
  · rename_i r1 e1 w1 h1
    cases hm
    exact ⟨C, G, env, w, _, _, _, R, h1, fun v G1 H1 R1 s1 i1 a1 => k σ G1 H1 R1 s1 i1⟩
  · cases hm
def mNx : Sx := fun env w => some (.nx, env, w)
def mBk : Sx := fun env w => some (.bk, env, w)
def mCt : Sx := fun env w => some (.ct, env, w)
def mFail : Sx := fun _ _ => none
theorem dss_nil : DSs X [] mNx := PSs.weak pss_nil fun D σ H ⟨C, G, env, w, r, env', w', R, hm, k⟩ => by
  cases hm
  exact k σ G H R (Same.refl G) rfl
theorem ds_pass {pos : Pos} : DSt X (.Pass pos) mNx := PS.weak ps_pass fun D σ H ⟨C, G, env, w, r, env', w', R, hm, k⟩ => by
  cases hm
  exact k σ G H R (Same.refl G) rfl
theorem ds_break {pos : Pos} : DSt X (.Break pos) mBk := PS.weak ps_break fun D σ H ⟨C, G, env, w, r, env', w', R, hm, k⟩ => by
  cases hm
  exact k σ G H R (Same.refl G) rfl
theorem ds_continue {pos : Pos} : DSt X (.Continue pos) mCt := PS.weak ps_continue fun D σ H ⟨C, G, env, w, r, env', w', R, hm, k⟩ => by
  cases hm
  exact k σ G H R (Same.refl G) rfl
/-- code that the proof never comes to (a raise) -/
theorem ds_fail : DSt X s mFail := PS.weak ps_never fun D σ H ⟨C, G, env, w, r, env', w', R, hm, k⟩ => by cases hm
def mSeq (a b : Sx) : Sx := fun env w => match a env w with
  | some (.nx, e1, w1) => b e1 w1
  | r => r
theorem dss_cons {rest : List Stmt} {a b : Sx} (h1 : DSt X s a) (h2 : DSs X rest b) : DSs X (s :: rest) (mSeq a b) := PSs.weak (pss_cons h1 h2) fun D σ H ⟨C, G, env, w, fl, env', w', R, hm, k⟩ => by
  unfold mSeq at hm
  split at hm
  · rename_i e1 w1 h1
    exact ⟨C, G, env, w, _, _, _, R, h1, fun σ1 G1 H1 R1 s1 i1 => ⟨C, G1, e1, w1, fl, env', w', R1, hm, fun σ2 G2 H2 R2 s2 i2 => k σ2 G2 H2 R2 (s1.trans s2) (i2.trans i1)⟩⟩
  · rename_i h1
    refine ⟨C, G, env, w, fl, _, _, R, hm, fun σ1 G1 H1 R1 s1 i1 => ?_⟩
    have q := k σ1 G1 H1 R1 s1 i1
    cases fl with
    | nx => exact absurd hm (h1 _ _)
    | bk => exact q
    | ct => exact q
    | rt r => exact q
theorem dss_one {a : Sx} (h1 : DSt X s a) : DSs X [s] a := pss_one h1
theorem ds_if {tc : Tx} {a b : Sx} (h : PS X s (tIfS (tT X.K tc) (tS X.K a) (tS X.K b))) : DSt X s (mIf tc a b) := PS.weak h fun D σ H ⟨C, G, env, w, fl, env', w', R, hm, k⟩ => by
  unfold mIf at hm
  split at hm
  · rename_i e1 w1 h1
    exact ⟨C, G, env, w, _, _, _, R, h1, fun G1 H1 R1 s1 i1 => ⟨C, G1, e1, w1, fl, env', w', R1, hm, fun σ2 G2 H2 R2 s2 i2 => k σ2 G2 H2 R2 (s1.trans s2) (i2.trans i1)⟩⟩
  · rename_i e1 w1 h1
    exact ⟨C, G, env, w, _, _, _, R, h1, fun G1 H1 R1 s1 i1 => ⟨C, G1, e1, w1, fl, env', w', R1, hm, fun σ2 G2 H2 R2 s2 i2 => k σ2 G2 H2 R2 (s1.trans s2) (i2.trans i1)⟩⟩
  · cases hm

/-! ### while -/
def mWhile (c : Tx) (b : Sx) : Nat → Sx
  | 0 => fun _ _ => none
  | n + 1 => fun env w => match c env w with
    | some (false, e1, w1) => some (.nx, e1, w1)
    | some (true, e1, w1) => (match b e1 w1 with
      | some (.nx, e2, w2) => mWhile c b n e2 w2
      | some (.ct, e2, w2) => mWhile c b n e2 w2
      | some (.bk, e2, w2) => some (.nx, e2, w2)
      | some (.rt r, e2, w2) => some (.rt r, e2, w2)
      | none => none)
    | none => none
theorem ds_while {n : Nat} {c : Tx} {b : Sx} (h : PS X s (tWhile (tT X.K c) (tS X.K b))) : DSt X s (mWhile c b n) := PS.weak h fun D σ H ⟨C, G, env, w, fl, env', w', R, hm, k⟩ => by
  refine ⟨fun m σ1 H1 => ∃ G1 env1 w1, Rel X.K C env1 w1 σ1 G1 H1 ∧ Same G G1 ∧ w1.isSome = w.isSome ∧ mWhile c b m env1 w1 = some (fl, env', w'), ⟨n, G, env, w, R, Same.refl G, rfl, hm⟩, ?_⟩
  rintro m σ1 H1 ⟨G1, env1, w1, R1, s1, i1, h1⟩
  cases m with
  | zero => cases h1
  | succ m =>
    unfold mWhile at h1
    split at h1
    · rename_i e2 w2 h2
      refine ⟨C, G1, env1, w1, _, _, _, R1, h2, fun G2 H2 R2 s2 i2 => ?_⟩
      refine iteF ?_
      cases h1
      exact k σ1 G2 H2 R2 (s1.trans s2) (i2.trans i1)
    · rename_i e2 w2 h2
      refine ⟨C, G1, env1, w1, _, _, _, R1, h2, fun G2 H2 R2 s2 i2 => ?_⟩
      refine iteT ?_
      refine ⟨fun σ3 H3 => ∃ m', m' < m + 1 ∧ ∃ G1 env1 w1, Rel X.K C env1 w1 σ3 G1 H3 ∧ Same G G1 ∧ w1.isSome = w.isSome ∧ mWhile c b m' env1 w1 = some (fl, env', w'), fun _ _ h => h, ?_⟩
      split at h1
      · rename_i e3 w3 h3
        exact ⟨C, G2, e2, w2, _, _, _, R2, h3, fun σ3 G3 H3 R3 s3 i3 => ⟨m, Nat.lt_succ_self m, G3, e3, w3, R3, s1.trans (s2.trans s3), i3.trans (i2.trans i1), h1⟩⟩
      · rename_i e3 w3 h3
        exact ⟨C, G2, e2, w2, _, _, _, R2, h3, fun σ3 G3 H3 R3 s3 i3 => ⟨m, Nat.lt_succ_self m, G3, e3, w3, R3, s1.trans (s2.trans s3), i3.trans (i2.trans i1), h1⟩⟩
      · rename_i e3 w3 h3
        cases h1
        exact ⟨C, G2, e2, w2, _, _, _, R2, h3, fun σ3 G3 H3 R3 s3 i3 => k σ3 G3 H3 R3 (s1.trans (s2.trans s3)) (i3.trans (i2.trans i1))⟩
      · rename_i r3 e3 w3 h3
        cases h1
        exact ⟨C, G2, e2, w2, _, _, _, R2, h3, fun σ3 G3 H3 R3 s3 i3 v a => k σ3 G3 H3 R3 (s1.trans (s2.trans s3)) (i3.trans (i2.trans i1)) v a⟩
      · cases h1
    · cases h1
end

/-! ### what a loop walks, targets -/
/-- the iterator J gives the data ds -/
structure Ito (K : PySem.W.Frag) (G : Hp) (J : It) (ds : List PyData) : Prop where
  small : ds.length ≤ sizeLine
  go : ∀ i G1 H1, i < ds.length → Same G G1 → Same G1 H1 → J.go i H1
  stop : ∀ i G1 H1, i = ds.length → Same G G1 → Same G1 H1 → J.stop i H1
  yld : ∀ i G1 H1 x H', i < ds.length → Same G G1 → Same G1 H1 → J.yld i H1 x H' → ∃ d G2, ds[i]? = some d ∧ Ext G1 H1 G2 H' ∧ Dq K G2 x d
def iD (K : PySem.W.Frag) (m : Lx) : TI := fun σ H R => ∃ C G env w ds env' w', Rel K C env w σ G H ∧ m env w = some (ds, env', w') ∧
  ∀ J G' H', Rel K C env' w' σ G' H' → Same G G' → w'.isSome = w.isSome → Ito K G' J ds → R J H'
abbrev DI (X : Cx) (tg iter : Expr) (m : Lx) : Prop := PI X tg iter (iD X.K m)
theorem ito_tup {K : PySem.W.Frag} {G : Hp} {a : Addr} {vs : List V} {ds : List PyData} (h : SqT K G a vs) (hd : DqA K G vs ds) (hz : ds.length ≤ sizeLine) : Ito K G (Itt K a) ds where
  small := hz
  go := fun i G1 H1 hi s1 s2 => by
    rw [← dpA_len hd] at hi
    exact ⟨vs, vs[i], Same.sqT s2 (Same.sqT s1 h), by simp [hi]⟩
  stop := fun i G1 H1 hi s1 s2 => ⟨vs, Same.sqT s2 (Same.sqT s1 h), by rw [dpA_len hd]; omega⟩
  yld := fun i G1 H1 x H' hi s1 s2 y => by
    obtain ⟨rfl, y⟩ := y
    have e := y vs (Same.sqT s2 (Same.sqT s1 h))
    obtain ⟨d, h1, h2⟩ := dpA_get' hd e
    exact ⟨d, G1, h1, Ext.refl s2, dp_mono s1 h2⟩
theorem ito_range {K : PySem.W.Frag} {G : Hp} (lo : Int) (n : Nat) (hz : n ≤ sizeLine) : Ito K G (Itr lo n) ((List.range n).map fun (i : Nat) => PyData.int (lo + i)) where
  small := by rw [List.length_map, List.length_range]; exact hz
  go := fun i G1 H1 hi s1 s2 => by
    rw [List.length_map, List.length_range] at hi
    exact hi
  stop := fun i G1 H1 hi s1 s2 => by
    rw [List.length_map, List.length_range] at hi
    exact Nat.le_of_eq hi.symm
  yld := fun i G1 H1 x H' hi s1 s2 y => by
    obtain ⟨rfl, rfl⟩ := y
    rw [List.length_map, List.length_range] at hi
    refine ⟨.int (lo + i), G1, ?_, Ext.refl s2, .int _⟩
    rw [List.getElem?_map, List.getElem?_range hi]
    rfl
/-- a list or a tuple of data -/
def itemsD : PyData → Option (List PyData)
  | .list xs => some xs
  | .tuple xs => some xs
  | _ => none
def mItems (m : Ex) : Lx := seqE m fun x env w => (itemsD x).map fun xs => (xs, env, w)
theorem di_seq {X : Cx} {tg l : Expr} {m : Ex} (hl : DE X l m) : DI X tg l (mItems m) := by
  refine ⟨fun pins s σ H R I h => ?_⟩
  obtain ⟨C, G, env, w, ds, env', w', Rl, hm, k⟩ := h
  obtain ⟨x, e1, w1, h1, h2⟩ := seqE_inv hm
  cases e : itemsD x with
  | none => rw [e] at h2; cases h2
  | some ys =>
    rw [e] at h2
    cases h2
    refine thn (hl.run pins s σ H (fun v H1 => ∃ G1, Rel X.K C env' w' σ G1 H1 ∧ Dq X.K G1 v x ∧ ∀ J, Ito X.K G1 J ds → R J H1) I ⟨C, G, env, w, _, _, _, Rl, h1, fun v G1 H1 R1 s1 i1 a1 => ⟨G1, R1, a1, fun J it => k J G1 H1 R1 s1 i1 it⟩⟩) fun v s1 ⟨y, H1, I1, r1, G1, R1, dp, kk⟩ => ?_
    cases dp with
    | @lst a vs es hs ha =>
      cases e
      cases r1
      have hq : SqL X.K H1 a vs := SqL.of (R1.sub _ _ hs)
      obtain ⟨its, rv, p, hz⟩ := I1.list hq
      refine wpAny_pyIter_list p.isList ?_
      refine ⟨s1.heap.objs.size, [s1.heap.objs.size], _, _, H1, rfl, I1.kept (t' := s1.toks) fun b o e => Heap.get?_push_of_some _ e, turn_list a _, ⟨_, Heap.get?_push_size _ rfl, rfl, rfl⟩, fun b hb => ?_, kk _ ⟨by rw [← dpA_len ha]; exact hz, ?_, ?_, ?_⟩⟩
      · have e : b = s1.heap.objs.size := by simpa using hb
        subst e
        exact I1.fpOk (Nat.le_refl _) (I1.hok.fresh (Nat.le_refl _))
      · exact fun i G2 H2 hi s2 s3 => by
          rw [← dpA_len ha] at hi
          exact ⟨vs, vs[i], SqL.of (s3 _ _ (s2 _ _ hs)), by simp [hi]⟩
      · exact fun i G2 H2 hi s2 s3 => ⟨vs, SqL.of (s3 _ _ (s2 _ _ hs)), by rw [dpA_len ha]; omega⟩
      · intro i G2 H2 x H' hi s2 s3 y
        obtain ⟨rfl, y⟩ := y
        obtain ⟨d, h1, h2⟩ := dpA_get' ha (y vs (SqL.of (s3 _ _ (s2 _ _ hs))))
        exact ⟨d, G2, h1, Ext.refl s3, dp_mono s2 h2⟩
    | @tup a vs es hs ha =>
      cases e
      cases r1
      have hq := Same.sqT R1.sub hs
      obtain ⟨its, rv, p, hz⟩ := I1.tuple hq
      refine wpAny_pyIter_tuple (show s1.heap.IsTuple a its.toArray from p) ?_
      refine ⟨s1.heap.objs.size, [s1.heap.objs.size], _, _, H1, rfl, I1.kept (t' := s1.toks) fun b o e => Heap.get?_push_of_some _ e, turn_tuple a _, ⟨_, Heap.get?_push_size _ rfl, rfl, rfl⟩, fun b hb => ?_, kk _ (ito_tup hs ha (by rw [← dpA_len ha]; exact hz))⟩
      have e : b = s1.heap.objs.size := by simpa using hb
      subst e
      exact I1.fpOk (Nat.le_refl _) (I1.hok.fresh (Nat.le_refl _))
    | _ => cases e
/-- range(n), range(a, b) -/
def rng1D (ds : List PyData) : Option (List PyData) := match ds with
  | [.int j] => if -1000000 ≤ j ∧ j ≤ 1000000 then some ((List.range j.toNat).map fun (i : Nat) => PyData.int (0 + i)) else none
  | _ => none
def rng2D (ds : List PyData) : Option (List PyData) := match ds with
  | [.int i, .int j] => if -1000000 ≤ i ∧ i ≤ 1000000 ∧ -1000000 ≤ j ∧ j ≤ 1000000 then some ((List.range (j - i).toNat).map fun (k : Nat) => PyData.int (i + k)) else none
  | _ => none
def mRng (f : List PyData → Option (List PyData)) (ms : Ax) : Lx := argsD ms fun ds env w => (f ds).map fun xs => (xs, env, w)
theorem dpA_one {K : PySem.W.Frag} {G : Hp} {vs : List V} {j : Int} (h : DqA K G vs [.int j]) : vs = [.int j] := by
  cases h with
  | cons a b => cases b; cases a; rfl
theorem dpA_two {K : PySem.W.Frag} {G : Hp} {vs : List V} {i j : Int} (h : DqA K G vs [.int i, .int j]) : vs = [.int i, .int j] := by
  cases h with
  | cons a b => cases b with
    | cons c d => cases d; cases a; cases c; rfl
theorem di_range1 {X : Cx} {tg e : Expr} {ms : Ax} (h : PI X tg e (iRng1 (tA X.K ms))) : DI X tg e (mRng rng1D ms) := ⟨fun pins s σ H R I q => h.run pins s σ H R I (by
  obtain ⟨C, G, env, w, ds, env', w', Rl, hm, k⟩ := q
  obtain ⟨rs, es, e1, w1, h1, h2, hm⟩ := argsD_inv hm
  cases e : rng1D es with
  | none => rw [e] at hm; cases hm
  | some ys =>
    rw [e] at hm
    cases hm
    unfold rng1D at e
    split at e
    · rename_i j
      split at e
      · rename_i hj
        cases e
        refine ⟨C, G, env, w, _, _, _, Rl, h1, fun vs G1 H1 R1 s1 i1 a1 => ⟨j, dpA_one (dsOf_ok a1 h2), by omega, by omega, ?_⟩⟩
        exact k _ G1 H1 R1 s1 i1 (ito_range 0 j.toNat (by rw [sizeLine_eq]; omega))
      · cases e
    · cases e)⟩
theorem di_range2 {X : Cx} {tg e : Expr} {ms : Ax} (h : PI X tg e (iRng2 (tA X.K ms))) : DI X tg e (mRng rng2D ms) := ⟨fun pins s σ H R I q => h.run pins s σ H R I (by
  obtain ⟨C, G, env, w, ds, env', w', Rl, hm, k⟩ := q
  obtain ⟨rs, es, e1, w1, h1, h2, hm⟩ := argsD_inv hm
  cases e : rng2D es with
  | none => rw [e] at hm; cases hm
  | some ys =>
    rw [e] at hm
    cases hm
    unfold rng2D at e
    split at e
    · rename_i i j
      split at e
      · rename_i hj
        cases e
        refine ⟨C, G, env, w, _, _, _, Rl, h1, fun vs G1 H1 R1 s1 i1 a1 => ⟨i, j, dpA_two (dsOf_ok a1 h2), by omega, ?_⟩⟩
        exact k _ G1 H1 R1 s1 i1 (ito_range i (j - i).toNat (by rw [sizeLine_eq]; omega))
      · cases e
    · cases e)⟩
/-- targets -/
abbrev Gx := PyData → Ev → Option Ev
abbrev Gsx := List PyData → Ev → Option Ev
def gD (K : PySem.W.Frag) (vs : List Nat) (m : Gx) : TG := fun v σ H Q => ∃ C G env w d env', Rel K C env w σ G H ∧ Dq K G v d ∧ m d env = some env' ∧ ∀ σ', Rel K C env' w σ' G H → wipe σ' vs = wipe σ vs → Q σ' H
def gsD (K : PySem.W.Frag) (vs : List Nat) (m : Gsx) : TGs := fun us σ H Q => ∃ C G env w ds env', Rel K C env w σ G H ∧ DqA K G us ds ∧ m ds env = some env' ∧ ∀ σ', Rel K C env' w σ' G H → wipe σ' vs = wipe σ vs → Q σ' H
abbrev DG (X : Cx) (vs : List Nat) (e : Expr) (m : Gx) : Prop := PG X e (gD X.K vs m)
abbrev DGs (X : Cx) (vs : List Nat) (es : List Expr) (m : Gsx) : Prop := PGs X es (gsD X.K vs m)
theorem PG.weak {X : Cx} {e : Expr} {t t' : TG} (h : PG X e t) (k : ∀ v σ H Q, t' v σ H Q → t v σ H Q) : PG X e t' := ⟨fun pins s σ H v u Q I r q => h.run pins s σ H v u Q I r (k v σ H Q q)⟩
theorem PGs.weak {X : Cx} {e : List Expr} {t t' : TGs} (h : PGs X e t) (k : ∀ v σ H Q, t' v σ H Q → t v σ H Q) : PGs X e t' := ⟨fun pins s σ H v u Q I r q => h.run pins s σ H v u Q I r (k v σ H Q q)⟩
def mgName (i : Nat) : Gx := fun d env => some (env.set i (some (.d d)))
theorem wipe_set_same {σ : L2.St} {x : Option V} {i : Nat} : ∀ {vs : List Nat}, i ∈ vs → wipe (σ.set i x) vs = wipe σ vs
  | [], h => by simp at h
  | v :: vs, h => by
    have cm : ∀ us : List Nat, i ∉ us → wipe (σ.set i x) us = (wipe σ us).set i x := by
      intro us
      induction us with
      | nil => intro _; rfl
      | cons u us ih =>
        intro hn
        simp only [List.mem_cons, not_or] at hn
        show (wipe (σ.set i x) us).set u none = ((wipe σ us).set u none).set i x
        rw [ih hn.2, List.set_comm _ _ hn.1]
    show (wipe (σ.set i x) vs).set v none = (wipe σ vs).set v none
    by_cases hi : i ∈ vs
    · rw [wipe_set_same hi]
    · have e : i = v := by
        rcases List.mem_cons.mp h with e | e
        · exact e
        · exact absurd e hi
      rw [cm vs hi, e, List.set_set]
theorem dg_name {X : Cx} {vs : List Nat} {e : Expr} {i : Nat} (h : PG X e (gName i)) (hi : i ∈ vs := by decide) : DG X vs e (mgName i) := PG.weak h fun v σ H Q ⟨C, G, env, w, d, env', R, hd, hm, k⟩ => by
  cases hm
  exact k _ (R.set (r := .d d) hd i) (wipe_set_same hi)
def mgNil : Gsx := fun ds env => match ds with
  | [] => some env
  | _ => none
def mgCons (a : Gx) (b : Gsx) : Gsx := fun ds env => match ds with
  | d :: r => (match a d env with
    | some e1 => b r e1
    | none => none)
  | [] => none
theorem dgs_nil {X : Cx} {vs : List Nat} : DGs X vs [] mgNil := PGs.weak pgs_nil fun v σ H Q ⟨C, G, env, w, d, env', R, hd, hm, k⟩ => by
  cases hd with
  | nil => cases hm; exact ⟨rfl, k σ R rfl⟩
  | cons _ _ => cases hm
theorem dgs_cons {X : Cx} {vs : List Nat} {e : Expr} {es : List Expr} {a : Gx} {b : Gsx} (h1 : DG X vs e a) (h2 : DGs X vs es b) (hs : (assignEach (e :: es) X.env).map (·.2) = assign e X.env :: (assignEach es X.env).map (·.2) := by rfl) : DGs X vs (e :: es) (mgCons a b) :=
  PGs.weak (pgs_cons h1 h2 hs) fun v σ H Q ⟨C, G, env, w, d, env', R, hd, hm, k⟩ => by
  cases hd with
  | nil => cases hm
  | cons d1 dr =>
    simp only [mgCons] at hm
    split at hm
    · rename_i e1 h1
      exact ⟨_, _, rfl, C, G, env, w, _, e1, R, d1, h1, fun σ1 R1 q1 => ⟨C, G, e1, w, _, env', R1, dr, hm, fun σ2 R2 q2 => k σ2 R2 (q2.trans q1)⟩⟩
    · cases hm
def mgTup (n : Nat) (b : Gsx) : Gx := fun d env => match d with
  | .tuple ds => if ds.length = n then b ds env else none
  | _ => none
theorem dg_tup {X : Cx} {vs : List Nat} {e : Expr} {n : Nat} {b : Gsx} (h : PG X e (gTup X.K n (gsD X.K vs b))) : DG X vs e (mgTup n b) := PG.weak h fun v σ H Q ⟨C, G, env, w, d, env', R, hd, hm, k⟩ => by
  cases hd with
  | tup hs ha =>
    simp only [mgTup] at hm
    split at hm
    · rename_i hl
      exact ⟨_, _, rfl, Same.sqT R.sub hs, by rw [dpA_len ha]; exact hl, C, G, env, w, _, env', R, ha, hm, k⟩
    · cases hm
  | _ => cases hm
/-- target = e -/
def mAsg (m : Ex) (g : Gx) : Sx := seqE m fun x env w => match g x env with
  | some e1 => some (.nx, e1, w)
  | none => none
theorem ds_asg {X : Cx} {vs : List Nat} {s : Stmt} {m : Ex} {g : Gx} (h : PS X s (tAsg (tD X.K m) (gD X.K vs g))) : DSt X s (mAsg m g) := PS.weak h fun D σ H ⟨C, G, env, w, fl, env', w', R, hm, k⟩ => by
  obtain ⟨x, e1, w1, h1, h2⟩ := seqE_inv hm
  split at h2
  · rename_i e2 h3
    cases h2
    exact ⟨C, G, env, w, _, _, _, R, h1, fun v G1 H1 R1 s1 i1 a1 => ⟨C, G1, e1, _, x, _, R1, a1, h3, fun σ2 R2 _ => k σ2 G1 H1 R2 s1 i1⟩⟩
  · cases h2

/-! ### for -/
def mLoop (g : Gx) (b : Sx) : List PyData → Sx
  | [] => mNx
  | d :: ds => fun env w => match g d env with
    | some e1 => (match b e1 w with
      | some (.nx, e2, w2) => mLoop g b ds e2 w2
      | some (.ct, e2, w2) => mLoop g b ds e2 w2
      | some (.bk, e2, w2) => some (.nx, e2, w2)
      | some (.rt r, e2, w2) => some (.rt r, e2, w2)
      | none => none)
    | none => none
def mFor (m : Lx) (g : Gx) (b : Sx) : Sx := fun env w => match m env w with
  | some (ds, e1, w1) => mLoop g b ds e1 w1
  | none => none
theorem ds_for {X : Cx} {vs : List Nat} {s : Stmt} {m : Lx} {g : Gx} {b : Sx} (h : PS X s (tFor (iD X.K m) (gD X.K vs g) (tS X.K b))) : DSt X s (mFor m g b) := PS.weak h fun D σ H ⟨C, G, env, w, fl, env', w', R, hm, k⟩ => by
  unfold mFor at hm
  split at hm
  · rename_i ds e1 w1 h1
    refine ⟨C, G, env, w, _, _, _, R, h1, fun J G1 H1 R1 s1 i1 it => ?_⟩
    refine ⟨fun i m σ2 H2 => m = ds.length - i ∧ i ≤ ds.length ∧ ∃ G2 env2 w2, Rel X.K C env2 w2 σ2 G2 H2 ∧ Same G1 G2 ∧ w2.isSome = w1.isSome ∧ mLoop g b (ds.drop i) env2 w2 = some (fl, env', w'), ⟨ds.length, by simp, Nat.zero_le _, G1, e1, w1, R1, Same.refl G1, rfl, by simpa using hm⟩, ?_⟩
    rintro i m σ2 H2 ⟨rfl, hi, G2, env2, w2, R2, s2, i2, h2⟩
    by_cases hlt : i < ds.length
    · refine .inr ⟨it.go i G2 H2 hlt s2 R2.sub, fun σ3 H3 => ∃ G2 env2 w2, Rel X.K C env2 w2 σ3 G2 H3 ∧ Same G1 G2 ∧ w2.isSome = w1.isSome ∧ mLoop g b (ds.drop (i + 1)) env2 w2 = some (fl, env', w'),
        fun σ' H' q => ⟨ds.length - (i + 1), by omega, rfl, hlt, q⟩, fun x H' y => ?_⟩
      obtain ⟨d, G3, hd, ex, dp⟩ := it.yld i G2 H2 x H' hlt s2 R2.sub y
      have hdrop : ds.drop i = d :: ds.drop (i + 1) := by
        rw [List.drop_eq_getElem_cons hlt]
        rw [List.getElem?_eq_getElem hlt] at hd
        cases hd
        rfl
      rw [hdrop] at h2
      simp only [mLoop] at h2
      split at h2
      · rename_i e3 h3
        refine ⟨C, G3, env2, w2, d, e3, R2.ext ex, dp, h3, fun σ4 R4 _ => ?_⟩
        split at h2
        · rename_i e5 w5 h5
          exact ⟨C, G3, e3, w2, _, _, _, R4, h5, fun σ6 G6 H6 R6 s6 i6 => ⟨G6, e5, w5, R6, s2.trans (ex.gg.trans s6), i6.trans i2, h2⟩⟩
        · rename_i e5 w5 h5
          exact ⟨C, G3, e3, w2, _, _, _, R4, h5, fun σ6 G6 H6 R6 s6 i6 => ⟨G6, e5, w5, R6, s2.trans (ex.gg.trans s6), i6.trans i2, h2⟩⟩
        · rename_i e5 w5 h5
          cases h2
          exact ⟨C, G3, e3, w2, _, _, _, R4, h5, fun σ6 G6 H6 R6 s6 i6 => k σ6 G6 H6 R6 (s1.trans (s2.trans (ex.gg.trans s6))) (i6.trans (i2.trans i1))⟩
        · rename_i r5 e5 w5 h5
          cases h2
          exact ⟨C, G3, e3, w2, _, _, _, R4, h5, fun σ6 G6 H6 R6 s6 i6 v a => k σ6 G6 H6 R6 (s1.trans (s2.trans (ex.gg.trans s6))) (i6.trans (i2.trans i1)) v a⟩
        · cases h2
      · cases h2
    · have e : i = ds.length := by omega
      refine .inl ⟨it.stop i G2 H2 e s2 R2.sub, ?_⟩
      rw [e, List.drop_length] at h2
      cases h2
      exact k σ2 G2 H2 R2 (s1.trans s2) (i2.trans i1)
  · cases hm

/-! ### a def -/
def mFn (n N : Nat) (body : Sx) : List SD → W → Option (SD × W) := fun as w => if as.length = n then (match body (as.map some ++ List.replicate (N - as.length) none) w with
    | some (.rt r, _, w') => some (r, w')
    | some (.nx, _, w') => some (.d .none, w')
    | _ => none) else none
theorem args_get {K : PySem.W.Frag} {ad : Ad} {w : W} {G : Hp} : ∀ {rs : List SD} {vs : List V} {i : Nat} {r : SD}, ArgsOk K ad w G rs vs → rs[i]? = some r → ∃ v, vs[i]? = some v ∧ ArgOk K ad w G r v
  | _, _, _, _, .nil, e => by simp at e
  | _, _, 0, _, .cons a _, e => by simp at e; subst e; exact ⟨_, rfl, a⟩
  | _, _, i + 1, _, .cons _ b, e => by
    obtain ⟨v, h1, h2⟩ := args_get (i := i) b (by simpa using e)
    exact ⟨v, by simpa using h1, h2⟩
theorem start_get {as : List SD} {k i : Nat} {sd : SD} (h : (as.map some ++ List.replicate k (none : Option SD))[i]? = some (some sd)) : as[i]? = some sd := by
  by_cases hi : i < as.length
  · rw [List.getElem?_append_left (by simpa using hi), List.getElem?_map] at h
    cases e : as[i]? with
    | none => rw [e] at h; cases h
    | some a => rw [e] at h; cases h; rfl
  · rw [List.getElem?_append_right (by simpa using hi), List.getElem?_replicate] at h
    split at h <;> cases h
theorem rel_start {K : PySem.W.Frag} {ad : Ad} {w : W} {G H : Hp} {as : List SD} {vs : List V} {N : List Str} (s : Same G H) (st : ∀ s, w = some s → StAt ad s G H) (a : ArgsOk K ad w G as vs) (hN : as.length ≤ N.length) :
    Rel K ⟨ad, H, G⟩ (as.map some ++ List.replicate (N.length - as.length) none) w (L2.start N vs) G H where
  sub := s
  len := by
    unfold L2.start
    rw [List.length_append, List.length_map, List.length_replicate, List.length_append, List.length_map, List.length_replicate, a.length]
  slot := fun i sd h => by
    obtain ⟨v, h1, h2⟩ := args_get a (start_get h)
    have hi : i < vs.length := (List.getElem?_eq_some_iff.mp h1).1
    refine ⟨v, ?_, ?_⟩
    · unfold L2.start
      rw [List.getElem?_append_left (by simpa using hi), List.getElem?_map, h1]
      rfl
    · cases sd with
      | d x => exact h2
      | own _ => exact h2.elim
      | st => exact h2
      | scr _ => exact h2.elim
  sep := fun i j xs ys b h1 _ _ _ => by
    obtain ⟨v, _, h2⟩ := args_get a (start_get h1)
    exact h2.elim
  st := st
  st0 := fun h => by
    cases e : w with
    | none => rw [e] at h; cases h
    | some s =>
      have q := st s e
      refine ⟨?_, ?_, ?_⟩
      · show H ad.sa ≠ none
        rw [q.sa]; exact Option.some_ne_none _
      · show H ad.la ≠ none
        rw [q.la]; exact Option.some_ne_none _
      · show H ad.ca ≠ none
        rw [q.ca]; exact Option.some_ne_none _
  fr := fun b o h _ => h
  gr := fun b o h => rfl
theorem fn_ok {P : Program} {w : World} {K : PySem.W.Frag} {mg : Str → Option Value} {base : Heap} {x qual : Str} {params : Arguments} {body : List Stmt} {scope : Scope} {f : Addr} {fd : FuncData} {N ps : List Str} {k n NN : Nat} {m : Sx}
    (hn : ps.length = n) (hNN : N.length = NN) (F : FunD K x qual params body scope [] [] f fd) (S : FnScope N ps scope)
    (hbody : ∀ (cdv : Value) (A : Around) (outer : List PySem.Env) (s : Shared) (H : Hp) (E : XK), Room k (A.deeper (envOfC qual scope s.heap.objs.size f cdv)) → DSs (cxOf CX0 P w K mg base N qual scope f cdv A outer s H E).nox body m) :
    FnOk P w K mg base CX0 (k + 1) f fd ps (spM K (mFn n NN m)) := by
  subst hn hNN
  refine F.ok S (fun vs H Q E h => ?_) (fun cdv A outer s H vs Q E hr h => ⟨_, PSs.nox (hbody cdv A outer s H E hr), ?_⟩)
  · obtain ⟨G, ad, w, as, r, w', _, _, a, hm, _⟩ := h
    unfold mFn at hm
    split at hm
    · rename_i hl
      rw [← a.length]; exact hl
    · cases hm
  · obtain ⟨G, ad, w, as, r, w', s, st, a, hm, k⟩ := h
    have hpl : ps.length ≤ N.length := by have := congrArg List.length S.pre; rw [List.length_take] at this; omega
    unfold mFn at hm
    split at hm
    · rename_i hl
      have R0 := rel_start (K := K) (N := N) s st a (by omega)
      split at hm
      · rename_i r1 e1 w1 h1
        cases hm
        exact ⟨_, G, _, w, _, _, _, R0, h1, fun σ' G' H' R' s' i' v av => k v G' H' s' R'.sub (fun b o e nm => R'.fr b o e fun z => nm ⟨by rw [← i']; exact z.1, z.2⟩) (fun b o e => R'.gr b o e) i' R'.st av⟩
      · rename_i e1 w1 h1
        cases hm
        exact ⟨_, G, _, w, _, _, _, R0, h1, fun σ' G' H' R' s' i' => k _ G' H' s' R'.sub (fun b o e nm => R'.fr b o e fun z => nm ⟨by rw [← i']; exact z.1, z.2⟩) (fun b o e => R'.gr b o e) i' R'.st (show Dq K _ _ _ from .non)⟩
      · cases hm
    · cases hm
end Dn

set_option maxHeartbeats 4000000
/-! Dn3: operators, comparisons, subscripts, slices, built-in calls and methods over data. -/
namespace Dn
open PySem PySem.Spec PyProof.Rows L2

mutual
theorem dq_plain {K : PySem.W.Frag} {G : Hp} : ∀ {v : V} {d : PyData}, Dq K G v d → d.plain = true
  | _, _, .non => by simp [PyData.plain]
  | _, _, .bl b => by simp [PyData.plain]
  | _, _, .int i => by simp [PyData.plain]
  | _, _, .str x => by simp [PyData.plain]
  | _, _, .lst h a => by simpa [PyData.plain] using dqA_plain a
  | _, _, .tup h a => by simpa [PyData.plain] using dqA_plain a
theorem dqA_plain {K : PySem.W.Frag} {G : Hp} : ∀ {vs : List V} {ds : List PyData}, DqA K G vs ds → PyData.plainAll ds = true
  | _, _, .nil => by simp [PyData.plainAll]
  | _, _, .cons a b => by simp [PyData.plainAll, dq_plain a, dqA_plain b]
end
mutual
/-- not deeper than n -/
def dOk : Nat → PyData → Bool
  | _, .none => true
  | _, .bool _ => true
  | _, .int _ => true
  | _, .str _ => true
  | 0, .list _ => false
  | 0, .tuple _ => false
  | n + 1, .list xs => dOkAll n xs
  | n + 1, .tuple xs => dOkAll n xs
  | _, .dict _ => false
def dOkAll : Nat → List PyData → Bool
  | _, [] => true
  | n, x :: xs => dOk n x && dOkAll n xs
end
mutual
theorem dOk_depth : ∀ (n : Nat) (d : PyData), dOk n d = true → d.depth ≤ n
  | _, .none, _ => by simp [PyData.depth]
  | _, .bool _, _ => by simp [PyData.depth]
  | _, .int _, _ => by simp [PyData.depth]
  | _, .str _, _ => by simp [PyData.depth]
  | 0, .list _, h => by simp [dOk] at h
  | 0, .tuple _, h => by simp [dOk] at h
  | n + 1, .list xs, h => by
    simp only [dOk] at h
    simp only [PyData.depth]
    have := dOkAll_depth n xs h
    omega
  | n + 1, .tuple xs, h => by
    simp only [dOk] at h
    simp only [PyData.depth]
    have := dOkAll_depth n xs h
    omega
  | n, .dict _, h => by cases n <;> simp [dOk] at h
theorem dOkAll_depth : ∀ (n : Nat) (ds : List PyData), dOkAll n ds = true → PyData.depthAll ds ≤ n
  | _, [], _ => by simp [PyData.depthAll]
  | n, x :: xs, h => by
    simp only [dOkAll, Bool.and_eq_true] at h
    have h1 := dOk_depth n x h.1
    have h2 := dOkAll_depth n xs h.2
    simp only [PyData.depthAll]
    omega
end

theorem ext_tup {K : PySem.W.Frag} {G H : Hp} {p : Addr} {vs : List V} {ds : List PyData} (sg : Same G H) (hp : H p = none) (a : DqA K G vs ds) : Ext G H (upd G p (.tup vs)) (upd H p (.tup vs)) ∧ Dq K (upd G p (.tup vs)) (.ref p) (.tuple ds) :=
  ⟨Ext.new sg hp, .tup (SqT.of upd_same) (dpA_mono (Ext.new (o := .tup vs) sg hp).gg a)⟩
theorem ext_lst {K : PySem.W.Frag} {G H : Hp} {p : Addr} {vs : List V} {ds : List PyData} (sg : Same G H) (hp : H p = none) (a : DqA K G vs ds) : Ext G H (upd G p (.lst vs)) (upd H p (.lst vs)) ∧ Dq K (upd G p (.lst vs)) (.ref p) (.list ds) :=
  ⟨Ext.new sg hp, .lst upd_same (dpA_mono (Ext.new (o := .lst vs) sg hp).gg a)⟩
/-! ### operators on data, one by one -/
section
variable {X : Cx}
theorem OpD.or {f : Value → Value → Sem Value} {g g' : PyData → PyData → Option PyData} (h : OpD X f g) (h' : OpD X f g') : OpD X f (fun x y => (g x y).or (g' x y)) := by
  intro pins s σ G H x y v u dx dy dz Q I rx ry sg hx hy hg k
  dsimp only at hg
  cases e : g dx dy with
  | some z =>
    rw [e] at hg
    exact h pins s σ G H x y v u dx dy dz Q I rx ry sg hx hy (e.trans hg) k
  | none =>
    rw [e] at hg
    exact h' pins s σ G H x y v u dx dy dz Q I rx ry sg hx hy hg k
/-- from a rule by values: the answer is no new object -/
theorem opD_of {f : Value → Value → Sem Value} {g : PyData → PyData → Option PyData} {r : R2} (h : OpR X f r)
    (k : ∀ (G H : Hp) (x y : V) (dx dy dz : PyData) (Q : VK), Same G H → Dq X.K G x dx → Dq X.K G y dy → g dx dy = some dz → (∀ z G' H', Ext G H G' H' → Dq X.K G' z dz → Q z H') → r x y H Q) : OpD X f g :=
  fun pins s σ G H x y v u dx dy dz Q I rx ry sg hx hy hg q => h pins s σ H x y v u Q I rx ry (k G H x y dx dy dz Q sg hx hy hg q)
def int2 (f : Int → Int → Option PyData) : PyData → PyData → Option PyData
  | .int i, .int j => f i j
  | _, _ => none
theorem int2_inv {f : Int → Int → Option PyData} {x y z : PyData} (h : int2 f x y = some z) : ∃ i j, x = .int i ∧ y = .int j ∧ f i j = some z := by
  unfold int2 at h
  split at h
  · exact ⟨_, _, rfl, rfl, h⟩
  · cases h
theorem opD_int {f : Value → Value → Sem Value} {C : Int → Int → Prop} {g : Int → Int → PyData} {gv : Int → Int → V} [∀ i j, Decidable (C i j)] (h : OpR X f (rI C gv)) (hg : ∀ G i j, Dq X.K G (gv i j) (g i j)) :
    OpD X f (int2 fun i j => if C i j then some (g i j) else none) := opD_of h fun G H x y dx dy dz Q sg hx hy hz k => by
  obtain ⟨i, j, rfl, rfl, e⟩ := int2_inv hz
  split at e
  · rename_i hc
    cases e
    cases hx
    cases hy
    exact ⟨i, j, rfl, rfl, hc, k _ G H (Ext.refl sg) (hg G i j)⟩
  · cases e
theorem opD_int0 {f : Value → Value → Sem Value} {g : Int → Int → PyData} {gv : Int → Int → V} (h : OpR X f (rI0 gv)) (hg : ∀ G i j, Dq X.K G (gv i j) (g i j)) :
    OpD X f (int2 fun i j => some (g i j)) := opD_of h fun G H x y dx dy dz Q sg hx hy hz k => by
  obtain ⟨i, j, rfl, rfl, e⟩ := int2_inv hz
  cases e
  cases hx
  cases hy
  exact ⟨i, j, rfl, rfl, k _ G H (Ext.refl sg) (hg G i j)⟩
instance : ∀ i j, Decidable (CMul i j) := fun i j => by unfold CMul; infer_instance
instance : ∀ i j, Decidable (CDiv i j) := fun i j => by unfold CDiv; infer_instance
instance : ∀ i j, Decidable (CPow i j) := fun i j => by unfold CPow; infer_instance
def addI : PyData → PyData → Option PyData := int2 fun i j => some (.int (i + j))
def subI : PyData → PyData → Option PyData := int2 fun i j => some (.int (i - j))
def mulI : PyData → PyData → Option PyData := int2 fun i j => if CMul i j then some (.int (i * j)) else none
def divI : PyData → PyData → Option PyData := int2 fun i j => if CDiv i j then some (.int (i / j)) else none
def modI : PyData → PyData → Option PyData := int2 fun i j => if 0 < j then some (.int (i % j)) else none
def powI : PyData → PyData → Option PyData := int2 fun i j => if CPow i j then some (.int (i ^ j.toNat)) else none
def addS : PyData → PyData → Option PyData
  | .str x, .str y => if x.length + y.length ≤ sizeLine then some (.str (x ++ y)) else none
  | _, _ => none
def addT : PyData → PyData → Option PyData
  | .tuple xs, .tuple ys => if xs.length + ys.length ≤ sizeLine then some (.tuple (xs ++ ys)) else none
  | _, _ => none
def addL : PyData → PyData → Option PyData
  | .list xs, .list ys => if xs.length + ys.length ≤ sizeLine then some (.list (xs ++ ys)) else none
  | _, _ => none
def addD (x y : PyData) : Option PyData := match x with
  | .int _ => addI x y
  | .str _ => addS x y
  | .tuple _ => addT x y
  | .list _ => addL x y
  | _ => none
theorem od_addI : OpD X (binaryOp .Add) addI := opD_int0 op_add fun _ _ _ => .int _
theorem od_sub : OpD X (binaryOp .Sub) subI := opD_int0 op_sub fun _ _ _ => .int _
theorem od_mulI : OpD X (binaryOp .Mult) mulI := opD_int op_mul fun _ _ _ => .int _
theorem od_div : OpD X (binaryOp .FloorDiv) divI := opD_int op_fdiv fun _ _ _ => .int _
theorem od_mod : OpD X (binaryOp .Mod) modI := opD_int (C := fun _ j => 0 < j) op_mod fun _ _ _ => .int _
theorem od_pow : OpD X (binaryOp .Pow) powI := opD_int op_pow fun _ _ _ => .int _
theorem od_addS : OpD X (binaryOp .Add) addS := opD_of op_add_str fun G H x y dx dy dz Q sg hx hy hz k => by
  unfold addS at hz
  split at hz
  · split at hz
    · rename_i hl
      cases hz
      cases hx
      cases hy
      exact ⟨_, _, rfl, rfl, hl, k _ G H (Ext.refl sg) (.str _)⟩
    · cases hz
  · cases hz
theorem od_addT : OpD X (binaryOp .Add) addT := opD_of op_catA fun G H x y dx dy dz Q sg hx hy hz k => by
  unfold addT at hz
  split at hz
  · split at hz
    · rename_i hl
      cases hz
      cases hx with
      | tup h1 a1 =>
        cases hy with
        | tup h2 a2 =>
          refine ⟨_, _, _, _, rfl, rfl, Same.sqT sg h1, Same.sqT sg h2, by rw [dpA_len a1, dpA_len a2]; exact hl, fun e => ?_, fun _ e => ?_, fun _ _ p hp => ?_⟩
          · subst e
            cases a1
            exact k _ G H (Ext.refl sg) (.tup h2 a2)
          · subst e
            cases a2
            rw [List.append_nil] at k
            exact k _ G H (Ext.refl sg) (.tup h1 a1)
          · obtain ⟨ex, dq⟩ := ext_tup sg hp (dpA_app a1 a2)
            exact k _ _ _ ex dq
    · cases hz
  · cases hz
theorem od_addL : OpD X (binaryOp .Add) addL := opD_of op_cat fun G H x y dx dy dz Q sg hx hy hz k => by
  unfold addL at hz
  split at hz
  · split at hz
    · rename_i hl
      cases hz
      cases hx with
      | lst h1 a1 =>
        cases hy with
        | lst h2 a2 =>
          refine ⟨_, _, _, _, rfl, rfl, sg _ _ h1, sg _ _ h2, by rw [dpA_len a1, dpA_len a2]; exact hl, fun p hp => ?_⟩
          obtain ⟨ex, dq⟩ := ext_lst sg hp (dpA_app a1 a2)
          exact k _ _ _ ex dq
    · cases hz
  · cases hz
theorem od_add : OpD X (binaryOp .Add) addD := fun pins s σ G H x y v u dx dy dz Q I rx ry sg hx hy hg k => by
  unfold addD at hg
  split at hg
  · exact od_addI pins s σ G H x y v u _ dy dz Q I rx ry sg hx hy hg k
  · exact od_addS pins s σ G H x y v u _ dy dz Q I rx ry sg hx hy hg k
  · exact od_addT pins s σ G H x y v u _ dy dz Q I rx ry sg hx hy hg k
  · exact od_addL pins s σ G H x y v u _ dy dz Q I rx ry sg hx hy hg k
  · cases hg
theorem dqA_rep {K : PySem.W.Frag} {G : Hp} {vs : List V} {ds : List PyData} (h : DqA K G vs ds) : ∀ n : Nat, DqA K G (List.replicate n vs).flatten (List.replicate n ds).flatten
  | 0 => .nil
  | n + 1 => by
    rw [List.replicate_succ, List.replicate_succ, List.flatten_cons, List.flatten_cons]
    exact dpA_app h (dqA_rep h n)
def mulL : PyData → PyData → Option PyData
  | .list xs, .int k => if -(2 ^ 63) ≤ k ∧ k < 2 ^ 63 ∧ xs.length * k.toNat ≤ sizeLine then some (.list (List.replicate k.toNat xs).flatten) else none
  | _, _ => none
theorem od_mulL : OpD X (binaryOp .Mult) mulL := opD_of op_rep fun G H x y dx dy dz Q sg hx hy hz k => by
  unfold mulL at hz
  split at hz
  · split at hz
    · rename_i hl
      cases hz
      cases hx with
      | lst h1 a1 =>
        cases hy
        refine ⟨_, _, _, rfl, rfl, sg _ _ h1, hl.1, hl.2.1, by rw [dpA_len a1]; exact hl.2.2, fun p hp => ?_⟩
        obtain ⟨ex, dq⟩ := ext_lst sg hp (dqA_rep a1 _)
        exact k _ _ _ ex dq
    · cases hz
  · cases hz
def mulD (x y : PyData) : Option PyData := match x with
  | .int _ => mulI x y
  | .list _ => mulL x y
  | _ => none
theorem od_mul : OpD X (binaryOp .Mult) mulD := fun pins s σ G H x y v u dx dy dz Q I rx ry sg hx hy hg k => by
  unfold mulD at hg
  split at hg
  · exact od_mulI pins s σ G H x y v u _ dy dz Q I rx ry sg hx hy hg k
  · exact od_mulL pins s σ G H x y v u _ dy dz Q I rx ry sg hx hy hg k
  · cases hg

/-! ### comparisons -/
def eqD (x y : PyData) : Option PyData := if dOk 60 x || dOk 60 y then some (.bool (PyData.eqv x y)) else none
def neD (x y : PyData) : Option PyData := if dOk 60 x || dOk 60 y then some (.bool (!PyData.eqv x y)) else none
theorem min60 {x y : PyData} {n : Nat} (h : (dOk 60 x || dOk 60 y) = true) (hu : n + 64 < cLine) : n + min x.depth y.depth < cLine := by
  rw [Bool.or_eq_true] at h
  rcases h with h | h
  · have := dOk_depth 60 x h
    have := Nat.min_le_left x.depth y.depth
    omega
  · have := dOk_depth 60 y h
    have := Nat.min_le_right x.depth y.depth
    omega
theorem od_eq (hu : X.A.units + 64 < cLine) : OpD X (compareOp .Eq) eqD := fun pins s σ G H x y v u dx dy dz Q I rx ry sg hx hy hg k => by
  unfold eqD at hg
  split at hg
  · rename_i hd
    cases hg
    obtain ⟨as, r1⟩ := Dp.reads I dx x v (dp_mono sg hx).dp rx
    obtain ⟨bs, r2⟩ := Dp.reads I dy y u (dp_mono sg hy).dp ry
    exact PySem.SeqAt.eq_plain r1 r2 (dq_plain hx) (dq_plain hy) (min60 hd hu) ⟨.bl _, H, I, rfl, k _ G H (Ext.refl sg) (.bl _)⟩
  · cases hg
theorem od_ne (hu : X.A.units + 64 < cLine) : OpD X (compareOp .NotEq) neD := fun pins s σ G H x y v u dx dy dz Q I rx ry sg hx hy hg k => by
  unfold neD at hg
  split at hg
  · rename_i hd
    cases hg
    obtain ⟨as, r1⟩ := Dp.reads I dx x v (dp_mono sg hx).dp rx
    obtain ⟨bs, r2⟩ := Dp.reads I dy y u (dp_mono sg hy).dp ry
    exact PySem.SeqAt.ne_plain r1 r2 (dq_plain hx) (dq_plain hy) (min60 hd hu) ⟨.bl _, H, I, rfl, k _ G H (Ext.refl sg) (.bl _)⟩
  · cases hg
def ltI : PyData → PyData → Option PyData := int2 fun i j => some (.bool (decide (i < j)))
def leI : PyData → PyData → Option PyData := int2 fun i j => some (.bool (decide (i ≤ j)))
def gtI : PyData → PyData → Option PyData := int2 fun i j => some (.bool (decide (j < i)))
def geI : PyData → PyData → Option PyData := int2 fun i j => some (.bool (decide (j ≤ i)))
theorem od_ltI : OpD X (compareOp .Lt) ltI := opD_int0 op_lt fun _ _ _ => .bl _
theorem od_leI : OpD X (compareOp .LtE) leI := opD_int0 op_le fun _ _ _ => .bl _
theorem od_gtI : OpD X (compareOp .Gt) gtI := opD_int0 op_gt fun _ _ _ => .bl _
theorem od_geI : OpD X (compareOp .GtE) geI := opD_int0 op_ge fun _ _ _ => .bl _
/-- < of data -/
def ltT (x y : PyData) : Option PyData := if PySem.W.alike x y && (dOk 60 x || dOk 60 y) then some (.bool (PySem.W.dataLt x y)) else none
def ltD (x y : PyData) : Option PyData := match x with
  | .int _ => ltI x y
  | .tuple _ => ltT x y
  | .list _ => ltT x y
  | _ => none
theorem od_lt (hu : X.A.units + 64 < cLine) : OpD X (compareOp .Lt) ltD := fun pins s σ G H x y v u dx dy dz Q I rx ry sg hx hy hg k => by
  have T : ∀ (hn : dx ≠ .none) (e : ltT dx dy = some dz), wpAny (model X.prog X.w) X.A (compareOp .Lt v u) (EP X pins σ Q) X.xe s := fun hn e => by
    unfold ltT at e
    split at e
    · rename_i hd
      cases e
      rw [Bool.and_eq_true] at hd
      obtain ⟨as, r1⟩ := Dp.reads I dx x v (dp_mono sg hx).dp rx
      obtain ⟨bs, r2⟩ := Dp.reads I dy y u (dp_mono sg hy).dp ry
      exact PySem.W.rcLt_alike dx dy X.A s v u as bs r1 r2 hd.1 hn (min60 hd.2 hu) X.prog X.w X.xe _ ⟨.bl _, H, I, rfl, k _ G H (Ext.refl sg) (.bl _)⟩
    · cases e
  unfold ltD at hg
  split at hg
  · exact od_ltI pins s σ G H x y v u _ dy dz Q I rx ry sg hx hy hg k
  · exact T (fun z => by cases z) hg
  · exact T (fun z => by cases z) hg
  · cases hg
/-- x in y -/
def inS : PyData → PyData → Option Bool
  | .str x, .str y => some (!(Builtin.Str.occurrences y x 0 y.length 1).isEmpty)
  | x, .list ys => if dOk 60 x || dOkAll 60 ys then some (ys.any fun y => PyData.eqv y x) else none
  | x, .tuple ys => if dOk 60 x || dOkAll 60 ys then some (ys.any fun y => PyData.eqv y x) else none
  | _, _ => none
def inD (x y : PyData) : Option PyData := (inS x y).map .bool
def notInD (x y : PyData) : Option PyData := (inS x y).map fun b => .bool (!b)
theorem minA60 {x : PyData} {ys : List PyData} {n : Nat} (h : (dOk 60 x || dOkAll 60 ys) = true) (hu : n + 64 < cLine) : n + 1 + min (PyData.depthAll ys) x.depth < cLine := by
  rw [Bool.or_eq_true] at h
  rcases h with h | h
  · have := dOk_depth 60 x h
    have := Nat.min_le_right (PyData.depthAll ys) x.depth
    omega
  · have := dOkAll_depth 60 ys h
    have := Nat.min_le_left (PyData.depthAll ys) x.depth
    omega
theorem od_in (hu : X.A.units + 64 < cLine) : OpD X (compareOp .In) inD := fun pins s σ G H x y v u dx dy dz Q I rx ry sg hx hy hg k => by
  unfold inD at hg
  cases e : inS dx dy with
  | none => rw [e] at hg; cases hg
  | some b =>
    rw [e] at hg
    cases hg
    unfold inS at e
    split at e
    · cases e
      cases hx
      cases hy
      exact op_in_str pins s σ H _ _ v u Q I rx ry ⟨_, _, rfl, rfl, k _ G H (Ext.refl sg) (.bl _)⟩
    · split at e
      · rename_i hd
        cases e
        obtain ⟨as, r1⟩ := Dp.reads I _ x v (dp_mono sg hx).dp rx
        obtain ⟨bs, r2⟩ := Dp.reads I _ y u (dp_mono sg hy).dp ry
        exact PySem.SeqAt.in_list_data r2 r1 (by simpa [PyData.plain] using dq_plain hy) (dq_plain hx) (minA60 hd hu) ⟨.bl _, H, I, rfl, k _ G H (Ext.refl sg) (.bl _)⟩
      · cases e
    · split at e
      · rename_i hd
        cases e
        obtain ⟨as, r1⟩ := Dp.reads I _ x v (dp_mono sg hx).dp rx
        obtain ⟨bs, r2⟩ := Dp.reads I _ y u (dp_mono sg hy).dp ry
        exact PySem.SeqAt.in_tuple_data r2 r1 (by simpa [PyData.plain] using dq_plain hy) (dq_plain hx) (minA60 hd hu) ⟨.bl _, H, I, rfl, k _ G H (Ext.refl sg) (.bl _)⟩
      · cases e
    · cases e
theorem od_notIn (hu : X.A.units + 64 < cLine) : OpD X (compareOp .NotIn) notInD := fun pins s σ G H x y v u dx dy dz Q I rx ry sg hx hy hg k => by
  unfold notInD at hg
  cases e : inS dx dy with
  | none => rw [e] at hg; cases hg
  | some b =>
    rw [e] at hg
    cases hg
    unfold inS at e
    split at e
    · cases e
      cases hx
      cases hy
      exact op_notin_str pins s σ H _ _ v u Q I rx ry ⟨_, _, rfl, rfl, k _ G H (Ext.refl sg) (.bl _)⟩
    · split at e
      · rename_i hd
        cases e
        obtain ⟨as, r1⟩ := Dp.reads I _ x v (dp_mono sg hx).dp rx
        obtain ⟨bs, r2⟩ := Dp.reads I _ y u (dp_mono sg hy).dp ry
        exact PySem.SeqAt.notIn_list_data r2 r1 (by simpa [PyData.plain] using dq_plain hy) (dq_plain hx) (minA60 hd hu) ⟨.bl _, H, I, rfl, k _ G H (Ext.refl sg) (.bl _)⟩
      · cases e
    · split at e
      · rename_i hd
        cases e
        obtain ⟨as, r1⟩ := Dp.reads I _ x v (dp_mono sg hx).dp rx
        obtain ⟨bs, r2⟩ := Dp.reads I _ y u (dp_mono sg hy).dp ry
        exact PySem.SeqAt.notIn_tuple_data r2 r1 (by simpa [PyData.plain] using dq_plain hy) (dq_plain hx) (minA60 hd hu) ⟨.bl _, H, I, rfl, k _ G H (Ext.refl sg) (.bl _)⟩
      · cases e
    · cases e
/-- is None, is True -/
def isS : PyData → PyData → Option Bool
  | .none, .none => some true
  | .bool a, .bool b => some (decide (a = b))
  | _, .none => some false
  | _, _ => none
def isD (x y : PyData) : Option PyData := (isS x y).map .bool
def isNotD (x y : PyData) : Option PyData := (isS x y).map fun b => .bool (!b)
theorem od_is : OpD X (compareOp .Is) isD := fun pins s σ G H x y v u dx dy dz Q I rx ry sg hx hy hg k => by
  have N : ∀ b : Bool, y = .non → b = decide (x = .non) → Q (.bl b) H → wpAny (model X.prog X.w) X.A (compareOp .Is v u) (EP X pins σ Q) X.xe s := fun b ey eb q => by
    subst eb
    exact op_isN pins s σ H x y v u Q I rx ry ⟨ey, q⟩
  cases hx with
  | non => cases hy with
    | non => cases hg; exact N true rfl (by simp) (k _ G H (Ext.refl sg) (.bl _))
    | _ => cases hg
  | bl a => cases hy with
    | non => cases hg; exact N false rfl (by simp) (k _ G H (Ext.refl sg) (.bl _))
    | bl b =>
      cases hg
      exact op_isBl pins s σ H _ _ v u Q I rx ry ⟨a, b, rfl, rfl, k _ G H (Ext.refl sg) (.bl _)⟩
    | _ => cases hg
  | int i => cases hy with
    | non => cases hg; exact N false rfl (by simp) (k _ G H (Ext.refl sg) (.bl _))
    | _ => cases hg
  | str i => cases hy with
    | non => cases hg; exact N false rfl (by simp) (k _ G H (Ext.refl sg) (.bl _))
    | _ => cases hg
  | lst h a => cases hy with
    | non => cases hg; exact N false rfl (by simp) (k _ G H (Ext.refl sg) (.bl _))
    | _ => cases hg
  | tup h a => cases hy with
    | non => cases hg; exact N false rfl (by simp) (k _ G H (Ext.refl sg) (.bl _))
    | _ => cases hg
theorem od_isNot : OpD X (compareOp .IsNot) isNotD := fun pins s σ G H x y v u dx dy dz Q I rx ry sg hx hy hg k => by
  have N : ∀ b : Bool, y = .non → b = decide (x = .non) → Q (.bl (!b)) H → wpAny (model X.prog X.w) X.A (compareOp .IsNot v u) (EP X pins σ Q) X.xe s := fun b ey eb q => by
    subst eb
    exact op_notN pins s σ H x y v u Q I rx ry ⟨ey, q⟩
  cases hx with
  | non => cases hy with
    | non => cases hg; exact N true rfl (by simp) (k _ G H (Ext.refl sg) (.bl _))
    | _ => cases hg
  | bl a => cases hy with
    | non => cases hg; exact N false rfl (by simp) (k _ G H (Ext.refl sg) (.bl _))
    | bl b =>
      cases hg
      exact op_notBl pins s σ H _ _ v u Q I rx ry ⟨a, b, rfl, rfl, k _ G H (Ext.refl sg) (.bl _)⟩
    | _ => cases hg
  | int i => cases hy with
    | non => cases hg; exact N false rfl (by simp) (k _ G H (Ext.refl sg) (.bl _))
    | _ => cases hg
  | str i => cases hy with
    | non => cases hg; exact N false rfl (by simp) (k _ G H (Ext.refl sg) (.bl _))
    | _ => cases hg
  | lst h a => cases hy with
    | non => cases hg; exact N false rfl (by simp) (k _ G H (Ext.refl sg) (.bl _))
    | _ => cases hg
  | tup h a => cases hy with
    | non => cases hg; exact N false rfl (by simp) (k _ G H (Ext.refl sg) (.bl _))
    | _ => cases hg
end

/-! ### unary minus -/
def mNeg (m : Ex) : Ex := seqE m fun x => optE (match x with
  | .int i => some (.int (-i))
  | _ => none)
theorem de_neg {X : Cx} {a : Expr} {m : Ex} {pos : Pos} (ha : DE X a m) : DE X (.UnaryOp .USub a pos) (mNeg m) := PE.weak (pe_un un_neg ha) fun σ H Q ⟨C, G, env, w, r, env', w', R, hm, k⟩ => by
  obtain ⟨x, e1, w1, h1, hm⟩ := seqE_inv hm
  obtain ⟨z, h3, rfl, rfl, rfl⟩ := optE_inv hm
  split at h3
  · cases h3
    refine ⟨C, G, env, w, _, _, _, R, h1, fun v G1 H1 R1 s1 i1 a1 => ?_⟩
    cases a1
    exact ⟨_, rfl, k _ G1 H1 R1 s1 i1 (show Dq X.K _ _ _ from .int _)⟩
  · cases h3
/-- not e as a value -/
theorem de_not {X : Cx} {a : Expr} {m : Ex} {pos : Pos} (ha : DE X a m) : DE X (.UnaryOp .Not a pos) (mBl (mNot (mTru m))) := by
  refine ⟨fun pins s σ H Q I h => ?_⟩
  obtain ⟨C, G, env, w, r, env', w', R, hm, k⟩ := h
  unfold mBl at hm
  split at hm
  · rename_i b e1 w1 h1
    cases hm
    unfold mNot at h1
    split at h1
    · rename_i c e2 w2 h2
      cases h1
      obtain ⟨x, h3, h4⟩ := mTru_inv h2
      refine UnaryOp_ (thn (ha.run pins s σ H (fun v H1 => TruV X.K v H1 c ∧ Q (.bl (!c)) H1) I ⟨C, G, env, w, _, _, _, R, h3, fun v G' H' R' s' i' a' => ⟨tru_ofD R'.sub a' h4, k _ G' H' R' s' i' (show Dq X.K _ _ _ from .bl _)⟩⟩) fun v s1 ⟨y, H1, I1, r1, q1, q2⟩ => ?_)
      exact not_of (thn (tru_ok pins s1 σ H1 y v (fun b H2 => b = c ∧ Q (.bl (!c)) H2) I1 r1 ⟨c, q1, rfl, q2⟩) fun b s2 ⟨H2, I2, e, q⟩ => by subst e; exact ⟨.bl _, H2, I2, rfl, q⟩)
    · cases h1
  · cases hm

/-! ### x[i] -/
def ixD : PyData → PyData → Option PyData
  | .list xs, .int i => atI xs i
  | .tuple xs, .int i => atI xs i
  | .str z, .int i => if z.length ≤ sizeLine then (atI z.cps.toList i).map fun c => .str ⟨#[c]⟩ else none
  | _, _ => none
theorem atI_dq {K : PySem.W.Frag} {G : Hp} {vs : List V} {ds : List PyData} {i : Int} {d : PyData} (h : DqA K G vs ds) (e : atI ds i = some d) : ∃ v, atI vs i = some v ∧ Dq K G v d := by
  unfold atI at e ⊢
  rw [dpA_len h]
  cases q : ixN ds.length i with
  | none => rw [q] at e; cases e
  | some j =>
    rw [q] at e
    exact dpA_get h e
theorem ix_run {X : Cx} {ma mb : Ex} {σ : L2.St} {H : Hp} {Q : VK} (h : tD X.K (mOp ixD ma mb) σ H Q) : tOp (rIx X.K) (tD X.K ma) (tD X.K mb) σ H Q := by
  obtain ⟨C, G, env, w, r, env', w', R, hm, k⟩ := h
  obtain ⟨x, e1, w1, h1, hm⟩ := seqE_inv hm
  obtain ⟨y, e2, w2, h2, hm⟩ := seqE_inv hm
  obtain ⟨z, h3, rfl, rfl, rfl⟩ := optE_inv hm
  refine ⟨C, G, env, w, _, e1, w1, R, h1, fun v G1 H1 R1 s1 i1 a1 => ?_⟩
  refine ⟨C, G1, e1, w1, _, _, _, R1, h2, fun u G2 H2 R2 s2 i2 a2 => ?_⟩
  have a1 : Dq X.K G2 v x := dp_mono s2 a1
  have fin : ∀ z', Dq X.K G2 z' z → Q z' H2 := fun z' d => k z' G2 H2 R2 (s1.trans s2) (i2.trans i1) d
  unfold ixD at h3
  split at h3
  · cases a1 with
    | lst hs ha =>
      cases a2
      obtain ⟨v, q1, q2⟩ := atI_dq ha h3
      exact .inl ⟨_, _, _, v, rfl, rfl, SqL.of (R2.sub _ _ hs), q1, fin v q2⟩
  · cases a1 with
    | tup hs ha =>
      cases a2
      obtain ⟨v, q1, q2⟩ := atI_dq ha h3
      exact .inr (.inl ⟨_, _, _, v, rfl, rfl, Same.sqT R2.sub hs, q1, fin v q2⟩)
  · split at h3
    · rename_i hl
      cases a1
      cases a2
      obtain ⟨c, e, q⟩ := Option.map_eq_some_iff.mp h3
      subst q
      exact .inr (.inr ⟨_, _, c, rfl, rfl, hl, e, fin _ (.str _)⟩)
    · cases h3
  · cases h3
theorem de_ix {X : Cx} {a b : Expr} {ma mb : Ex} {pos : Pos} (ha : DE X a ma) (hb : DE X b mb) (hs : PlainIx b := by exact fun _ _ => rfl) : DE X (.Subscript a b pos) (mOp ixD ma mb) := PE.weak (pe_ix ix_seq ha hb hs) fun _ _ _ h => ix_run h

/-! ### x[i:j] -/
abbrev Ox := Ev → W → Option (Option Int × Ev × W)
def tPo (K : PySem.W.Frag) (m : Ox) : TO := fun σ H Q => ∃ C G env w r env' w', Rel K C env w σ G H ∧ m env w = some (r, env', w') ∧
  ∀ G' H', Rel K C env' w' σ G' H' → Same G G' → w'.isSome = w.isSome → Q r H'
abbrev DPo (X : Cx) (e : Option Expr) (m : Ox) : Prop := PO X e (tPo X.K m)
def mNo : Ox := fun env w => some (none, env, w)
def mPart (m : Ex) : Ox := seqE m fun x env w => match x with
  | .int i => some (some i, env, w)
  | _ => none
theorem PO.weak {X : Cx} {e : Option Expr} {t t' : TO} (h : PO X e t) (k : ∀ σ H Q, t' σ H Q → t σ H Q) : PO X e t' := ⟨fun pins s σ H Q I q => h.run pins s σ H Q I (k σ H Q q)⟩
theorem dpo_none {X : Cx} : DPo X none mNo := PO.weak po_none fun σ H Q ⟨C, G, env, w, r, env', w', R, hm, k⟩ => by
  cases hm
  exact k G H R (Same.refl G) rfl
theorem dpo_some {X : Cx} {e : Expr} {m : Ex} (h : DE X e m) : DPo X (some e) (mPart m) := PO.weak (po_some h) fun σ H Q ⟨C, G, env, w, r, env', w', R, hm, k⟩ => by
  obtain ⟨x, e1, w1, h1, hm⟩ := seqE_inv hm
  split at hm
  · rename_i i
    cases hm
    exact ⟨C, G, env, w, _, _, _, R, h1, fun v G1 H1 R1 s1 i1 a1 => by cases a1; exact ⟨_, rfl, k G1 H1 R1 s1 i1⟩⟩
  · cases hm
/-- the items of xs[lo:hi] -/
def cutL {α : Type} (xs : List α) (lo hi : Option Int) : List α := (xs.drop (HT.sIx xs.length 0 lo)).take (HT.sIx xs.length xs.length hi - HT.sIx xs.length 0 lo)
def slD (x : PyData) (lo hi : Option Int) : Option PyData := match x with
  | .str z => if z.length ≤ sizeLine then some (.str (cutS z lo hi)) else none
  | .tuple xs => some (.tuple (cutL xs lo hi))
  | .list xs => some (.list (cutL xs lo hi))
  | _ => none
def mSl (m : Ex) (ml mh : Ox) : Ex := seqE m fun x env w => match ml env w with
  | some (lo, e1, w1) => (match mh e1 w1 with
    | some (hi, e2, w2) => optE (slD x lo hi) e2 w2
    | none => none)
  | none => none
theorem cut_dq {K : PySem.W.Frag} {G : Hp} {vs : List V} {ds : List PyData} (h : DqA K G vs ds) (lo hi : Option Int) : DqA K G (cutV vs lo hi) (cutL ds lo hi) := by
  unfold cutV cutL
  rw [dpA_len h]
  exact dpA_take _ (dpA_drop _ h)
theorem cut_whole {α : Type} {xs : List α} {lo hi : Option Int} (h : HT.sIx xs.length 0 lo = 0 ∧ HT.sIx xs.length xs.length hi = xs.length) : cutL xs lo hi = xs := by
  unfold cutL
  rw [h.1, h.2]
  simp
def rSlAll (K : PySem.W.Frag) : V → Option Int → Option Int → Hp → VK → Prop := fun x lo hi H Q => rSlS x lo hi H Q ∨ rSlA K x lo hi H Q ∨ rSlL K x lo hi H Q
theorem sl_all {X : Cx} : SlR X (rSlAll X.K) := SlR.or sl_str (SlR.or sl_tupA sl_list)
theorem sl_run {X : Cx} {ma : Ex} {ml mh : Ox} {σ : L2.St} {H : Hp} {Q : VK} (h : tD X.K (mSl ma ml mh) σ H Q) : tSl (rSlAll X.K) (tD X.K ma) (tPo X.K ml) (tPo X.K mh) σ H Q := by
  obtain ⟨C, G, env, w, r, env', w', R, hm, k⟩ := h
  obtain ⟨x, e1, w1, h1, hm⟩ := seqE_inv hm
  split at hm
  · rename_i lo e2 w2 h2
    split at hm
    · rename_i hi e3 w3 h3
      obtain ⟨z, h4, rfl, rfl, rfl⟩ := optE_inv hm
      refine ⟨C, G, env, w, _, e1, w1, R, h1, fun v G1 H1 R1 s1 i1 a1 => ?_⟩
      refine ⟨C, G1, e1, w1, _, _, _, R1, h2, fun G2 H2 R2 s2 i2 => ?_⟩
      refine ⟨C, G2, e2, w2, _, _, _, R2, h3, fun G3 H3 R3 s3 i3 => ?_⟩
      have a3 : Dq X.K G3 v x := dp_mono (s2.trans s3) a1
      have sg : Same G G3 := s1.trans (s2.trans s3)
      have is := i3.trans (i2.trans i1)
      unfold slD at h4
      split at h4
      · split at h4
        · rename_i hl
          cases h4
          cases a3
          exact .inl ⟨_, rfl, hl, k _ G3 H3 R3 sg is (show Dq X.K _ _ _ from .str _)⟩
        · cases h4
      · cases h4
        cases a3 with
        | tup hs ha =>
          refine .inr (.inl ⟨_, _, rfl, Same.sqT R3.sub hs, fun hw => ?_, fun _ p hp => ?_⟩)
          · rw [dpA_len ha] at hw
            rw [cut_whole hw] at k
            exact k _ G3 H3 R3 sg is (show Dq X.K _ _ _ from .tup hs ha)
          · obtain ⟨ex, dq⟩ := ext_tup R3.sub hp (cut_dq ha lo hi)
            exact k _ _ _ (R3.ext ex) (sg.trans ex.gg) is dq
      · cases h4
        cases a3 with
        | lst hs ha =>
          refine .inr (.inr ⟨_, _, rfl, SqL.of (R3.sub _ _ hs), fun p hp => ?_⟩)
          obtain ⟨ex, dq⟩ := ext_lst R3.sub hp (cut_dq ha lo hi)
          exact k _ _ _ (R3.ext ex) (sg.trans ex.gg) is dq
      · cases h4
    · cases hm
  · cases hm
theorem de_sl {X : Cx} {a : Expr} {ma : Ex} {lo hi : Option Expr} {ml mh : Ox} {pos p2 : Pos} (ha : DE X a ma) (hl : DPo X lo ml) (hh : DPo X hi mh) : DE X (.Subscript a (.Slice lo hi none p2) pos) (mSl ma ml mh) :=
  PE.weak (pe_slice sl_all ha hl hh) fun _ _ _ h => sl_run h

/-! ### built-in calls -/
def CallD (X : Cx) (f : Value) (g : List PyData → Option PyData) : Prop :=
  ∀ (pins : List (Addr × Obj)) (s : Shared) (σ : L2.St) (G H : Hp) (xs : List V) (us : List Value) (ds : List PyData) (dz : PyData) (Q : VK), Inv X pins σ H s → Vals xs us → Same G H → DqA X.K G xs ds → g ds = some dz →
    (∀ z G' H', Ext G H G' H' → Dq X.K G' z dz → Q z H') → wpAny (model X.prog X.w) X.A (call f us) (EP X pins σ Q) X.xe s
def rSemC (X : Cx) (f : Value) : List V → Hp → VK → Prop := fun xs H Q => ∀ (pins : List (Addr × Obj)) (s : Shared) (σ : L2.St) (us : List Value), Inv X pins σ H s → Vals xs us → wpAny (model X.prog X.w) X.A (call f us) (EP X pins σ Q) X.xe s
theorem call_sem {X : Cx} {f : Value} : CallR X f (rSemC X f) := fun pins s σ H xs us Q I r h => h pins s σ us I r
def mB (g : List PyData → Option PyData) (ms : Ax) : Ex := argsD ms fun ds => optE (g ds)
theorem callB_run {X : Cx} {f : Value} {g : List PyData → Option PyData} {ms : Ax} (hc : CallD X f g) {σ : L2.St} {H : Hp} {Q : VK} (h : tD X.K (mB g ms) σ H Q) : tCB (rSemC X f) (tA X.K ms) σ H Q := by
  obtain ⟨C, G, env, w, r, env', w', R, hm, k⟩ := h
  obtain ⟨rs, ds, e1, w1, h1, h2, hm⟩ := argsD_inv hm
  obtain ⟨z, h3, rfl, rfl, rfl⟩ := optE_inv hm
  refine ⟨C, G, env, w, _, _, _, R, h1, fun vs G1 H1 R1 s1 i1 a1 => ?_⟩
  intro pins s σ' us I r
  exact hc pins s σ' G1 H1 vs us ds z Q I r R1.sub (dsOf_ok a1 h2) h3 fun zz G' H' e dz => k zz G' H' (R1.ext e) (s1.trans e.gg) i1 dz
section
variable {X : Cx} {x : Str} {e : Expr} {es : List Expr} {p pos : Pos} {id T : String} {g g' : List PyData → Option PyData} {ms : Ax}
theorem de_callB (hc : CallD X (.builtin id) g) (hm : X.mg x = none) (hv : bootBuiltins x = some (.builtin id)) (ha : DA X (e :: es) ms) (hg : Gl X x := by rfl) (hn : x ≠ "__name__" := by decide) (hdb : (x == ("__debug__" : Str)) = false := by decide)
    (he : starEach (e :: es) X.env = (false, eval e X.env) :: starEach es X.env := by rfl) (hpl : (backTo pos (starEach es X.env)).any (·.1) = false := by rfl) : DE X (.Call (.Name x p) (e :: es) [] pos) (mB g ms) :=
  PE.weak (pe_callB call_sem hg hm hv ha hn hdb he hpl) fun _ _ _ h => callB_run hc h
theorem de_callTy (hc : CallD X (.type T) g) (hm : X.mg x = none) (hv : bootBuiltins x = some (.type T)) (ha : DA X (e :: es) ms) (hg : Gl X x := by rfl) (hn : x ≠ "__name__" := by decide) (hdb : (x == ("__debug__" : Str)) = false := by decide)
    (he : starEach (e :: es) X.env = (false, eval e X.env) :: starEach es X.env := by rfl) (hpl : (backTo pos (starEach es X.env)).any (·.1) = false := by rfl) : DE X (.Call (.Name x p) (e :: es) [] pos) (mB g ms) :=
  PE.weak (pe_callTy call_sem hg hm hv ha hn hdb he hpl) fun _ _ _ h => callB_run hc h
theorem callD_of {f : Value} {r : List V → Hp → VK → Prop} (h : CallR X f r)
    (k : ∀ (G H : Hp) (xs : List V) (ds : List PyData) (dz : PyData) (Q : VK), Same G H → DqA X.K G xs ds → g ds = some dz → (∀ z G' H', Ext G H G' H' → Dq X.K G' z dz → Q z H') → r xs H Q) : CallD X f g :=
  fun pins s σ G H xs us ds dz Q I rx sg hx hg q => h pins s σ H xs us Q I rx (k G H xs ds dz Q sg hx hg q)
theorem dqA1 {K : PySem.W.Frag} {G : Hp} {vs : List V} {d : PyData} (h : DqA K G vs [d]) : ∃ v, vs = [v] ∧ Dq K G v d := by
  cases h with
  | cons a b => cases b; exact ⟨_, rfl, a⟩
theorem dqA2 {K : PySem.W.Frag} {G : Hp} {vs : List V} {d e : PyData} (h : DqA K G vs [d, e]) : ∃ v u, vs = [v, u] ∧ Dq K G v d ∧ Dq K G u e := by
  cases h with
  | cons a b =>
    obtain ⟨u, rfl, q⟩ := dqA1 b
    exact ⟨_, u, rfl, a, q⟩
def lenD : List PyData → Option PyData
  | [.list xs] => some (.int xs.length)
  | [.tuple xs] => some (.int xs.length)
  | [.str z] => if z.length ≤ sizeLine then some (.int z.length) else none
  | _ => none
theorem cd_len : CallD X (.builtin "len") lenD := callD_of (CallR.or call_len_seq call_len_str) fun G H xs ds dz Q sg hx hg k => by
  unfold lenD at hg
  split at hg
  · cases hg
    obtain ⟨v, rfl, h⟩ := dqA1 hx
    cases h with
    | lst hs ha =>
      refine .inl ⟨_, _, rfl, .inl (SqL.of (sg _ _ hs)), ?_⟩
      rw [dpA_len ha]
      exact k _ G H (Ext.refl sg) (.int _)
  · cases hg
    obtain ⟨v, rfl, h⟩ := dqA1 hx
    cases h with
    | tup hs ha =>
      refine .inl ⟨_, _, rfl, .inr (Same.sqT sg hs), ?_⟩
      rw [dpA_len ha]
      exact k _ G H (Ext.refl sg) (.int _)
  · split at hg
    · rename_i hl
      cases hg
      obtain ⟨v, rfl, h⟩ := dqA1 hx
      cases h
      exact .inr ⟨_, rfl, hl, k _ G H (Ext.refl sg) (.int _)⟩
    · cases hg
  · cases hg
def intD : List PyData → Option PyData
  | [.int i] => some (.int i)
  | [.bool b] => some (.int (if b then 1 else 0))
  | [.str z] => (match PySem.intText? z with
    | some n => if z.length ≤ 640 then some (.int n) else none
    | none => none)
  | _ => none
theorem cd_int : CallD X (.type "int") intD := callD_of (CallR.or call_int1 call_int_str) fun G H xs ds dz Q sg hx hg k => by
  unfold intD at hg
  split at hg
  · cases hg
    obtain ⟨v, rfl, h⟩ := dqA1 hx
    cases h
    exact .inl (.inl ⟨_, rfl, k _ G H (Ext.refl sg) (.int _)⟩)
  · cases hg
    obtain ⟨v, rfl, h⟩ := dqA1 hx
    cases h
    exact .inl (.inr ⟨_, rfl, k _ G H (Ext.refl sg) (.int _)⟩)
  · split at hg
    · rename_i n hn
      split at hg
      · rename_i hl
        cases hg
        obtain ⟨v, rfl, h⟩ := dqA1 hx
        cases h
        exact .inr ⟨_, _, rfl, hn, hl, k _ G H (Ext.refl sg) (.int _)⟩
      · cases hg
    · cases hg
  · cases hg
def strD : List PyData → Option PyData
  | [.int i] => if i.natAbs.log2 < 1920 then some (.str (toString i)) else none
  | _ => none
theorem cd_str : CallD X (.type "str") strD := callD_of call_str_int fun G H xs ds dz Q sg hx hg k => by
  unfold strD at hg
  split at hg
  · split at hg
    · rename_i hl
      cases hg
      obtain ⟨v, rfl, h⟩ := dqA1 hx
      cases h
      exact ⟨_, rfl, hl, k _ G H (Ext.refl sg) (.str _)⟩
    · cases hg
  · cases hg
def tupleD : List PyData → Option PyData
  | [.list xs] => some (.tuple xs)
  | [.tuple xs] => some (.tuple xs)
  | _ => none
theorem cd_tuple : CallD X (.type "tuple") tupleD := callD_of call_tuple_of fun G H xs ds dz Q sg hx hg k => by
  unfold tupleD at hg
  split at hg
  · cases hg
    obtain ⟨v, rfl, h⟩ := dqA1 hx
    cases h with
    | lst hs ha =>
      refine ⟨_, _, rfl, .inl ⟨SqL.of (sg _ _ hs), fun l hl => ?_⟩⟩
      obtain ⟨ex, dq⟩ := ext_tup sg hl ha
      exact k _ _ _ ex dq
  · cases hg
    obtain ⟨v, rfl, h⟩ := dqA1 hx
    cases h with
    | tup hs ha => exact ⟨_, _, rfl, .inr ⟨Same.sqT sg hs, k _ G H (Ext.refl sg) (.tup hs ha)⟩⟩
  · cases hg
def min2D : List PyData → Option PyData
  | [.int i, .int j] => some (.int (if j < i then j else i))
  | _ => none
def max2D : List PyData → Option PyData
  | [.int i, .int j] => some (.int (if j > i then j else i))
  | _ => none
theorem cd_min2 (hc : X.calm = true) : CallD X (.builtin "min") min2D := callD_of (call_min2 hc) fun G H xs ds dz Q sg hx hg k => by
  unfold min2D at hg
  split at hg
  · cases hg
    obtain ⟨v, u, rfl, h, h'⟩ := dqA2 hx
    cases h
    cases h'
    exact ⟨_, _, rfl, k _ G H (Ext.refl sg) (.int _)⟩
  · cases hg
theorem cd_max2 (hc : X.calm = true) : CallD X (.builtin "max") max2D := callD_of (call_max2 hc) fun G H xs ds dz Q sg hx hg k => by
  unfold max2D at hg
  split at hg
  · cases hg
    obtain ⟨v, u, rfl, h, h'⟩ := dqA2 hx
    cases h
    cases h'
    exact ⟨_, _, rfl, k _ G H (Ext.refl sg) (.int _)⟩
  · cases hg
end
end Dn

set_option maxHeartbeats 4000000
/-! Dn4: own lists, comprehensions, further assignments, texts. -/
namespace Dn
open PySem PySem.Spec PyProof.Rows L2

/-! ### own lists -/
abbrev NoOwn (env : Ev) (σ : L2.St) (a : Addr) : Prop := ∀ (i : Nat) (ys : List PyData), env[i]? = some (some (.own ys)) → σ[i]? ≠ some (some (.ref a))
theorem Rel.setO {K : PySem.W.Frag} {C : Ct} {env : Ev} {w : W} {σ : L2.St} {G H : Hp} {a : Addr} {vs : List V} {xs : List PyData} (R : Rel K C env w σ G H) (ha : H a = some (.lst vs)) (hd : DqA K G vs xs) (hg : G a = none) (h0 : C.H0 a = none)
    (hne : NoOwn env σ a) (i : Nat) : Rel K C (env.set i (some (.own xs))) w (σ.set i (some (.ref a))) G H where
  sub := R.sub
  len := by rw [List.length_set, List.length_set]; exact R.len
  slot := fun j sd h => by
    by_cases hj : i = j
    · subst hj
      have hi : i < env.length := by
        have := (List.getElem?_eq_some_iff.mp h).1
        rwa [List.length_set] at this
      rw [List.getElem?_set_self hi] at h
      cases h
      exact ⟨_, List.getElem?_set_self (by rw [← R.len]; exact hi), a, vs, rfl, ha, hd, hg, h0⟩
    · rw [List.getElem?_set_ne hj] at h
      obtain ⟨v, h1, h2⟩ := R.slot j sd h
      exact ⟨v, by rw [List.getElem?_set_ne hj]; exact h1, h2⟩
  sep := fun j k ys zs b e1 e2 s1 s2 => by
    have at_i : ∀ (l : Nat) (us : List PyData), (env.set i (some (.own xs)))[l]? = some (some (.own us)) → (σ.set i (some (.ref a)))[l]? = some (some (.ref b)) → i = l → b = a := fun l us e s z => by
      subst z
      have hi : i < env.length := by
        have := (List.getElem?_eq_some_iff.mp e).1
        rwa [List.length_set] at this
      rw [List.getElem?_set_self (by rw [← R.len]; exact hi)] at s
      cases s
      rfl
    by_cases hj : i = j
    · by_cases hk : i = k
      · exact hj.symm.trans hk
      · have := at_i j ys e1 s1 hj
        subst this
        rw [List.getElem?_set_ne hk] at e2 s2
        exact absurd s2 (hne k zs e2)
    · by_cases hk : i = k
      · have := at_i k zs e2 s2 hk
        subst this
        rw [List.getElem?_set_ne hj] at e1 s1
        exact absurd s1 (hne j ys e1)
      · rw [List.getElem?_set_ne hj] at e1 s1
        rw [List.getElem?_set_ne hk] at e2 s2
        exact R.sep j k ys zs b e1 e2 s1 s2
  st := R.st
  st0 := R.st0
  fr := R.fr
  gr := R.gr
def mSetO (i : Nat) (m : Lx) : Sx := fun env w => match m env w with
  | some (xs, e1, w1) => some (.nx, e1.set i (some (.own xs)), w1)
  | none => none
theorem ds_setO {X : Cx} {s : Stmt} {i : Nat} {m : Lx} (h : PS X s (tAsg (tO X.K m) (gName i))) : DSt X s (mSetO i m) := PS.weak h fun D σ H ⟨C, G, env, w, r, env', w', R, hm, k⟩ => by
  unfold mSetO at hm
  split at hm
  · rename_i xs e1 w1 h1
    cases hm
    exact ⟨C, G, env, w, _, _, _, R, h1, fun a vs G1 H1 R1 s1 i1 ha hd hg h0 hne => k _ G1 H1 (R1.setO ha hd hg h0 hne i) s1 i1⟩
  · cases hm
/-- the own list at slot i is changed -/
theorem Rel.chg {K : PySem.W.Frag} {C : Ct} {env : Ev} {w : W} {σ : L2.St} {G H : Hp} {a : Addr} {us : List V} {xs ys : List PyData} {i : Nat} (R : Rel K C env w σ G H) (he : env[i]? = some (some (.own xs))) (hs : σ[i]? = some (some (.ref a))) (hd : DqA K G us ys) :
    Rel K C (env.set i (some (.own ys))) w σ G (upd H a (.lst us)) := by
  obtain ⟨v, h1, a', vs, rfl, ha, hd0, hg, h0⟩ := R.slot i _ he
  rw [h1] at hs
  cases hs
  have hi : i < env.length := (List.getElem?_eq_some_iff.mp he).1
  have nes : ∀ h : w.isSome = true, a ≠ C.ad.sa ∧ a ≠ C.ad.la ∧ a ≠ C.ad.ca := fun h => R.own_ne h0 h
  refine ⟨fun b o e => ?_, by rw [List.length_set]; exact R.len, fun j sd e => ?_, fun j k zs zs' b e1 e2 s1 s2 => ?_, fun s e => ?_, R.st0, fun b o e m => ?_, R.gr⟩
  · rw [upd_ne]
    · exact R.sub b o e
    · rintro rfl
      rw [hg] at e; cases e
  · by_cases hj : i = j
    · subst hj
      rw [List.getElem?_set_self hi] at e
      cases e
      exact ⟨_, h1, a, us, rfl, upd_same, hd, hg, h0⟩
    · rw [List.getElem?_set_ne hj] at e
      obtain ⟨v, q1, q2⟩ := R.slot j sd e
      refine ⟨v, q1, ?_⟩
      cases sd with
      | d x => exact q2
      | own zs =>
        obtain ⟨b, ws, rfl, hb, hd', hg', h0'⟩ := q2
        refine ⟨b, ws, rfl, ?_, hd', hg', h0'⟩
        rw [upd_ne]
        · exact hb
        · rintro rfl
          exact hj (R.sep i j xs zs b he e h1 q1)
      | st => exact q2
      | scr n => exact q2
  · have fix : ∀ (l : Nat) (us' : List PyData), (env.set i (some (.own ys)))[l]? = some (some (.own us')) → ∃ us'', env[l]? = some (some (.own us'')) := fun l us' e => by
      by_cases hl : i = l
      · subst hl; exact ⟨xs, he⟩
      · rw [List.getElem?_set_ne hl] at e; exact ⟨us', e⟩
    obtain ⟨u1, q1⟩ := fix j zs e1
    obtain ⟨u2, q2⟩ := fix k zs' e2
    exact R.sep j k u1 u2 b q1 q2 s1 s2
  · have q := R.st s e
    have ne := nes (by rw [e]; rfl)
    exact ⟨by rw [upd_ne ne.1.symm]; exact q.sa, by rw [upd_ne ne.2.1.symm]; exact q.la, by rw [upd_ne ne.2.2.symm]; exact q.ca, q.gs, q.gl, q.gc, q.ne⟩
  · rw [upd_ne]
    · exact R.fr b o e m
    · rintro rfl
      rw [h0] at e; cases e
/-- xs.append(e) -/
def mAppend (i : Nat) (m : Ex) : Sx := fun env w => match env[i]? with
  | some (some (.own _)) => seqE m (fun y e1 w1 => match e1[i]? with
    | some (some (.own xs)) => if xs.length < sizeLine then some (.nx, e1.set i (some (.own (xs ++ [y]))), w1) else none
    | _ => none) env w
  | _ => none
theorem ds_append {X : Cx} {s : Stmt} {i : Nat} {m : Ex} (h : PS X s (tDrop (tBM X.K "list" rAppend (tVar i) (tCons (tD X.K m) tNil)))) : DSt X s (mAppend i m) := PS.weak h fun D σ H ⟨C, G, env, w, fl, env', w', R, hm, k⟩ => by
  unfold mAppend at hm
  split at hm
  · rename_i xs0 h0
    obtain ⟨y, e1, w1, h1, hm⟩ := seqE_inv hm
    split at hm
    · rename_i xs h2
      split at hm
      · rename_i hl
        cases hm
        obtain ⟨v, q1, a, vs, rfl, ha, hd, hg, hz⟩ := R.slot i _ h0
        refine ⟨_, q1, .inl ⟨rfl, vs, SqL.of ha⟩, C, G, env, w, _, _, _, R, h1, fun u G1 H1 R1 s1 i1 a1 => ?_⟩
        obtain ⟨v, p1, a', vs', rfl, ha', hd', hg', hz'⟩ := R1.slot i _ h2
        rw [q1] at p1
        cases p1
        refine ⟨a, vs', u, rfl, rfl, ha', by rw [dpA_len hd']; exact hl, ?_⟩
        exact k σ G1 _ (R1.chg h2 q1 (dpA_app hd' (.cons a1 .nil))) s1 i1
      · cases hm
    · cases hm
  · cases hm
/-- xs.pop() -/
def mPop (i : Nat) : Sx := fun env w => match env[i]? with
  | some (some (.own xs)) => (match xs with
    | [] => none
    | _ :: _ => some (.nx, env.set i (some (.own xs.dropLast)), w))
  | _ => none
theorem dqA_dropLast {K : PySem.W.Frag} {G : Hp} {vs : List V} {ds : List PyData} (h : DqA K G vs ds) : DqA K G vs.dropLast ds.dropLast := by
  rw [List.dropLast_eq_take, List.dropLast_eq_take, dpA_len h]
  exact dpA_take _ h
theorem ds_pop {X : Cx} {s : Stmt} {i : Nat} (h : PS X s (tDrop (tBM0 X.K "list" rPop (tVar i)))) : DSt X s (mPop i) := PS.weak h fun D σ H ⟨C, G, env, w, fl, env', w', R, hm, k⟩ => by
  unfold mPop at hm
  split at hm
  · rename_i xs h0
    split at hm
    · cases hm
    · rename_i z zs
      cases hm
      obtain ⟨v, q1, a, vs, rfl, ha, hd, hg, hz⟩ := R.slot i _ h0
      have hl := dpA_len hd
      have hlt : vs.length - 1 < vs.length := by rw [hl]; simp
      refine ⟨_, q1, .inl ⟨rfl, vs, SqL.of ha⟩, a, vs, vs[vs.length - 1], rfl, rfl, ha, by simp [hlt], ?_⟩
      exact k σ G _ (R.chg h0 q1 (dqA_dropLast hd)) (Same.refl G) rfl
  · cases hm
/-! ### what is read of an own list without letting it go -/
/-- an answer that needs no heap -/
def flat : PyData → Bool
  | .none => true
  | .bool _ => true
  | .int _ => true
  | .str _ => true
  | _ => false
theorem dq_flat {K : PySem.W.Frag} {G G' : Hp} {v : V} {d : PyData} (h : Dq K G v d) (f : flat d = true) : Dq K G' v d := by
  cases h with
  | non => exact .non
  | bl b => exact .bl b
  | int i => exact .int i
  | str x => exact .str x
  | _ => cases f
def flatO (o : Option PyData) : Option PyData := match o with
  | some z => if flat z then some z else none
  | none => none
theorem flatO_inv {o : Option PyData} {z : PyData} (h : flatO o = some z) : o = some z ∧ flat z = true := by
  unfold flatO at h
  split at h
  · split at h
    · cases h; exact ⟨rfl, by assumption⟩
    · cases h
  · cases h
def pk (env : Ev) (i : Nat) : Option (List PyData) := match env[i]? with
  | some (some (.own xs)) => some xs
  | some (some (.d (.list xs))) => some xs
  | _ => none
/-- over a wider heap the list is data -/
theorem Rel.pkd {K : PySem.W.Frag} {C : Ct} {env : Ev} {w : W} {σ : L2.St} {G H : Hp} {i : Nat} {xs : List PyData} (R : Rel K C env w σ G H) (h : pk env i = some xs) : ∃ a vs, σ[i]? = some (some (.ref a)) ∧ H a = some (.lst vs) ∧ DqA K G vs xs := by
  unfold Dn.pk at h
  split at h
  · rename_i ys e
    cases h
    obtain ⟨v, q1, a, vs, rfl, ha, hd, hg, hz⟩ := R.slot i _ e
    exact ⟨a, vs, q1, ha, hd⟩
  · rename_i ys e
    cases h
    obtain ⟨v, q1, q2⟩ := R.slot i _ e
    cases q2 with
    | lst h a => exact ⟨_, _, q1, R.sub _ _ h, a⟩
  · cases h
theorem Rel.peek {K : PySem.W.Frag} {C : Ct} {env : Ev} {w : W} {σ : L2.St} {G H : Hp} {i : Nat} {xs : List PyData} {v : V} (R : Rel K C env w σ G H) (h : pk env i = some xs) (hs : σ[i]? = some (some v)) :
    ∃ G1, Same G G1 ∧ Same G1 H ∧ Dq K G1 v (.list xs) := by
  obtain ⟨a, vs, q1, ha, hd⟩ := R.pkd h
  rw [hs] at q1
  cases q1
  cases e : G a with
  | none =>
    refine ⟨upd G a (.lst vs), same_upd e, fun b o q => ?_, .lst upd_same (dpA_mono (same_upd e) hd)⟩
    by_cases hb : b = a
    · subst hb; rw [upd_same] at q; rw [ha]; exact q
    · rw [upd_ne hb] at q; exact R.sub b o q
  | some o =>
    have q := R.sub a o e
    rw [ha] at q
    cases q
    exact ⟨G, Same.refl G, R.sub, .lst e hd⟩
/-- xs == e -/
def mPkOp (g : PyData → PyData → Option PyData) (i : Nat) (mb : Ex) : Ex := fun env w => match pk env i with
  | some _ => seqE mb (fun y e1 w1 => match pk e1 i with
    | some xs => optE (flatO (g (.list xs) y)) e1 w1
    | none => none) env w
  | none => none
theorem pk_D {X : Cx} {f : Value → Value → Sem Value} {g : PyData → PyData → Option PyData} {i : Nat} {mb : Ex} (ho : OpD X f g) {σ : L2.St} {H : Hp} {Q : VK} (h : tD X.K (mPkOp g i mb) σ H Q) :
    tVar i σ H fun x H1 => tD X.K mb σ H1 fun y H2 => rSem X f x y H2 Q := by
  obtain ⟨C, G, env, w, r, env', w', R, hm, k⟩ := h
  unfold mPkOp at hm
  split at hm
  · rename_i xs0 h0
    obtain ⟨y, e1, w1, h1, hm⟩ := seqE_inv hm
    split at hm
    · rename_i xs h2
      obtain ⟨z, h3, rfl, rfl, rfl⟩ := optE_inv hm
      obtain ⟨h3, hf⟩ := flatO_inv h3
      obtain ⟨a, _, q1, _⟩ := R.pkd h0
      refine ⟨.ref a, q1, C, G, env, w, _, _, _, R, h1, fun u G2 H2 R2 s2 i2 a2 => ?_⟩
      obtain ⟨G3, p1, p2, p3⟩ := R2.peek h2 q1
      intro pins s σ' vv uu I rx ry
      exact ho pins s σ' G3 H2 _ u vv uu _ y z Q I rx ry p2 p3 (dp_mono p1 a2) h3 fun zz G' H' e dz => k zz G2 H' (R2.ext (Ext.drop R2.sub e.hh)) s2 i2 (dq_flat dz hf)
    · cases hm
  · cases hm
section
variable {X : Cx} {b : Expr} {mb : Ex} {pos pos' : Pos} {g : PyData → PyData → Option PyData} {x : Str} {i : Nat}
theorem de_pkcmp {op : CmpOp} (ho : OpD X (compareOp op) g) (ha : PE X (.Name x pos') (tVar i)) (hb : DE X b mb) (hm : behindInMarks op b = false) : DE X (.Compare (.Name x pos') [op] [b] pos) (mPkOp g i mb) := PE.weak (pe_cmpR op_sem ha hb hm) fun _ _ _ h => pk_D ho h
theorem dt_pkcmp {op : CmpOp} (ho : OpD X (compareOp op) g) (ha : PE X (.Name x pos') (tVar i)) (hb : DE X b mb) (hm : behindInMarks op b = false) : DT X (.Compare (.Name x pos') [op] [b] pos) (mTru (mPkOp g i mb)) := by
  refine ⟨fun pins s σ H Q I h => ?_⟩
  obtain ⟨C, G, env, w, r, env', w', R, h0, k⟩ := h
  obtain ⟨x, h1, h2⟩ := mTru_inv h0
  have t : tD X.K (mPkOp g i mb) σ H fun v H1 => TruV X.K v H1 r ∧ Q r H1 := ⟨C, G, env, w, _, env', w', R, h1, fun v G' H' R' s' i' a' => ⟨tru_ofD R'.sub a' h2, k G' H' R' s' i'⟩⟩
  refine wpAny_isTrue_Compare1 ?_ hm
  refine binT ha hb I (pk_D ho t) fun v u s2 x y H2 I2 rx ry q => ?_
  refine thn (q pins s2 σ v u I2 rx ry) fun c s3 ⟨z, H3, I3, r3, q1, q2⟩ => ?_
  exact tru_ok pins s3 σ H3 z c Q I3 r3 ⟨r, q1, q2⟩
/-- xs[i] -/
def mPkIx (i : Nat) (mb : Ex) : Ex := fun env w => match pk env i with
  | some _ => seqE mb (fun y e1 w1 => match pk e1 i with
    | some xs => optE (ixD (.list xs) y) e1 w1
    | none => none) env w
  | none => none
theorem de_pkix (ha : PE X (.Name x pos') (tVar i)) (hb : DE X b mb) (hs : PlainIx b := by exact fun _ _ => rfl) : DE X (.Subscript (.Name x pos') b pos) (mPkIx i mb) := PE.weak (pe_ix ix_seq ha hb hs) fun σ H Q ⟨C, G, env, w, r, env', w', R, hm, k⟩ => by
  unfold mPkIx at hm
  split at hm
  · rename_i xs0 h0
    obtain ⟨y, e1, w1, h1, hm⟩ := seqE_inv hm
    split at hm
    · rename_i xs h2
      obtain ⟨z, h3, rfl, rfl, rfl⟩ := optE_inv hm
      obtain ⟨a0, _, q1, _⟩ := R.pkd h0
      refine ⟨.ref a0, q1, C, G, env, w, _, _, _, R, h1, fun u G2 H2 R2 s2 i2 a2 => ?_⟩
      obtain ⟨a, vs, q2, ha', hd⟩ := R2.pkd h2
      rw [q1] at q2
      cases q2
      unfold ixD at h3
      split at h3
      · rename_i he
        cases he
        cases a2
        obtain ⟨v, p1, p2⟩ := atI_dq hd h3
        exact .inl ⟨_, _, _, v, rfl, rfl, SqL.of ha', p1, k v G2 H2 R2 s2 i2 p2⟩
      · rename_i he; cases he
      · rename_i he; cases he
      · cases h3
    · cases hm
  · cases hm
/-- len(xs) -/
def mPkLen (i : Nat) : Ex := fun env w => match pk env i with
  | some xs => some (.d (.int xs.length), env, w)
  | none => none
theorem de_pklen {p : Pos} (hm : X.mg "len" = none) (ha : PE X (.Name x pos') (tVar i)) (hg : Gl X "len" := by rfl) : DE X (.Call (.Name "len" p) [.Name x pos'] [] pos) (mPkLen i) :=
  PE.weak (pe_callB call_len_seq hg hm PySem.boot_len (pa_cons ha pa_nil)) fun σ H Q ⟨C, G, env, w, r, env', w', R, hm, k⟩ => by
  unfold mPkLen at hm
  split at hm
  · rename_i xs h0
    cases hm
    obtain ⟨a, vs, q1, ha', hd⟩ := R.pkd h0
    refine ⟨_, q1, a, vs, rfl, .inl (SqL.of ha'), ?_⟩
    rw [dpA_len hd]
    exact k _ G H R (Same.refl G) rfl (show Dq X.K _ _ _ from .int _)
  · cases hm
/-- len(script) -/
def mScrLen (i : Nat) : Ex := fun env w => match env[i]? with
  | some (some (.scr n)) => some (.d (.int n), env, w)
  | _ => none
theorem de_scrlen {p : Pos} (hm : X.mg "len" = none) (ha : PE X (.Name x pos') (tVar i)) (hg : Gl X "len" := by rfl) : DE X (.Call (.Name "len" p) [.Name x pos'] [] pos) (mScrLen i) :=
  PE.weak (pe_callB call_len_seq hg hm PySem.boot_len (pa_cons ha pa_nil)) fun σ H Q ⟨C, G, env, w, r, env', w', R, hm, k⟩ => by
  unfold mScrLen at hm
  split at hm
  · rename_i n h0
    cases hm
    obtain ⟨v, q1, a, xs, rfl, rfl, hs⟩ := R.slot i _ h0
    have sq : SqL X.K H a xs := by
      rcases hs with ⟨o, ha', nm⟩ | hs
      · exact .inl (.inr ⟨o, R.fr a _ ha' nm⟩)
      · exact hs H
    exact ⟨_, q1, a, xs, rfl, .inl sq, k _ G H R (Same.refl G) rfl (show Dq X.K _ _ _ from .int _)⟩
  · cases hm
end

/-! ### guarding a fresh list while something else is evaluated -/
def Ct.grd (C : Ct) (D : Addr) (o : HO) : Ct := ⟨C.ad, upd C.H0 D o, fun b => if b = D then none else C.G0 b⟩
theorem Rel.grd {K : PySem.W.Frag} {C : Ct} {env : Ev} {w : W} {σ : L2.St} {G H : Hp} {D : Addr} {o : HO} (R : Rel K C env w σ G H) (hD : H D = some o) (hg : G D = none) (h0 : C.H0 D = none) (hne : NoOwn env σ D) : Rel K (C.grd D o) env w σ G H where
  sub := R.sub
  len := R.len
  slot := fun i sd h => by
    obtain ⟨v, h1, h2⟩ := R.slot i sd h
    refine ⟨v, h1, ?_⟩
    cases sd with
    | d x => exact h2
    | own xs =>
      obtain ⟨a, vs, rfl, ha, hd, hga, h0a⟩ := h2
      refine ⟨a, vs, rfl, ha, hd, hga, ?_⟩
      show upd C.H0 D o a = none
      rw [upd_ne]
      · exact h0a
      · rintro rfl
        exact hne i xs h h1
    | st => exact h2
    | scr n =>
      obtain ⟨a, xs, h3, h4, h5⟩ := h2
      refine ⟨a, xs, h3, h4, ?_⟩
      rcases h5 with ⟨ob, h5, h6⟩ | h5
      · refine .inl ⟨ob, ?_, h6⟩
        show upd C.H0 D o a = _
        rw [upd_ne (ne_of_none h5 h0)]
        exact h5
      · exact .inr h5
  sep := R.sep
  st := R.st
  st0 := fun h => by
    obtain ⟨h1, h2, h3⟩ := R.st0 h
    have ne : ∀ b, C.H0 b ≠ none → upd C.H0 D o b ≠ none := fun b hb => by
      rw [upd_ne]
      · exact hb
      · rintro rfl
        exact hb h0
    exact ⟨ne _ h1, ne _ h2, ne _ h3⟩
  fr := fun b u e m => by
    by_cases hb : b = D
    · subst hb
      have e' : upd C.H0 b o b = some u := e
      rw [upd_same] at e'
      rw [hD]; exact e'
    · have e' : upd C.H0 D o b = some u := e
      rw [upd_ne hb] at e'
      exact R.fr b u e' m
  gr := fun b u e => by
    show G b = if b = D then none else C.G0 b
    by_cases hb : b = D
    · rw [if_pos hb, hb]; exact hg
    · rw [if_neg hb]
      have e' : upd C.H0 D o b = some u := e
      rw [upd_ne hb] at e'
      exact R.gr b u e'
theorem Rel.ungrd {K : PySem.W.Frag} {C : Ct} {env : Ev} {w : W} {σ : L2.St} {G H : Hp} {D : Addr} {o : HO} (R : Rel K (C.grd D o) env w σ G H) (h0 : C.H0 D = none) (ho : ∀ ob u, o ≠ .frz ob u) (nm : ¬ Mt C.ad w D) (s0 : w.isSome = true → C.H0 C.ad.sa ≠ none ∧ C.H0 C.ad.la ≠ none ∧ C.H0 C.ad.ca ≠ none) :
    Rel K C env w σ G H ∧ H D = some o ∧ G D = none ∧ NoOwn env σ D := by
  refine ⟨⟨R.sub, R.len, fun i sd h => ?_, R.sep, R.st, s0, fun b u e m => ?_, fun b u e => ?_⟩, R.fr D o (show upd C.H0 D o D = some o from upd_same) nm, ?_, fun i ys h e => ?_⟩
  · obtain ⟨v, h1, h2⟩ := R.slot i sd h
    refine ⟨v, h1, ?_⟩
    cases sd with
    | d x => exact h2
    | own xs =>
      obtain ⟨a, vs, rfl, ha, hd, hga, h0a⟩ := h2
      have h0a : upd C.H0 D o a = none := h0a
      refine ⟨a, vs, rfl, ha, hd, hga, ?_⟩
      by_cases hb : a = D
      · rw [hb]; exact h0
      · rw [upd_ne hb] at h0a; exact h0a
    | st => exact h2
    | scr n =>
      obtain ⟨a, xs, h3, h4, h5⟩ := h2
      refine ⟨a, xs, h3, h4, ?_⟩
      rcases h5 with ⟨ob, h5, h6⟩ | h5
      · have h5 : upd C.H0 D o a = some (.frz ob (.lst xs)) := h5
        refine .inl ⟨ob, ?_, h6⟩
        by_cases hb : a = D
        · rw [hb, upd_same] at h5
          exact absurd (Option.some.inj h5) (ho _ _)
        · rw [upd_ne hb] at h5; exact h5
      · exact .inr h5
  · have hb : b ≠ D := ne_of_none e h0
    exact R.fr b u (show upd C.H0 D o b = some u by rw [upd_ne hb]; exact e) m
  · have hb : b ≠ D := ne_of_none e h0
    have q := R.gr b u (show upd C.H0 D o b = some u by rw [upd_ne hb]; exact e)
    have q' : G b = if b = D then none else C.G0 b := q
    rw [if_neg hb] at q'
    exact q'
  · have q := R.gr D o (show upd C.H0 D o D = some o from upd_same)
    have q' : G D = if D = D then none else C.G0 D := q
    rw [if_pos rfl] at q'
    exact q'
  · obtain ⟨v, h1, a, vs, rfl, ha, hd, hga, h0a⟩ := R.slot i _ h
    rw [h1] at e
    cases e
    have h0a : upd C.H0 D o D = none := h0a
    rw [upd_same] at h0a
    cases h0a
theorem Rel.not_Mt {K : PySem.W.Frag} {C : Ct} {env : Ev} {w : W} {σ : L2.St} {G H : Hp} {D : Addr} (R : Rel K C env w σ G H) (h0 : C.H0 D = none) : ¬ Mt C.ad w D := fun m => by
  have ne := R.own_ne h0 m.1
  rcases m.2 with e | e
  · exact ne.1 e
  · exact ne.2.1 e

/-! ### [e for x in xs if t] -/
def wipeE (env : Ev) : List Nat → Ev
  | [] => env
  | v :: vs => (wipeE env vs).set v none
theorem wipeE_length (env : Ev) : ∀ vs : List Nat, (wipeE env vs).length = env.length
  | [] => rfl
  | v :: vs => by unfold wipeE; rw [List.length_set, wipeE_length env vs]
theorem wipeE_some {env : Ev} {i : Nat} {x : SD} : ∀ {vs : List Nat}, (wipeE env vs)[i]? = some (some x) → env[i]? = some (some x) ∧ i ∉ vs
  | [], h => ⟨h, by simp⟩
  | v :: vs, h => by
    unfold wipeE at h
    by_cases hi : v = i
    · subst hi
      by_cases hv : v < (wipeE env vs).length
      · rw [List.getElem?_set_self hv] at h; cases h
      · rw [List.getElem?_eq_none (by simpa using hv)] at h; cases h
    · rw [List.getElem?_set_ne hi] at h
      obtain ⟨h1, h2⟩ := wipeE_some h
      exact ⟨h1, by simp only [List.mem_cons, not_or]; exact ⟨fun e => hi e.symm, h2⟩⟩
theorem wipe_get {σ : L2.St} {i : Nat} : ∀ {vs : List Nat}, i ∉ vs → (wipe σ vs)[i]? = σ[i]?
  | [], _ => rfl
  | v :: vs, h => by
    simp only [List.mem_cons, not_or] at h
    unfold wipe
    rw [List.getElem?_set_ne (Ne.symm h.1)]
    exact wipe_get h.2
/-- .. behind the comprehension its names are what they were (own lists: forgotten) -/
def keepS : Option (Option SD) → Option SD
  | some (some (.d x)) => some (.d x)
  | some (some .st) => some .st
  | _ => none
def rst (env0 env : Ev) : List Nat → Ev
  | [] => env
  | v :: vs => (rst env0 env vs).set v (keepS env0[v]?)
theorem rst_length (env0 env : Ev) : ∀ vs : List Nat, (rst env0 env vs).length = env.length
  | [] => rfl
  | v :: vs => by unfold rst; rw [List.length_set, rst_length env0 env vs]
theorem rst_in {env0 env : Ev} {i : Nat} {x : SD} : ∀ {vs : List Nat}, i ∈ vs → (rst env0 env vs)[i]? = some (some x) → env0[i]? = some (some x) ∧ (∀ xs, x ≠ .own xs)
  | [], h, _ => by simp at h
  | v :: vs, h, e => by
    unfold rst at e
    by_cases hi : v = i
    · subst hi
      have hv : v < (rst env0 env vs).length := by
        have := (List.getElem?_eq_some_iff.mp e).1
        rwa [List.length_set] at this
      rw [List.getElem?_set_self hv] at e
      unfold keepS at e
      split at e
      · cases e; exact ⟨by assumption, fun _ z => by cases z⟩
      · cases e; exact ⟨by assumption, fun _ z => by cases z⟩
      · cases e
    · rw [List.getElem?_set_ne hi] at e
      have hm : i ∈ vs := by
        rcases List.mem_cons.mp h with z | z
        · exact absurd z.symm hi
        · exact z
      exact rst_in hm e
theorem rst_out {env0 env : Ev} {i : Nat} : ∀ {vs : List Nat}, i ∉ vs → (rst env0 env vs)[i]? = env[i]?
  | [], _ => rfl
  | v :: vs, h => by
    simp only [List.mem_cons, not_or] at h
    unfold rst
    rw [List.getElem?_set_ne (Ne.symm h.1)]
    exact rst_out h.2
theorem Rel.wiped {K : PySem.W.Frag} {C : Ct} {env : Ev} {w : W} {σ : L2.St} {G H : Hp} (R : Rel K C env w σ G H) (vs : List Nat) : Rel K C (wipeE env vs) w (wipe σ vs) G H where
  sub := R.sub
  len := by rw [wipeE_length, wipe_length]; exact R.len
  slot := fun i sd h => by
    obtain ⟨h1, hn⟩ := wipeE_some h
    obtain ⟨v, h2, h3⟩ := R.slot i sd h1
    exact ⟨v, by rw [wipe_get hn]; exact h2, h3⟩
  sep := fun i j xs ys a e1 e2 s1 s2 => by
    obtain ⟨h1, n1⟩ := wipeE_some e1
    obtain ⟨h2, n2⟩ := wipeE_some e2
    rw [wipe_get n1] at s1
    rw [wipe_get n2] at s2
    exact R.sep i j xs ys a h1 h2 s1 s2
  st := R.st
  st0 := R.st0
  fr := R.fr
  gr := R.gr
theorem Rel.unwiped {K : PySem.W.Frag} {C : Ct} {env0 env : Ev} {w0 w : W} {σ : L2.St} {G0 H0 G H : Hp} {vs : List Nat} (R0 : Rel K C env0 w0 σ G0 H0) (R : Rel K C env w (wipe σ vs) G H) (s : Same G0 G) (hw : w.isSome = w0.isSome) :
    Rel K C (rst env0 env vs) w σ G H where
  sub := R.sub
  len := by rw [rst_length, R.len, wipe_length]
  slot := fun i sd h => by
    by_cases hi : i ∈ vs
    · obtain ⟨h1, hn⟩ := rst_in hi h
      obtain ⟨v, h2, h3⟩ := R0.slot i sd h1
      refine ⟨v, h2, ?_⟩
      cases sd with
      | d x => exact dp_mono s h3
      | own xs => exact absurd rfl (hn xs)
      | st => exact ⟨by rw [hw]; exact h3.1, h3.2⟩
      | scr n =>
        obtain ⟨a, xs, h4, h5, h6⟩ := h3
        refine ⟨a, xs, h4, h5, ?_⟩
        rcases h6 with ⟨o, h6, h7⟩ | h6
        · exact .inl ⟨o, h6, fun z => h7 ⟨by rw [← hw]; exact z.1, z.2⟩⟩
        · exact .inr h6
    · rw [rst_out hi] at h
      obtain ⟨v, h2, h3⟩ := R.slot i sd h
      rw [wipe_get hi] at h2
      exact ⟨v, h2, h3⟩
  sep := fun i j xs ys a e1 e2 s1 s2 => by
    have no : ∀ (l : Nat) (zs : List PyData), (rst env0 env vs)[l]? = some (some (.own zs)) → l ∉ vs := fun l zs e hl => (rst_in hl e).2 zs rfl
    have n1 := no i xs e1
    have n2 := no j ys e2
    rw [rst_out n1] at e1
    rw [rst_out n2] at e2
    exact R.sep i j xs ys a e1 e2 (by rw [wipe_get n1]; exact s1) (by rw [wipe_get n2]; exact s2)
  st := R.st
  st0 := R.st0
  fr := R.fr
  gr := R.gr
def mYes : Tx := fun env w => some (true, env, w)
theorem tT_yes {K : PySem.W.Frag} {σ : L2.St} {H : Hp} {Q : Bool → Hp → Prop} (h : tT K mYes σ H Q) : tYes σ H Q := by
  obtain ⟨C, G, env, w, r, env', w', R, hm, k⟩ := h
  cases hm
  exact k G H R (Same.refl G) rfl
abbrev DTs (X : Cx) (es : List Expr) (m : Tx) : Prop := PTs X es (tT X.K m)
theorem dts_nil {X : Cx} : DTs X [] mYes := ⟨fun pins s σ H Q I h => pts_nil.run pins s σ H Q I (tT_yes h)⟩
theorem dts_one {X : Cx} {e : Expr} {m : Tx} (h : DT X e m) : DTs X [e] m := pts_one h
def lcLoop (g : Gx) (tt : Tx) (me : Ex) (vs : List Nat) : List PyData → List PyData → Ev → W → Option (List PyData × Ev × W)
  | [], acc, env, w => some (acc, env, w)
  | d :: ds, acc, env, w => match g d env with
    | some e1 => (match tt e1 w with
      | some (true, e2, w2) => (match me e2 w2 with
        | some (.d y, e3, w3) => lcLoop g tt me vs ds (acc ++ [y]) (wipeE e3 vs) w3
        | _ => none)
      | some (false, e2, w2) => lcLoop g tt me vs ds acc (wipeE e2 vs) w2
      | none => none)
    | none => none
def mLc (mi : Lx) (g : Gx) (tt : Tx) (me : Ex) (vs : List Nat) : Lx := fun env w => match mi env w with
  | some (ds, e1, w1) => (match lcLoop g tt me vs ds [] (wipeE e1 vs) w1 with
    | some (ys, e2, w2) => some (ys, rst e1 e2 vs, w2)
    | none => none)
  | none => none
theorem wipe_idem {σ : L2.St} : ∀ {vs : List Nat}, wipe (wipe σ vs) vs = wipe σ vs := by
  intro vs
  apply List.ext_getElem?
  intro i
  by_cases hi : i ∈ vs
  · have : ∀ (τ : L2.St) (us : List Nat), i ∈ us → (wipe τ us)[i]? = if i < τ.length then some none else none := by
      intro τ us
      induction us with
      | nil => intro h; simp at h
      | cons u us ih =>
        intro h
        unfold wipe
        by_cases hu : u = i
        · subst hu
          rw [List.getElem?_set]
          simp [wipe_length]
        · rw [List.getElem?_set_ne hu]
          apply ih
          rcases List.mem_cons.mp h with z | z
          · exact absurd z.symm hu
          · exact z
    rw [this _ _ hi, this _ _ hi, wipe_length]
  · rw [wipe_get hi]
theorem lc_O {K : PySem.W.Frag} {mi : Lx} {g : Gx} {tt : Tx} {me : Ex} {vs : List Nat} {σ : L2.St} {H : Hp} {Q : VK} (h : tO K (mLc mi g tt me vs) σ H Q) : tLc (iD K mi) (gD K vs g) (tT K tt) (tD K me) vs σ H Q := by
  obtain ⟨C, G, env, w, r, env', w', R, hm, k⟩ := h
  unfold mLc at hm
  split at hm
  · rename_i ds e1 w1 h1
    split at hm
    · rename_i ys e2 w2 h2
      cases hm
      refine ⟨C, G, env, w, _, _, _, R, h1, fun J G1 H1 R1 s1 i1 it D hD => ?_⟩
      have h0 : C.H0 D = none := R1.none0 hD
      have nmt : ¬ Mt C.ad w1 D := R1.not_Mt h0
      refine ⟨fun i m H2 => m = ds.length - i ∧ i ≤ ds.length ∧ ∃ G2 env2 w2 acc vacc, Rel K C env2 w2 (wipe σ vs) G2 H2 ∧ H2 D = some (.lst vacc) ∧ DqA K G2 vacc acc ∧ G2 D = none ∧ NoOwn env2 (wipe σ vs) D ∧ Same G1 G2 ∧ w2.isSome = w1.isSome ∧ acc.length ≤ i ∧
        lcLoop g tt me vs (ds.drop i) acc env2 w2 = some (r, e2, w'), ⟨ds.length, by simp, Nat.zero_le _, G1, wipeE e1 vs, w1, [], [], ?_⟩, ?_⟩
      · obtain ⟨R2, q1, q2, q3, q4⟩ := new_O (vs := []) (R1.wiped vs) hD
        exact ⟨R2, q1, .nil, q2, q4, Same.refl G1, rfl, by simp, by simpa using h2⟩
      · rintro i m H2 ⟨rfl, hi, G2, env2, w2', acc, vacc, R2, hD2, dA, gD2, no2, s2, i2, ha, hl⟩
        have hz := it.small
        by_cases hlt : i < ds.length
        · refine .inr ⟨it.go i G2 H2 hlt s2 R2.sub, fun H3 => ∃ G2 env2 w2 acc vacc, Rel K C env2 w2 (wipe σ vs) G2 H3 ∧ H3 D = some (.lst vacc) ∧ DqA K G2 vacc acc ∧ G2 D = none ∧ NoOwn env2 (wipe σ vs) D ∧ Same G1 G2 ∧ w2.isSome = w1.isSome ∧ acc.length ≤ i + 1 ∧
            lcLoop g tt me vs (ds.drop (i + 1)) acc env2 w2 = some (r, e2, w'), fun H' q => ⟨ds.length - (i + 1), by omega, rfl, hlt, q⟩, fun x H' y => ?_⟩
          obtain ⟨d, G3, hd, ex, dp⟩ := it.yld i G2 H2 x H' hlt s2 R2.sub y
          have hdrop : ds.drop i = d :: ds.drop (i + 1) := by
            rw [List.drop_eq_getElem_cons hlt]
            rw [List.getElem?_eq_getElem hlt] at hd
            cases hd
            rfl
          rw [hdrop] at hl
          simp only [lcLoop] at hl
          have R3 := R2.ext ex
          have hD3 : H' D = some (.lst vacc) := ex.hh _ _ hD2
          have gD3 : G3 D = none := (ex.old _ _ hD2).trans gD2
          have R3g := R3.grd (o := .lst vacc) hD3 gD3 h0 no2
          have no : ∀ ob u, HO.lst vacc ≠ .frz ob u := fun _ _ z => by cases z
          split at hl
          · rename_i e3 h3
            refine ⟨C.grd D (.lst vacc), G3, env2, w2', d, e3, R3g, dp, h3, fun σ4 R4 q4 => ⟨q4.trans wipe_idem, ?_⟩⟩
            have back : ∀ {env5 : Ev} {w5 : W} {G5 H5 : Hp}, Rel K (C.grd D (.lst vacc)) env5 w5 σ4 G5 H5 → w5.isSome = w2'.isSome → Rel K C (wipeE env5 vs) w5 (wipe σ vs) G5 H5 ∧ H5 D = some (.lst vacc) ∧ G5 D = none ∧ NoOwn (wipeE env5 vs) (wipe σ vs) D := fun {env5 w5 G5 H5} R5 i5 => by
              have i51 : w5.isSome = w1.isSome := i5.trans i2
              obtain ⟨R6, p1, p2, p3⟩ := R5.ungrd h0 no (fun z => nmt ⟨by rw [← i51]; exact z.1, z.2⟩) (fun z => R1.st0 (by rw [← i51]; exact z))
              have e4 : wipe σ4 vs = wipe σ vs := q4.trans wipe_idem
              have R7 := R6.wiped vs
              rw [e4] at R7
              refine ⟨R7, p1, p2, fun j ys ej sj => ?_⟩
              obtain ⟨z1, z2⟩ := wipeE_some ej
              rw [← e4, wipe_get z2] at sj
              exact p3 j ys z1 sj
            split at hl
            · rename_i e5 w5 h5
              split at hl
              · rename_i y5 e6 w6 h6
                refine ⟨C.grd D (.lst vacc), G3, e3, w2', _, _, _, R4, h5, fun G5 H5 R5 s5 i5 => ?_⟩
                refine iteT ⟨C.grd D (.lst vacc), G5, e5, w5, _, _, _, R5, h6, fun v G6 H6 R6 s6 i6 a6 => ?_⟩
                obtain ⟨R7, p1, p2, p3⟩ := back R6 (i6.trans i5)
                have hlen := dpA_len dA
                refine ⟨vacc, p1, by omega, G6, wipeE e6 vs, w6, acc ++ [y5], vacc ++ [v], ?_, upd_same, dpA_app (dpA_mono (ex.gg.trans (s5.trans s6)) dA) (.cons a6 .nil), p2, p3, s2.trans (ex.gg.trans (s5.trans s6)), i6.trans (i5.trans i2), by simp; omega, hl⟩
                -- the list at D has grown
                have hz6 : C.H0 D = none := h0
                refine ⟨fun b o e => ?_, R7.len, fun j sd e => ?_, R7.sep, fun s e => ?_, R7.st0, fun b o e m => ?_, R7.gr⟩
                · rw [upd_ne]
                  · exact R7.sub b o e
                  · rintro rfl
                    rw [p2] at e; cases e
                · obtain ⟨v', z1, z2⟩ := R7.slot j sd e
                  refine ⟨v', z1, ?_⟩
                  cases sd with
                  | d x => exact z2
                  | own zs =>
                    obtain ⟨b, ws, rfl, hb, hd', hg', h0'⟩ := z2
                    refine ⟨b, ws, rfl, ?_, hd', hg', h0'⟩
                    rw [upd_ne]
                    · exact hb
                    · rintro rfl
                      exact p3 j zs e z1
                  | st => exact z2
                  | scr n => exact z2
                · have q := R7.st s e
                  have ne := R7.own_ne hz6 (by rw [e]; rfl)
                  exact ⟨by rw [upd_ne ne.1.symm]; exact q.sa, by rw [upd_ne ne.2.1.symm]; exact q.la, by rw [upd_ne ne.2.2.symm]; exact q.ca, q.gs, q.gl, q.gc, q.ne⟩
                · rw [upd_ne]
                  · exact R7.fr b o e m
                  · rintro rfl
                    rw [hz6] at e; cases e
              · cases hl
            · rename_i e5 w5 h5
              refine ⟨C.grd D (.lst vacc), G3, e3, w2', _, _, _, R4, h5, fun G5 H5 R5 s5 i5 => iteF ?_⟩
              obtain ⟨R7, p1, p2, p3⟩ := back R5 i5
              exact ⟨G5, wipeE e5 vs, w5, acc, vacc, R7, p1, dpA_mono (ex.gg.trans s5) dA, p2, p3, s2.trans (ex.gg.trans s5), i5.trans i2, by omega, hl⟩
            · cases hl
          · cases hl
        · have e : i = ds.length := by omega
          refine .inl ⟨it.stop i G2 H2 e s2 R2.sub, ?_⟩
          rw [e, List.drop_length] at hl
          cases hl
          refine k D vacc G2 H2 (R1.unwiped R2 s2 i2) (s1.trans s2) (i2.trans i1) hD2 dA gD2 h0 fun j ys ej sj => ?_
          have nj : j ∉ vs := fun z => (rst_in z ej).2 ys rfl
          rw [rst_out nj] at ej
          exact no2 j ys ej (by rw [wipe_get nj]; exact sj)
    · cases hm
  · cases hm
theorem do_lc {X : Cx} {e : Expr} {mi : Lx} {g : Gx} {tt : Tx} {me : Ex} {vs : List Nat} (h : PE X e (tLc (iD X.K mi) (gD X.K vs g) (tT X.K tt) (tD X.K me) vs)) : DO X e (mLc mi g tt me vs) := PE.weak h fun _ _ _ h => lc_O h
/-- y = [..], y own or not -/
theorem ds_setLcO {X : Cx} {s : Stmt} {i : Nat} {mi : Lx} {g : Gx} {tt : Tx} {me : Ex} {vs : List Nat} (h : PS X s (tAsg (tLc (iD X.K mi) (gD X.K vs g) (tT X.K tt) (tD X.K me) vs) (gName i))) : DSt X s (mSetO i (mLc mi g tt me vs)) :=
  ds_setO (PS.weak h fun _ _ _ q => lc_O q)
theorem ds_setLc {X : Cx} {s : Stmt} {i : Nat} {mi : Lx} {g : Gx} {tt : Tx} {me : Ex} {vs : List Nat} (h : PS X s (tAsg (tLc (iD X.K mi) (gD X.K vs g) (tT X.K tt) (tD X.K me) vs) (gName i))) : DSt X s (mSet i (mFz (mLc mi g tt me vs))) :=
  ds_set (PS.weak h fun _ _ _ q => lc_O (do_fz q))

/-! ### a, b = x, y -/
def mPar (i j : Nat) (ma mb : Ex) : Sx := fun env w => match mCons ma (mCons mb mNil) env w with
  | some ([r1, r2], e1, w1) => some (.nx, (e1.set i (some r1)).set j (some r2), w1)
  | _ => none
theorem ds_par {X : Cx} {s : Stmt} {i j : Nat} {ma mb : Ex} (h : PS X s (tPar i j (tA X.K (mCons ma (mCons mb mNil))))) : DSt X s (mPar i j ma mb) := PS.weak h fun D σ H ⟨C, G, env, w, fl, env', w', R, hm, k⟩ => by
  unfold mPar at hm
  split at hm
  · rename_i r1 r2 e1 w1 h1
    cases hm
    refine ⟨C, G, env, w, _, _, _, R, h1, fun vs G1 H1 R1 s1 i1 a1 => ?_⟩
    cases a1 with
    | cons a1 b1 =>
      cases b1 with
      | cons a2 b2 =>
        cases b2
        exact ⟨_, _, rfl, k _ G1 H1 ((R1.set a1 i).set a2 j) s1 i1⟩
  · cases hm
def mPar3 (i j l : Nat) (ma mb mc : Ex) : Sx := fun env w => match mCons ma (mCons mb (mCons mc mNil)) env w with
  | some ([r1, r2, r3], e1, w1) => some (.nx, ((e1.set i (some r1)).set j (some r2)).set l (some r3), w1)
  | _ => none
theorem ds_par3 {X : Cx} {s : Stmt} {i j l : Nat} {ma mb mc : Ex} (h : PS X s (tPar3 i j l (tA X.K (mCons ma (mCons mb (mCons mc mNil)))))) : DSt X s (mPar3 i j l ma mb mc) := PS.weak h fun D σ H ⟨C, G, env, w, fl, env', w', R, hm, k⟩ => by
  unfold mPar3 at hm
  split at hm
  · rename_i r1 r2 r3 e1 w1 h1
    cases hm
    refine ⟨C, G, env, w, _, _, _, R, h1, fun vs G1 H1 R1 s1 i1 a1 => ?_⟩
    cases a1 with
    | cons a1 b1 =>
      cases b1 with
      | cons a2 b2 =>
        cases b2 with
        | cons a3 b3 =>
          cases b3
          exact ⟨_, _, _, rfl, k _ G1 H1 (((R1.set a1 i).set a2 j).set a3 l) s1 i1⟩
  · cases hm
/-- xs, b = [..], y: the first an own list -/
def mParO (i j : Nat) (ma : Lx) (mb : Ex) : Sx := fun env w => match ma env w with
  | some (xs, e1, w1) => (match mb e1 w1 with
    | some (r, e2, w2) => some (.nx, (e2.set i (some (.own xs))).set j (some r), w2)
    | none => none)
  | none => none
theorem ds_parO {X : Cx} {s : Stmt} {i j : Nat} {ma : Lx} {mb : Ex} (h : PS X s (tPar i j (tCons (tO X.K ma) (tCons (tD X.K mb) tNil)))) : DSt X s (mParO i j ma mb) := PS.weak h fun D σ H ⟨C, G, env, w, fl, env', w', R, hm, k⟩ => by
  unfold mParO at hm
  split at hm
  · rename_i xs e1 w1 h1
    split at hm
    · rename_i r e2 w2 h2
      cases hm
      refine ⟨C, G, env, w, _, _, _, R, h1, fun a vs G1 H1 R1 s1 i1 ha hd hg h0 hne => ?_⟩
      have no : ∀ ob u, HO.lst vs ≠ .frz ob u := fun _ _ z => by cases z
      refine ⟨C.grd a (.lst vs), G1, e1, w1, _, _, _, R1.grd ha hg h0 hne, h2, fun v G2 H2 R2 s2 i2 a2 => ?_⟩
      obtain ⟨R3, p1, p2, p3⟩ := R2.ungrd h0 no (fun z => R1.not_Mt h0 ⟨by rw [← i2]; exact z.1, z.2⟩) (fun z => R1.st0 (by rw [← i2]; exact z))
      refine ⟨_, _, rfl, k _ G2 H2 ((R3.setO p1 (dpA_mono s2 hd) p2 h0 p3 i).set ?_ j) (s1.trans s2) (i2.trans i1)⟩
      exact a2
    · cases hm
  · cases hm
/-- x op= e -/
def mAug (g : PyData → PyData → Option PyData) (i : Nat) (m : Ex) : Sx := fun env w => match env[i]? with
  | some (some (.d x)) => seqE m (fun y e1 w1 => match g x y with
    | some z => some (.nx, e1.set i (some (.d z)), w1)
    | none => none) env w
  | _ => none
theorem ds_aug {X : Cx} {s : Stmt} {i : Nat} {m : Ex} {op : Operator} {g : PyData → PyData → Option PyData} (ho : OpD X (inplaceOp op) g) (h : PS X s (tAug i (tD X.K m) (rSem X (inplaceOp op)))) : DSt X s (mAug g i m) := PS.weak h fun D σ H ⟨C, G, env, w, fl, env', w', R, hm, k⟩ => by
  unfold mAug at hm
  split at hm
  · rename_i x h0
    obtain ⟨y, e1, w1, h1, hm⟩ := seqE_inv hm
    split at hm
    · rename_i z h2
      cases hm
      obtain ⟨v, q1, q2⟩ := R.slot i _ h0
      refine ⟨v, q1, C, G, env, w, _, _, _, R, h1, fun u G1 H1 R1 s1 i1 a1 => ?_⟩
      intro pins s σ' vv uu I rx ry
      exact ho pins s σ' G1 H1 v u vv uu x y z _ I rx ry R1.sub (dp_mono s1 q2) a1 h2 fun zz G' H' e dz => k _ G' H' ((R1.ext e).set (r := .d z) dz i) (s1.trans e.gg) i1
    · cases hm
  · cases hm
theorem oi_addI {X : Cx} : OpD X (inplaceOp .Add) addI := opD_int0 iop_add fun _ _ _ => .int _
theorem oi_sub {X : Cx} : OpD X (inplaceOp .Sub) subI := opD_int0 iop_sub fun _ _ _ => .int _
theorem oi_addS {X : Cx} : OpD X (inplaceOp .Add) addS := opD_of iop_add_str fun G H x y dx dy dz Q sg hx hy hz k => by
  unfold addS at hz
  split at hz
  · split at hz
    · rename_i hl
      cases hz
      cases hx
      cases hy
      exact ⟨_, _, rfl, rfl, hl, k _ G H (Ext.refl sg) (.str _)⟩
    · cases hz
  · cases hz
end Dn

set_option maxHeartbeats 4000000
/-! Dn5: methods of texts, isinstance, star displays, f-strings, list(), further targets. -/
namespace Dn
open PySem PySem.Spec PyProof.Rows L2

/-! ### methods -/
def MtD (X : Cx) (id : String) (g : PyData → List PyData → Option PyData) : Prop :=
  ∀ (pins : List (Addr × Obj)) (s : Shared) (σ : L2.St) (G H : Hp) (x : V) (v : Value) (xs : List V) (us : List Value) (dx : PyData) (ds : List PyData) (dz : PyData) (Q : VK), Inv X pins σ H s → RelV x v → Vals xs us → Same G H → Dq X.K G x dx → DqA X.K G xs ds → g dx ds = some dz →
    (∀ z G' H', Ext G H G' H' → Dq X.K G' z dz → Q z H') → wpAny (model X.prog X.w) X.A (call (.builtin id) (v :: us)) (EP X pins σ Q) X.xe s
def rSemM (X : Cx) (id : String) : V → List V → Hp → VK → Prop := fun x xs H Q => ∀ (pins : List (Addr × Obj)) (s : Shared) (σ : L2.St) (v : Value) (us : List Value), Inv X pins σ H s → RelV x v → Vals xs us → wpAny (model X.prog X.w) X.A (call (.builtin id) (v :: us)) (EP X pins σ Q) X.xe s
theorem mt_sem {X : Cx} {id : String} : MtR X id (rSemM X id) := fun pins s σ H x xs v us Q I rx r h => h pins s σ v us I rx r
theorem mtD_of {X : Cx} {id : String} {g : PyData → List PyData → Option PyData} {r : V → List V → Hp → VK → Prop} (h : MtR X id r)
    (k : ∀ (G H : Hp) (x : V) (xs : List V) (dx : PyData) (ds : List PyData) (dz : PyData) (Q : VK), Same G H → Dq X.K G x dx → DqA X.K G xs ds → g dx ds = some dz → (∀ z G' H', Ext G H G' H' → Dq X.K G' z dz → Q z H') → r x xs H Q) : MtD X id g :=
  fun pins s σ G H x v xs us dx ds dz Q I rx r sg hx hs hg q => h pins s σ H x xs v us Q I rx r (k G H x xs dx ds dz Q sg hx hs hg q)
/-- a text's method -/
def mMtS (g : PyData → List PyData → Option PyData) (mo : Ex) (ms : Ax) : Ex := seqE mo fun x env w => match x with
  | .str _ => argsD ms (fun ds => optE (g x ds)) env w
  | _ => none
theorem mtS_run {X : Cx} {id : String} {g : PyData → List PyData → Option PyData} {mo : Ex} {ms : Ax} (hc : MtD X id g) {σ : L2.St} {H : Hp} {Q : VK} (h : tD X.K (mMtS g mo ms) σ H Q) : tBM X.K "str" (rSemM X id) (tD X.K mo) (tA X.K ms) σ H Q := by
  obtain ⟨C, G, env, w, r, env', w', R, hm, k⟩ := h
  obtain ⟨x, e1, w1, h1, hm⟩ := seqE_inv hm
  split at hm
  · obtain ⟨rs, ds, e2, w2, h2, h3, hm⟩ := argsD_inv hm
    obtain ⟨z, h4, rfl, rfl, rfl⟩ := optE_inv hm
    refine ⟨C, G, env, w, _, _, _, R, h1, fun v G1 H1 R1 s1 i1 a1 => ?_⟩
    cases a1 with
    | str =>
      refine ⟨rfl, C, G1, e1, w1, _, _, _, R1, h2, fun vs G2 H2 R2 s2 i2 a2 => ?_⟩
      intro pins s σ' v us I rx r
      exact hc pins s σ' G2 H2 _ v vs us _ ds z Q I rx r R2.sub (.str _) (dsOf_ok a2 h3) h4 fun zz G' H' e dz => k zz G' H' (R2.ext e) (s1.trans (s2.trans e.gg)) (i2.trans i1) dz
  · cases hm
section
variable {X : Cx} {o e : Expr} {es : List Expr} {mo : Ex} {ms : Ax} {name : Str} {apos cpos : Pos} {id : String} {g : PyData → List PyData → Option PyData}
theorem de_mtS (slot : Slot "str" name id) (hty : typeOf (.builtin id) = pure (.type "method_descriptor")) (hm : MtD X id g) (ho : DE X o mo) (ha : DA X (e :: es) ms)
    (hbase : attributeBase o name X.env (eval o X.env) = eval o X.env := by rfl)
    (hfew : ((backTo cpos (starEach (e :: es) X.env)).all (fun x => !x.1) && (backToKw cpos (keywordEach [] X.env)).all (fun x => x.1.isSome)
      && decide ((e :: es).length + ([] : List Keyword).length + (if ([] : List Keyword).isEmpty then 0 else 1) < 30)) = true := by rfl)
    (hline : (apos.endLine == cpos.line) = true := by rfl) (hs : starEach (e :: es) X.env = (false, eval e X.env) :: starEach es X.env := by rfl) (hplain : (backTo cpos (starEach es X.env)).any (·.1) = false := by rfl) :
    DE X (.Call (.Attribute o name apos) (e :: es) [] cpos) (mMtS g mo ms) := PE.weak (pe_bm PySem.F.plainAttrs_str slot hty mt_sem ho ha hbase hfew hline hs hplain) fun _ _ _ h => mtS_run hm h
def s1b (f : Str → Str → Bool) : PyData → List PyData → Option PyData
  | .str a, [.str b] => some (.bool (f a b))
  | _, _ => none
theorem s1b_inv {f : Str → Str → Bool} {x z : PyData} {ds : List PyData} (h : s1b f x ds = some z) : ∃ a b, x = .str a ∧ ds = [.str b] ∧ z = .bool (f a b) := by
  unfold s1b at h
  split at h
  · cases h; exact ⟨_, _, rfl, rfl, rfl⟩
  · cases h
def startsD : PyData → List PyData → Option PyData := s1b Txt.startswith
def endsD : PyData → List PyData → Option PyData := s1b Txt.endswith
theorem md_starts : MtD X "str.startswith" startsD := mtD_of mt_startswith fun G H x xs dx ds dz Q sg hx hs hg k => by
  obtain ⟨a, b, rfl, rfl, rfl⟩ := s1b_inv hg
  obtain ⟨v, rfl, h⟩ := dqA1 hs
  cases hx; cases h
  exact ⟨_, _, rfl, rfl, k _ G H (Ext.refl sg) (.bl _)⟩
theorem md_ends : MtD X "str.endswith" endsD := mtD_of mt_endswith fun G H x xs dx ds dz Q sg hx hs hg k => by
  obtain ⟨a, b, rfl, rfl, rfl⟩ := s1b_inv hg
  obtain ⟨v, rfl, h⟩ := dqA1 hs
  cases hx; cases h
  exact ⟨_, _, rfl, rfl, k _ G H (Ext.refl sg) (.bl _)⟩
def starts2D : PyData → List PyData → Option PyData
  | .str a, [.str b, .int i] => some (.bool (Txt.startswith3 a b i))
  | _, _ => none
theorem md_starts2 : MtD X "str.startswith" starts2D := mtD_of mt_startswith3 fun G H x xs dx ds dz Q sg hx hs hg k => by
  unfold starts2D at hg
  split at hg
  · cases hg
    obtain ⟨v, u, rfl, h, h'⟩ := dqA2 hs
    cases hx; cases h; cases h'
    exact ⟨_, _, _, rfl, rfl, k _ G H (Ext.refl sg) (.bl _)⟩
  · cases hg
/-- texts out of data -/
def strsOf : List PyData → Option (List Str)
  | [] => some []
  | .str x :: r => (strsOf r).map (x :: ·)
  | _ :: _ => none
theorem strsOf_ok {K : PySem.W.Frag} {G : Hp} : ∀ {vs : List V} {ds : List PyData} {ys : List Str}, DqA K G vs ds → strsOf ds = some ys → vs = ys.map V.str
  | _, _, _, .nil, h => by cases h; rfl
  | _, .str x :: r, ys, .cons a b, h => by
    simp only [strsOf] at h
    cases e : strsOf r with
    | none => rw [e] at h; cases h
    | some zs =>
      rw [e] at h
      cases h
      cases a
      rw [strsOf_ok b e]
      rfl
  | _, .none :: _, _, .cons _ _, h => by cases h
  | _, .bool _ :: _, _, .cons _ _, h => by cases h
  | _, .int _ :: _, _, .cons _ _, h => by cases h
  | _, .list _ :: _, _, .cons _ _, h => by cases h
  | _, .tuple _ :: _, _, .cons _ _, h => by cases h
  | _, .dict _ :: _, _, .cons _ _, h => by cases h
def joinFits (a : Str) (ys : List Str) : Bool := decide ((ys.map (·.length)).sum + ys.length * a.length ≤ 16777216)
def joinD : PyData → List PyData → Option PyData
  | .str a, [x] => (match itemsD x with
    | some ds => (match strsOf ds with
      | some ys => if joinFits a ys then some (.str (Txt.join a ys)) else none
      | none => none)
    | none => none)
  | _, _ => none
theorem md_join : MtD X "str.join" joinD := mtD_of mt_join fun G H x xs dx ds dz Q sg hx hs hg k => by
  unfold joinD at hg
  split at hg
  · split at hg
    · rename_i es h1
      split at hg
      · rename_i ys h2
        split at hg
        · rename_i h3
          cases hg
          obtain ⟨v, rfl, h⟩ := dqA1 hs
          cases hx
          have hz := of_decide_eq_true h3
          cases h with
          | lst q a =>
            cases h1
            have e := strsOf_ok a h2
            subst e
            exact ⟨_, _, ys, rfl, rfl, .inl (SqL.of (sg _ _ q)), hz, k _ G H (Ext.refl sg) (.str _)⟩
          | tup q a =>
            cases h1
            have e := strsOf_ok a h2
            subst e
            exact ⟨_, _, ys, rfl, rfl, .inr (Same.sqT sg q), hz, k _ G H (Ext.refl sg) (.str _)⟩
          | _ => cases h1
        · cases hg
      · cases hg
    · cases hg
  · cases hg
def splitD : PyData → List PyData → Option PyData
  | .str a, [.str b] => if (b.length == 0) = false ∧ a.length + 2 ≤ sizeLine then some (.list ((Txt.split a b).map .str)) else none
  | _, _ => none
theorem md_split : MtD X "str.split" splitD := mtD_of mt_split fun G H x xs dx ds dz Q sg hx hs hg k => by
  unfold splitD at hg
  split at hg
  · split at hg
    · rename_i hl
      cases hg
      obtain ⟨v, rfl, h⟩ := dqA1 hs
      cases hx; cases h
      refine ⟨_, _, rfl, rfl, hl.1, hl.2, fun p hp => ?_⟩
      obtain ⟨ex, dq⟩ := ext_lst (K := X.K) sg hp (dpA_strs _)
      exact k _ _ _ ex dq
    · cases hg
  · cases hg
def partD : PyData → List PyData → Option PyData
  | .str a, [.str b] => if (b.length == 0) = false ∧ a.length ≤ sizeLine then some (.tuple [.str (Txt.partition a b).1, .str (Txt.partition a b).2.1, .str (Txt.partition a b).2.2]) else none
  | _, _ => none
theorem md_part : MtD X "str.partition" partD := mtD_of mt_partition fun G H x xs dx ds dz Q sg hx hs hg k => by
  unfold partD at hg
  split at hg
  · split at hg
    · rename_i hl
      cases hg
      obtain ⟨v, rfl, h⟩ := dqA1 hs
      cases hx; cases h
      refine ⟨_, _, rfl, rfl, hl.1, hl.2, fun p hp => ?_⟩
      obtain ⟨ex, dq⟩ := ext_tup (K := X.K) sg hp (DqA.cons (Dq.str (Txt.partition _ _).1) (.cons (.str (Txt.partition _ _).2.1) (.cons (.str (Txt.partition _ _).2.2) .nil)))
      exact k _ _ _ ex dq
    · cases hg
  · cases hg
def rpart (a b : Str) : Str × Str × Str := match Builtin.Str.lastOccurrence a b 0 a.length with
  | some i => (Builtin.Str.strSub a 0 i, b, Builtin.Str.strSub a (i + b.length) a.length)
  | none => (Str.empty, Str.empty, a)
def rpartD : PyData → List PyData → Option PyData
  | .str a, [.str b] => if (b.length == 0) = false ∧ a.length ≤ sizeLine then some (.tuple [.str (rpart a b).1, .str (rpart a b).2.1, .str (rpart a b).2.2]) else none
  | _, _ => none
theorem mt_rpartition : MtR X "str.rpartition" (fun x xs H Q => ∃ a b, x = .str a ∧ xs = [.str b] ∧ (b.length == 0) = false ∧ a.length ≤ sizeLine ∧
    ∀ p, H p = none → Q (.ref p) (upd H p (.tup [.str (rpart a b).1, .str (rpart a b).2.1, .str (rpart a b).2.2]))) := by
  intro pins s σ H x xs v us Q I rx rs h
  obtain ⟨a, b, rfl, rfl, hb, hz, h⟩ := h
  obtain ⟨t, rfl⟩ := rx
  cases rs with
  | cons r1 rs =>
    cases rs
    obtain ⟨u, rfl⟩ := r1
    refine call_meets F.slot_str_rpartition (typeIs_str _ _ _) F.entry_str_rpartition (F.args_str_rpartition_2 _ _) (meets_str_rpartition a b t u hb hz) ?_
    unfold rpart at h
    revert h
    cases Builtin.Str.lastOccurrence a b 0 a.length with
    | none => intro h; exact laid_parts I h
    | some i => intro h; exact laid_parts I h
theorem md_rpart : MtD X "str.rpartition" rpartD := mtD_of mt_rpartition fun G H x xs dx ds dz Q sg hx hs hg k => by
  unfold rpartD at hg
  split at hg
  · split at hg
    · rename_i hl
      cases hg
      obtain ⟨v, rfl, h⟩ := dqA1 hs
      cases hx; cases h
      refine ⟨_, _, rfl, rfl, hl.1, hl.2, fun p hp => ?_⟩
      obtain ⟨ex, dq⟩ := ext_tup (K := X.K) sg hp (DqA.cons (Dq.str (rpart _ _).1) (.cons (.str (rpart _ _).2.1) (.cons (.str (rpart _ _).2.2) .nil)))
      exact k _ _ _ ex dq
    · cases hg
  · cases hg
end

/-! ### T.index(e), T a tuple of texts of the module -/
def idxOf (z : Str) : List Str → Nat → Option Nat
  | [], _ => none
  | y :: r, n => if y = z then some n else idxOf z r (n + 1)
theorem idxOf_ok {z : Str} : ∀ {ys : List Str} {n j : Nat}, idxOf z ys n = some j → n ≤ j ∧ ys[j - n]? = some z ∧ ∀ m, m < j - n → ys[m]? ≠ some z
  | [], _, _, h => by cases h
  | y :: r, n, j, h => by
    unfold idxOf at h
    split at h
    · rename_i e
      cases h
      subst e
      refine ⟨Nat.le_refl _, by simp, fun m hm => ?_⟩
      omega
    · rename_i e
      obtain ⟨h1, h2, h3⟩ := idxOf_ok h
      have hj : j - n = (j - (n + 1)) + 1 := by omega
      refine ⟨by omega, by rw [hj]; simpa using h2, fun m hm => ?_⟩
      cases m with
      | zero => intro q; simp at q; exact e q
      | succ m => intro q; exact h3 m (by omega) (by simpa using q)
def idxD (ys : List Str) (ds : List PyData) : Option PyData := match ds with
  | [.str z] => (idxOf z ys 0).map fun (j : Nat) => .int j
  | _ => none
/-- a tuple of texts of the module -/
structure GTup (K : PySem.W.Frag) (mg : Str → Option Value) (x : Str) (ys : List Str) : Prop where
  ex : ∃ a, mg x = some (.ref a) ∧ (∀ H, SqT K H a (ys.map V.str)) ∧ ∃ o, K.lookup a = some o ∧ o.cls = .type "tuple" ∧ o.dict = none
theorem de_gtup {X : Cx} {x : Str} {ys : List Str} {pos : Pos} (h : GTup X.K X.mg x ys) (hg : Gl X x := by rfl) (hd : (x == ("__debug__" : Str)) = false := by decide) : DE X (.Name x pos) (mC (.tuple (ys.map .str))) := by
  obtain ⟨a, h1, h2, _⟩ := h.ex
  exact de_c (pe_glob (v := .ref a) hg h1 rfl hd) fun G => .tup (h2 G) (dpA_strs ys)
theorem de_gidx {X : Cx} {x : Str} {ys : List Str} {e : Expr} {ms : Ax} {pos apos cpos : Pos} (h : GTup X.K X.mg x ys) (ha : DA X [e] ms) (hg : Gl X x := by rfl) (hd : (x == ("__debug__" : Str)) = false := by decide)
    (hbase : attributeBase (.Name x pos) "index" X.env (eval (.Name x pos) X.env) = eval (.Name x pos) X.env := by rfl)
    (hfew : ((backTo cpos (starEach [e] X.env)).all (fun x => !x.1) && (backToKw cpos (keywordEach [] X.env)).all (fun x => x.1.isSome)
      && decide ([e].length + ([] : List Keyword).length + (if ([] : List Keyword).isEmpty then 0 else 1) < 30)) = true := by rfl)
    (hline : (apos.endLine == cpos.line) = true := by rfl) (hs : starEach [e] X.env = (false, eval e X.env) :: starEach [] X.env := by rfl) (hplain : (backTo cpos (starEach [] X.env)).any (·.1) = false := by rfl) :
    DE X (.Call (.Attribute (.Name x pos) "index" apos) [e] [] cpos) (mB (idxD ys) ms) := by
  obtain ⟨a, h1, h2, o, h3, h4, h5⟩ := h.ex
  refine PE.weak (pe_bm PySem.F.plainAttrs_tuple PySem.F.slot_tuple_index PySem.F.type_tuple_index mt_tup_index (pe_glob (v := .ref a) hg h1 rfl hd) ha hbase hfew hline hs hplain) fun σ H Q ⟨C, G, env, w, r, env', w', R, hm, k⟩ => ?_
  obtain ⟨rs, ds, e1, w1, q1, q2, hm⟩ := argsD_inv hm
  obtain ⟨z, q3, rfl, rfl, rfl⟩ := optE_inv hm
  refine ⟨.inr (.inl ⟨rfl, o, h3, h4, h5⟩), C, G, env, w, _, _, _, R, q1, fun vs G1 H1 R1 s1 i1 a1 => ?_⟩
  have dA := dsOf_ok a1 q2
  unfold idxD at q3
  split at q3
  · rename_i zz
    cases e : idxOf zz ys 0 with
    | none => rw [e] at q3; cases q3
    | some j =>
      rw [e] at q3
      cases q3
      obtain ⟨v, rfl, dv⟩ := dqA1 dA
      cases dv
      obtain ⟨_, p2, p3⟩ := idxOf_ok e
      exact ⟨a, ys, zz, j, rfl, rfl, h2 H1, by simpa using p2, by simpa using p3, k _ G1 H1 R1 s1 i1 (show Dq X.K _ _ _ from .int _)⟩
  · cases q3

/-! ### isinstance(e, str), isinstance(e, tuple) -/
def tyN : PyData → String
  | .none => "NoneType"
  | .bool _ => "bool"
  | .int _ => "int"
  | .str _ => "str"
  | .list _ => "list"
  | .tuple _ => "tuple"
  | .dict _ => "dict"
def isStr : PyData → Bool
  | .str _ => true
  | _ => false
def isTup : PyData → Bool
  | .tuple _ => true
  | _ => false
theorem ty_of {K : PySem.W.Frag} {G H : Hp} {v : V} {d : PyData} (s : Same G H) (h : Dq K G v d) : TyX K H v (.type (tyN d)) := by
  cases h with
  | non => exact .base .non
  | bl b => exact .base (.bl b)
  | int i => exact .base (.int i)
  | str x => exact .base (.str x)
  | lst h a => exact .base (.lst (s _ _ h))
  | tup h a =>
    rcases h with (h | ⟨o, h⟩) | ⟨o, its, n, h1, h2, _⟩
    · exact .base (.tup (s _ _ h))
    · exact .fTuple (s _ _ h)
    · exact .kTuple h1 h2
def mIs (f : PyData → Bool) (m : Ex) : Ex := seqE m fun x => optE (some (.bool (f x)))
theorem de_is {X : Cx} {a : Expr} {m : Ex} {p p2 pos : Pos} {f : PyData → Bool} {T : String} {x : Str} (ha : DE X a m) (hf : ∀ K G v d, Dq K G v d → kitB (tyN d) T = some (f d)) (hm : X.mg "isinstance" = none) (hx : X.mg x = none) (hv : bootBuiltins x = some (.type T)) (hg : Gl X "isinstance" := by rfl) (hgx : Gl X x := by rfl)
    (hn : x ≠ "__name__" := by decide) (hdb : (x == ("__debug__" : Str)) = false := by decide) (hs : starEach [a, .Name x p2] X.env = (false, eval a X.env) :: starEach [.Name x p2] X.env := by rfl) :
    DE X (.Call (.Name "isinstance" p) [a, .Name x p2] [] pos) (mIs f m) := PE.weak (pe_callB call_isi hg hm (by decide +kernel) (pa_cons ha (pa_cons (pe_bltn (v := .ty T) hgx hx hv rfl hn hdb) pa_nil) hs) (he := hs)) fun σ H Q ⟨C, G, env, w, r, env', w', R, hm, k⟩ => by
  obtain ⟨y, e1, w1, h1, hm⟩ := seqE_inv hm
  obtain ⟨z, h3, rfl, rfl, rfl⟩ := optE_inv hm
  cases h3
  refine ⟨C, G, env, w, _, _, _, R, h1, fun v G1 H1 R1 s1 i1 a1 => ?_⟩
  exact ⟨v, .ty T, _, _, f y, rfl, .ty T, ty_of R1.sub a1, kit_ty (hf _ _ _ _ a1), k _ G1 H1 R1 s1 i1 (show Dq X.K _ _ _ from .bl _)⟩
theorem kit_str : ∀ (K : PySem.W.Frag) (G : Hp) (v : V) (d : PyData), Dq K G v d → kitB (tyN d) "str" = some (isStr d) := fun K G v d h => by
  cases h with
  | non => decide +kernel
  | bl b => exact (by decide +kernel : kitB "bool" "str" = some false)
  | int i => exact (by decide +kernel : kitB "int" "str" = some false)
  | str x => exact (by decide +kernel : kitB "str" "str" = some true)
  | lst h a => exact (by decide +kernel : kitB "list" "str" = some false)
  | tup h a => exact (by decide +kernel : kitB "tuple" "str" = some false)
theorem kit_tup : ∀ (K : PySem.W.Frag) (G : Hp) (v : V) (d : PyData), Dq K G v d → kitB (tyN d) "tuple" = some (isTup d) := fun K G v d h => by
  cases h with
  | non => decide +kernel
  | bl b => exact (by decide +kernel : kitB "bool" "tuple" = some false)
  | int i => exact (by decide +kernel : kitB "int" "tuple" = some false)
  | str x => exact (by decide +kernel : kitB "str" "tuple" = some false)
  | lst h a => exact (by decide +kernel : kitB "list" "tuple" = some false)
  | tup h a => exact (by decide +kernel : kitB "tuple" "tuple" = some true)

/-! ### (a, *b) -/
def mStar (m : Ex) (ms : Ax) : Ax := seqE m fun x env w => match itemsD x with
  | some ds => (match ms env w with
    | some (rs, e2, w2) => some (ds.map SD.d ++ rs, e2, w2)
    | none => none)
  | none => none
theorem args_of {K : PySem.W.Frag} {ad : Ad} {w : W} {G : Hp} : ∀ {vs : List V} {ds : List PyData}, DqA K G vs ds → ArgsOk K ad w G (ds.map SD.d) vs
  | _, _, .nil => .nil
  | _, _, .cons a b => .cons a (args_of b)
theorem ArgsOk.app {K : PySem.W.Frag} {ad : Ad} {w : W} {G : Hp} : ∀ {vs us : List V} {rs qs : List SD}, ArgsOk K ad w G rs vs → ArgsOk K ad w G qs us → ArgsOk K ad w G (rs ++ qs) (vs ++ us)
  | _, _, _, _, .nil, h => h
  | _, _, _, _, .cons a b, h => .cons a (b.app h)
theorem da_star {X : Cx} {e : Expr} {es : List Expr} {m : Ex} {ms : Ax} {p : Pos} (he : DE X e m) (hr : DA X es ms) (hs : starEach (.Starred e p :: es) X.env = (true, eval e X.env) :: starEach es X.env := by rfl) : DA X (.Starred e p :: es) (mStar m ms) :=
  PA.weak (StX.pa_star he hr hs) fun σ H Q ⟨C, G, env, w, r, env', w', R, hm, k⟩ => by
  obtain ⟨x, e1, w1, h1, hm⟩ := seqE_inv hm
  split at hm
  · rename_i ds h2
    split at hm
    · rename_i rs e2 w2 h3
      cases hm
      refine ⟨C, G, env, w, _, _, _, R, h1, fun v G1 H1 R1 s1 i1 a1 => ?_⟩
      have fin : ∀ {vs : List V}, DqA X.K G1 vs ds → ∀ us G2 H2, Rel X.K C env' w' σ G2 H2 → Same G1 G2 → Option.isSome w' = Option.isSome w1 → ArgsOk X.K C.ad w' G2 rs us → Q (vs ++ us) H2 := fun {vs} dA us G2 H2 R2 s2 i2 a2 =>
        k _ G2 H2 R2 (s1.trans s2) (i2.trans i1) ((args_of (dpA_mono s2 dA)).app a2)
      cases a1 with
      | lst q a => cases h2; exact ⟨_, _, rfl, .inr (SqL.of (R1.sub _ _ q)), C, G1, e1, w1, _, _, _, R1, h3, fin a⟩
      | tup q a => cases h2; exact ⟨_, _, rfl, .inl (Same.sqT R1.sub q), C, G1, e1, w1, _, _, _, R1, h3, fin a⟩
      | _ => cases h2
    · cases hm
  · cases hm

/-! ### f-strings -/
def fmtD : PyData → Option PyData
  | .str y => if y.length ≤ sizeLine then some (.str y) else none
  | .int i => if i.natAbs.log2 < 1920 then some (.str (toString i)) else none
  | _ => none
def mFmt (m : Ex) : Ex := seqE m fun x => optE (fmtD x)
theorem de_fmt {X : Cx} {e : Expr} {m : Ex} {pos : Pos} (h : DE X e m) : DE X (.FormattedValue e (-1) none pos) (mFmt m) := PE.weak (pe_fmt h) fun σ H Q ⟨C, G, env, w, r, env', w', R, hm, k⟩ => by
  obtain ⟨y, e1, w1, h1, hm⟩ := seqE_inv hm
  obtain ⟨z, h3, rfl, rfl, rfl⟩ := optE_inv hm
  refine ⟨C, G, env, w, _, _, _, R, h1, fun v G1 H1 R1 s1 i1 a1 => ?_⟩
  unfold fmtD at h3
  split at h3
  · split at h3
    · rename_i hl
      cases h3
      cases a1
      exact .inl ⟨_, rfl, hl, k _ G1 H1 R1 s1 i1 (show Dq X.K _ _ _ from .str _)⟩
    · cases h3
  · split at h3
    · rename_i hl
      cases h3
      cases a1
      exact .inr ⟨_, rfl, hl, k _ G1 H1 R1 s1 i1 (show Dq X.K _ _ _ from .str _)⟩
    · cases h3
  · cases h3
def mJs : List Ex → Str → Ex
  | [], acc => fun env w => some (.d (.str acc), env, w)
  | m :: ms, acc => seqE m fun x env w => match x with
    | .str y => if (acc ++ y).length ≤ sizeLine then mJs ms (acc ++ y) env w else none
    | _ => none
inductive DJ (X : Cx) : List Expr → List Ex → Prop where
  | nil : DJ X [] []
  | cons {e : Expr} {m : Ex} {es : List Expr} {ms : List Ex} (h : DE X e m) (r : DJ X es ms) : DJ X (e :: es) (m :: ms)
theorem DJ.pj {X : Cx} {es : List Expr} {ms : List Ex} (h : DJ X es ms) : PJ X es (ms.map (tD X.K)) := by
  induction h with
  | nil => exact .nil
  | cons h _ ih => exact .cons h ih
theorem js_run {K : PySem.W.Frag} : ∀ (ms : List Ex) (acc : Str) (σ : L2.St) (H : Hp) (Q : VK), tD K (mJs ms acc) σ H Q → tJs (ms.map (tD K)) acc σ H fun out H1 => Q (.str out) H1
  | [], acc, σ, H, Q, ⟨C, G, env, w, r, env', w', R, hm, k⟩ => by
    cases hm
    exact k _ G H R (Same.refl G) rfl (show Dq K _ _ _ from .str _)
  | m :: ms, acc, σ, H, Q, ⟨C, G, env, w, r, env', w', R, hm, k⟩ => by
    obtain ⟨y, e1, w1, h1, hm⟩ := seqE_inv hm
    split at hm
    · split at hm
      · rename_i hl
        refine ⟨C, G, env, w, _, _, _, R, h1, fun v G1 H1 R1 s1 i1 a1 => ?_⟩
        cases a1
        exact ⟨_, rfl, hl, js_run ms _ σ H1 Q ⟨C, G1, e1, w1, r, env', w', R1, hm, fun v G2 H2 R2 s2 i2 a2 => k v G2 H2 R2 (s1.trans s2) (i2.trans i1) a2⟩⟩
      · cases hm
    · cases hm
theorem de_js {X : Cx} {v1 v2 : Expr} {rest : List Expr} {ms : List Ex} {pos : Pos} (h : DJ X (v1 :: v2 :: rest) ms) : DE X (.JoinedStr (v1 :: v2 :: rest) pos) (mJs ms Str.empty) := PE.weak (pe_joined h.pj) fun σ H Q q => js_run ms Str.empty σ H Q q

/-! ### a and b, a or b as values: a a bool -/
def mAndV (ma mb : Ex) : Ex := seqE ma fun x env w => match x with
  | .bool true => mb env w
  | .bool false => some (.d (.bool false), env, w)
  | _ => none
def mOrV (ma mb : Ex) : Ex := seqE ma fun x env w => match x with
  | .bool true => some (.d (.bool true), env, w)
  | .bool false => mb env w
  | _ => none
section
variable {X : Cx} {a b : Expr} {ma mb : Ex} {pos : Pos} {rest : List Expr}
theorem de_one {op : BoolOp} (h : DE X a ma) : DE X (.BoolOp op [a] pos) ma := pe_one h
theorem de_and (ha : DE X a ma) (hb : DE X (.BoolOp .And (b :: rest) pos) mb) : DE X (.BoolOp .And (a :: b :: rest) pos) (mAndV ma mb) := PE.weak (pe_and ha hb) fun σ H Q ⟨C, G, env, w, r, env', w', R, hm, k⟩ => by
  obtain ⟨x, e1, w1, h1, hm⟩ := seqE_inv hm
  refine ⟨C, G, env, w, _, _, _, R, h1, fun v G1 H1 R1 s1 i1 a1 => ?_⟩
  split at hm
  · cases a1
    exact ⟨true, rfl, iteT ⟨C, G1, e1, w1, r, env', w', R1, hm, fun v G2 H2 R2 s2 i2 a2 => k v G2 H2 R2 (s1.trans s2) (i2.trans i1) a2⟩⟩
  · cases a1
    cases hm
    exact ⟨false, rfl, iteF (k _ G1 H1 R1 s1 i1 (show Dq X.K _ _ _ from .bl _))⟩
  · cases hm
theorem de_or (ha : DE X a ma) (hb : DE X (.BoolOp .Or (b :: rest) pos) mb) : DE X (.BoolOp .Or (a :: b :: rest) pos) (mOrV ma mb) := PE.weak (pe_or ha hb) fun σ H Q ⟨C, G, env, w, r, env', w', R, hm, k⟩ => by
  obtain ⟨x, e1, w1, h1, hm⟩ := seqE_inv hm
  refine ⟨C, G, env, w, _, _, _, R, h1, fun v G1 H1 R1 s1 i1 a1 => ?_⟩
  split at hm
  · cases a1
    cases hm
    exact ⟨true, rfl, iteT (k _ G1 H1 R1 s1 i1 (show Dq X.K _ _ _ from .bl _))⟩
  · cases a1
    exact ⟨false, rfl, iteF ⟨C, G1, e1, w1, r, env', w', R1, hm, fun v G2 H2 R2 s2 i2 a2 => k v G2 H2 R2 (s1.trans s2) (i2.trans i1) a2⟩⟩
  · cases hm
/-- constants of the module -/
theorem de_gint {x : Str} {i : Int} (h : ∃ t, X.mg x = some (.int i t)) (hg : Gl X x := by rfl) (hd : (x == ("__debug__" : Str)) = false := by decide) : DE X (.Name x pos) (mC (.int i)) := by
  obtain ⟨t, h⟩ := h
  exact de_c (pe_glob (v := .int i) hg h ⟨t, rfl⟩ hd) fun _ => .int i
theorem de_gstr {x i : Str} (h : ∃ t, X.mg x = some (.str i t)) (hg : Gl X x := by rfl) (hd : (x == ("__debug__" : Str)) = false := by decide) : DE X (.Name x pos) (mC (.str i)) := by
  obtain ⟨t, h⟩ := h
  exact de_c (pe_glob (v := .str i) hg h ⟨t, rfl⟩ hd) fun _ => .str i
end
/-! ### list(x), x + y: fresh lists -/
def mListO (ms : Ax) : Lx := argsD ms fun ds env w => match ds with
  | [x] => (itemsD x).map fun xs => (xs, env, w)
  | _ => none
theorem do_list {X : Cx} {e : Expr} {p pos : Pos} {ms : Ax} (hm : X.mg "list" = none) (ha : DA X [e] ms) (hg : Gl X "list" := by rfl) (hs : starEach [e] X.env = (false, eval e X.env) :: starEach [] X.env := by rfl) : DO X (.Call (.Name "list" p) [e] [] pos) (mListO ms) :=
  PE.weak (pe_callTy call_list_of hg hm (by decide +kernel) ha (he := hs)) fun σ H Q ⟨C, G, env, w, r, env', w', R, hm, k⟩ => by
  obtain ⟨rs, ds, e1, w1, h1, h2, hm⟩ := argsD_inv hm
  split at hm
  · rename_i x
    cases e : itemsD x with
    | none => rw [e] at hm; cases hm
    | some ys =>
      rw [e] at hm
      cases hm
      refine ⟨C, G, env, w, _, _, _, R, h1, fun vs G1 H1 R1 s1 i1 a1 => ?_⟩
      obtain ⟨v, rfl, dv⟩ := dqA1 (dsOf_ok a1 h2)
      have fin : ∀ {us : List V}, DqA X.K G1 us r → ∀ l, H1 l = none → Q (.ref l) (upd H1 l (.lst us)) := fun {us} dA l hl => by
        obtain ⟨R2, q1, q2, q3, q4⟩ := new_O (vs := us) R1 hl
        exact k l us G1 _ R2 s1 i1 q1 dA q2 q3 q4
      cases dv with
      | lst q a => cases e; exact ⟨_, _, rfl, .inl (SqL.of (R1.sub _ _ q)), fin a⟩
      | tup q a => cases e; exact ⟨_, _, rfl, .inr (Same.sqT R1.sub q), fin a⟩
      | _ => cases e
  · cases hm
def mCatO (ma mb : Ex) : Lx := seqE ma fun x => seqE mb fun y env w => match x, y with
  | .list xs, .list ys => if xs.length + ys.length ≤ sizeLine then some (xs ++ ys, env, w) else none
  | _, _ => none
theorem do_cat {X : Cx} {a b : Expr} {ma mb : Ex} {pos : Pos} (ha : DE X a ma) (hb : DE X b mb) : DO X (.BinOp a .Add b pos) (mCatO ma mb) := PE.weak (pe_op op_cat ha hb) fun σ H Q ⟨C, G, env, w, r, env', w', R, hm, k⟩ => by
  obtain ⟨x, e1, w1, h1, hm⟩ := seqE_inv hm
  obtain ⟨y, e2, w2, h2, hm⟩ := seqE_inv hm
  split at hm
  · split at hm
    · rename_i hl
      cases hm
      refine ⟨C, G, env, w, _, e1, w1, R, h1, fun v G1 H1 R1 s1 i1 a1 => ?_⟩
      refine ⟨C, G1, e1, w1, _, _, _, R1, h2, fun u G2 H2 R2 s2 i2 a2 => ?_⟩
      have a1 := dp_mono s2 a1
      cases a1 with
      | lst q1 d1 =>
        cases a2 with
        | lst q2 d2 =>
          refine ⟨_, _, _, _, rfl, rfl, R2.sub _ _ q1, R2.sub _ _ q2, by rw [dpA_len d1, dpA_len d2]; exact hl, fun p hp => ?_⟩
          obtain ⟨R3, p1, p2, p3, p4⟩ := new_O (vs := _) R2 hp
          exact k p _ G2 _ R3 (s1.trans s2) (i2.trans i1) p1 (dpA_app d1 d2) p2 p3 p4
    · cases hm
  · cases hm
/-- (a, b) = a list -/
def mgUnl (n : Nat) (b : Gsx) : Gx := fun d env => match d with
  | .list ds => if ds.length = n then b ds env else none
  | _ => none
theorem dg_unl {X : Cx} {vs : List Nat} {e : Expr} {n : Nat} {b : Gsx} (h : PG X e (gUnl X.K n (gsD X.K vs b))) : DG X vs e (mgUnl n b) := PG.weak h fun v σ H Q ⟨C, G, env, w, d, env', R, hd, hm, k⟩ => by
  cases hd with
  | lst hs ha =>
    simp only [mgUnl] at hm
    split at hm
    · rename_i hl
      exact ⟨_, _, rfl, SqL.of (R.sub _ _ hs), by rw [dpA_len ha]; exact hl, C, G, env, w, _, env', R, ha, hm, k⟩
    · cases hm
  | _ => cases hm
/-- tuple(text) -/
def signsD (z : Str) : List PyData := z.cps.toList.map fun c => .str ⟨#[c]⟩
def tupStrD : List PyData → Option PyData
  | [.str z] => if z.length ≤ sizeLine then some (.tuple (signsD z)) else none
  | _ => none
theorem cd_tupStr {X : Cx} (hc : X.calm = true) : CallD X (.type "tuple") tupStrD := fun pins s σ G H xs us ds dz Q I rx sg hx hg k => by
  unfold tupStrD at hg
  split at hg
  · rename_i z
    split at hg
    · rename_i hl
      cases hg
      obtain ⟨v, rfl, dv⟩ := dqA1 hx
      cases dv
      obtain ⟨u, rfl, t, rfl⟩ := vals1 rx
      refine call_tuple_str (I.ok.hd hc) z t (fun h' tk acc hk hacc => ?_) hl
      have I1 : Inv X pins σ H { s with heap := h', toks := tk } := I.kept hk
      have hv : Vals (z.cps.toList.map fun c => V.str ⟨#[c]⟩) acc.toList := by
        obtain ⟨h1, h2⟩ := hacc
        have all : ∀ (cs : List Nat) (us : List Value), us.length = cs.length → (∀ (j : Nat) (v : Value), us[j]? = some v → ∃ c u, cs[j]? = some c ∧ v = .str ⟨#[c]⟩ u) → Vals (cs.map fun c => V.str ⟨#[c]⟩) us := by
          intro cs
          induction cs with
          | nil =>
            intro us hl _
            cases us with
            | nil => exact .nil
            | cons _ _ => cases hl
          | cons c cs ih =>
            intro us hl hu
            cases us with
            | nil => cases hl
            | cons v us =>
              obtain ⟨c', u, e1, e2⟩ := hu 0 v rfl
              simp at e1
              subst e1
              refine .cons ⟨u, e2⟩ (ih us (by simpa using hl) fun j v' hj => ?_)
              obtain ⟨c', u', e3, e4⟩ := hu (j + 1) v' (by simpa using hj)
              exact ⟨c', u', by simpa using e3, e4⟩
        refine all z.cps.toList acc.toList (by simpa using h1) fun j v hj => ?_
        obtain ⟨c, u, e1, e2⟩ := h2 j v (by simpa using hj)
        exact ⟨c, u, by simpa using e1, e2⟩
      have hlen : (z.cps.toList.map fun c => V.str ⟨#[c]⟩).length ≤ sizeLine := by
        rw [List.length_map, Array.length_toList]
        exact hl
      have I2 : Inv X pins σ (upd H h'.objs.size (.tup (z.cps.toList.map fun c => V.str ⟨#[c]⟩))) { s with heap := h'.push { cls := .type "tuple", data := .seq acc }, toks := tk } :=
        I1.laid (t' := tk) (fun b o e => Heap.get?_push_of_some _ e) (Nat.le_refl _) (show ObjOk X.prog X.w _ _ _ (.tup _) from ⟨hlen, acc.toList, hv, ⟨_, Heap.get?_push_size _ rfl, rfl, 0, by simp⟩⟩)
      have dA : DqA X.K G (z.cps.toList.map fun c => V.str ⟨#[c]⟩) (signsD z) := by
        have : ∀ cs : List Nat, DqA X.K G (cs.map fun c => V.str ⟨#[c]⟩) (cs.map fun c => PyData.str ⟨#[c]⟩) := by
          intro cs
          induction cs with
          | nil => exact .nil
          | cons c cs ih => exact .cons (.str _) ih
        exact this _
      obtain ⟨ex, dq⟩ := ext_tup sg (I1.hok.fresh (Nat.le_refl _)) dA
      exact ⟨.ref h'.objs.size, _, I2, rfl, k _ _ _ ex dq⟩
    · cases hg
  · cases hg
end Dn

set_option maxHeartbeats 4000000
/-! Dn6: the law's drawing state. -/
namespace Dn
open PySem PySem.Spec PyProof.Rows L2
def fuel : Nat := 16777300
/-! ### the numbers -/
def mixed (cell k : Int) : Int := ((cell % 2147483647) * (48271 + 2 * k * k) + 69621 * k + 11) % 2147483647 * 69621 % 2147483629
theorem mixed_nn (c k : Int) : 0 ≤ mixed c k := Int.emod_nonneg _ (by decide)
theorem mixed_lt (c k : Int) : mixed c k < 2147483629 := Int.emod_lt_of_pos _ (by decide)
/-- the state is in order, and many draws are left -/
structure DS.Ok (s : DS) : Prop where
  p0 : 0 ≤ s.pos
  p1 : s.pos ≤ 1152921504606846976
  ne : s.cells ≠ []
  ln : s.lefts.length = s.cells.length
  sm : s.cells.length ≤ 1000
def DS.at_ (s : DS) : Nat := (s.pos % (s.cells.length : Int)).toNat
def DS.left (s : DS) : Int := s.lefts.getD s.at_ 0
def DS.cell (s : DS) : Int := s.cells.getD s.at_ 0
def DS.num (s : DS) : Int := mixed (mixed s.cell s.pos) (40 + s.pos)
def DS.val (s : DS) (many : Int) : Int := if 0 < s.left then s.left % many else (s.num * 2147483647 + mixed s.num (7 + s.pos)) / 64 % many
def DS.next (s : DS) (many : Int) : DS := if 0 < s.left then { s with lefts := s.lefts.set s.at_ (s.left / many), pos := s.pos + 1 } else { s with pos := s.pos + 1 }
open Classical in
noncomputable def m__law_draw : List SD → W → Option (SD × W) := fun as w => match as, w with
  | [.st, .d (.int many)], some s => if s.Ok ∧ 0 < many ∧ many < 1073741824 then some (.d (.int (s.val many)), some (s.next many)) else none
  | _, _ => none
theorem DS.at_lt {s : DS} (h : s.Ok) : s.at_ < s.cells.length := by
  have hl : 0 < s.cells.length := List.length_pos_iff.mpr h.ne
  have h1 := Int.emod_nonneg s.pos (show (s.cells.length : Int) ≠ 0 by omega)
  have h2 := Int.emod_lt_of_pos s.pos (show (0 : Int) < s.cells.length by omega)
  unfold DS.at_
  omega
/-- some draws have been done -/
structure Adv (n : Int) (s s' : DS) : Prop where
  cells : s'.cells = s.cells
  ln : s'.lefts.length = s.lefts.length
  lo : s.pos ≤ s'.pos
  hi : s'.pos ≤ s.pos + n
theorem Adv.refl (s : DS) : Adv 0 s s := ⟨rfl, rfl, Int.le_refl _, by omega⟩
theorem Adv.trans {a b : Int} {s t u : DS} (x : Adv a s t) (y : Adv b t u) : Adv (a + b) s u := ⟨y.cells.trans x.cells, y.ln.trans x.ln, Int.le_trans x.lo y.lo, by have := x.hi; have := y.hi; omega⟩
theorem Adv.mono {a b : Int} {s t : DS} (x : Adv a s t) (h : a ≤ b) : Adv b s t := ⟨x.cells, x.ln, x.lo, by have := x.hi; omega⟩
theorem Adv.ok {a : Int} {s t : DS} (x : Adv a s t) (h : s.Ok) (hp : s.pos + a ≤ 1152921504606846976) : t.Ok := ⟨by have := x.lo; have := h.p0; omega, by have := x.hi; omega, by rw [x.cells]; exact h.ne, by rw [x.ln, x.cells]; exact h.ln, by rw [x.cells]; exact h.sm⟩
theorem draw_adv (s : DS) (many : Int) : Adv 1 s (s.next many) := by
  unfold DS.next
  split
  · exact ⟨rfl, by simp, by show s.pos ≤ s.pos + 1; omega, Int.le_refl _⟩
  · exact ⟨rfl, rfl, by show s.pos ≤ s.pos + 1; omega, Int.le_refl _⟩
theorem draw_range (s : DS) {many : Int} (h : 0 < many) : 0 ≤ s.val many ∧ s.val many < many := by
  unfold DS.val
  split
  · exact ⟨Int.emod_nonneg _ (by omega), Int.emod_lt_of_pos _ h⟩
  · exact ⟨Int.emod_nonneg _ (by omega), Int.emod_lt_of_pos _ h⟩
theorem draw_eq {s : DS} {many : Int} (h : s.Ok) (h1 : 0 < many) (h2 : many < 1073741824) : m__law_draw [.st, .d (.int many)] (some s) = some (.d (.int (s.val many)), some (s.next many)) := by
  simp only [m__law_draw]
  rw [if_pos ⟨h, h1, h2⟩]
/-! ### promises -/
def spMixed : Sp := fun vs H Q _ => ∃ c k : Int, vs = [.int c, .int k] ∧ 0 ≤ k ∧ k < 2305843009213693952 ∧ Q (.int (mixed c k)) H
def beginCells (ns : List Int) : List Int := if ns = [] then [0] else ns
def beginDS (ns : List Int) : DS := ⟨beginCells ns, (beginCells ns).map fun c => if 1000000000000000000 ≤ c then c else 0, 0, 0⟩
def spBegin (K : PySem.W.Frag) : Sp := fun vs H Q _ => ∃ (a : Addr) (ns : List Int), vs = [.ref a] ∧ SqL K H a (ns.map V.int) ∧ ns.length ≤ 63 ∧
  ∀ (ad : Ad) (H' : Hp), Same H H' → H ad.sa = none → H ad.ca = none → H ad.la = none → ad.ca ≠ ad.la →
    H' ad.sa = some (.dK [(kCells, .ref ad.ca), (kLefts, .ref ad.la), (kAt, .int 0), (kRoom, .int 0)]) → H' ad.la = some (.lst ((beginDS ns).lefts.map V.int)) → H' ad.ca = some (.lst ((beginDS ns).cells.map V.int)) → Q (.ref ad.sa) H'
theorem begin_ok (ns : List Int) (h : ns.length ≤ 63) : (beginDS ns).Ok := by
  have e : (beginCells ns).length ≤ 64 ∧ beginCells ns ≠ [] := by
    unfold beginCells
    split
    · exact ⟨by simp, by simp⟩
    · exact ⟨by omega, by assumption⟩
  exact ⟨Int.le_refl _, by show (0 : Int) ≤ 1152921504606846976; decide, e.2, by simp [beginDS], by have := e.1; show (beginCells ns).length ≤ 1000; omega⟩
theorem putAt {a b c d v : V} : putK [(kCells, a), (kLefts, b), (kAt, c), (kRoom, d)] kAt v = [(kCells, a), (kLefts, b), (kAt, v), (kRoom, d)] := by
  have e1 : ¬ kCells = kAt := by decide +kernel
  have e2 : ¬ kLefts = kAt := by decide +kernel
  have e3 : ¬ kRoom = kAt := by decide +kernel
  simp [putK, e1, e2, e3]
theorem valAt {a b c d : V} : valV [(kCells, a), (kLefts, b), (kAt, c), (kRoom, d)] kAt = some c := by
  have e1 : ¬ kCells = kAt := by decide +kernel
  have e2 : ¬ kLefts = kAt := by decide +kernel
  rw [valV_neg e1, valV_neg e2, valV_pos rfl]
theorem valLefts {a b c d : V} : valV [(kCells, a), (kLefts, b), (kAt, c), (kRoom, d)] kLefts = some b := by
  have e1 : ¬ kCells = kLefts := by decide +kernel
  rw [valV_neg e1, valV_pos rfl]
theorem valCells {a b c d : V} : valV [(kCells, a), (kLefts, b), (kAt, c), (kRoom, d)] kCells = some a := valV_pos rfl
theorem atI_int {ns : List Int} {p : Int} {j : Nat} (hj : j < ns.length) (e : p = (j : Int)) : atI (ns.map V.int) p = some (.int (ns.getD j 0)) := by
  subst e
  refine atI_nat ?_
  rw [List.getElem?_map, List.getElem?_eq_getElem hj]
  simp [List.getD_eq_getElem?_getD, List.getElem?_eq_getElem hj]
theorem merge4 {a b c d : V} : mergeK [] [(kCells, a), (kLefts, b), (kAt, c), (kRoom, d)] = [(kCells, a), (kLefts, b), (kAt, c), (kRoom, d)] := by
  have e1 : ¬ kCells = kLefts := by decide +kernel
  have e2 : ¬ kCells = kAt := by decide +kernel
  have e3 : ¬ kLefts = kAt := by decide +kernel
  have e4 : ¬ kCells = kRoom := by decide +kernel
  have e5 : ¬ kLefts = kRoom := by decide +kernel
  have e6 : ¬ kAt = kRoom := by decide +kernel
  simp [mergeK, putK, e1, e2, e3, e4, e5, e6]
/-- a != b over data -/
def rNeP (K : PySem.W.Frag) : R2 := fun x y H Q => ∃ d e, Dp K H x d ∧ Dp K H y e ∧ d.plain = true ∧ e.plain = true ∧ dOk 60 e = true ∧ Q (.bl (!PyData.eqv d e)) H
theorem op_neP {X : Cx} (hu : X.A.units + 64 < cLine) : OpR X (compareOp .NotEq) (rNeP X.K) := by
  intro pins s σ H x y v u Q I rx ry h
  obtain ⟨d, e, hd, he, p1, p2, dk, q⟩ := h
  obtain ⟨as, r1⟩ := Dp.reads I d x v hd rx
  obtain ⟨bs, r2⟩ := Dp.reads I e y u he ry
  exact PySem.SeqAt.ne_plain r1 r2 p1 p2 (min60 (by rw [dk]; simp) hu) ⟨.bl _, H, I, rfl, q⟩
theorem plain_ints : ∀ ns : List Int, PyData.plainAll (ns.map PyData.int) = true
  | [] => by simp [PyData.plainAll]
  | n :: ns => by simp [PyData.plainAll, PyData.plain, plain_ints ns]
theorem dpAll_ints {K : PySem.W.Frag} {G : Hp} : ∀ (ns : List Int), DpAll K G (ns.map V.int) (ns.map PyData.int)
  | [] => .nil
  | n :: ns => .cons (.int n) (dpAll_ints ns)
end Dn

set_option maxHeartbeats 4000000
/-! Dn7: the law itself. -/
namespace Dn
open PySem PySem.Spec PyProof.Rows L2
def spLaw (K : PySem.W.Frag) : Sp := fun vs H Q _ => ∃ (a : Addr) (ns : List Int), vs = [.ref a] ∧ ns.length ≤ 63 ∧ Only H ∧ SqL K H a (ns.map V.int) ∧ ∀ H', Q (.bl true) H'
/-- the slots behind state = _law_begin(script) -/
def env0 (n NN i : Nat) : Ev := (some (SD.scr n) :: List.replicate (NN - 1) none).set i (some SD.st)
theorem law_rest {K : PySem.W.Frag} {H H' : Hp} {a : Addr} {ns : List Int} {ad : Ad} {m : Sx} {N : List Str} {i NN : Nat} {D : Ends} {env' : Ev} {w' : W} (hO : Only H) (hS : SqL K H a (ns.map V.int)) (hNN : N.length = NN) (h0 : 0 < NN) (hi : i ≠ 0)
    (sm : Same H H') (n1 : H ad.sa = none) (n2 : H ad.ca = none) (n3 : H ad.la = none) (ne : ad.ca ≠ ad.la)
    (e1 : H' ad.sa = some (.dK [(kCells, .ref ad.ca), (kLefts, .ref ad.la), (kAt, .int 0), (kRoom, .int 0)])) (e2 : H' ad.la = some (.lst ((beginDS ns).lefts.map V.int))) (e3 : H' ad.ca = some (.lst ((beginDS ns).cells.map V.int)))
    (hm : m (env0 ns.length NN i) (some (beginDS ns)) = some (.rt (.d (.bool true)), env', w')) (hQ : ∀ H2, D.rt (.bl true) H2) : tS K m D ((L2.start N [.ref a]).set i (some (.ref ad.sa))) H' := by
  have hs : ((L2.start N [.ref a]).set i (some (.ref ad.sa)))[0]? = some (some (.ref a)) := by
    rw [List.getElem?_set_ne hi]
    rfl
  refine ⟨⟨ad, H', fun _ => none⟩, fun _ => none, _, some (beginDS ns), _, env', w', ⟨fun b o e => (by cases e), ?_, fun j sd h => ?_, fun j k xs ys b e _ _ _ => ?_, fun s e => ?_, fun _ => ⟨?_, ?_, ?_⟩, fun b o e _ => e, fun b o e => rfl⟩, hm, fun σ2 G2 H2 R2 s2 i2 v av => ?_⟩
  · unfold env0 L2.start
    simp only [List.length_set, List.length_cons, List.length_replicate, List.length_append, List.length_map, List.length_nil]
    omega
  · by_cases hj : i = j
    · subst hj
      have hlt : i < (some (SD.scr ns.length) :: List.replicate (NN - 1) none).length := by
        have := (List.getElem?_eq_some_iff.mp h).1
        unfold env0 at this
        rwa [List.length_set] at this
      unfold env0 at h
      rw [List.getElem?_set_self hlt] at h
      cases h
      refine ⟨_, List.getElem?_set_self ?_, rfl, rfl⟩
      unfold L2.start
      simp only [List.length_cons, List.length_replicate, List.length_append, List.length_map, List.length_nil] at hlt ⊢
      omega
    · unfold env0 at h
      rw [List.getElem?_set_ne hj] at h
      cases j with
      | zero =>
        cases h
        refine ⟨_, hs, a, ns.map V.int, rfl, by rw [List.length_map], ?_⟩
        rcases hS with (hS | ⟨o, hS⟩) | hS
        · rcases hO a with z | ⟨o, xs, z⟩
          · rw [z] at hS; cases hS
          · rw [z] at hS; cases hS
        · refine .inl ⟨o, sm _ _ hS, fun z => ?_⟩
          rcases z.2 with z | z
          · subst z; rw [n1] at hS; cases hS
          · subst z; rw [n3] at hS; cases hS
        · exact .inr fun H1 => .inr hS
      | succ j =>
        rw [List.getElem?_cons_succ, List.getElem?_replicate] at h
        split at h <;> cases h
  · have no : ∀ (l : Nat) (zs : List PyData), (env0 ns.length NN i)[l]? ≠ some (some (.own zs)) := fun l zs h => by
      by_cases hl : i = l
      · subst hl
        have hlt : i < (some (SD.scr ns.length) :: List.replicate (NN - 1) none).length := by
          have := (List.getElem?_eq_some_iff.mp h).1
          unfold env0 at this
          rwa [List.length_set] at this
        unfold env0 at h
        rw [List.getElem?_set_self hlt] at h
        cases h
      · unfold env0 at h
        rw [List.getElem?_set_ne hl] at h
        cases l with
        | zero => cases h
        | succ l =>
          rw [List.getElem?_cons_succ, List.getElem?_replicate] at h
          split at h <;> cases h
    exact absurd e (no j xs)
  · cases e
    exact ⟨e1, e2, e3, rfl, rfl, rfl, ne⟩
  · show H' ad.sa ≠ none
    rw [e1]; exact Option.some_ne_none _
  · show H' ad.la ≠ none
    rw [e2]; exact Option.some_ne_none _
  · show H' ad.ca ≠ none
    rw [e3]; exact Option.some_ne_none _
  · cases av
    exact hQ H2
end Dn

set_option maxHeartbeats 4000000
/-! Dn8: facts of the top. -/
namespace Dn
open PySem PySem.Spec PyProof.Rows L2
/-! ### constants of the module -/
mutual
def kdB (K : PySem.W.Frag) : Nat → Value → PyData → Bool
  | _, .none, .none => true
  | _, .bool b, .bool c => b == c
  | _, .int i _, .int j => decide (i = j)
  | _, .str x _, .str y => decide (x = y)
  | n + 1, .ref a, .tuple ds => (match K.lookup a with
    | some ⟨.type c, _, .seq its _, _⟩ => decide (c = "tuple") && (decide (its.size ≤ sizeLine) && kdAll K n its.toList ds)
    | _ => false)
  | _, _, _ => false
def kdAll (K : PySem.W.Frag) : Nat → List Value → List PyData → Bool
  | _, [], [] => true
  | n, u :: us, d :: ds => kdB K n u d && kdAll K n us ds
  | _, _, _ => false
end
theorem kdA_of {K : PySem.W.Frag} {n : Nat} (B : ∀ (u : Value) (d : PyData), kdB K n u d = true → ∃ v, RelV v u ∧ ∀ G, Dq K G v d) : ∀ (us : List Value) (ds : List PyData), kdAll K n us ds = true → ∃ vs, Vals vs us ∧ ∀ G, DqA K G vs ds
  | [], [], _ => ⟨[], .nil, fun _ => .nil⟩
  | [], _ :: _, h => by simp [kdAll] at h
  | _ :: _, [], h => by simp [kdAll] at h
  | u :: us, d :: ds, h => by
    simp only [kdAll, Bool.and_eq_true] at h
    obtain ⟨v, r, q⟩ := B u d h.1
    obtain ⟨vs, rs, qs⟩ := kdA_of B us ds h.2
    exact ⟨v :: vs, .cons r rs, fun G => .cons (q G) (qs G)⟩
theorem kdB_ok {K : PySem.W.Frag} : ∀ {n : Nat} {u : Value} {d : PyData}, kdB K n u d = true → ∃ v, RelV v u ∧ ∀ G, Dq K G v d := by
  intro n
  induction n with
  | zero =>
    intro u d h
    unfold kdB at h
    split at h
    · exact ⟨.non, rfl, fun _ => .non⟩
    · rename_i b c
      have e : b = c := by simpa using h
      subst e
      exact ⟨.bl b, rfl, fun _ => .bl b⟩
    · rename_i i t j
      have e : i = j := by simpa using h
      subst e
      exact ⟨.int i, ⟨t, rfl⟩, fun _ => .int i⟩
    · rename_i x t y
      have e : x = y := by simpa using h
      subst e
      exact ⟨.str x, ⟨t, rfl⟩, fun _ => .str x⟩
    · rename_i hz; cases hz
    · cases h
  | succ n ih =>
    intro u d h
    unfold kdB at h
    split at h
    · exact ⟨.non, rfl, fun _ => .non⟩
    · rename_i b c
      have e : b = c := by simpa using h
      subst e
      exact ⟨.bl b, rfl, fun _ => .bl b⟩
    · rename_i i t j
      have e : i = j := by simpa using h
      subst e
      exact ⟨.int i, ⟨t, rfl⟩, fun _ => .int i⟩
    · rename_i x t y
      have e : x = y := by simpa using h
      subst e
      exact ⟨.str x, ⟨t, rfl⟩, fun _ => .str x⟩
    · rename_i m a ds hz
      cases hz
      split at h
      · rename_i c od its m sl q
        rw [Bool.and_eq_true, Bool.and_eq_true] at h
        obtain ⟨h1, h2, h3⟩ := h
        obtain ⟨vs, r, dA⟩ := kdA_of (fun u d => ih) _ _ h3
        exact ⟨.ref a, rfl, fun G => .tup (.inr ⟨_, its, m, q, congrArg Value.type (of_decide_eq_true h1), rfl, of_decide_eq_true h2, r⟩) (dA G)⟩
      · cases h
    · cases h
/-- the module's name x stands for the datum d -/
structure GCon (K : PySem.W.Frag) (mg : Str → Option Value) (x : Str) (d : PyData) : Prop where
  ex : ∃ u v, mg x = some u ∧ RelV v u ∧ ∀ G, Dq K G v d
theorem de_gcon {X : Cx} {x : Str} {d : PyData} {pos : Pos} (h : GCon X.K X.mg x d) (hg : Gl X x := by rfl) (hd : (x == ("__debug__" : Str)) = false := by decide) : DE X (.Name x pos) (mC d) := by
  obtain ⟨u, v, h1, h2, h3⟩ := h.ex
  exact de_c (pe_glob hg h1 h2 hd) h3
def conB (K : PySem.W.Frag) (x : Str) (d : PyData) : Bool := match PySem.W.nsIn K mainGlobals x with
  | some (some u) => kdB K 20 u d
  | _ => false
theorem conB_ok {K : PySem.W.Frag} {h : Heap} {mg : Str → Option Value} {x : Str} {d : PyData} (X : K.In h) (G : h.Ns mainGlobals mg) (c : conB K x d = true) : GCon K mg x d := by
  unfold conB at c
  split at c
  · rename_i u q
    obtain ⟨v, r, z⟩ := kdB_ok c
    exact ⟨u, v, PySem.W.mg_of X G q, r, z⟩
  · cases c
def gtB (K : PySem.W.Frag) (x : Str) (ys : List Str) : Bool := match PySem.W.nsIn K mainGlobals x with
  | some (some (.ref a)) => (match K.lookup a with
    | some ⟨.type c, none, .seq its _, _⟩ => decide (c = "tuple") && (decide (its.size ≤ sizeLine) && He.relAll (ys.map V.str) its.toList)
    | _ => false)
  | _ => false
theorem gtB_ok {K : PySem.W.Frag} {h : Heap} {mg : Str → Option Value} {x : Str} {ys : List Str} (X : K.In h) (G : h.Ns mainGlobals mg) (c : gtB K x ys = true) : GTup K mg x ys := by
  unfold gtB at c
  split at c
  · rename_i a q
    split at c
    · rename_i cc its m sl lk
      rw [Bool.and_eq_true, Bool.and_eq_true] at c
      obtain ⟨h1, h2, h3⟩ := c
      have e := of_decide_eq_true h1
      exact ⟨a, PySem.W.mg_of X G q, fun H => .inr ⟨_, its, m, lk, congrArg Value.type e, rfl, of_decide_eq_true h2, He.relAll_ok h3⟩, _, lk, congrArg Value.type e, rfl⟩
    · cases c
  · cases c
/-- one def of the top -/
def mkD (x : Str) (st : Stmt) : He.DefD := ⟨(x, none), x, x, defArgs st, defBody st, defScope st, [], []⟩
theorem def_ok {K : PySem.W.Frag} {h : Heap} {mg : Str → Option Value} {fa : List He.Fa} {fn : List He.DefD} {x : Str} {st : Stmt} (X : K.In h) (G : h.Ns mainGlobals mg) (c : He.SaysD fa fn K) (i j : Nat) (hi : fn[i]? = some (mkD x st)) (hj : fa[j]? = some (.glo x)) :
    ∃ f fd, FunD K x x (defArgs st) (defBody st) (defScope st) [] [] f fd ∧ mg x = some (.ref f) := by
  obtain ⟨fd, F⟩ := c.def_ i hi
  exact ⟨_, fd, F, He.glo_ok X G (c.fact j hj)⟩
theorem con_int {K : PySem.W.Frag} {h : Heap} {mg : Str → Option Value} {x : Str} {n : Int} (X : K.In h) (G : h.Ns mainGlobals mg) (c : conB K x (.int n) = true) : ∃ t, mg x = some (.int n t) := by
  obtain ⟨u, v, h1, h2, h3⟩ := (conB_ok X G c).ex
  cases h3 fun _ => none
  obtain ⟨t, rfl⟩ := h2
  exact ⟨t, h1⟩
theorem con_str {K : PySem.W.Frag} {h : Heap} {mg : Str → Option Value} {x y : Str} (X : K.In h) (G : h.Ns mainGlobals mg) (c : conB K x (.str y) = true) : ∃ t, mg x = some (.str y t) := by
  obtain ⟨u, v, h1, h2, h3⟩ := (conB_ok X G c).ex
  cases h3 fun _ => none
  obtain ⟨t, rfl⟩ := h2
  exact ⟨t, h1⟩
end Dn

set_option maxHeartbeats 4000000
/-! Dn9: sorted by a key that is a def of the text. -/
namespace Dn
open PySem PySem.Spec PyProof.Rows L2

/-! ### the mirror -/
def keysD (m : List SD → W → Option (SD × W)) : List PyData → Option (List PyData)
  | [] => some []
  | d :: ds => match m [.d d] none with
    | some (.d k, none) => (keysD m ds).map (k :: ·)
    | _ => none
def tupKey : PyData → Bool
  | .tuple (_ :: _) => true
  | _ => false
def plnKey : PyData → Bool
  | .tuple _ => false
  | .none => false
  | _ => true
def keysOk (ks : List PyData) : Bool := ks.all (fun k => ks.all fun k' => PySem.W.alike k k') && (ks.all tupKey || ks.all plnKey) && ks.all (dOk 60)
noncomputable def sortBy (b : Bool) (ks ds : List PyData) : List PyData := ((ks.zip ds).mergeSort (PySem.W.dataLe b Prod.fst)).map Prod.snd
noncomputable def sortKD (m : List SD → W → Option (SD × W)) (ds : List PyData) : Option (List PyData) := match keysD m ds with
  | some ks => if decide (ds.length ≤ 1000) && keysOk ks then some (sortBy false ks ds) else none
  | none => none
noncomputable def mSortK (m : List SD → W → Option (SD × W)) (ms : Ax) : Lx := argsD ms fun ds env w => match ds with
  | [.list xs] => (sortKD m xs).map fun r => (r, env, w)
  | _ => none
theorem keysD_len {m : List SD → W → Option (SD × W)} : ∀ {ds ks : List PyData}, keysD m ds = some ks → ks.length = ds.length
  | [], _, h => by cases h; rfl
  | d :: ds, ks, h => by
    simp only [keysD] at h
    split at h
    · cases e : keysD m ds with
      | none => rw [e] at h; cases h
      | some es => rw [e] at h; cases h; exact congrArg Nat.succ (keysD_len e)
    · cases h
theorem keysD_at {m : List SD → W → Option (SD × W)} : ∀ {ds ks : List PyData} {i : Nat} {d : PyData}, keysD m ds = some ks → ds[i]? = some d → ∃ k, ks[i]? = some k ∧ m [.d d] none = some (.d k, none)
  | [], _, _, _, h, e => by simp at e
  | d :: ds, ks, i, x, h, e => by
    simp only [keysD] at h
    split at h
    · rename_i k hk
      cases q : keysD m ds with
      | none => rw [q] at h; cases h
      | some es =>
        rw [q] at h; cases h
        cases i with
        | zero => simp at e; subst e; exact ⟨k, rfl, hk⟩
        | succ i => exact keysD_at (i := i) q (by simpa using e)
    · cases h
theorem keysOk_ok {ks : List PyData} (h : keysOk ks = true) : PySem.W.AllAlike ks ∧ PySem.W.Sortable ks ∧ ∀ k ∈ ks, k.depth ≤ 60 := by
  unfold keysOk at h
  rw [Bool.and_eq_true, Bool.and_eq_true, Bool.or_eq_true] at h
  obtain ⟨⟨h1, h2⟩, h3⟩ := h
  rw [List.all_eq_true] at h1 h3
  refine ⟨fun d hd d' hd' => ?_, ?_, fun k hk => dOk_depth 60 k (h3 k hk)⟩
  · exact List.all_eq_true.mp (h1 d hd) d' hd'
  · rcases h2 with h2 | h2
    · refine .inl fun d hd => ?_
      have q := List.all_eq_true.mp h2 d hd
      unfold tupKey at q
      split at q
      · exact ⟨_, _, rfl⟩
      · cases q
    · refine .inr fun d hd => ?_
      have q := List.all_eq_true.mp h2 d hd
      refine ⟨?_, fun xs => ?_⟩
      · rintro rfl; cases q
      · rintro rfl; cases q

/-! ### the context of the key's calls -/
def Cx.srt (X : Cx) : Cx := { X with A := X.A.in1.in1, xe := fun _ _ => False }
section
variable {X : Cx} {pins : List (Addr × Obj)} {σ : L2.St} {H : Hp} {s : Shared}
theorem Inv.srt (I : Inv X pins σ H s) : Inv (Cx.srt X) pins σ H s :=
  ⟨⟨I.ok.mod, I.ok.kind, I.ok.glob, I.ok.blt, I.ok.above, I.ok.inj, I.ok.has, I.ok.cab, I.ok.hd, I.ok.frames, I.ok.stk, I.ok.exf, I.ok.bs, I.ok.bsz, I.ok.noex, I.ok.exfs, I.ok.funs, I.ok.frf⟩, I.os, I.bare, I.base, I.loc, I.cell, I.free, I.freeC, I.pin, I.hok, I.len⟩
theorem Inv.unsrt (ok : X.Ok) (I : Inv (Cx.srt X) pins σ H s) : Inv X pins σ H s :=
  ⟨ok, I.os, I.bare, I.base, I.loc, I.cell, I.free, I.freeC, I.pin, I.hok, I.len⟩
end
theorem Room.srt {j k : Nat} {A : Around} (r : Room j A) (h : k + 1 ≤ j) : Room k A.in1.in1 :=
  ⟨r.hd, by have := r.dp; show A.depth + 3 * k + 5 < _; omega, by have := r.un; show A.units + 1 + 1 + 16 * k + 200 < _; omega⟩

/-- from the values' pairing: the items -/
theorem each_ix {α β : Type} {R : α → β → Prop} : ∀ {as : List α} {bs : List β}, as.length = bs.length → (∀ (i : Nat) a b, as[i]? = some a → bs[i]? = some b → R a b) → PySem.W.EachIs R as bs
  | [], [], _, _ => .nil
  | [], _ :: _, h, _ => by simp at h
  | _ :: _, [], h, _ => by simp at h
  | a :: as, b :: bs, h, k => .cons (k 0 a b rfl rfl) (each_ix (by simpa using h) fun i x y e1 e2 => k (i + 1) x y (by simpa using e1) (by simpa using e2))
theorem vals_ix {xs : List V} {us : List Value} {i : Nat} {u : Value} (r : Vals xs us) (e : us[i]? = some u) : ∃ x, xs[i]? = some x ∧ RelV x u := by
  have h1 : i < us.length := (List.getElem?_eq_some_iff.mp e).1
  have h2 : i < xs.length := by rw [r.length]; exact h1
  obtain ⟨u', q1, q2⟩ := r.get (List.getElem?_eq_getElem h2)
  rw [e] at q1; cases q1
  exact ⟨_, List.getElem?_eq_getElem h2, q2⟩
theorem each_out {K : PySem.W.Frag} {G : Hp} : ∀ {us : List Value} {ps : List (PyData × PyData)}, PySem.W.EachIs (fun (u : Value) (p : PyData × PyData) => ∃ x, RelV x u ∧ Dq K G x p.2) us ps → ∃ xs : List V, Vals xs us ∧ DqA K G xs (ps.map Prod.snd)
  | _, _, .nil => ⟨[], .nil, .nil⟩
  | _, _, .cons ⟨x, h1, h2⟩ t => by
    obtain ⟨xs, h3, h4⟩ := each_out t
    exact ⟨x :: xs, .cons h1 h3, .cons h2 h4⟩

/-! ### the final step: the new list gets its items, the key store has turned -/
theorem Inv.filled {X : Cx} {pins : List (Addr × Obj)} {σ : L2.St} {H : Hp} {s : Shared} {h' : Heap} {t' : Nat} {a k : Addr} {o : HO} (I : Inv X pins σ H s) (fa : FpOk X pins H a) (fk : FpOk X pins H k)
    (keep : ∀ b ob, b ≠ a → b ≠ k → s.heap.get? b = some ob → h'.get? b = some ob) (new : ObjOk X.prog X.w (upd H a o) h' a o) : Inv X pins σ (upd H a o) { s with heap := h', toks := t' } := by
  have nin : ∀ b, b ∉ [a, k] → b ≠ a ∧ b ≠ k := fun b z => ⟨fun e => z (by simp [e]), fun e => z (by simp [e])⟩
  have ne : ∀ b u, H b = some u → b ≠ a ∧ b ≠ k := fun b u e => ⟨fun z => (by rw [z, fa.1] at e; cases e), fun z => (by rw [z, fk.1] at e; cases e)⟩
  refine I.step (g' := s.gens) (d' := s.drawn) (ch := [a, k]) (fun b hb => ?_) (fun b ob _ _ hc e _ => keep b ob (nin b hc).1 (nin b hc).2 e) (fun b ob _ _ hc e _ => ⟨ob.slots, keep b ob (nin b hc).1 (nin b hc).2 e⟩)
    (fun b ob hc _ n => by rw [upd_ne (nin b hc).1]; exact n) (fun b ob hc e => ⟨ob, keep b ob (nin b hc).1 (nin b hc).2 e⟩) (fun b xs e => by rw [upd_ne (ne b _ e).1]; exact e) (fun b ob u e => by rw [upd_ne (ne b _ e).1]; exact e)
    (fun b ps e => ⟨#[], by rw [upd_ne (ne b _ e).1, e]; simp⟩) (fun m hm => ?_) (fun b u e => ?_) I.bare
  · have f : FpOk X pins H b := by
      rcases List.mem_cons.mp hb with rfl | hb
      · exact fa
      · rw [List.mem_singleton.mp hb]; exact fk
    exact ⟨f.2.2.2.1, f.2.1, f.2.2.2.2.1, f.2.2.2.2.2⟩
  · obtain ⟨ob, es, ep, ho, r⟩ := hm
    exact ⟨ob, es, ep, keep _ ob (Ne.symm fa.2.1) (Ne.symm fk.2.1) ho, r⟩
  · by_cases hb : b = a
    · subst hb
      rw [upd_same] at e
      cases e
      exact new
    · rw [upd_ne hb] at e
      refine (I.hok b u e).stay (fun c v hc q => ?_) (fun c q => by rw [upd_ne (ne c _ q).1]; exact q) fun c xs q => by rw [upd_ne (ne c _ q).1]; exact q
      rcases hc with rfl | hc
      · exact keep _ v (ne _ _ e).1 (ne _ _ e).2 q
      · exact keep c v (ne c _ hc).1 (ne c _ hc).2 q

/-- one turn of the key's loop, and all -/
def KeyInv (X : Cx) (pins : List (Addr × Obj)) (σ : L2.St) (G H : Hp) (a kS : Addr) (e1 : Nat) (ks : List PyData) (s' : Shared) : Prop :=
  ∃ (H' G' : Hp) (kvs : List V) (its : List Value) (n : Nat), Inv (Cx.srt X) ((a, seqObj "list" #[] e1) :: (kS, seqObj "list" its.toArray n) :: pins) σ H' s' ∧ Vals kvs its ∧ DqA X.K G' kvs ks ∧ Ext G H G' H' ∧ FpOk X pins H' a ∧ FpOk X pins H' kS

theorem fp_mono {X : Cx} {pins : List (Addr × Obj)} {H H' : Hp} {b : Addr} (f : FpOk X pins H b) (n : H' b = none) : FpOk X pins H' b := ⟨n, f.2⟩

section
variable {X : Cx} {pins : List (Addr × Obj)} {σ : L2.St} {G H : Hp} {a kS : Addr} {e1 : Nat} {m : List SD → W → Option (SD × W)} {f : Addr} {fd : FuncData} {ps : List Str} {j k : Nat}
theorem key_turn (F : FnOk X.prog X.w X.K X.mg X.base CX0 k f fd ps (spM X.K m)) (hb : Binds X.K fd ps []) (hr : Room k X.A.in1.in1) {ks : List PyData} {d kd : PyData} {x : V} {u : Value} {s' : Shared}
    (I : KeyInv X pins σ G H a kS e1 ks s') (hka : kS ≠ a) (rx : RelV x u) (hx : Dq X.K G x d) (hm : m [.d d] none = some (.d kd, none)) (hl : ks.length < sizeLine) :
    wpAny (model X.prog X.w) X.A.in1.in1 (call (.ref f) [u]) (fun v s'' => wpAny (model X.prog X.w) X.A.in1.in1 (Builtin.List.listUpdate (.ref kS) (·.push v)) (fun _ s3 => KeyInv X pins σ G H a kS e1 (ks ++ [kd]) s3) (fun _ _ => False) s'') (fun _ _ => False) s' := by
  obtain ⟨H', G', kvs, its, n, I1, rv, hd, ex, fa, fk⟩ := I
  have C := run_fn (X := Cx.srt X) (Q := fun v H2 => ∃ G2, Ext G' H' G2 H2 ∧ Dq X.K G2 v kd) (E := E0) (us := [u]) (vs := [x]) F hr hb .nil pass0 I1 (.cons rx .nil) (by
    refine ⟨G', ⟨0, 0, 0⟩, none, [.d d], .d kd, none, ex.gh, fun s e => (by cases e), .cons (dp_mono ex.gg hx) .nil, hm, fun v G2 H2 s1 s2 fr old _ _ ar => ⟨G2, ⟨fun b o e => fr b o e Mt.of_none, s1, s2, old⟩, ar⟩⟩)
  refine wpAny_mono C (fun v s2 h => ?_) fun _ _ e => e
  obtain ⟨xv, H2, I2, r2, G2, ex2, hk⟩ := h
  have pk := I2.pin (kS, seqObj "list" its.toArray n) (by simp)
  have pa := I2.pin (a, seqObj "list" #[] e1) (by simp)
  have hlen : its.length < sizeLine := by
    have h1 := rv.length
    have h2 := dpA_len hd
    omega
  refine listUpdate_at pk.1 rfl ?_ (by rw [List.size_toArray]; omega) (by rw [Array.size_push, List.size_toArray]; omega)
  obtain ⟨c2, hc2⟩ : ∃ c2, (s2.heap.update kS (Obj.mapSeq (·.push v))).get? kS = some (seqObj "list" (its.toArray.push v) c2) := ⟨_, get?_update_seq pk.1 (·.push v)⟩
  have sb := Heap.SameBut.update s2.heap kS (Obj.mapSeq (·.push v))
  have fa2 : FpOk X pins H2 a := fp_mono fa pa.2.1
  have fk2 : FpOk X pins H2 kS := fp_mono fk pk.2.1
  have I3 : Inv (Cx.srt X) pins σ H2 s2 := I2.pins_of fun p hp => I2.pin p (List.mem_append_right _ (.tail _ (.tail _ hp)))
  have I4 : Inv (Cx.srt X) pins σ H2 { s2 with heap := s2.heap.update kS (Obj.mapSeq (·.push v)) } := I3.turned (t' := s2.toks) (fun b o hb e => (sb.2 b hb).trans e) fk2.1 fk2.2.1 fk2.2.2.2.1 fk2.2.2.2.2.1 fk2.2.2.2.2.2
  refine ⟨H2, G2, kvs ++ [xv], its ++ [v], c2, I4.pins_of fun p hp => ?_, rv.append (.cons r2 .nil), dpA_app (dpA_mono ex2.gg hd) (.cons hk .nil), ex.trans ex2, fa2, fk2⟩
  rcases List.mem_cons.mp hp with rfl | hp
  · exact ⟨(sb.2 a hka.symm).trans pa.1, pa.2⟩
  rcases List.mem_cons.mp hp with rfl | hp
  · refine ⟨?_, pk.2.1, pk.2.2.1, pk.2.2.2.1, fun v q => by cases q⟩
    have e : (its ++ [v]).toArray = its.toArray.push v := by simp
    show _ = some (seqObj "list" (its ++ [v]).toArray c2)
    rw [e]
    exact hc2
  · exact I4.pin p (List.mem_append_right _ hp)
end

section
variable {X : Cx} {pins : List (Addr × Obj)} {σ : L2.St} {G H : Hp} {s : Shared} {m : List SD → W → Option (SD × W)} {f : Addr} {fd : FuncData} {ps : List Str} {k : Nat} {ds ks : List PyData} {xs : List V} {us : List Value}
/-- the sort itself, on the copy at a -/
theorem key_sort (F : FnOk X.prog X.w X.K X.mg X.base CX0 k f fd ps (spM X.K m)) (hb : Binds X.K fd ps []) (hr : Room k X.A.in1.in1) (hu : X.A.units + 64 < cLine) (I : Inv X pins σ H s) (sg : Same G H)
    (rv : Vals xs us) (hd : DqA X.K G xs ds) (hks : keysD m ds = some ks) (hl : ds.length ≤ 1000) (hok : keysOk ks = true) {E' : Value → Shared → Prop} {Q : VK}
    (q : ∀ (a : Addr) (vs : List V) (G' H' : Hp), Ext G H G' H' → H' a = none → DqA X.K G' vs (sortBy false ks ds) → Q (.ref a) (upd H' a (.lst vs))) :
    wpAny (model X.prog X.w) X.A.in1.in1 (ksk_tree (s.heap.objs.size + 1) (.ref f) false) (fun r s' => r = .done (.ret .none) ∧ EP X pins σ Q (.ref (s.heap.objs.size + 1)) s') E' { s with heap := PySem.W.copyHeap s.heap us } := by
  obtain ⟨o1, o2, o3⟩ := keysOk_ok hok
  have hul : us.length = ds.length := by rw [← rv.length]; exact dpA_len hd
  have hkl : ks.length = ds.length := keysD_len hks
  have hL : us.length ≤ sizeLine := by rw [hul]; exact len1000 hl
  have ho := PySem.W.copyHeap_at s.heap us
  obtain ⟨e1, ho1⟩ : ∃ e1, ((PySem.W.copyHeap s.heap us).update (s.heap.objs.size + 1) (Obj.mapSeq fun _ => (#[] : Array Value))).get? (s.heap.objs.size + 1) = some (seqObj "list" #[] e1) := ⟨_, get?_update_seq ho fun _ => #[]⟩
  generalize hkS : (((PySem.W.copyHeap s.heap us).update (s.heap.objs.size + 1) (Obj.mapSeq fun _ => (#[] : Array Value))).push (seqObj "tuple" us.toArray 0)).objs.size = kS
  have hcs : (PySem.W.copyHeap s.heap us).objs.size = s.heap.objs.size + 2 := by
    unfold PySem.W.copyHeap
    rw [size_push', Heap.size_update, size_push']
  have hkS' : kS = s.heap.objs.size + 3 := by
    rw [← hkS, size_push', Heap.size_update, hcs]
  have hka : kS ≠ s.heap.objs.size + 1 := by omega
  unfold ksk_tree
  refine wpAny_bind (listItems_at ho rfl ?_)
  refine wpAny_bind (listUpdate_at ho rfl ?_ (by rw [List.size_toArray]; exact hL) (Nat.zero_le _))
  refine wpAny_bind (seqEpoch_at ho1 rfl ?_)
  refine wpAny_bind (wpAny_newTuple ?_ (by show us.length ≤ _; exact hL))
  refine wpAny_bind (wpAny_newList ?_ (Nat.zero_le _))
  refine wpAny_holding ?_
  show wpAny _ _ (ksk_rest (s.heap.objs.size + 1) (.ref f) false us.toArray e1 (.ref (((PySem.W.copyHeap s.heap us).update (s.heap.objs.size + 1) (Obj.mapSeq fun _ => (#[] : Array Value))).push (seqObj "tuple" us.toArray 0)).objs.size)) _ _
    { s with heap := PySem.W.sortingHeap (PySem.W.copyHeap s.heap us) (s.heap.objs.size + 1) us }
  rw [hkS]
  have I1 : Inv X pins σ H { s with heap := PySem.W.sortingHeap (PySem.W.copyHeap s.heap us) (s.heap.objs.size + 1) us } := I.kept (t' := s.toks) fun b u e => PySem.W.sorting_copy_old e
  have ga : (PySem.W.sortingHeap (PySem.W.copyHeap s.heap us) (s.heap.objs.size + 1) us).get? (s.heap.objs.size + 1) = some (seqObj "list" #[] e1) := Heap.get?_push_of_some _ (Heap.get?_push_of_some _ ho1)
  have gk : (PySem.W.sortingHeap (PySem.W.copyHeap s.heap us) (s.heap.objs.size + 1) us).get? kS = some (seqObj "list" #[] 0) := by
    rw [← hkS]
    exact Heap.get?_push_size _ rfl
  have fa : FpOk X pins H (s.heap.objs.size + 1) := I.fpOk (Nat.le_succ _) (I.hok.fresh (Nat.le_succ _))
  have fk : FpOk X pins H kS := I.fpOk (by omega) (I.hok.fresh (by omega))
  have start : KeyInv X pins σ G H (s.heap.objs.size + 1) kS e1 [] { s with heap := PySem.W.sortingHeap (PySem.W.copyHeap s.heap us) (s.heap.objs.size + 1) us } := by
    refine ⟨H, G, [], [], 0, (Inv.srt I1).pins_of fun p hp => ?_, .nil, .nil, Ext.refl sg, fa, fk⟩
    rcases List.mem_cons.mp hp with rfl | hp
    · exact ⟨ga, fa.1, fa.2.1, fa.2.2.1, fun v q => by cases q⟩
    rcases List.mem_cons.mp hp with rfl | hp
    · exact ⟨gk, fk.1, fk.2.1, fk.2.2.1, fun v q => by cases q⟩
    · exact I1.pin p (List.mem_append_right _ hp)
  unfold ksk_rest
  refine wpAny_bind (wpAny_rule ?_)
  rw [List.forIn_toArray]
  refine wpAny_bind (ksk_fold (fun i s' => KeyInv X pins σ G H (s.heap.objs.size + 1) kS e1 (ks.take i) s') us 0 _ (by rw [List.take_zero]; exact start) ?step ?done)
  case step =>
    intro j u s' hj hI
    rw [Nat.zero_add] at hI ⊢
    obtain ⟨x, hx, rx⟩ := vals_ix rv hj
    obtain ⟨d, hdj, hq⟩ := dpA_get' hd hx
    obtain ⟨kd, hkj, hm⟩ := keysD_at hks hdj
    have hjl : j < us.length := (List.getElem?_eq_some_iff.mp hj).1
    refine wpAny_bind (wpAny_attempt (wpAny_mono (key_turn F hb hr hI hka rx hq hm (by rw [List.length_take]; omega)) (fun v s2 h => ?_) fun _ _ z => z.elim))
    refine wpAny_bind (wpAny_mono h (fun _ s3 h3 => ?_) fun _ _ z => z.elim)
    refine wpAny_pure ⟨rfl, ?_⟩
    rw [List.take_add_one, hkj]
    exact h3
  case done =>
    intro s' hI
    rw [Nat.zero_add, List.take_of_length_le (by omega)] at hI
    obtain ⟨H', G', kvs, its, n, I2, rk, hkd, ex, fa2, fk2⟩ := hI
    have pk := I2.pin (kS, seqObj "list" its.toArray n) (by simp)
    have pa := I2.pin (s.heap.objs.size + 1, seqObj "list" #[] e1) (by simp)
    have hil : its.length = us.length := by
      have h1 := rk.length
      have h2 := dpA_len hkd
      omega
    refine wpAny_bind (listItems_at pk.1 rfl ?_)
    have hR : PySem.W.EachIs (fun v d => ∃ as, Reads s'.heap v d as) its ks := each_ix (by omega) fun i v d e2 e3 => by
      obtain ⟨x, hx, rx⟩ := vals_ix rk e2
      obtain ⟨d', hd', hq⟩ := dpA_get' hkd hx
      rw [e3] at hd'; cases hd'
      exact Dp.reads I2 d x v (dp_mono ex.gh hq).dp rx
    have kp : PySem.W.KeepsBut (s.heap.objs.size + 1) (PySem.W.hideAll s'.heap [kS]) s'.heap := fun b o _ e => PySem.W.of_hideAll [kS] e
    refine PySem.W.keyH_end (κ := PySem.W.dataKind s'.heap ks) kp (PySem.W.hideAll_none [kS] (by simp)) pk.1 pa.1 hka (PySem.W.SortsAt.data (A := X.A.in1.in1) (s := s') hR o1 o2 fun d hd => ?_) (by rw [List.size_toArray]; exact hil) hL fun h' tk c k3 n3 => ⟨rfl, ?_⟩
    · have := o3 d hd
      show X.A.units + 1 + 1 + d.depth < cLine
      omega
    have ko : PySem.W.KeyedOut false ((ks.zip ds).map Prod.fst) us (PySem.W.sortVals (PySem.W.dataKind s'.heap ks) false its us) := by
      rw [List.map_fst_zip (by omega)]
      exact ⟨s'.heap, its, o1, rfl, hR⟩
    have er : PySem.W.EachIs (fun (u : Value) (p : PyData × PyData) => ∃ x, RelV x u ∧ Dq X.K G' x p.2) us (ks.zip ds) := each_ix (by rw [List.length_zip]; omega) fun i u p e2 e3 => by
      obtain ⟨x, hx, rx⟩ := vals_ix rv e2
      obtain ⟨d', hd', hq⟩ := dpA_get' hd hx
      rw [List.getElem?_zip_eq_some] at e3
      rw [e3.2] at hd'; cases hd'
      exact ⟨x, rx, dp_mono ex.gg hq⟩
    obtain ⟨ovs, w1, w2⟩ := each_out (PySem.W.keyedOut_each Prod.fst ko er)
    have hol : ovs.length ≤ sizeLine := by
      have h1 := dpA_len w2
      rw [List.length_map, List.length_mergeSort, List.length_zip] at h1
      rw [h1]
      exact len1000 (by omega)
    have I3 : Inv X pins σ H' s' := Inv.unsrt I.ok (I2.pins_of fun p hp => I2.pin p (List.mem_append_right _ (.tail _ (.tail _ hp))))
    refine ⟨.ref (s.heap.objs.size + 1), upd H' (s.heap.objs.size + 1) (.lst ovs), Inv.filled (t' := tk) I3 fa2 fk2 (fun b ob hb1 hb2 e => k3 b ob hb1 (PySem.W.hideAll_get [kS] e (by simp [hb2]))) ⟨hol, _, c, w1, n3⟩, rfl, q _ ovs G' H' ex fa2.1 w2⟩

def rSortK (K : PySem.W.Frag) (m : List SD → W → Option (SD × W)) (f : Addr) : List V → List V → Hp → VK → Prop := fun vs zs H Q => ∃ (l : Addr) (xs : List V) (ds r : List PyData) (G : Hp), vs = [.ref l] ∧ zs = [.ref f] ∧ SqL K H l xs ∧ Same G H ∧ DqA K G xs ds ∧ sortKD m ds = some r ∧
  ∀ (a : Addr) (vs : List V) (G' H' : Hp), Ext G H G' H' → H' a = none → DqA K G' vs r → Q (.ref a) (upd H' a (.lst vs))
theorem cr_sortK (F : FnOk X.prog X.w X.K X.mg X.base CX0 k f fd ps (spM X.K m)) (hb : Binds X.K fd ps []) (hr : Room k X.A.in1.in1) (hu : X.A.units + 64 < cLine) : CallRK X (.builtin "sorted") [Str.ofString "key"] (rSortK X.K m f) := by
  intro pins s σ H vs zs us ws Q I r rz h
  obtain ⟨l, xs, ds, res, G, rfl, rfl, hl, sg, hd, hs, q⟩ := h
  obtain rfl := Vals.ref1 r
  obtain ⟨w1, rfl, e1⟩ := vals1 rz
  obtain rfl : w1 = Value.ref f := e1
  obtain ⟨its, rv, hpl, hz⟩ := I.list hl
  unfold sortKD at hs
  split at hs
  · rename_i ks hks
    split at hs
    · rename_i hc
      cases hs
      rw [Bool.and_eq_true, decide_eq_true_iff] at hc
      refine PySem.W.sorted_of_sort hpl.isList (by rw [← rv.length]; exact hz) (ksk_s1 _ _) (fun _ => ksk_l1 _ _) fun E' => ?_
      have e0 : Builtin.«list.sort» ⟨[.ref (s.heap.objs.size + 1)], [Str.ofString "key"].zip [Value.ref f]⟩ = ksk_tree (s.heap.objs.size + 1) (.ref f) false := ksk_t1 f (s.heap.objs.size + 1)
      rw [e0]
      exact key_sort F hb hr hu I sg rv hd hks hc.1 hc.2 q
    · cases hs
  · cases hs
end
theorem do_sortK {X : Cx} {x y : Str} {e : Expr} {ms : Ax} {p pos p2 kpos : Pos} {m : List SD → W → Option (SD × W)} {j k : Nat} (F : Fn X.prog X.w X.K X.mg X.base k y m) (hr : Room j X.A) (hk : k + 1 ≤ j) (hu : X.A.units + 64 < cLine) (hm : X.mg x = none) (hv : bootBuiltins x = some (.builtin "sorted"))
    (ha : DA X [e] ms) (hg : Gl X x := by rfl) (hgy : Gl X y := by rfl) (hdy : (y == ("__debug__" : Str)) = false := by decide) (hn : x ≠ "__name__" := by decide) (hdb : (x == ("__debug__" : Str)) = false := by decide)
    (he : backTo pos (starEach [e] X.env) = (false, eval e X.env) :: backTo pos (starEach [] X.env) := by rfl) (hpl : (backTo pos (starEach [e] X.env)).any (·.1) = false := by rfl) :
    DO X (.Call (.Name x p) [e] [⟨some "key", .Name y p2, kpos⟩] pos) (mSortK m ms) := by
  obtain ⟨f, fd, ps, F, hmy, kp, hb⟩ := F.ex
  refine PE.weak (pe_callBK (ks := [Str.ofString "key"]) (cr_sortK F hb (Room.srt hr hk) hu) hg hm hv ha (pk_cons (pe_glob (v := .ref f) hgy hmy rfl hdy) pk_nil) hn hdb he hpl) fun σ H Q ⟨C, G, env, w, r, env', w', R, hmm, k⟩ => ?_
  obtain ⟨rs, dd, e1, w1, h1, h2, hmm⟩ := argsD_inv hmm
  split at hmm
  · rename_i xs
    cases hs : sortKD m xs with
    | none => rw [hs] at hmm; cases hmm
    | some res =>
      rw [hs] at hmm; cases hmm
      refine ⟨C, G, env, w, _, _, _, R, h1, fun vs G1 H1 R1 s1 i1 a1 => ?_⟩
      have dA := dsOf_ok a1 h2
      cases dA with
      | cons hd0 t =>
        cases t
        cases hd0 with
        | lst hG hA =>
          refine ⟨_, _, xs, _, G1, rfl, rfl, SqL.of (R1.sub _ _ hG), R1.sub, hA, hs, fun a ovs G2 H2 ex hn hd2 => ?_⟩
          obtain ⟨R3, q1, q2, q3, q4⟩ := new_O (vs := ovs) (R1.ext ex) hn
          exact k a ovs G2 _ R3 (s1.trans ex.gg) i1 q1 hd2 q2 q3 q4
  · cases hmm
end Dn

set_option maxHeartbeats 4000000
namespace Dn
open PySem PySem.Spec PyProof.Rows L2
noncomputable section
def cW1_number_at : Tx :=
 (mAnd (mTru (mOp neD (mSl (mVar 0) (mPart (mVar 2)) (mPart (mOp addD (mVar 2) (mC (.int 1))))) (mC (.str "")))) (mTru (mOp inD (mOp ixD (mVar 0) (mVar 2)) (mC (.str "0123456789")))))
def bW2_number_at : Sx :=
 (mAug addI 2 (mC (.int 1)))
def b_number_at : Sx :=
 (mSeq (mSet 2 (mVar 1))
 (mSeq (mWhile cW1_number_at bW2_number_at fuel)
 (mSeq (mSet 3 (mSl (mVar 0) (mPart (mVar 1)) (mPart (mVar 2))))
 (mSeq (mIf (mOr (mTru (mOp eqD (mVar 3) (mC (.str "")))) (mOr (mTru (mOp gtI (mB lenD (mCons (mVar 3) mNil)) (mC (.int 24)))) (mAnd (mTru (mOp eqD (mOp ixD (mVar 3) (mC (.int 0))) (mC (.str "0")))) (mTru (mOp neD (mVar 3) (mC (.str "0"))))))) (mRet (mC .none)) mNx)
 (mRet (mTup (mCons (mB intD (mCons (mVar 3) mNil)) (mCons (mVar 2) mNil))))))))
def m_number_at : List SD → W → Option (SD × W) := mFn 2 4 b_number_at
def cW1_numbers_at : Tx :=
 (mTru (mC (.bool true)))
def bW2_numbers_at : Sx :=
 (mSeq (mSet 4 (mCall m_number_at (mCons (mVar 0) (mCons (mVar 3) mNil))))
 (mSeq (mIf (mTru (mOp isD (mVar 4) (mC .none))) (mRet (mC .none)) mNx)
 (mSeq (mAppend 2 (mOp ixD (mVar 4) (mC (.int 0))))
 (mSeq (mSet 3 (mOp ixD (mVar 4) (mC (.int 1))))
 (mSeq (mIf (mOr (mTru (mOp neD (mSl (mVar 0) (mPart (mVar 3)) (mPart (mOp addD (mVar 3) (mC (.int 1))))) (mC (.str ".")))) (mTru (mOp notInD (mSl (mVar 0) (mPart (mOp addD (mVar 3) (mC (.int 1)))) (mPart (mOp addD (mVar 3) (mC (.int 2))))) (mB tupStrD (mCons (mC (.str "0123456789")) mNil))))) (mRet (mIf (mTru (mOp leI (mPkLen 2) (mC (.int 60)))) (mTup (mCons (mB tupleD (mCons (mVar 2) mNil)) (mCons (mVar 3) mNil))) (mC .none))) mNx)
 (mAug addI 3 (mC (.int 1))))))))
def b_numbers_at : Sx :=
 (mSeq (mParO 2 3 (mLst mNil) (mVar 1))
 (mWhile cW1_numbers_at bW2_numbers_at fuel))
def m_numbers_at : List SD → W → Option (SD × W) := mFn 2 5 b_numbers_at
def bF1_word_at : Sx :=
 (mIf (mTru (mMtS starts2D (mVar 0) (mCons (mVar 3) (mCons (mVar 1) mNil)))) (mSeq (mSet 4 (mCall m_number_at (mCons (mVar 0) (mCons (mOp addD (mVar 1) (mB lenD (mCons (mVar 3) mNil))) mNil))))
 (mRet (mIf (mTru (mOp isD (mVar 4) (mC .none))) (mC .none) (mTup (mCons (mTup (mCons (mVar 3) (mCons (mOp ixD (mVar 4) (mC (.int 0))) mNil))) (mCons (mOp ixD (mVar 4) (mC (.int 1))) mNil)))))) mNx)
def b_word_at : Sx :=
 (mSeq (mFor (mItems (mVar 2)) (mgName 3) bF1_word_at)
 (mRet (mTup (mCons (mC .none) (mCons (mVar 1) mNil)))))
def m_word_at : List SD → W → Option (SD × W) := mFn 3 5 b_word_at
def bF1_tail_at : Sx :=
 (mSeq (mSet 5 (mCall m_word_at (mCons (mVar 0) (mCons (mVar 3) (mCons (mVar 4) mNil)))))
 (mSeq (mIf (mTru (mOp isD (mVar 5) (mC .none))) (mRet (mC .none)) mNx)
 (mSeq (mAppend 2 (mOp ixD (mVar 5) (mC (.int 0))))
 (mSet 3 (mOp ixD (mVar 5) (mC (.int 1)))))))
def b_tail_at : Sx :=
 (mSeq (mParO 2 3 (mLst mNil) (mVar 1))
 (mSeq (mFor (mItems (mTup (mCons (mC (.tuple ((["a", "b", "rc"] : List Str).map .str))) (mCons (mTup (mCons (mC (.str ".post")) mNil)) (mCons (mTup (mCons (mC (.str ".dev")) mNil)) mNil))))) (mgName 4) bF1_tail_at)
 (mSeq (mIf (mTru (mOp neD (mVar 3) (mB lenD (mCons (mVar 0) mNil)))) (mRet (mC .none)) mNx)
 (mSeq (mAsg (mVar 2) (mgUnl 3 (mgCons (mgName 6) (mgCons (mgName 7) (mgCons (mgName 8) mgNil)))))
 (mRet (mTup (mCons (mVar 6) (mCons (mIf (mTru (mOp isD (mVar 7) (mC .none))) (mC .none) (mOp ixD (mVar 7) (mC (.int 1)))) (mCons (mIf (mTru (mOp isD (mVar 8) (mC .none))) (mC .none) (mOp ixD (mVar 8) (mC (.int 1)))) mNil)))))))))
def m_tail_at : List SD → W → Option (SD × W) := mFn 2 9 b_tail_at
def b_parts_of : Sx :=
 (mSeq (mIf (mNot (mTru (mIs isStr (mVar 0)))) (mRet (mC .none)) mNx)
 (mSeq (mAsg (mTup (mCons (mC (.int 0)) (mCons (mC (.int 0)) mNil))) (mgTup 2 (mgCons (mgName 1) (mgCons (mgName 2) mgNil))))
 (mSeq (mIf (mTru (mOp inD (mC (.str "!")) (mVar 0))) (mSeq (mSet 3 (mCall m_number_at (mCons (mVar 0) (mCons (mC (.int 0)) mNil))))
 (mSeq (mIf (mOr (mTru (mOp isD (mVar 3) (mC .none))) (mTru (mOp neD (mOp ixD (mVar 0) (mOp ixD (mVar 3) (mC (.int 1)))) (mC (.str "!"))))) (mRet (mC .none)) mNx)
 (mPar 1 2 (mOp ixD (mVar 3) (mC (.int 0))) (mOp addD (mOp ixD (mVar 3) (mC (.int 1))) (mC (.int 1)))))) mNx)
 (mSeq (mSet 4 (mCall m_numbers_at (mCons (mVar 0) (mCons (mVar 2) mNil))))
 (mSeq (mIf (mTru (mOp isD (mVar 4) (mC .none))) (mRet (mC .none)) mNx)
 (mSeq (mSet 5 (mCall m_tail_at (mCons (mVar 0) (mCons (mOp ixD (mVar 4) (mC (.int 1))) mNil))))
 (mRet (mIf (mTru (mOp isD (mVar 5) (mC .none))) (mC .none) (mTup (mCons (mVar 1) (mCons (mOp ixD (mVar 4) (mC (.int 0))) (mStar (mVar 5) mNil))))))))))))
def m_parts_of : List SD → W → Option (SD × W) := mFn 1 6 b_parts_of
def cW1_based : Tx :=
 (mAnd (mTru (mOp gtI (mVar 1) (mC (.int 0)))) (mTru (mOp eqD (mOp ixD (mVar 0) (mOp subI (mVar 1) (mC (.int 1)))) (mC (.int 0)))))
def bW2_based : Sx :=
 (mAug subI 1 (mC (.int 1)))
def b_based : Sx :=
 (mSeq (mSet 1 (mB lenD (mCons (mVar 0) mNil)))
 (mSeq (mWhile cW1_based bW2_based fuel)
 (mRet (mSl (mVar 0) mNo (mPart (mVar 1))))))
def m_based : List SD → W → Option (SD × W) := mFn 1 2 b_based
def b_tail_of : Sx :=
 (mSeq (mSet 3 (mIf (mTru (mOp isD (mVar 2) (mC .none))) (mTup (mCons (mC (.int 1)) mNil)) (mTup (mCons (mC (.int 0)) (mCons (mVar 2) mNil)))))
 (mSeq (mIf (mTru (mOp isNotD (mVar 0) (mC .none))) (mSeq (mSet 4 (mTup (mCons (mC (.int 1)) (mCons (mB (idxD ["a", "b", "rc"]) (mCons (mOp ixD (mVar 0) (mC (.int 0))) mNil)) (mCons (mOp ixD (mVar 0) (mC (.int 1))) mNil)))))
 (mRet (mIf (mTru (mOp isD (mVar 1) (mC .none))) (mOp addD (mVar 4) (mVar 3)) (mOp addD (mOp addD (mVar 4) (mTup (mCons (mC (.int 2)) (mCons (mVar 1) mNil)))) (mVar 3))))) mNx)
 (mSeq (mIf (mTru (mOp isNotD (mVar 1) (mC .none))) (mRet (mOp addD (mTup (mCons (mC (.int 3)) (mCons (mVar 1) mNil))) (mVar 3))) mNx)
 (mRet (mIf (mTru (mOp isD (mVar 2) (mC .none))) (mTup (mCons (mC (.int 2)) mNil)) (mVar 3))))))
def m_tail_of : List SD → W → Option (SD × W) := mFn 3 5 b_tail_of
def b_split_tail : Sx :=
 (mSeq (mPar3 1 2 3 (mC .none) (mC .none) (mVar 0))
 (mSeq (mIf (mTru (mOp eqD (mVar 0) (mTup (mCons (mC (.int 2)) mNil)))) (mRet (mTup (mCons (mC .none) (mCons (mC .none) (mCons (mC .none) mNil))))) mNx)
 (mSeq (mIf (mTru (mOp eqD (mOp ixD (mVar 0) (mC (.int 0))) (mC (.int 1)))) (mPar 1 3 (mTup (mCons (mOp ixD (mC (.tuple ((["a", "b", "rc"] : List Str).map .str))) (mOp ixD (mVar 0) (mC (.int 1)))) (mCons (mOp ixD (mVar 0) (mC (.int 2))) mNil))) (mSl (mVar 0) (mPart (mC (.int 3))) mNo)) mNx)
 (mSeq (mIf (mTru (mOp inD (mOp ixD (mVar 3) (mC (.int 0))) (mTup (mCons (mC (.int 2)) (mCons (mC (.int 3)) mNil))))) (mPar 2 3 (mOp ixD (mVar 3) (mC (.int 1))) (mSl (mVar 3) (mPart (mC (.int 2))) mNo)) mNx)
 (mRet (mTup (mCons (mVar 1) (mCons (mVar 2) (mCons (mIf (mTru (mOp eqD (mOp ixD (mVar 3) (mC (.int 0))) (mC (.int 1)))) (mC .none) (mOp ixD (mVar 3) (mC (.int 1)))) mNil)))))))))
def m_split_tail : List SD → W → Option (SD × W) := mFn 1 4 b_split_tail
def b_key_from : Sx :=
 (mSeq (mAsg (mVar 0) (mgTup 5 (mgCons (mgName 1) (mgCons (mgName 2) (mgCons (mgName 3) (mgCons (mgName 4) (mgCons (mgName 5) mgNil)))))))
 (mRet (mTup (mCons (mVar 1) (mCons (mCall m_based (mCons (mVar 2) mNil)) (mCons (mCall m_tail_of (mCons (mVar 3) (mCons (mVar 4) (mCons (mVar 5) mNil)))) mNil))))))
def m_key_from : List SD → W → Option (SD × W) := mFn 1 6 b_key_from
def eC1_text_of : Ex :=
 (mB strD (mCons (mVar 8) mNil))
def b_text_of : Sx :=
 (mSeq (mAsg (mVar 0) (mgTup 3 (mgCons (mgName 1) (mgCons (mgName 2) (mgCons (mgName 3) mgNil)))))
 (mSeq (mAsg (mCall m_split_tail (mCons (mVar 3) mNil)) (mgTup 3 (mgCons (mgName 4) (mgCons (mgName 5) (mgCons (mgName 6) mgNil)))))
 (mSeq (mSet 7 (mIf (mTru (mOp eqD (mVar 1) (mC (.int 0)))) (mC (.str "")) (mJs [(mFmt (mVar 1)), (mC (.str "!"))] Str.empty)))
 (mSeq (mAug addS 7 (mIf (mTru (mOp neD (mVar 2) (mTup mNil))) (mMtS joinD (mC (.str ".")) (mCons (mFz (mLc (mItems (mVar 2)) (mgName 8) mYes eC1_text_of [8])) mNil)) (mC (.str "0"))))
 (mSeq (mIf (mTru (mOp isNotD (mVar 4) (mC .none))) (mAug addS 7 (mJs [(mFmt (mOp ixD (mVar 4) (mC (.int 0)))), (mFmt (mOp ixD (mVar 4) (mC (.int 1))))] Str.empty)) mNx)
 (mSeq (mIf (mTru (mOp isNotD (mVar 5) (mC .none))) (mAug addS 7 (mJs [(mFmt (mC (.str ".post"))), (mFmt (mVar 5))] Str.empty)) mNx)
 (mRet (mIf (mTru (mOp isD (mVar 6) (mC .none))) (mVar 7) (mJs [(mFmt (mVar 7)), (mFmt (mC (.str ".dev"))), (mFmt (mVar 6))] Str.empty)))))))))
def m_text_of : List SD → W → Option (SD × W) := mFn 1 9 b_text_of
def b_need_key : Sx :=
 (mSeq (mSet 1 (mCall m_parts_of (mCons (mVar 0) mNil)))
 (mSeq (mIf (mTru (mOp isD (mVar 1) (mC .none))) mFail mNx)
 (mRet (mCall m_key_from (mCons (mVar 1) mNil)))))
def m_need_key : List SD → W → Option (SD × W) := mFn 1 2 b_need_key
def b_is_version : Sx :=
 (mRet (mOp isNotD (mCall m_parts_of (mCons (mVar 0) mNil)) (mC .none)))
def m_is_version : List SD → W → Option (SD × W) := mFn 1 1 b_is_version
def b_order : Sx :=
 (mSeq (mPar 2 3 (mCall m_need_key (mCons (mVar 0) mNil)) (mCall m_need_key (mCons (mVar 1) mNil)))
 (mSeq (mIf (mTru (mOp eqD (mVar 2) (mVar 3))) (mRet (mC (.int 0))) mNx)
 (mRet (mIf (mTru (mOp ltD (mVar 2) (mVar 3))) (mNeg (mC (.int 1))) (mC (.int 1))))))
def m_order : List SD → W → Option (SD × W) := mFn 2 4 b_order
def b_plainest : Sx :=
 (mRet (mCall m_text_of (mCons (mCall m_need_key (mCons (mVar 0) mNil)) mNil)))
def m_plainest : List SD → W → Option (SD × W) := mFn 1 1 b_plainest
def b__law_of : Sx :=
 (mRet (mOp ixD (mVar 1) (mCall m__law_draw (mCons (mVar 0) (mCons (mB lenD (mCons (mVar 1) mNil)) mNil)))))
def m__law_of : List SD → W → Option (SD × W) := mFn 2 2 b__law_of
def bF1__law_parts : Sx :=
 (mIf (mAnd (mTru (mOp eqD (mVar 6) (mFz (mLst mNil)))) (mTru (mOp inD (mVar 7) (mVar 3)))) (mSeq (mAsg (mMtS partD (mVar 3) (mCons (mVar 7) mNil)) (mgTup 3 (mgCons (mgName 3) (mgCons (mgName 2) (mgCons (mgName 8) mgNil)))))
 (mSet 6 (mFz (mLst (mCons (mVar 7) (mCons (mB intD (mCons (mVar 8) mNil)) mNil)))))) mNx)
def eC2__law_parts : Ex :=
 (mB intD (mCons (mVar 8) mNil))
def b__law_parts : Sx :=
 (mSeq (mAsg (mMtS rpartD (mVar 0) (mCons (mC (.str "!")) mNil)) (mgTup 3 (mgCons (mgName 1) (mgCons (mgName 2) (mgCons (mgName 3) mgNil)))))
 (mSeq (mAsg (mMtS partD (mVar 3) (mCons (mC (.str ".dev")) mNil)) (mgTup 3 (mgCons (mgName 3) (mgCons (mgName 2) (mgCons (mgName 4) mgNil)))))
 (mSeq (mAsg (mMtS partD (mVar 3) (mCons (mC (.str ".post")) mNil)) (mgTup 3 (mgCons (mgName 3) (mgCons (mgName 2) (mgCons (mgName 5) mgNil)))))
 (mSeq (mSet 6 (mFz (mLst mNil)))
 (mSeq (mFor (mItems (mTup (mCons (mC (.str "rc")) (mCons (mC (.str "b")) (mCons (mC (.str "a")) mNil))))) (mgName 7) bF1__law_parts)
 (mSeq (mSet 9 (mFz (mLc (mItems (mMtS splitD (mVar 3) (mCons (mC (.str ".")) mNil))) (mgName 8) mYes eC2__law_parts [8])))
 (mRet (mTup (mCons (mB intD (mCons (mOp addD (mC (.str "0")) (mVar 1)) mNil)) (mCons (mVar 9) (mCons (mVar 6) (mCons (mIf (mTru (mOp neD (mVar 5) (mC (.str "")))) (mFz (mLst (mCons (mB intD (mCons (mVar 5) mNil)) mNil))) (mFz (mLst mNil))) (mCons (mIf (mTru (mOp neD (mVar 4) (mC (.str "")))) (mFz (mLst (mCons (mB intD (mCons (mVar 4) mNil)) mNil))) (mFz (mLst mNil))) mNil)))))))))))))
def m__law_parts : List SD → W → Option (SD × W) := mFn 1 10 b__law_parts
def cW1__law_base : Tx :=
 (mAnd (mTru (mPkOp neD 1 (mFz (mLst mNil)))) (mTru (mOp eqD (mPkIx 1 (mNeg (mC (.int 1)))) (mC (.int 0)))))
def b__law_base : Sx :=
 (mSeq (mSetO 1 (mListO (mCons (mOp ixD (mVar 0) (mC (.int 1))) mNil)))
 (mSeq (mWhile cW1__law_base (mPop 1) fuel)
 (mRet (mTup (mCons (mOp ixD (mVar 0) (mC (.int 0))) (mCons (mVar 1) mNil))))))
def m__law_base : List SD → W → Option (SD × W) := mFn 1 2 b__law_base
def b__law_key : Sx :=
 (mSeq (mSet 1 (mCall m__law_parts (mCons (mVar 0) mNil)))
 (mSeq (mAsg (mVar 1) (mgTup 5 (mgCons (mgName 2) (mgCons (mgName 3) (mgCons (mgName 4) (mgCons (mgName 5) (mgCons (mgName 6) mgNil)))))))
 (mSeq (mSet 7 (mIf (mTru (mOp neD (mVar 4) (mFz (mLst mNil)))) (mOp addD (mFz (mLst (mCons (mC (.int 1)) mNil))) (mVar 4)) (mFz (mLst (mCons (mIf (mAnd (mTru (mOp eqD (mVar 5) (mFz (mLst mNil)))) (mTru (mOp neD (mVar 6) (mFz (mLst mNil))))) (mC (.int 0)) (mC (.int 2))) mNil)))))
 (mRet (mTup (mCons (mCall m__law_base (mCons (mVar 1) mNil)) (mCons (mVar 7) (mCons (mIf (mTru (mOp neD (mVar 5) (mFz (mLst mNil)))) (mVar 5) (mFz (mLst (mCons (mNeg (mC (.int 1))) mNil)))) (mCons (mIf (mTru (mOp neD (mVar 6) (mFz (mLst mNil)))) (mOp addD (mFz (mLst (mCons (mC (.int 0)) mNil))) (mVar 6)) (mFz (mLst (mCons (mC (.int 1)) mNil)))) mNil)))))))))
def m__law_key : List SD → W → Option (SD × W) := mFn 1 8 b__law_key
def eC1__law_text : Ex :=
 (mB strD (mCons (mVar 6) mNil))
def b__law_text : Sx :=
 (mSeq (mSet 5 (mOp addD (mIf (mTru (mOp gtI (mVar 0) (mC (.int 0)))) (mOp addD (mB strD (mCons (mVar 0) mNil)) (mC (.str "!"))) (mC (.str ""))) (mMtS joinD (mC (.str ".")) (mCons (mFz (mLc (mItems (mVar 1)) (mgName 6) mYes eC1__law_text [6])) mNil))))
 (mSeq (mSet 5 (mOp addD (mVar 5) (mIf (mTru (mOp neD (mVar 2) (mFz (mLst mNil)))) (mOp addD (mOp ixD (mVar 2) (mC (.int 0))) (mB strD (mCons (mOp ixD (mVar 2) (mC (.int 1))) mNil))) (mC (.str "")))))
 (mSeq (mSet 5 (mOp addD (mVar 5) (mIf (mTru (mOp neD (mVar 3) (mFz (mLst mNil)))) (mOp addD (mC (.str ".post")) (mB strD (mCons (mOp ixD (mVar 3) (mC (.int 0))) mNil))) (mC (.str "")))))
 (mRet (mOp addD (mVar 5) (mIf (mTru (mOp neD (mVar 4) (mFz (mLst mNil)))) (mOp addD (mC (.str ".dev")) (mB strD (mCons (mOp ixD (mVar 4) (mC (.int 0))) mNil))) (mC (.str ""))))))))
def m__law_text : List SD → W → Option (SD × W) := mFn 5 7 b__law_text
def bF1__law_small : Sx :=
 (mAppend 0 (mCall m__law_text (mCons (mC (.int 0)) (mCons (mVar 1) (mCons (mVar 2) (mCons (mVar 3) (mCons (mVar 4) mNil)))))))
def bF2__law_small : Sx :=
 (mFor (mItems (mTup (mCons (mTup (mCons (mFz (mLst mNil)) (mCons (mFz (mLst mNil)) mNil))) (mCons (mTup (mCons (mFz (mLst mNil)) (mCons (mFz (mLst (mCons (mC (.int 0)) mNil))) mNil))) (mCons (mTup (mCons (mFz (mLst (mCons (mC (.int 0)) mNil))) (mCons (mFz (mLst mNil)) mNil))) (mCons (mTup (mCons (mFz (mLst (mCons (mC (.int 1)) mNil))) (mCons (mFz (mLst (mCons (mC (.int 0)) mNil))) mNil))) mNil)))))) (mgTup 2 (mgCons (mgName 3) (mgCons (mgName 4) mgNil))) bF1__law_small)
def bF3__law_small : Sx :=
 (mFor (mItems (mTup (mCons (mFz (mLst mNil)) (mCons (mFz (mLst (mCons (mC (.str "a")) (mCons (mC (.int 0)) mNil)))) (mCons (mFz (mLst (mCons (mC (.str "a")) (mCons (mC (.int 1)) mNil)))) (mCons (mFz (mLst (mCons (mC (.str "rc")) (mCons (mC (.int 0)) mNil)))) mNil)))))) (mgName 2) bF2__law_small)
def b__law_small : Sx :=
 (mSeq (mSetO 0 (mLst mNil))
 (mSeq (mFor (mItems (mTup (mCons (mFz (mLst (mCons (mC (.int 0)) mNil))) (mCons (mFz (mLst (mCons (mC (.int 0)) (mCons (mC (.int 1)) mNil)))) (mCons (mFz (mLst (mCons (mC (.int 1)) mNil))) (mCons (mFz (mLst (mCons (mC (.int 1)) (mCons (mC (.int 0)) (mCons (mC (.int 1)) mNil))))) (mCons (mFz (mLst (mCons (mC (.int 1)) (mCons (mC (.int 1)) mNil)))) (mCons (mFz (mLst (mCons (mC (.int 1)) (mCons (mC (.int 2)) mNil)))) (mCons (mFz (mLst (mCons (mC (.int 2)) mNil))) mNil))))))))) (mgName 1) bF3__law_small)
 (mRet (mFz (mSortK m__law_key (mCons (mOp addD (mVar 0) (mFz (mLst (mCons (mC (.str "1!0")) (mCons (mC (.str "1!0.dev0")) (mCons (mC (.str "1!1a0")) mNil)))))) mNil))))))
def m__law_small : List SD → W → Option (SD × W) := mFn 0 5 b__law_small
def eC1__law_version : Ex :=
 (mCall m__law_draw (mCons (mVar 0) (mCons (mOp ixD (mFz (mLst (mCons (mC (.int 2)) (mCons (mC (.int 3)) (mCons (mC (.int 3)) (mCons (mC (.int 12)) mNil)))))) (mCall m__law_draw (mCons (mVar 0) (mCons (mC (.int 4)) mNil)))) mNil)))
def b__law_version : Sx :=
 (mSeq (mSet 1 (mFz (mLc (mRng rng1D (mCons (mOp addD (mC (.int 1)) (mCall m__law_draw (mCons (mVar 0) (mCons (mC (.int 3)) mNil)))) mNil)) (mgName 7) mYes eC1__law_version [7])))
 (mSeq (mIf (mTru (mOp eqD (mCall m__law_draw (mCons (mVar 0) (mCons (mC (.int 12)) mNil))) (mC (.int 0)))) (mSet 1 (mOp addD (mVar 1) (mFz (mLst (mCons (mC (.int 0)) (mCons (mCall m__law_draw (mCons (mVar 0) (mCons (mOp powI (mC (.int 10)) (mC (.int 9))) mNil))) mNil)))))) mNx)
 (mSeq (mPar 2 3 (mCall m__law_draw (mCons (mVar 0) (mCons (mC (.int 9)) mNil))) (mFz (mLst (mCons (mC (.int 0)) (mCons (mC (.int 0)) (mCons (mC (.int 1)) (mCons (mC (.int 2)) (mCons (mCall m__law_draw (mCons (mVar 0) (mCons (mC (.int 1000)) mNil))) mNil))))))))
 (mSeq (mSet 4 (mIf (mTru (mOp inD (mVar 2) (mTup (mCons (mC (.int 1)) (mCons (mC (.int 2)) (mCons (mC (.int 3)) mNil)))))) (mFz (mLst (mCons (mOp ixD (mFz (mLst (mCons (mC (.str "a")) (mCons (mC (.str "b")) (mCons (mC (.str "rc")) mNil))))) (mCall m__law_draw (mCons (mVar 0) (mCons (mC (.int 3)) mNil)))) (mCons (mOp ixD (mVar 3) (mCall m__law_draw (mCons (mVar 0) (mCons (mC (.int 5)) mNil)))) mNil)))) (mFz (mLst mNil))))
 (mSeq (mSet 5 (mIf (mTru (mOp inD (mVar 2) (mTup (mCons (mC (.int 3)) (mCons (mC (.int 4)) (mCons (mC (.int 5)) mNil)))))) (mFz (mLst (mCons (mOp ixD (mVar 3) (mCall m__law_draw (mCons (mVar 0) (mCons (mC (.int 5)) mNil)))) mNil))) (mFz (mLst mNil))))
 (mSeq (mSet 6 (mIf (mTru (mOp inD (mVar 2) (mTup (mCons (mC (.int 2)) (mCons (mC (.int 5)) (mCons (mC (.int 6)) mNil)))))) (mFz (mLst (mCons (mOp ixD (mVar 3) (mCall m__law_draw (mCons (mVar 0) (mCons (mC (.int 5)) mNil)))) mNil))) (mFz (mLst mNil))))
 (mRet (mCall m__law_text (mCons (mOp ixD (mFz (mLst (mCons (mC (.int 0)) (mCons (mC (.int 0)) (mCons (mC (.int 0)) (mCons (mC (.int 0)) (mCons (mC (.int 0)) (mCons (mC (.int 1)) (mCons (mC (.int 1)) (mCons (mC (.int 7)) mNil)))))))))) (mCall m__law_draw (mCons (mVar 0) (mCons (mC (.int 8)) mNil)))) (mCons (mVar 1) (mCons (mVar 4) (mCons (mVar 5) (mCons (mVar 6) mNil)))))))))))))
def m__law_version : List SD → W → Option (SD × W) := mFn 1 8 b__law_version
def b__law_dressed : Sx :=
 (mSeq (mAsg (mCall m__law_parts (mCons (mVar 1) mNil)) (mgTup 5 (mgCons (mgName 2) (mgCons (mgName 3) (mgCons (mgName 4) (mgCons (mgName 5) (mgCons (mgName 6) mgNil)))))))
 (mSeq (mSet 7 (mCall m__law_text (mCons (mVar 2) (mCons (mSl (mOp addD (mVar 3) (mOp mulD (mFz (mLst (mCons (mC (.int 0)) mNil))) (mCall m__law_draw (mCons (mVar 0) (mCons (mC (.int 6)) mNil))))) mNo (mPart (mC (.int 8)))) (mCons (mVar 4) (mCons (mVar 5) (mCons (mVar 6) mNil)))))))
 (mRet (mIf (mAnd (mTru (mOp eqD (mVar 2) (mC (.int 0)))) (mTru (mOp eqD (mCall m__law_draw (mCons (mVar 0) (mCons (mC (.int 2)) mNil))) (mC (.int 0))))) (mOp addD (mC (.str "0!")) (mVar 7)) (mVar 7)))))
def m__law_dressed : List SD → W → Option (SD × W) := mFn 2 8 b__law_dressed
def b__law_due : Sx :=
 (mSeq (mAsg (mCall m__law_parts (mCons (mVar 0) mNil)) (mgTup 5 (mgCons (mgName 1) (mgCons (mgName 2) (mgCons (mgName 3) (mgCons (mgName 4) (mgCons (mgName 5) mgNil)))))))
 (mSeq (mSet 6 (mOp ixD (mCall m__law_base (mCons (mTup (mCons (mVar 1) (mCons (mVar 2) mNil))) mNil)) (mC (.int 1))))
 (mRet (mCall m__law_text (mCons (mVar 1) (mCons (mIf (mTru (mOp neD (mVar 6) (mFz (mLst mNil)))) (mVar 6) (mFz (mLst (mCons (mC (.int 0)) mNil)))) (mCons (mVar 3) (mCons (mVar 4) (mCons (mVar 5) mNil)))))))))
def m__law_due : List SD → W → Option (SD × W) := mFn 1 7 b__law_due
def bF1__law_right : Sx :=
 (mSeq (mSet 4 (mCall m__law_dressed (mCons (mVar 0) (mCons (mVar 1) mNil))))
 (mIf (mOr (mTru (mOp neD (mCall m_plainest (mCons (mVar 4) mNil)) (mVar 2))) (mOr (mTru (mOp neD (mCall m_order (mCons (mVar 4) (mCons (mVar 2) mNil))) (mC (.int 0)))) (mTru (mOp gtI (mB lenD (mCons (mVar 2) mNil)) (mB lenD (mCons (mVar 4) mNil)))))) (mRet (mC (.bool false))) mNx))
def b__law_right : Sx :=
 (mSeq (mSet 2 (mCall m__law_due (mCons (mVar 1) mNil)))
 (mSeq (mFor (mRng rng1D (mCons (mC (.int 3)) mNil)) (mgName 3) bF1__law_right)
 (mRet (mAndV (mOp eqD (mCall m_plainest (mCons (mVar 2) mNil)) (mVar 2)) (mAndV (mOp eqD (mCall m_plainest (mCons (mVar 1) mNil)) (mVar 2)) (mOp isD (mCall m_is_version (mCons (mVar 2) mNil)) (mC (.bool true))))))))
def m__law_right : List SD → W → Option (SD × W) := mFn 2 5 b__law_right
def eC1_law : Ex :=
 (mCall m__law_of (mCons (mVar 1) (mCons (mVar 2) mNil)))
def eC2_law : Ex :=
 (mCall m__law_version (mCons (mVar 1) mNil))
def tC3_law : Tx :=
 (mNot (mTru (mCall m__law_right (mCons (mVar 1) (mCons (mVar 8) mNil)))))
def bF4_law : Sx :=
 (mIf (mTru (mOp neD (mOp eqD (mCall m_plainest (mCons (mVar 5) mNil)) (mCall m_plainest (mCons (mVar 6) mNil))) (mOp eqD (mCall m__law_key (mCons (mVar 5) mNil)) (mCall m__law_key (mCons (mVar 6) mNil))))) (mRet (mC (.bool false))) mNx)
def bF5_law : Sx :=
 (mFor (mItems (mVar 4)) (mgName 6) bF4_law)
def bF6_law : Sx :=
 (mSeq (mSet 4 (mOp addD (mFz (mLc (mRng rng1D (mCons (mC (.int 8)) mNil)) (mgName 9) mYes eC1_law [9])) (mFz (mLc (mRng rng1D (mCons (mC (.int 8)) mNil)) (mgName 9) mYes eC2_law [9]))))
 (mSeq (mIf (mTru (mOp neD (mFz (mLc (mItems (mVar 4)) (mgName 8) tC3_law (mVar 8) [8])) (mFz (mLst mNil)))) (mRet (mC (.bool false))) mNx)
 (mFor (mItems (mVar 4)) (mgName 5) bF5_law)))
def eC7_law : Ex :=
 (mCall m_plainest (mCons (mVar 8) mNil))
def b_law : Sx :=
 (mSeq (mSet 2 (mCall m__law_small mNil))
 (mSeq (mFor (mRng rng1D (mCons (mOp addD (mC (.int 2)) (mB min2D (mCons (mC (.int 3)) (mCons (mScrLen 0) mNil)))) mNil)) (mgName 3) bF6_law)
 (mSeq (mSet 4 (mFz (mLst (mCons (mC (.str "0")) (mCons (mC (.str "0.0")) (mCons (mC (.str "0!0.0.0")) (mCons (mC (.str "1!0")) (mCons (mC (.str "1!0.0")) (mCons (mC (.str "0.0.1")) (mCons (mC (.str "10.0")) (mCons (mC (.str "1.0a0")) (mCons (mC (.str "0!1.0.post0.dev0")) mNil))))))))))))
 (mSeq (mSet 7 (mFz (mLst (mCons (mC (.str "0")) (mCons (mC (.str "0")) (mCons (mC (.str "0")) (mCons (mC (.str "1!0")) (mCons (mC (.str "1!0")) (mCons (mC (.str "0.0.1")) (mCons (mC (.str "10")) (mCons (mC (.str "1a0")) (mCons (mC (.str "1.post0.dev0")) mNil))))))))))))
 (mRet (mOp eqD (mFz (mLc (mItems (mVar 4)) (mgName 8) mYes eC7_law [8])) (mVar 7)))))))
end
end Dn

set_option maxHeartbeats 4000000
namespace Dn
open PySem PySem.Spec PyProof.Rows L2 SX
open TL (numL)

/-! ### texts as code points: the operations -/
def dig (c : Nat) : Bool := decide (48 ≤ c) && decide (c ≤ 57)
/-- short enough for all operations -/
abbrev Sh (l : List Nat) : Prop := l.length ≤ 100000
theorem sh_line {l : List Nat} (h : Sh l) : (S l).length ≤ sizeLine := by rw [S_len, sizeLine_eq]; unfold Sh at h; omega
theorem cutS_nat (l : List Nat) (a b : Nat) : cutS (S l) (some (a : Int)) (some (b : Int)) = S ((l.drop a).take (b - a)) := by
  unfold cutS
  rw [HT.sIx_nat, HT.sIx_nat, S_len]
  refine congrArg S ?_
  show (l.drop (min a l.length)).take (min b l.length - min a l.length) = _
  by_cases ha : a ≤ l.length
  · rw [Nat.min_eq_left ha]
    by_cases hb : b ≤ l.length
    · rw [Nat.min_eq_left hb]
    · rw [Nat.min_eq_right (by omega), List.take_of_length_le (by rw [List.length_drop]; omega), List.take_of_length_le (by rw [List.length_drop]; omega)]
  · rw [Nat.min_eq_right (a := a) (by omega), List.drop_eq_nil_of_le (Nat.le_refl _), List.drop_eq_nil_of_le (by omega)]
    simp
theorem slD_S {l : List Nat} (h : Sh l) (a b : Nat) : slD (.str (S l)) (some (a : Int)) (some (b : Int)) = some (.str (S ((l.drop a).take (b - a)))) := by
  unfold slD
  dsimp only
  rw [if_pos (sh_line h), cutS_nat]
theorem atI_nat {α : Type} (l : List α) (a : Nat) : atI l (a : Int) = l[a]? := by
  unfold atI ixN
  rw [if_pos (by omega)]
  split
  · rename_i h
    rw [Int.toNat_natCast]
    rfl
  · rename_i h
    exact (List.getElem?_eq_none_iff.mpr (by omega)).symm
theorem ixD_S {l : List Nat} (h : Sh l) {a c : Nat} (e : l[a]? = some c) : ixD (.str (S l)) (.int (a : Int)) = some (.str (S [c])) := by
  unfold ixD
  dsimp only
  rw [if_pos (sh_line h)]
  show (atI l (a : Int)).map _ = _
  rw [atI_nat, e]
  rfl
theorem eq_S (a b : List Nat) : PyData.eqv (.str (S a)) (.str (S b)) = decide (a = b) := by
  rw [PyData.eqv]
  exact S_beq_eq
theorem eqD_S (a b : List Nat) : eqD (.str (S a)) (.str (S b)) = some (.bool (decide (a = b))) := by
  unfold eqD
  rw [eq_S]
  rfl
theorem neD_S (a b : List Nat) : neD (.str (S a)) (.str (S b)) = some (.bool (!decide (a = b))) := by
  unfold neD
  rw [eq_S]
  rfl
theorem inD_one (c : Nat) (b : List Nat) : inD (.str (S [c])) (.str (S b)) = some (.bool (decide (c ∈ b))) := by
  unfold inD inS
  rw [Option.map_some, in_one]
theorem lenD_S {l : List Nat} (h : Sh l) : lenD [.str (S l)] = some (.int (l.length : Int)) := by
  unfold lenD
  dsimp only
  rw [if_pos (sh_line h), S_len]
theorem add_nat (a b : Nat) : addD (.int (a : Int)) (.int (b : Int)) = some (.int ((a + b : Nat) : Int)) := by
  unfold addD addI int2
  simp
theorem addI_nat (a b : Nat) : addI (.int (a : Int)) (.int (b : Int)) = some (.int ((a + b : Nat) : Int)) := by
  unfold addI int2
  simp
theorem addD1 (a : Nat) : addD (.int (a : Int)) (.int 1) = some (.int ((a + 1 : Nat) : Int)) := add_nat a 1
theorem addD2 (a : Nat) : addD (.int (a : Int)) (.int 2) = some (.int ((a + 2 : Nat) : Int)) := add_nat a 2
theorem addI1 (a : Nat) : addI (.int (a : Int)) (.int 1) = some (.int ((a + 1 : Nat) : Int)) := addI_nat a 1
theorem gtI_nat (a b : Nat) : gtI (.int (a : Int)) (.int (b : Int)) = some (.bool (decide (b < a))) := by
  unfold gtI int2
  simp
theorem leI_nat (a b : Nat) : leI (.int (a : Int)) (.int (b : Int)) = some (.bool (decide (a ≤ b))) := by
  unfold leI int2
  simp
theorem gtI_int (a b : Int) : gtI (.int a) (.int b) = some (.bool (decide (b < a))) := rfl
theorem leI_int (a b : Int) : leI (.int a) (.int b) = some (.bool (decide (a ≤ b))) := rfl
theorem ixS0 {c : Nat} {r : List Nat} (h : Sh (c :: r)) : ixD (.str (S (c :: r))) (.int 0) = some (.str (S [c])) := ixD_S h (a := 0) rfl
theorem intS {F : List Nat} (h : NumText.AllDigits F) (h1 : F ≠ []) (h2 : F.length ≤ 24) : intD [.str (S F)] = some (.int ((NumText.digitsVal F : Nat) : Int)) := by
  unfold intD
  dsimp only
  rw [PySem.intText_digits (x := S F) h h1 (by rw [S_len]; omega)]
  dsimp only
  rw [if_pos (by rw [S_len]; omega)]
theorem eqD_int (a b : Int) : eqD (.int a) (.int b) = some (.bool (decide (a = b))) := by
  unfold eqD PyData.eqv
  simp [dOk]
  rfl
theorem neD_int (a b : Int) : neD (.int a) (.int b) = some (.bool (!decide (a = b))) := by
  unfold neD PyData.eqv
  simp [dOk]
  rfl
theorem str0 : (("" : String) : Str) = S [] := by decide +kernel
theorem strN : (("0" : String) : Str) = S [48] := by decide +kernel
theorem strDot : (("." : String) : Str) = S [46] := by decide +kernel
theorem strBang : (("!" : String) : Str) = S [33] := by decide +kernel
theorem figs : (("0123456789" : String) : Str) = S [48, 49, 50, 51, 52, 53, 54, 55, 56, 57] := by decide +kernel
theorem mem_figs (c : Nat) : decide (c ∈ [48, 49, 50, 51, 52, 53, 54, 55, 56, 57]) = dig c := by
  unfold dig
  rw [← Bool.decide_and]
  refine decide_eq_decide.mpr ?_
  simp
  omega
theorem take1_drop (l : List Nat) (a : Nat) : (l.drop a).take 1 = match l[a]? with | some c => [c] | none => [] := by
  rw [← List.head?_drop]
  cases l.drop a <;> simp
theorem sub_self1 (a : Nat) : a + 1 - a = 1 := by omega

/-! ### loops -/
theorem while_go {c : Tx} {b : Sx} {n : Nat} {env : Ev} {w : W} {e1 : Ev} {w1 : W} {e2 : Ev} {w2 : W} (hc : c env w = some (true, e1, w1)) (hb : b e1 w1 = some (.nx, e2, w2)) : mWhile c b (n + 1) env w = mWhile c b n e2 w2 := by
  simp only [mWhile, hc, hb]
theorem while_end {c : Tx} {b : Sx} {n : Nat} {env : Ev} {w : W} {e1 : Ev} {w1 : W} (hc : c env w = some (false, e1, w1)) : mWhile c b (n + 1) env w = some (.nx, e1, w1) := by
  simp only [mWhile, hc]
theorem while_rt {c : Tx} {b : Sx} {n : Nat} {env : Ev} {w : W} {e1 : Ev} {w1 : W} {e2 : Ev} {w2 : W} {r : SD} (hc : c env w = some (true, e1, w1)) (hb : b e1 w1 = some (.rt r, e2, w2)) : mWhile c b (n + 1) env w = some (.rt r, e2, w2) := by
  simp only [mWhile, hc, hb]
theorem loop_go {g : Gx} {b : Sx} {d : PyData} {ds : List PyData} {env : Ev} {w : W} {e1 e2 : Ev} {w2 : W} (hg : g d env = some e1) (hb : b e1 w = some (.nx, e2, w2)) : mLoop g b (d :: ds) env w = mLoop g b ds e2 w2 := by
  simp only [mLoop, hg, hb]
theorem loop_rt {g : Gx} {b : Sx} {d : PyData} {ds : List PyData} {env : Ev} {w : W} {e1 e2 : Ev} {w2 : W} {r : SD} (hg : g d env = some e1) (hb : b e1 w = some (.rt r, e2, w2)) : mLoop g b (d :: ds) env w = some (.rt r, e2, w2) := by
  simp only [mLoop, hg, hb]
theorem loop_nil {g : Gx} {b : Sx} {env : Ev} {w : W} : mLoop g b [] env w = some (.nx, env, w) := rfl
theorem lc_nil {g : Gx} {tt : Tx} {me : Ex} {vs : List Nat} {acc : List PyData} {env : Ev} {w : W} : lcLoop g tt me vs [] acc env w = some (acc, env, w) := rfl
theorem lc_go {g : Gx} {tt : Tx} {me : Ex} {vs : List Nat} {d : PyData} {ds acc : List PyData} {env : Ev} {w : W} {e1 e2 e3 : Ev} {w2 w3 : W} {y : PyData} (hg : g d env = some e1) (ht : tt e1 w = some (true, e2, w2)) (hm : me e2 w2 = some (.d y, e3, w3)) :
    lcLoop g tt me vs (d :: ds) acc env w = lcLoop g tt me vs ds (acc ++ [y]) (wipeE e3 vs) w3 := by
  rw [lcLoop, hg]
  dsimp only
  rw [ht]
  dsimp only
  rw [hm]
theorem lc_skip {g : Gx} {tt : Tx} {me : Ex} {vs : List Nat} {d : PyData} {ds acc : List PyData} {env : Ev} {w : W} {e1 e2 : Ev} {w2 : W} (hg : g d env = some e1) (ht : tt e1 w = some (false, e2, w2)) :
    lcLoop g tt me vs (d :: ds) acc env w = lcLoop g tt me vs ds acc (wipeE e2 vs) w2 := by
  rw [lcLoop, hg]
  dsimp only
  rw [ht]
theorem fn_rt {n N : Nat} {b : Sx} {as : List SD} {w w' : W} {r : SD} {e' : Ev} (hn : as.length = n) (h : b (as.map some ++ List.replicate (N - as.length) none) w = some (.rt r, e', w')) : mFn n N b as w = some (r, w') := by
  unfold mFn
  rw [if_pos hn, h]
theorem seq_nx {a b : Sx} {env : Ev} {w : W} {e1 : Ev} {w1 : W} (h : a env w = some (.nx, e1, w1)) : mSeq a b env w = b e1 w1 := by
  unfold mSeq
  rw [h]
theorem seq_rt {a b : Sx} {env : Ev} {w : W} {e1 : Ev} {w1 : W} {r : SD} (h : a env w = some (.rt r, e1, w1)) : mSeq a b env w = some (.rt r, e1, w1) := by
  unfold mSeq
  rw [h]

theorem if_t {α : Type} {t : Tx} {a b : Ev → W → Option α} {env : Ev} {w : W} {e1 : Ev} {w1 : W} (h : t env w = some (true, e1, w1)) : mIf t a b env w = a e1 w1 := by
  simp only [mIf, h]
theorem if_f {α : Type} {t : Tx} {a b : Ev → W → Option α} {env : Ev} {w : W} {e1 : Ev} {w1 : W} (h : t env w = some (false, e1, w1)) : mIf t a b env w = b e1 w1 := by
  simp only [mIf, h]
theorem or_t {a b : Tx} {env : Ev} {w : W} {e1 : Ev} {w1 : W} (h : a env w = some (true, e1, w1)) : mOr a b env w = some (true, e1, w1) := by
  simp only [mOr, h]
theorem or_f {a b : Tx} {env : Ev} {w : W} {e1 : Ev} {w1 : W} (h : a env w = some (false, e1, w1)) : mOr a b env w = b e1 w1 := by
  simp only [mOr, h]
theorem and_t {a b : Tx} {env : Ev} {w : W} {e1 : Ev} {w1 : W} (h : a env w = some (true, e1, w1)) : mAnd a b env w = b e1 w1 := by
  simp only [mAnd, h]
theorem and_f {a b : Tx} {env : Ev} {w : W} {e1 : Ev} {w1 : W} (h : a env w = some (false, e1, w1)) : mAnd a b env w = some (false, e1, w1) := by
  simp only [mAnd, h]
theorem ex_nx {a b : Sx} {env : Ev} {w : W} {e1 : Ev} {w1 w' : W} {r : Fl} (h : a env w = some (.nx, e1, w1)) (k : ∃ e, b e1 w1 = some (r, e, w')) : ∃ e, mSeq a b env w = some (r, e, w') := by
  obtain ⟨e, k⟩ := k
  exact ⟨e, (seq_nx h).trans k⟩
theorem ex_rt {a b : Sx} {env : Ev} {w : W} {e1 : Ev} {w1 : W} {r : SD} (h : a env w = some (.rt r, e1, w1)) : ∃ e, mSeq a b env w = some (.rt r, e, w1) := ⟨e1, seq_rt h⟩
theorem fn_ex {n N : Nat} {b : Sx} {as : List SD} {w w' : W} {r : SD} (hn : as.length = n) (h : ∃ e, b (as.map some ++ List.replicate (N - as.length) none) w = some (.rt r, e, w')) : mFn n N b as w = some (r, w') := by
  obtain ⟨e, h⟩ := h
  exact fn_rt hn h
theorem tup_ok {ms : Ax} {env e1 : Ev} {w w1 : W} {rs : List SD} {ds : List PyData} (h : ms env w = some (rs, e1, w1)) (hd : dsOf rs = some ds) (hl : ds.length ≤ 1000) : mTup ms env w = some (.d (.tuple ds), e1, w1) := by
  simp only [mTup, argsD, h, hd, tupD, hl, if_true, optE]
theorem cons_ok {a : Ex} {b : Ax} {env e1 e2 : Ev} {w w1 w2 : W} {r : SD} {rs : List SD} (h1 : a env w = some (r, e1, w1)) (h2 : b e1 w1 = some (rs, e2, w2)) : mCons a b env w = some (r :: rs, e2, w2) := by
  simp only [mCons, h1, h2]
theorem nil_ok {env : Ev} {w : W} : mNil env w = some ([], env, w) := rfl
theorem ret_ok {m : Ex} {env e1 : Ev} {w w1 : W} {r : SD} (h : m env w = some (r, e1, w1)) : mRet m env w = some (.rt r, e1, w1) := by
  simp only [mRet, h]
/-! ### items -/
theorem ixT0 (x : PyData) (r : List PyData) : ixD (.tuple (x :: r)) (.int 0) = some x := atI_nat (x :: r) 0
theorem ixT1 (x y : PyData) (r : List PyData) : ixD (.tuple (x :: y :: r)) (.int 1) = some y := atI_nat (x :: y :: r) 1
theorem ixT2 (x y z : PyData) (r : List PyData) : ixD (.tuple (x :: y :: z :: r)) (.int 2) = some z := atI_nat (x :: y :: z :: r) 2
theorem ixL0 (x : PyData) (r : List PyData) : ixD (.list (x :: r)) (.int 0) = some x := atI_nat (x :: r) 0
theorem ixL1 (x y : PyData) (r : List PyData) : ixD (.list (x :: y :: r)) (.int 1) = some y := atI_nat (x :: y :: r) 1
theorem ixL2 (x y z : PyData) (r : List PyData) : ixD (.list (x :: y :: z :: r)) (.int 2) = some z := atI_nat (x :: y :: z :: r) 2
theorem isD_nn : isD .none .none = some (.bool true) := rfl
theorem isD_in (i : Int) : isD (.int i) .none = some (.bool false) := rfl
theorem isD_sn (i : Str) : isD (.str i) .none = some (.bool false) := rfl
theorem isD_tn (i : List PyData) : isD (.tuple i) .none = some (.bool false) := rfl
theorem isN_nn : isNotD .none .none = some (.bool false) := rfl
theorem isN_in (i : Int) : isNotD (.int i) .none = some (.bool true) := rfl
theorem isN_sn (i : Str) : isNotD (.str i) .none = some (.bool true) := rfl
theorem isN_tn (i : List PyData) : isNotD (.tuple i) .none = some (.bool true) := rfl
end Dn

set_option maxHeartbeats 4000000
namespace Dn
open PySem PySem.Spec PyProof.Rows L2 SX
open TL (numL)
/-! ### number_at -/
def numR (r : List Nat) : Option (Nat × Nat) := if r.takeWhile dig = [] ∨ 24 < (r.takeWhile dig).length ∨ ((r.takeWhile dig).head? = some 48 ∧ r.takeWhile dig ≠ [48]) then none else some (NumText.digitsVal (r.takeWhile dig), (r.takeWhile dig).length)
def numD (a : Nat) (r : List Nat) : PyData := match numR r with
  | none => .none
  | some (n, k) => .tuple [.int (n : Int), .int ((a + k : Nat) : Int)]
theorem drop_at {l : List Nat} {b c : Nat} (e : l[b]? = some c) : l.drop b = c :: l.drop (b + 1) := by
  have hc : b < l.length := (List.getElem?_eq_some_iff.mp e).1
  rw [List.drop_eq_getElem_cons hc, (List.getElem?_eq_some_iff.mp e).2]
theorem cW_number {l : List Nat} (h : Sh l) (x : Option SD) (w : W) (b : Nat) : cW1_number_at [some (.d (.str (S l))), x, some (.d (.int (b : Int))), none] w =
    some (match l[b]? with | some c => dig c | none => false, [some (.d (.str (S l))), x, some (.d (.int (b : Int))), none], w) := by
  unfold cW1_number_at
  cases e : l[b]? with
  | none =>
    have e2 : l.drop b = [] := List.drop_eq_nil_of_le (List.getElem?_eq_none_iff.mp e)
    simp only [mSeq, mSet, mVar, mC, mOp, seqE, optE, mTru, mAnd, mOr, mNot, mIf, mBl, mNil, mCons, mCall, mTup, argsD, dsOf, tupD, mFz, mLst, mRet, mDrop, mNx, mBk, mCt, mFail, mItems, itemsD, mRng, mgName, mgNil, mgCons, mgTup, mAsg, mFor, mNo, mPart, mSl, mB, mSetO, mAppend, mPop, mPkOp, mPkIx, mPkLen, mScrLen, mYes, mPar, mPar3, mParO, mAug, mMtS, mIs, mStar, mFmt, mJs, mAndV, mOrV, mListO, mCatO, mgUnl, truD, pk, List.getElem?_cons_zero, List.getElem?_cons_succ, List.set_cons_zero, List.set_cons_succ, List.length_cons, List.length_nil, Option.map_some, Option.map_none, List.map_cons, List.map_nil, List.cons_append, List.nil_append, List.replicate, Nat.zero_add, Nat.reduceAdd, Nat.reduceSub, Nat.reduceLeDiff, if_true, if_false, Bool.not_true, Bool.not_false, reduceCtorEq, reduceIte, decide_true, decide_false, Bool.false_eq_true, List.isEmpty_cons, List.isEmpty_nil, ixT0, ixT1, ixT2, ixL0, ixL1, ixL2, isD_nn, isD_in, isD_sn, isD_tn, isN_nn, isN_in, isN_sn, isN_tn, Int.cast_ofNat_Int, Int.reduceEq, Int.reduceLT, Int.reduceLE, Bool.and_false, Bool.and_true, Bool.true_and, Bool.false_and, Bool.or_false, Bool.or_true, Bool.true_or, Bool.false_or, slD_S h, addD1, str0, neD_S, sub_self1, e2, List.take_nil]
  | some c => simp only [mSeq, mSet, mVar, mC, mOp, seqE, optE, mTru, mAnd, mOr, mNot, mIf, mBl, mNil, mCons, mCall, mTup, argsD, dsOf, tupD, mFz, mLst, mRet, mDrop, mNx, mBk, mCt, mFail, mItems, itemsD, mRng, mgName, mgNil, mgCons, mgTup, mAsg, mFor, mNo, mPart, mSl, mB, mSetO, mAppend, mPop, mPkOp, mPkIx, mPkLen, mScrLen, mYes, mPar, mPar3, mParO, mAug, mMtS, mIs, mStar, mFmt, mJs, mAndV, mOrV, mListO, mCatO, mgUnl, truD, pk, List.getElem?_cons_zero, List.getElem?_cons_succ, List.set_cons_zero, List.set_cons_succ, List.length_cons, List.length_nil, Option.map_some, Option.map_none, List.map_cons, List.map_nil, List.cons_append, List.nil_append, List.replicate, Nat.zero_add, Nat.reduceAdd, Nat.reduceSub, Nat.reduceLeDiff, if_true, if_false, Bool.not_true, Bool.not_false, reduceCtorEq, reduceIte, decide_true, decide_false, Bool.false_eq_true, List.isEmpty_cons, List.isEmpty_nil, ixT0, ixT1, ixT2, ixL0, ixL1, ixL2, isD_nn, isD_in, isD_sn, isD_tn, isN_nn, isN_in, isN_sn, isN_tn, Int.cast_ofNat_Int, Int.reduceEq, Int.reduceLT, Int.reduceLE, Bool.and_false, Bool.and_true, Bool.true_and, Bool.false_and, Bool.or_false, Bool.or_true, Bool.true_or, Bool.false_or, slD_S h, addD1, str0, neD_S, sub_self1, drop_at e, List.take_succ_cons, List.take_zero, ixD_S h e, figs, inD_one, mem_figs]
theorem loop_number {l : List Nat} (h : Sh l) (x : Option SD) (w : W) : ∀ (f b : Nat), l.length < b + f → b ≤ l.length →
    mWhile cW1_number_at bW2_number_at f [some (.d (.str (S l))), x, some (.d (.int (b : Int))), none] w = some (.nx, [some (.d (.str (S l))), x, some (.d (.int ((b + ((l.drop b).takeWhile dig).length : Nat) : Int))), none], w)
  | 0, b, hf, hb => by omega
  | f + 1, b, hf, hb => by
    have hc := cW_number h x w b
    cases e : l[b]? with
    | none =>
      rw [e] at hc
      have e2 : l.drop b = [] := List.drop_eq_nil_of_le (List.getElem?_eq_none_iff.mp e)
      rw [while_end hc, e2]
      rfl
    | some c =>
      rw [e] at hc
      dsimp only at hc
      have hlt : b < l.length := (List.getElem?_eq_some_iff.mp e).1
      cases hd : dig c with
      | false =>
        rw [hd] at hc
        rw [while_end hc, drop_at e, List.takeWhile_cons, hd]
        rfl
      | true =>
        rw [hd] at hc
        rw [while_go hc (e2 := [some (.d (.str (S l))), x, some (.d (.int ((b + 1 : Nat) : Int))), none]) (w2 := w) (by unfold bW2_number_at; simp only [mSeq, mSet, mVar, mC, mOp, seqE, optE, mTru, mAnd, mOr, mNot, mIf, mBl, mNil, mCons, mCall, mTup, argsD, dsOf, tupD, mFz, mLst, mRet, mDrop, mNx, mBk, mCt, mFail, mItems, itemsD, mRng, mgName, mgNil, mgCons, mgTup, mAsg, mFor, mNo, mPart, mSl, mB, mSetO, mAppend, mPop, mPkOp, mPkIx, mPkLen, mScrLen, mYes, mPar, mPar3, mParO, mAug, mMtS, mIs, mStar, mFmt, mJs, mAndV, mOrV, mListO, mCatO, mgUnl, truD, pk, List.getElem?_cons_zero, List.getElem?_cons_succ, List.set_cons_zero, List.set_cons_succ, List.length_cons, List.length_nil, Option.map_some, Option.map_none, List.map_cons, List.map_nil, List.cons_append, List.nil_append, List.replicate, Nat.zero_add, Nat.reduceAdd, Nat.reduceSub, Nat.reduceLeDiff, if_true, if_false, Bool.not_true, Bool.not_false, reduceCtorEq, reduceIte, decide_true, decide_false, Bool.false_eq_true, List.isEmpty_cons, List.isEmpty_nil, ixT0, ixT1, ixT2, ixL0, ixL1, ixL2, isD_nn, isD_in, isD_sn, isD_tn, isN_nn, isN_in, isN_sn, isN_tn, Int.cast_ofNat_Int, Int.reduceEq, Int.reduceLT, Int.reduceLE, Bool.and_false, Bool.and_true, Bool.true_and, Bool.false_and, Bool.or_false, Bool.or_true, Bool.true_or, Bool.false_or, addI1]), loop_number h x w f (b + 1) (by omega) (by omega), drop_at e, List.takeWhile_cons, if_pos hd, List.length_cons, show b + 1 + ((l.drop (b + 1)).takeWhile dig).length = b + (((l.drop (b + 1)).takeWhile dig).length + 1) by omega]
theorem tw_dig (r : List Nat) : NumText.AllDigits (r.takeWhile dig) := fun c hc => by
  have := List.all_eq_true.mp (List.all_takeWhile (p := dig) (l := r)) c hc
  unfold dig at this
  simpa using this
theorem tw_take (r : List Nat) : r.take (r.takeWhile dig).length = r.takeWhile dig := by
  conv => lhs; arg 2; rw [← List.takeWhile_append_dropWhile (p := dig) (l := r)]
  exact List.take_left
theorem run_number {l : List Nat} (h : Sh l) {a : Nat} (ha : a ≤ l.length) (w : W) : m_number_at [.d (.str (S l)), .d (.int (a : Int))] w = some (.d (numD a (l.drop a)), w) := by
  have hlen : (l.drop a).takeWhile dig = (l.drop a).takeWhile dig := rfl
  have hshf : Sh ((l.drop a).takeWhile dig) := by
    have h1 := (List.takeWhile_prefix (p := dig) (l := l.drop a)).length_le
    rw [List.length_drop] at h1
    unfold Sh at h ⊢
    omega
  refine fn_rt (e' := [some (.d (.str (S l))), some (.d (.int (a : Int))), some (.d (.int ((a + ((l.drop a).takeWhile dig).length : Nat) : Int))), some (.d (.str (S ((l.drop a).takeWhile dig))))]) rfl ?_
  unfold b_number_at
  refine (seq_nx (by simp only [mSeq, mSet, mVar, mC, mOp, seqE, optE, mTru, mAnd, mOr, mNot, mIf, mBl, mNil, mCons, mCall, mTup, argsD, dsOf, tupD, mFz, mLst, mRet, mDrop, mNx, mBk, mCt, mFail, mItems, itemsD, mRng, mgName, mgNil, mgCons, mgTup, mAsg, mFor, mNo, mPart, mSl, mB, mSetO, mAppend, mPop, mPkOp, mPkIx, mPkLen, mScrLen, mYes, mPar, mPar3, mParO, mAug, mMtS, mIs, mStar, mFmt, mJs, mAndV, mOrV, mListO, mCatO, mgUnl, truD, pk, List.getElem?_cons_zero, List.getElem?_cons_succ, List.set_cons_zero, List.set_cons_succ, List.length_cons, List.length_nil, Option.map_some, Option.map_none, List.map_cons, List.map_nil, List.cons_append, List.nil_append, List.replicate, Nat.zero_add, Nat.reduceAdd, Nat.reduceSub, Nat.reduceLeDiff, if_true, if_false, Bool.not_true, Bool.not_false, reduceCtorEq, reduceIte, decide_true, decide_false, Bool.false_eq_true, List.isEmpty_cons, List.isEmpty_nil, ixT0, ixT1, ixT2, ixL0, ixL1, ixL2, isD_nn, isD_in, isD_sn, isD_tn, isN_nn, isN_in, isN_sn, isN_tn, Int.cast_ofNat_Int, Int.reduceEq, Int.reduceLT, Int.reduceLE, Bool.and_false, Bool.and_true, Bool.true_and, Bool.false_and, Bool.or_false, Bool.or_true, Bool.true_or, Bool.false_or]; rfl)).trans ?_
  refine (seq_nx (loop_number h _ w fuel a (by unfold fuel; unfold Sh at h; omega) ha)).trans ?_
  refine (seq_nx (e1 := [some (.d (.str (S l))), some (.d (.int (a : Int))), some (.d (.int ((a + ((l.drop a).takeWhile dig).length : Nat) : Int))), some (.d (.str (S ((l.drop a).takeWhile dig))))]) (w1 := w) (by simp only [mSeq, mSet, mVar, mC, mOp, seqE, optE, mTru, mAnd, mOr, mNot, mIf, mBl, mNil, mCons, mCall, mTup, argsD, dsOf, tupD, mFz, mLst, mRet, mDrop, mNx, mBk, mCt, mFail, mItems, itemsD, mRng, mgName, mgNil, mgCons, mgTup, mAsg, mFor, mNo, mPart, mSl, mB, mSetO, mAppend, mPop, mPkOp, mPkIx, mPkLen, mScrLen, mYes, mPar, mPar3, mParO, mAug, mMtS, mIs, mStar, mFmt, mJs, mAndV, mOrV, mListO, mCatO, mgUnl, truD, pk, List.getElem?_cons_zero, List.getElem?_cons_succ, List.set_cons_zero, List.set_cons_succ, List.length_cons, List.length_nil, Option.map_some, Option.map_none, List.map_cons, List.map_nil, List.cons_append, List.nil_append, List.replicate, Nat.zero_add, Nat.reduceAdd, Nat.reduceSub, Nat.reduceLeDiff, if_true, if_false, Bool.not_true, Bool.not_false, reduceCtorEq, reduceIte, decide_true, decide_false, Bool.false_eq_true, List.isEmpty_cons, List.isEmpty_nil, ixT0, ixT1, ixT2, ixL0, ixL1, ixL2, isD_nn, isD_in, isD_sn, isD_tn, isN_nn, isN_in, isN_sn, isN_tn, Int.cast_ofNat_Int, Int.reduceEq, Int.reduceLT, Int.reduceLE, Bool.and_false, Bool.and_true, Bool.true_and, Bool.false_and, Bool.or_false, Bool.or_true, Bool.true_or, Bool.false_or, slD_S h, Nat.add_sub_cancel_left, tw_take])).trans ?_
  unfold numD numR
  generalize hF : (l.drop a).takeWhile dig = F at hshf ⊢
  have hdg : NumText.AllDigits F := hF ▸ tw_dig _
  by_cases c1 : F = []
  · subst c1
    refine (seq_rt (by simp only [mSeq, mSet, mVar, mC, mOp, seqE, optE, mTru, mAnd, mOr, mNot, mIf, mBl, mNil, mCons, mCall, mTup, argsD, dsOf, tupD, mFz, mLst, mRet, mDrop, mNx, mBk, mCt, mFail, mItems, itemsD, mRng, mgName, mgNil, mgCons, mgTup, mAsg, mFor, mNo, mPart, mSl, mB, mSetO, mAppend, mPop, mPkOp, mPkIx, mPkLen, mScrLen, mYes, mPar, mPar3, mParO, mAug, mMtS, mIs, mStar, mFmt, mJs, mAndV, mOrV, mListO, mCatO, mgUnl, truD, pk, List.getElem?_cons_zero, List.getElem?_cons_succ, List.set_cons_zero, List.set_cons_succ, List.length_cons, List.length_nil, Option.map_some, Option.map_none, List.map_cons, List.map_nil, List.cons_append, List.nil_append, List.replicate, Nat.zero_add, Nat.reduceAdd, Nat.reduceSub, Nat.reduceLeDiff, if_true, if_false, Bool.not_true, Bool.not_false, reduceCtorEq, reduceIte, decide_true, decide_false, Bool.false_eq_true, List.isEmpty_cons, List.isEmpty_nil, ixT0, ixT1, ixT2, ixL0, ixL1, ixL2, isD_nn, isD_in, isD_sn, isD_tn, isN_nn, isN_in, isN_sn, isN_tn, Int.cast_ofNat_Int, Int.reduceEq, Int.reduceLT, Int.reduceLE, Bool.and_false, Bool.and_true, Bool.true_and, Bool.false_and, Bool.or_false, Bool.or_true, Bool.true_or, Bool.false_or, str0, eqD_S]; rfl)).trans ?_
    rfl
  by_cases c2 : 24 < F.length
  · have c2' : (24 : Int) < (F.length : Int) := by omega
    refine (seq_rt (by simp only [mSeq, mSet, mVar, mC, mOp, seqE, optE, mTru, mAnd, mOr, mNot, mIf, mBl, mNil, mCons, mCall, mTup, argsD, dsOf, tupD, mFz, mLst, mRet, mDrop, mNx, mBk, mCt, mFail, mItems, itemsD, mRng, mgName, mgNil, mgCons, mgTup, mAsg, mFor, mNo, mPart, mSl, mB, mSetO, mAppend, mPop, mPkOp, mPkIx, mPkLen, mScrLen, mYes, mPar, mPar3, mParO, mAug, mMtS, mIs, mStar, mFmt, mJs, mAndV, mOrV, mListO, mCatO, mgUnl, truD, pk, List.getElem?_cons_zero, List.getElem?_cons_succ, List.set_cons_zero, List.set_cons_succ, List.length_cons, List.length_nil, Option.map_some, Option.map_none, List.map_cons, List.map_nil, List.cons_append, List.nil_append, List.replicate, Nat.zero_add, Nat.reduceAdd, Nat.reduceSub, Nat.reduceLeDiff, if_true, if_false, Bool.not_true, Bool.not_false, reduceCtorEq, reduceIte, decide_true, decide_false, Bool.false_eq_true, List.isEmpty_cons, List.isEmpty_nil, ixT0, ixT1, ixT2, ixL0, ixL1, ixL2, isD_nn, isD_in, isD_sn, isD_tn, isN_nn, isN_in, isN_sn, isN_tn, Int.cast_ofNat_Int, Int.reduceEq, Int.reduceLT, Int.reduceLE, Bool.and_false, Bool.and_true, Bool.true_and, Bool.false_and, Bool.or_false, Bool.or_true, Bool.true_or, Bool.false_or, str0, eqD_S, c1, lenD_S hshf, gtI_int, c2']; rfl)).trans ?_
    rw [if_pos (.inr (.inl c2))]
  have c2' : ¬ (24 : Int) < (F.length : Int) := by omega
  obtain ⟨c, F', rfl⟩ := List.exists_cons_of_ne_nil c1
  rw [List.length_cons] at c2'
  by_cases c3 : c = 48
  · subst c3
    by_cases c4 : F' = []
    · subst c4
      rw [if_neg (by simp)]
      refine (seq_nx (by simp only [mSeq, mSet, mVar, mC, mOp, seqE, optE, mTru, mAnd, mOr, mNot, mIf, mBl, mNil, mCons, mCall, mTup, argsD, dsOf, tupD, mFz, mLst, mRet, mDrop, mNx, mBk, mCt, mFail, mItems, itemsD, mRng, mgName, mgNil, mgCons, mgTup, mAsg, mFor, mNo, mPart, mSl, mB, mSetO, mAppend, mPop, mPkOp, mPkIx, mPkLen, mScrLen, mYes, mPar, mPar3, mParO, mAug, mMtS, mIs, mStar, mFmt, mJs, mAndV, mOrV, mListO, mCatO, mgUnl, truD, pk, List.getElem?_cons_zero, List.getElem?_cons_succ, List.set_cons_zero, List.set_cons_succ, List.length_cons, List.length_nil, Option.map_some, Option.map_none, List.map_cons, List.map_nil, List.cons_append, List.nil_append, List.replicate, Nat.zero_add, Nat.reduceAdd, Nat.reduceSub, Nat.reduceLeDiff, if_true, if_false, Bool.not_true, Bool.not_false, reduceCtorEq, reduceIte, decide_true, decide_false, Bool.false_eq_true, List.isEmpty_cons, List.isEmpty_nil, ixT0, ixT1, ixT2, ixL0, ixL1, ixL2, isD_nn, isD_in, isD_sn, isD_tn, isN_nn, isN_in, isN_sn, isN_tn, Int.cast_ofNat_Int, Int.reduceEq, Int.reduceLT, Int.reduceLE, Bool.and_false, Bool.and_true, Bool.true_and, Bool.false_and, Bool.or_false, Bool.or_true, Bool.true_or, Bool.false_or, str0, eqD_S, lenD_S hshf, gtI_int, c2', ixS0 hshf, strN, neD_S, List.cons_ne_nil]; rfl)).trans ?_
      simp only [mSeq, mSet, mVar, mC, mOp, seqE, optE, mTru, mAnd, mOr, mNot, mIf, mBl, mNil, mCons, mCall, mTup, argsD, dsOf, tupD, mFz, mLst, mRet, mDrop, mNx, mBk, mCt, mFail, mItems, itemsD, mRng, mgName, mgNil, mgCons, mgTup, mAsg, mFor, mNo, mPart, mSl, mB, mSetO, mAppend, mPop, mPkOp, mPkIx, mPkLen, mScrLen, mYes, mPar, mPar3, mParO, mAug, mMtS, mIs, mStar, mFmt, mJs, mAndV, mOrV, mListO, mCatO, mgUnl, truD, pk, List.getElem?_cons_zero, List.getElem?_cons_succ, List.set_cons_zero, List.set_cons_succ, List.length_cons, List.length_nil, Option.map_some, Option.map_none, List.map_cons, List.map_nil, List.cons_append, List.nil_append, List.replicate, Nat.zero_add, Nat.reduceAdd, Nat.reduceSub, Nat.reduceLeDiff, if_true, if_false, Bool.not_true, Bool.not_false, reduceCtorEq, reduceIte, decide_true, decide_false, Bool.false_eq_true, List.isEmpty_cons, List.isEmpty_nil, ixT0, ixT1, ixT2, ixL0, ixL1, ixL2, isD_nn, isD_in, isD_sn, isD_tn, isN_nn, isN_in, isN_sn, isN_tn, Int.cast_ofNat_Int, Int.reduceEq, Int.reduceLT, Int.reduceLE, Bool.and_false, Bool.and_true, Bool.true_and, Bool.false_and, Bool.or_false, Bool.or_true, Bool.true_or, Bool.false_or, intS hdg c1 (by simp)]
    · have c5 : ¬ (48 :: F' = [48]) := by simpa using c4
      refine (seq_rt (by simp only [mSeq, mSet, mVar, mC, mOp, seqE, optE, mTru, mAnd, mOr, mNot, mIf, mBl, mNil, mCons, mCall, mTup, argsD, dsOf, tupD, mFz, mLst, mRet, mDrop, mNx, mBk, mCt, mFail, mItems, itemsD, mRng, mgName, mgNil, mgCons, mgTup, mAsg, mFor, mNo, mPart, mSl, mB, mSetO, mAppend, mPop, mPkOp, mPkIx, mPkLen, mScrLen, mYes, mPar, mPar3, mParO, mAug, mMtS, mIs, mStar, mFmt, mJs, mAndV, mOrV, mListO, mCatO, mgUnl, truD, pk, List.getElem?_cons_zero, List.getElem?_cons_succ, List.set_cons_zero, List.set_cons_succ, List.length_cons, List.length_nil, Option.map_some, Option.map_none, List.map_cons, List.map_nil, List.cons_append, List.nil_append, List.replicate, Nat.zero_add, Nat.reduceAdd, Nat.reduceSub, Nat.reduceLeDiff, if_true, if_false, Bool.not_true, Bool.not_false, reduceCtorEq, reduceIte, decide_true, decide_false, Bool.false_eq_true, List.isEmpty_cons, List.isEmpty_nil, ixT0, ixT1, ixT2, ixL0, ixL1, ixL2, isD_nn, isD_in, isD_sn, isD_tn, isN_nn, isN_in, isN_sn, isN_tn, Int.cast_ofNat_Int, Int.reduceEq, Int.reduceLT, Int.reduceLE, Bool.and_false, Bool.and_true, Bool.true_and, Bool.false_and, Bool.or_false, Bool.or_true, Bool.true_or, Bool.false_or, str0, eqD_S, lenD_S hshf, gtI_int, c2', ixS0 hshf, strN, neD_S, List.cons_ne_nil, c5]; rfl)).trans ?_
      rw [if_pos (.inr (.inr ⟨rfl, c5⟩))]
      rfl
  · have c5 : ¬ ([c] = [48]) := by simpa using c3
    rw [if_neg (by
      rintro (z | z | z)
      · exact c1 z
      · exact c2 z
      · exact c3 (by simpa using z.1))]
    refine (seq_nx (by simp only [mSeq, mSet, mVar, mC, mOp, seqE, optE, mTru, mAnd, mOr, mNot, mIf, mBl, mNil, mCons, mCall, mTup, argsD, dsOf, tupD, mFz, mLst, mRet, mDrop, mNx, mBk, mCt, mFail, mItems, itemsD, mRng, mgName, mgNil, mgCons, mgTup, mAsg, mFor, mNo, mPart, mSl, mB, mSetO, mAppend, mPop, mPkOp, mPkIx, mPkLen, mScrLen, mYes, mPar, mPar3, mParO, mAug, mMtS, mIs, mStar, mFmt, mJs, mAndV, mOrV, mListO, mCatO, mgUnl, truD, pk, List.getElem?_cons_zero, List.getElem?_cons_succ, List.set_cons_zero, List.set_cons_succ, List.length_cons, List.length_nil, Option.map_some, Option.map_none, List.map_cons, List.map_nil, List.cons_append, List.nil_append, List.replicate, Nat.zero_add, Nat.reduceAdd, Nat.reduceSub, Nat.reduceLeDiff, if_true, if_false, Bool.not_true, Bool.not_false, reduceCtorEq, reduceIte, decide_true, decide_false, Bool.false_eq_true, List.isEmpty_cons, List.isEmpty_nil, ixT0, ixT1, ixT2, ixL0, ixL1, ixL2, isD_nn, isD_in, isD_sn, isD_tn, isN_nn, isN_in, isN_sn, isN_tn, Int.cast_ofNat_Int, Int.reduceEq, Int.reduceLT, Int.reduceLE, Bool.and_false, Bool.and_true, Bool.true_and, Bool.false_and, Bool.or_false, Bool.or_true, Bool.true_or, Bool.false_or, str0, eqD_S, lenD_S hshf, gtI_int, c2', ixS0 hshf, strN, neD_S, List.cons_ne_nil, c5]; rfl)).trans ?_
    simp only [mSeq, mSet, mVar, mC, mOp, seqE, optE, mTru, mAnd, mOr, mNot, mIf, mBl, mNil, mCons, mCall, mTup, argsD, dsOf, tupD, mFz, mLst, mRet, mDrop, mNx, mBk, mCt, mFail, mItems, itemsD, mRng, mgName, mgNil, mgCons, mgTup, mAsg, mFor, mNo, mPart, mSl, mB, mSetO, mAppend, mPop, mPkOp, mPkIx, mPkLen, mScrLen, mYes, mPar, mPar3, mParO, mAug, mMtS, mIs, mStar, mFmt, mJs, mAndV, mOrV, mListO, mCatO, mgUnl, truD, pk, List.getElem?_cons_zero, List.getElem?_cons_succ, List.set_cons_zero, List.set_cons_succ, List.length_cons, List.length_nil, Option.map_some, Option.map_none, List.map_cons, List.map_nil, List.cons_append, List.nil_append, List.replicate, Nat.zero_add, Nat.reduceAdd, Nat.reduceSub, Nat.reduceLeDiff, if_true, if_false, Bool.not_true, Bool.not_false, reduceCtorEq, reduceIte, decide_true, decide_false, Bool.false_eq_true, List.isEmpty_cons, List.isEmpty_nil, ixT0, ixT1, ixT2, ixL0, ixL1, ixL2, isD_nn, isD_in, isD_sn, isD_tn, isN_nn, isN_in, isN_sn, isN_tn, Int.cast_ofNat_Int, Int.reduceEq, Int.reduceLT, Int.reduceLE, Bool.and_false, Bool.and_true, Bool.true_and, Bool.false_and, Bool.or_false, Bool.or_true, Bool.true_or, Bool.false_or, intS hdg c1 (by omega)]

/-! ### numbers_at -/
def nxt (r : List Nat) : Bool := match r with
  | 46 :: c :: _ => dig c
  | _ => false
def numsR : Nat → List Nat → Option (List Nat × Nat)
  | 0, _ => none
  | f + 1, r => match numR r with
    | none => none
    | some (n, k) => if nxt (r.drop k) then (match numsR f (r.drop (k + 1)) with
      | some (ns, j) => some (n :: ns, k + 1 + j)
      | none => none) else some ([n], k)
def intsD (ns : List Nat) : List PyData := ns.map fun n : Nat => .int (n : Int)
def figT : List PyData := [48, 49, 50, 51, 52, 53, 54, 55, 56, 57].map fun c => .str (S [c])
theorem figTup : tupStrD [.str "0123456789"] = some (.tuple figT) := by
  rfl
theorem notIn_fig (x : List Nat) : notInD (.str (S x)) (.tuple figT) = some (.bool (match x with | [c] => !dig c | _ => true)) := by
  unfold notInD inS figT
  simp only [dOk, Bool.true_or, if_true, Option.map_some, List.any_map]
  refine congrArg some (congrArg PyData.bool ?_)
  have e : ∀ c : Nat, ((fun y => PyData.eqv y (.str (S x))) ∘ fun c => PyData.str (S [c])) c = decide ([c] = x) := fun c => eq_S [c] x
  rw [show ((fun y => PyData.eqv y (.str (S x))) ∘ fun c => PyData.str (S [c])) = fun c => decide ([c] = x) from funext e]
  match x with
  | [] => simp
  | [c] =>
    dsimp only
    rw [← mem_figs]
    refine congrArg (!·) ?_
    rw [Bool.eq_iff_iff]
    simp
    omega
  | c :: d :: r => simp
theorem numR_bound {r : List Nat} {n k : Nat} (h : numR r = some (n, k)) : 0 < k ∧ k ≤ r.length := by
  unfold numR at h
  split at h
  · cases h
  · rename_i hn
    cases h
    have h1 := (List.takeWhile_prefix (p := dig) (l := r)).length_le
    refine ⟨List.length_pos_iff.mpr fun z => hn (.inl z), h1⟩
theorem take_two (r : List Nat) : r.take 1 ≠ [46] ∨ (r.take 1 = [46] ∧ ∃ q, r = 46 :: q) := by
  cases r with
  | nil => exact .inl (by simp)
  | cons c q =>
    by_cases h : c = 46
    · subst h; exact .inr ⟨rfl, q, rfl⟩
    · exact .inl (by simpa using h)
/-- the end of one turn -/
def numsEnd (acc : List Nat) (p : Nat) : PyData := if acc.length ≤ 60 then .tuple [.tuple (intsD acc), .int (p : Int)] else .none
theorem bW_numbers {l : List Nat} (h : Sh l) {p : Nat} (hp : p ≤ l.length) (x y : Option SD) (acc : List Nat) (hacc : acc.length ≤ p) (w : W) : ∃ e,
    bW2_numbers_at [some (.d (.str (S l))), x, some (.own (intsD acc)), some (.d (.int (p : Int))), y] w = match numR (l.drop p) with
      | none => some (.rt (.d .none), e, w)
      | some (n, k) => if nxt (l.drop (p + k)) then some (.nx, [some (.d (.str (S l))), x, some (.own (intsD (acc ++ [n]))), some (.d (.int ((p + k + 1 : Nat) : Int))), some (.d (numD p (l.drop p)))], w)
        else some (.rt (.d (numsEnd (acc ++ [n]) (p + k))), e, w) := by
  unfold bW2_numbers_at
  rw [seq_nx (e1 := [some (.d (.str (S l))), x, some (.own (intsD acc)), some (.d (.int (p : Int))), some (.d (numD p (l.drop p)))]) (w1 := w) (by (simp only [mSeq, mSet, mVar, mC, mOp, seqE, optE, mTru, mAnd, mOr, mNot, mIf, mBl, mNil, mCons, mCall, mTup, argsD, dsOf, tupD, mFz, mLst, mRet, mDrop, mNx, mBk, mCt, mFail, mItems, itemsD, mRng, mgName, mgNil, mgCons, mgTup, mAsg, mFor, mNo, mPart, mSl, mB, mSetO, mAppend, mPop, mPkOp, mPkIx, mPkLen, mScrLen, mYes, mPar, mPar3, mParO, mAug, mMtS, mIs, mStar, mFmt, mJs, mAndV, mOrV, mListO, mCatO, mgUnl, truD, pk, List.getElem?_cons_zero, List.getElem?_cons_succ, List.set_cons_zero, List.set_cons_succ, List.length_cons, List.length_nil, Option.map_some, Option.map_none, List.map_cons, List.map_nil, List.cons_append, List.nil_append, List.replicate, Nat.zero_add, Nat.reduceAdd, Nat.reduceSub, Nat.reduceLeDiff, if_true, if_false, Bool.not_true, Bool.not_false, reduceCtorEq, reduceIte, decide_true, decide_false, Bool.false_eq_true, List.isEmpty_cons, List.isEmpty_nil, ixT0, ixT1, ixT2, ixL0, ixL1, ixL2, isD_nn, isD_in, isD_sn, isD_tn, isN_nn, isN_in, isN_sn, isN_tn, Int.cast_ofNat_Int, Int.reduceEq, Int.reduceLT, Int.reduceLE, Bool.and_false, Bool.and_true, Bool.true_and, Bool.false_and, Bool.or_false, Bool.or_true, Bool.true_or, Bool.false_or, run_number h hp] <;> rfl))]
  cases hn : numR (l.drop p) with
  | none =>
    have e : numD p (l.drop p) = .none := by unfold numD; rw [hn]
    rw [e]
    exact ⟨_, seq_rt (by (simp only [mSeq, mSet, mVar, mC, mOp, seqE, optE, mTru, mAnd, mOr, mNot, mIf, mBl, mNil, mCons, mCall, mTup, argsD, dsOf, tupD, mFz, mLst, mRet, mDrop, mNx, mBk, mCt, mFail, mItems, itemsD, mRng, mgName, mgNil, mgCons, mgTup, mAsg, mFor, mNo, mPart, mSl, mB, mSetO, mAppend, mPop, mPkOp, mPkIx, mPkLen, mScrLen, mYes, mPar, mPar3, mParO, mAug, mMtS, mIs, mStar, mFmt, mJs, mAndV, mOrV, mListO, mCatO, mgUnl, truD, pk, List.getElem?_cons_zero, List.getElem?_cons_succ, List.set_cons_zero, List.set_cons_succ, List.length_cons, List.length_nil, Option.map_some, Option.map_none, List.map_cons, List.map_nil, List.cons_append, List.nil_append, List.replicate, Nat.zero_add, Nat.reduceAdd, Nat.reduceSub, Nat.reduceLeDiff, if_true, if_false, Bool.not_true, Bool.not_false, reduceCtorEq, reduceIte, decide_true, decide_false, Bool.false_eq_true, List.isEmpty_cons, List.isEmpty_nil, ixT0, ixT1, ixT2, ixL0, ixL1, ixL2, isD_nn, isD_in, isD_sn, isD_tn, isN_nn, isN_in, isN_sn, isN_tn, Int.cast_ofNat_Int, Int.reduceEq, Int.reduceLT, Int.reduceLE, Bool.and_false, Bool.and_true, Bool.true_and, Bool.false_and, Bool.or_false, Bool.or_true, Bool.true_or, Bool.false_or] <;> rfl))⟩
  | some q =>
    obtain ⟨n, k⟩ := q
    have e : numD p (l.drop p) = .tuple [.int (n : Int), .int ((p + k : Nat) : Int)] := by unfold numD; rw [hn]
    rw [e]
    have hk := numR_bound hn
    rw [List.length_drop] at hk
    have hpk : p + k ≤ l.length := by omega
    have hal : (intsD acc).length < sizeLine := by
      unfold intsD
      rw [List.length_map, sizeLine_eq]
      unfold Sh at h
      omega
    have ei : intsD acc ++ [.int (n : Int)] = intsD (acc ++ [n]) := by unfold intsD; simp
    rw [seq_nx (e1 := [some (.d (.str (S l))), x, some (.own (intsD acc)), some (.d (.int (p : Int))), some (.d (.tuple [.int (n : Int), .int ((p + k : Nat) : Int)]))]) (w1 := w) (by (simp only [mSeq, mSet, mVar, mC, mOp, seqE, optE, mTru, mAnd, mOr, mNot, mIf, mBl, mNil, mCons, mCall, mTup, argsD, dsOf, tupD, mFz, mLst, mRet, mDrop, mNx, mBk, mCt, mFail, mItems, itemsD, mRng, mgName, mgNil, mgCons, mgTup, mAsg, mFor, mNo, mPart, mSl, mB, mSetO, mAppend, mPop, mPkOp, mPkIx, mPkLen, mScrLen, mYes, mPar, mPar3, mParO, mAug, mMtS, mIs, mStar, mFmt, mJs, mAndV, mOrV, mListO, mCatO, mgUnl, truD, pk, List.getElem?_cons_zero, List.getElem?_cons_succ, List.set_cons_zero, List.set_cons_succ, List.length_cons, List.length_nil, Option.map_some, Option.map_none, List.map_cons, List.map_nil, List.cons_append, List.nil_append, List.replicate, Nat.zero_add, Nat.reduceAdd, Nat.reduceSub, Nat.reduceLeDiff, if_true, if_false, Bool.not_true, Bool.not_false, reduceCtorEq, reduceIte, decide_true, decide_false, Bool.false_eq_true, List.isEmpty_cons, List.isEmpty_nil, ixT0, ixT1, ixT2, ixL0, ixL1, ixL2, isD_nn, isD_in, isD_sn, isD_tn, isN_nn, isN_in, isN_sn, isN_tn, Int.cast_ofNat_Int, Int.reduceEq, Int.reduceLT, Int.reduceLE, Bool.and_false, Bool.and_true, Bool.true_and, Bool.false_and, Bool.or_false, Bool.or_true, Bool.true_or, Bool.false_or] <;> rfl)),
      seq_nx (e1 := [some (.d (.str (S l))), x, some (.own (intsD (acc ++ [n]))), some (.d (.int (p : Int))), some (.d (.tuple [.int (n : Int), .int ((p + k : Nat) : Int)]))]) (w1 := w) (by (simp only [mSeq, mSet, mVar, mC, mOp, seqE, optE, mTru, mAnd, mOr, mNot, mIf, mBl, mNil, mCons, mCall, mTup, argsD, dsOf, tupD, mFz, mLst, mRet, mDrop, mNx, mBk, mCt, mFail, mItems, itemsD, mRng, mgName, mgNil, mgCons, mgTup, mAsg, mFor, mNo, mPart, mSl, mB, mSetO, mAppend, mPop, mPkOp, mPkIx, mPkLen, mScrLen, mYes, mPar, mPar3, mParO, mAug, mMtS, mIs, mStar, mFmt, mJs, mAndV, mOrV, mListO, mCatO, mgUnl, truD, pk, List.getElem?_cons_zero, List.getElem?_cons_succ, List.set_cons_zero, List.set_cons_succ, List.length_cons, List.length_nil, Option.map_some, Option.map_none, List.map_cons, List.map_nil, List.cons_append, List.nil_append, List.replicate, Nat.zero_add, Nat.reduceAdd, Nat.reduceSub, Nat.reduceLeDiff, if_true, if_false, Bool.not_true, Bool.not_false, reduceCtorEq, reduceIte, decide_true, decide_false, Bool.false_eq_true, List.isEmpty_cons, List.isEmpty_nil, ixT0, ixT1, ixT2, ixL0, ixL1, ixL2, isD_nn, isD_in, isD_sn, isD_tn, isN_nn, isN_in, isN_sn, isN_tn, Int.cast_ofNat_Int, Int.reduceEq, Int.reduceLT, Int.reduceLE, Bool.and_false, Bool.and_true, Bool.true_and, Bool.false_and, Bool.or_false, Bool.or_true, Bool.true_or, Bool.false_or, hal, ei] <;> rfl)),
      seq_nx (e1 := [some (.d (.str (S l))), x, some (.own (intsD (acc ++ [n]))), some (.d (.int ((p + k : Nat) : Int))), some (.d (.tuple [.int (n : Int), .int ((p + k : Nat) : Int)]))]) (w1 := w) (by (simp only [mSeq, mSet, mVar, mC, mOp, seqE, optE, mTru, mAnd, mOr, mNot, mIf, mBl, mNil, mCons, mCall, mTup, argsD, dsOf, tupD, mFz, mLst, mRet, mDrop, mNx, mBk, mCt, mFail, mItems, itemsD, mRng, mgName, mgNil, mgCons, mgTup, mAsg, mFor, mNo, mPart, mSl, mB, mSetO, mAppend, mPop, mPkOp, mPkIx, mPkLen, mScrLen, mYes, mPar, mPar3, mParO, mAug, mMtS, mIs, mStar, mFmt, mJs, mAndV, mOrV, mListO, mCatO, mgUnl, truD, pk, List.getElem?_cons_zero, List.getElem?_cons_succ, List.set_cons_zero, List.set_cons_succ, List.length_cons, List.length_nil, Option.map_some, Option.map_none, List.map_cons, List.map_nil, List.cons_append, List.nil_append, List.replicate, Nat.zero_add, Nat.reduceAdd, Nat.reduceSub, Nat.reduceLeDiff, if_true, if_false, Bool.not_true, Bool.not_false, reduceCtorEq, reduceIte, decide_true, decide_false, Bool.false_eq_true, List.isEmpty_cons, List.isEmpty_nil, ixT0, ixT1, ixT2, ixL0, ixL1, ixL2, isD_nn, isD_in, isD_sn, isD_tn, isN_nn, isN_in, isN_sn, isN_tn, Int.cast_ofNat_Int, Int.reduceEq, Int.reduceLT, Int.reduceLE, Bool.and_false, Bool.and_true, Bool.true_and, Bool.false_and, Bool.or_false, Bool.or_true, Bool.true_or, Bool.false_or] <;> rfl))]
    dsimp only
    have t1 : p + k + 2 - (p + k + 1) = 1 := by omega
    have t0 : p + k + 1 - (p + k) = 1 := by omega
    have hlen : (intsD (acc ++ [n])).length = (acc ++ [n]).length := by unfold intsD; rw [List.length_map]
    -- what is told
    have fin : ∃ e, mRet (mIf (mTru (mOp leI (mPkLen 2) (mC (.int 60)))) (mTup (mCons (mB tupleD (mCons (mVar 2) mNil)) (mCons (mVar 3) mNil))) (mC .none))
        [some (.d (.str (S l))), x, some (.own (intsD (acc ++ [n]))), some (.d (.int ((p + k : Nat) : Int))), some (.d (.tuple [.int (n : Int), .int ((p + k : Nat) : Int)]))] w = some (.rt (.d (numsEnd (acc ++ [n]) (p + k))), e, w) := by
      unfold numsEnd
      by_cases c : (acc ++ [n]).length ≤ 60
      · have c' : ((intsD (acc ++ [n])).length : Int) ≤ 60 := by rw [hlen]; omega
        rw [if_pos c]
        exact ⟨_, by (simp only [mSeq, mSet, mVar, mC, mOp, seqE, optE, mTru, mAnd, mOr, mNot, mIf, mBl, mNil, mCons, mCall, mTup, argsD, dsOf, tupD, mFz, mLst, mRet, mDrop, mNx, mBk, mCt, mFail, mItems, itemsD, mRng, mgName, mgNil, mgCons, mgTup, mAsg, mFor, mNo, mPart, mSl, mB, mSetO, mAppend, mPop, mPkOp, mPkIx, mPkLen, mScrLen, mYes, mPar, mPar3, mParO, mAug, mMtS, mIs, mStar, mFmt, mJs, mAndV, mOrV, mListO, mCatO, mgUnl, truD, pk, List.getElem?_cons_zero, List.getElem?_cons_succ, List.set_cons_zero, List.set_cons_succ, List.length_cons, List.length_nil, Option.map_some, Option.map_none, List.map_cons, List.map_nil, List.cons_append, List.nil_append, List.replicate, Nat.zero_add, Nat.reduceAdd, Nat.reduceSub, Nat.reduceLeDiff, if_true, if_false, Bool.not_true, Bool.not_false, reduceCtorEq, reduceIte, decide_true, decide_false, Bool.false_eq_true, List.isEmpty_cons, List.isEmpty_nil, ixT0, ixT1, ixT2, ixL0, ixL1, ixL2, isD_nn, isD_in, isD_sn, isD_tn, isN_nn, isN_in, isN_sn, isN_tn, Int.cast_ofNat_Int, Int.reduceEq, Int.reduceLT, Int.reduceLE, Bool.and_false, Bool.and_true, Bool.true_and, Bool.false_and, Bool.or_false, Bool.or_true, Bool.true_or, Bool.false_or, leI_int, c', tupleD] <;> rfl)⟩
      · have c' : ¬ ((intsD (acc ++ [n])).length : Int) ≤ 60 := by rw [hlen]; omega
        rw [if_neg c]
        exact ⟨_, by (simp only [mSeq, mSet, mVar, mC, mOp, seqE, optE, mTru, mAnd, mOr, mNot, mIf, mBl, mNil, mCons, mCall, mTup, argsD, dsOf, tupD, mFz, mLst, mRet, mDrop, mNx, mBk, mCt, mFail, mItems, itemsD, mRng, mgName, mgNil, mgCons, mgTup, mAsg, mFor, mNo, mPart, mSl, mB, mSetO, mAppend, mPop, mPkOp, mPkIx, mPkLen, mScrLen, mYes, mPar, mPar3, mParO, mAug, mMtS, mIs, mStar, mFmt, mJs, mAndV, mOrV, mListO, mCatO, mgUnl, truD, pk, List.getElem?_cons_zero, List.getElem?_cons_succ, List.set_cons_zero, List.set_cons_succ, List.length_cons, List.length_nil, Option.map_some, Option.map_none, List.map_cons, List.map_nil, List.cons_append, List.nil_append, List.replicate, Nat.zero_add, Nat.reduceAdd, Nat.reduceSub, Nat.reduceLeDiff, if_true, if_false, Bool.not_true, Bool.not_false, reduceCtorEq, reduceIte, decide_true, decide_false, Bool.false_eq_true, List.isEmpty_cons, List.isEmpty_nil, ixT0, ixT1, ixT2, ixL0, ixL1, ixL2, isD_nn, isD_in, isD_sn, isD_tn, isN_nn, isN_in, isN_sn, isN_tn, Int.cast_ofNat_Int, Int.reduceEq, Int.reduceLT, Int.reduceLE, Bool.and_false, Bool.and_true, Bool.true_and, Bool.false_and, Bool.or_false, Bool.or_true, Bool.true_or, Bool.false_or, leI_int, c', tupleD] <;> rfl)⟩
    obtain ⟨e0, fin⟩ := fin
    refine ⟨e0, ?_⟩
    rcases take_two (l.drop (p + k)) with hd | ⟨hd, q, hq⟩
    · have hx : nxt (l.drop (p + k)) = false := by
        unfold nxt
        split
        · rename_i z
          rw [z] at hd
          exact absurd rfl hd
        · rfl
      rw [hx]
      have hd' : ¬ ((l.drop (p + k)).take 1 = [46]) := hd
      exact seq_rt ((if_t (or_t (by (simp only [mSeq, mSet, mVar, mC, mOp, seqE, optE, mTru, mAnd, mOr, mNot, mIf, mBl, mNil, mCons, mCall, mTup, argsD, dsOf, tupD, mFz, mLst, mRet, mDrop, mNx, mBk, mCt, mFail, mItems, itemsD, mRng, mgName, mgNil, mgCons, mgTup, mAsg, mFor, mNo, mPart, mSl, mB, mSetO, mAppend, mPop, mPkOp, mPkIx, mPkLen, mScrLen, mYes, mPar, mPar3, mParO, mAug, mMtS, mIs, mStar, mFmt, mJs, mAndV, mOrV, mListO, mCatO, mgUnl, truD, pk, List.getElem?_cons_zero, List.getElem?_cons_succ, List.set_cons_zero, List.set_cons_succ, List.length_cons, List.length_nil, Option.map_some, Option.map_none, List.map_cons, List.map_nil, List.cons_append, List.nil_append, List.replicate, Nat.zero_add, Nat.reduceAdd, Nat.reduceSub, Nat.reduceLeDiff, if_true, if_false, Bool.not_true, Bool.not_false, reduceCtorEq, reduceIte, decide_true, decide_false, Bool.false_eq_true, List.isEmpty_cons, List.isEmpty_nil, ixT0, ixT1, ixT2, ixL0, ixL1, ixL2, isD_nn, isD_in, isD_sn, isD_tn, isN_nn, isN_in, isN_sn, isN_tn, Int.cast_ofNat_Int, Int.reduceEq, Int.reduceLT, Int.reduceLE, Bool.and_false, Bool.and_true, Bool.true_and, Bool.false_and, Bool.or_false, Bool.or_true, Bool.true_or, Bool.false_or, slD_S h, addD1, t0, strDot, neD_S, hd'] <;> rfl)))).trans fin)
    · have o1 : mTru (mOp neD (mSl (mVar 0) (mPart (mVar 3)) (mPart (mOp addD (mVar 3) (mC (.int 1))))) (mC (.str "."))) [some (.d (.str (S l))), x, some (.own (intsD (acc ++ [n]))), some (.d (.int ((p + k : Nat) : Int))), some (.d (.tuple [.int (n : Int), .int ((p + k : Nat) : Int)]))] w
          = some (false, [some (.d (.str (S l))), x, some (.own (intsD (acc ++ [n]))), some (.d (.int ((p + k : Nat) : Int))), some (.d (.tuple [.int (n : Int), .int ((p + k : Nat) : Int)]))], w) := by (simp only [mSeq, mSet, mVar, mC, mOp, seqE, optE, mTru, mAnd, mOr, mNot, mIf, mBl, mNil, mCons, mCall, mTup, argsD, dsOf, tupD, mFz, mLst, mRet, mDrop, mNx, mBk, mCt, mFail, mItems, itemsD, mRng, mgName, mgNil, mgCons, mgTup, mAsg, mFor, mNo, mPart, mSl, mB, mSetO, mAppend, mPop, mPkOp, mPkIx, mPkLen, mScrLen, mYes, mPar, mPar3, mParO, mAug, mMtS, mIs, mStar, mFmt, mJs, mAndV, mOrV, mListO, mCatO, mgUnl, truD, pk, List.getElem?_cons_zero, List.getElem?_cons_succ, List.set_cons_zero, List.set_cons_succ, List.length_cons, List.length_nil, Option.map_some, Option.map_none, List.map_cons, List.map_nil, List.cons_append, List.nil_append, List.replicate, Nat.zero_add, Nat.reduceAdd, Nat.reduceSub, Nat.reduceLeDiff, if_true, if_false, Bool.not_true, Bool.not_false, reduceCtorEq, reduceIte, decide_true, decide_false, Bool.false_eq_true, List.isEmpty_cons, List.isEmpty_nil, ixT0, ixT1, ixT2, ixL0, ixL1, ixL2, isD_nn, isD_in, isD_sn, isD_tn, isN_nn, isN_in, isN_sn, isN_tn, Int.cast_ofNat_Int, Int.reduceEq, Int.reduceLT, Int.reduceLE, Bool.and_false, Bool.and_true, Bool.true_and, Bool.false_and, Bool.or_false, Bool.or_true, Bool.true_or, Bool.false_or, slD_S h, addD1, t0, strDot, neD_S, hd] <;> rfl)
      have hq1 : l.drop (p + k + 1) = q := by
        rw [show p + k + 1 = (p + k) + 1 from rfl, ← List.drop_drop, hq]
        rfl
      have o2 : mTru (mOp notInD (mSl (mVar 0) (mPart (mOp addD (mVar 3) (mC (.int 1)))) (mPart (mOp addD (mVar 3) (mC (.int 2))))) (mB tupStrD (mCons (mC (.str "0123456789")) mNil))) [some (.d (.str (S l))), x, some (.own (intsD (acc ++ [n]))), some (.d (.int ((p + k : Nat) : Int))), some (.d (.tuple [.int (n : Int), .int ((p + k : Nat) : Int)]))] w
          = some (!nxt (l.drop (p + k)), [some (.d (.str (S l))), x, some (.own (intsD (acc ++ [n]))), some (.d (.int ((p + k : Nat) : Int))), some (.d (.tuple [.int (n : Int), .int ((p + k : Nat) : Int)]))], w) := by
        have e3 : (match q.take 1 with | [c] => !dig c | _ => true) = !nxt (l.drop (p + k)) := by
          rw [hq]
          cases q with
          | nil => rfl
          | cons c q' => rfl
        simp only [mSeq, mSet, mVar, mC, mOp, seqE, optE, mTru, mAnd, mOr, mNot, mIf, mBl, mNil, mCons, mCall, mTup, argsD, dsOf, tupD, mFz, mLst, mRet, mDrop, mNx, mBk, mCt, mFail, mItems, itemsD, mRng, mgName, mgNil, mgCons, mgTup, mAsg, mFor, mNo, mPart, mSl, mB, mSetO, mAppend, mPop, mPkOp, mPkIx, mPkLen, mScrLen, mYes, mPar, mPar3, mParO, mAug, mMtS, mIs, mStar, mFmt, mJs, mAndV, mOrV, mListO, mCatO, mgUnl, truD, pk, List.getElem?_cons_zero, List.getElem?_cons_succ, List.set_cons_zero, List.set_cons_succ, List.length_cons, List.length_nil, Option.map_some, Option.map_none, List.map_cons, List.map_nil, List.cons_append, List.nil_append, List.replicate, Nat.zero_add, Nat.reduceAdd, Nat.reduceSub, Nat.reduceLeDiff, if_true, if_false, Bool.not_true, Bool.not_false, reduceCtorEq, reduceIte, decide_true, decide_false, Bool.false_eq_true, List.isEmpty_cons, List.isEmpty_nil, ixT0, ixT1, ixT2, ixL0, ixL1, ixL2, isD_nn, isD_in, isD_sn, isD_tn, isN_nn, isN_in, isN_sn, isN_tn, Int.cast_ofNat_Int, Int.reduceEq, Int.reduceLT, Int.reduceLE, Bool.and_false, Bool.and_true, Bool.true_and, Bool.false_and, Bool.or_false, Bool.or_true, Bool.true_or, Bool.false_or, slD_S h, addD1, addD2, t1, figTup, notIn_fig, hq1, e3]
      cases hx : nxt (l.drop (p + k)) with
      | false =>
        rw [hx] at o2
        exact seq_rt ((if_t ((or_f o1).trans o2)).trans fin)
      | true =>
        rw [hx] at o2
        refine (seq_nx ((if_f ((or_f o1).trans o2)).trans rfl)).trans ?_
        (simp only [mSeq, mSet, mVar, mC, mOp, seqE, optE, mTru, mAnd, mOr, mNot, mIf, mBl, mNil, mCons, mCall, mTup, argsD, dsOf, tupD, mFz, mLst, mRet, mDrop, mNx, mBk, mCt, mFail, mItems, itemsD, mRng, mgName, mgNil, mgCons, mgTup, mAsg, mFor, mNo, mPart, mSl, mB, mSetO, mAppend, mPop, mPkOp, mPkIx, mPkLen, mScrLen, mYes, mPar, mPar3, mParO, mAug, mMtS, mIs, mStar, mFmt, mJs, mAndV, mOrV, mListO, mCatO, mgUnl, truD, pk, List.getElem?_cons_zero, List.getElem?_cons_succ, List.set_cons_zero, List.set_cons_succ, List.length_cons, List.length_nil, Option.map_some, Option.map_none, List.map_cons, List.map_nil, List.cons_append, List.nil_append, List.replicate, Nat.zero_add, Nat.reduceAdd, Nat.reduceSub, Nat.reduceLeDiff, if_true, if_false, Bool.not_true, Bool.not_false, reduceCtorEq, reduceIte, decide_true, decide_false, Bool.false_eq_true, List.isEmpty_cons, List.isEmpty_nil, ixT0, ixT1, ixT2, ixL0, ixL1, ixL2, isD_nn, isD_in, isD_sn, isD_tn, isN_nn, isN_in, isN_sn, isN_tn, Int.cast_ofNat_Int, Int.reduceEq, Int.reduceLT, Int.reduceLE, Bool.and_false, Bool.and_true, Bool.true_and, Bool.false_and, Bool.or_false, Bool.or_true, Bool.true_or, Bool.false_or, addI1] <;> rfl)
theorem numsR_bound : ∀ {f : Nat} {r ns : List Nat} {j : Nat}, numsR f r = some (ns, j) → j ≤ r.length ∧ ns ≠ []
  | 0, _, _, _, h => by cases h
  | f + 1, r, ns, j, h => by
    unfold numsR at h
    split at h
    · cases h
    · rename_i n k hn
      have hk := numR_bound hn
      split at h
      · rename_i hx
        split at h
        · rename_i ms i hr
          cases h
          have h1 := numsR_bound hr
          rw [List.length_drop] at h1
          have : k + 1 ≤ r.length := by
            unfold nxt at hx
            split at hx
            · rename_i z
              have := congrArg List.length z
              rw [List.length_drop] at this
              simp at this
              omega
            · cases hx
          exact ⟨by omega, by simp⟩
        · cases h
      · cases h
        exact ⟨hk.2, by simp⟩
theorem cW_true (env : Ev) (w : W) : cW1_numbers_at env w = some (true, env, w) := by
  unfold cW1_numbers_at
  (simp only [mSeq, mSet, mVar, mC, mOp, seqE, optE, mTru, mAnd, mOr, mNot, mIf, mBl, mNil, mCons, mCall, mTup, argsD, dsOf, tupD, mFz, mLst, mRet, mDrop, mNx, mBk, mCt, mFail, mItems, itemsD, mRng, mgName, mgNil, mgCons, mgTup, mAsg, mFor, mNo, mPart, mSl, mB, mSetO, mAppend, mPop, mPkOp, mPkIx, mPkLen, mScrLen, mYes, mPar, mPar3, mParO, mAug, mMtS, mIs, mStar, mFmt, mJs, mAndV, mOrV, mListO, mCatO, mgUnl, truD, pk, List.getElem?_cons_zero, List.getElem?_cons_succ, List.set_cons_zero, List.set_cons_succ, List.length_cons, List.length_nil, Option.map_some, Option.map_none, List.map_cons, List.map_nil, List.cons_append, List.nil_append, List.replicate, Nat.zero_add, Nat.reduceAdd, Nat.reduceSub, Nat.reduceLeDiff, if_true, if_false, Bool.not_true, Bool.not_false, reduceCtorEq, reduceIte, decide_true, decide_false, Bool.false_eq_true, List.isEmpty_cons, List.isEmpty_nil, ixT0, ixT1, ixT2, ixL0, ixL1, ixL2, isD_nn, isD_in, isD_sn, isD_tn, isN_nn, isN_in, isN_sn, isN_tn, Int.cast_ofNat_Int, Int.reduceEq, Int.reduceLT, Int.reduceLE, Bool.and_false, Bool.and_true, Bool.true_and, Bool.false_and, Bool.or_false, Bool.or_true, Bool.true_or, Bool.false_or] <;> rfl)
theorem loop_numbers {l : List Nat} (h : Sh l) (x : Option SD) (w : W) : ∀ (f F p : Nat) (acc : List Nat) (y : Option SD), l.length < p + f → f ≤ F → p ≤ l.length → acc.length ≤ p → ∃ e,
    mWhile cW1_numbers_at bW2_numbers_at F [some (.d (.str (S l))), x, some (.own (intsD acc)), some (.d (.int (p : Int))), y] w = some (.rt (.d (match numsR f (l.drop p) with
      | none => .none
      | some (ns, j) => numsEnd (acc ++ ns) (p + j))), e, w)
  | 0, F, p, acc, y, hf, hF, hp, ha => by omega
  | f + 1, F, p, acc, y, hf, hF, hp, ha => by
    obtain ⟨F', rfl⟩ : ∃ F', F = F' + 1 := ⟨F - 1, by omega⟩
    obtain ⟨e, he⟩ := bW_numbers h hp x y acc ha w
    unfold numsR
    cases hn : numR (l.drop p) with
    | none =>
      rw [hn] at he
      exact ⟨e, while_rt (cW_true _ _) he⟩
    | some q =>
      obtain ⟨n, k⟩ := q
      rw [hn] at he
      dsimp only at he ⊢
      have hk := numR_bound hn
      rw [List.length_drop] at hk
      rw [List.drop_drop, List.drop_drop]
      cases hx : nxt (l.drop (p + k)) with
      | false =>
        rw [hx] at he
        exact ⟨e, while_rt (cW_true _ _) he⟩
      | true =>
        rw [hx] at he
        have hlt : p + k + 1 ≤ l.length := by
          unfold nxt at hx
          split at hx
          · rename_i z
            have := congrArg List.length z
            rw [List.length_drop] at this
            simp at this
            omega
          · cases hx
        obtain ⟨e', h'⟩ := loop_numbers h x w f F' (p + k + 1) (acc ++ [n]) (some (.d (numD p (l.drop p)))) (by omega) (by omega) hlt (by simp; omega)
        refine ⟨e', (while_go (cW_true _ _) he).trans (h'.trans ?_)⟩
        rw [show p + (k + 1) = p + k + 1 from rfl]
        cases hr : numsR f (l.drop (p + k + 1)) with
        | none => rfl
        | some q =>
          obtain ⟨ns, j⟩ := q
          dsimp only
          rw [List.append_assoc, show p + k + 1 + j = p + (k + 1 + j) by omega]
          rfl
/-- what numbers_at tells -/
def numsD (a : Nat) (r : List Nat) : PyData := match numsR (r.length + 1) r with
  | none => .none
  | some (ns, j) => numsEnd ns (a + j)
theorem run_numbers {l : List Nat} (h : Sh l) {a : Nat} (ha : a ≤ l.length) (w : W) : m_numbers_at [.d (.str (S l)), .d (.int (a : Int))] w = some (.d (numsD a (l.drop a)), w) := by
  obtain ⟨e, he⟩ := loop_numbers h (some (.d (.int (a : Int)))) w ((l.drop a).length + 1) fuel a [] none (by rw [List.length_drop]; omega) (by rw [List.length_drop]; unfold fuel; unfold Sh at h; omega) ha (Nat.zero_le _)
  refine fn_rt (e' := e) rfl ?_
  unfold b_numbers_at
  refine (seq_nx (by (simp only [mSeq, mSet, mVar, mC, mOp, seqE, optE, mTru, mAnd, mOr, mNot, mIf, mBl, mNil, mCons, mCall, mTup, argsD, dsOf, tupD, mFz, mLst, mRet, mDrop, mNx, mBk, mCt, mFail, mItems, itemsD, mRng, mgName, mgNil, mgCons, mgTup, mAsg, mFor, mNo, mPart, mSl, mB, mSetO, mAppend, mPop, mPkOp, mPkIx, mPkLen, mScrLen, mYes, mPar, mPar3, mParO, mAug, mMtS, mIs, mStar, mFmt, mJs, mAndV, mOrV, mListO, mCatO, mgUnl, truD, pk, List.getElem?_cons_zero, List.getElem?_cons_succ, List.set_cons_zero, List.set_cons_succ, List.length_cons, List.length_nil, Option.map_some, Option.map_none, List.map_cons, List.map_nil, List.cons_append, List.nil_append, List.replicate, Nat.zero_add, Nat.reduceAdd, Nat.reduceSub, Nat.reduceLeDiff, if_true, if_false, Bool.not_true, Bool.not_false, reduceCtorEq, reduceIte, decide_true, decide_false, Bool.false_eq_true, List.isEmpty_cons, List.isEmpty_nil, ixT0, ixT1, ixT2, ixL0, ixL1, ixL2, isD_nn, isD_in, isD_sn, isD_tn, isN_nn, isN_in, isN_sn, isN_tn, Int.cast_ofNat_Int, Int.reduceEq, Int.reduceLT, Int.reduceLE, Bool.and_false, Bool.and_true, Bool.true_and, Bool.false_and, Bool.or_false, Bool.or_true, Bool.true_or, Bool.false_or] <;> rfl))).trans ?_
  refine he.trans ?_
  unfold numsD
  rfl
end Dn

set_option maxHeartbeats 4000000
namespace Dn
open PySem PySem.Spec PyProof.Rows L2 SX
open TL (numL pre)

/-! ### word_at -/
theorem starts3 (l b : List Nat) (hb : b ≠ []) {a : Nat} : Txt.startswith3 (S l) (S b) (a : Int) = pre b (l.drop a) := by
  unfold Txt.startswith3
  have e : fromIndex (S l).length (a : Int) = a := by
    unfold fromIndex
    rw [if_neg (by omega)]
    omega
  rw [e]
  have q := TL.at_iff (x := S l) (y := S b) hb a
  unfold PySem.StrLaws.At at q
  rw [Bool.eq_iff_iff, Bool.and_eq_true, decide_eq_true_iff]
  exact q
def wordR : List (List Nat) → List Nat → Option (Option (List Nat × Nat) × Nat)
  | [], _ => some (none, 0)
  | x :: xs, r => if pre x r then (match numR (r.drop x.length) with
    | none => none
    | some (n, k) => some (some (x, n), x.length + k)) else wordR xs r
def foD : Option (List Nat × Nat) → PyData
  | none => .none
  | some (x, n) => .tuple [.str (S x), .int (n : Int)]
def wordD (a : Nat) (xs : List (List Nat)) (r : List Nat) : PyData := match wordR xs r with
  | none => .none
  | some (o, k) => .tuple [foD o, .int ((a + k : Nat) : Int)]
def Wok (x : List Nat) : Prop := x ≠ [] ∧ x.length ≤ 10
theorem bF_word {l : List Nat} (h : Sh l) {a : Nat} (ha : a ≤ l.length) (z y : Option SD) (x : List Nat) (hx : Wok x) (w : W) : ∃ e,
    bF1_word_at [some (.d (.str (S l))), some (.d (.int (a : Int))), z, some (.d (.str (S x))), y] w = if pre x (l.drop a) then some (.rt (.d (match numR ((l.drop a).drop x.length) with
      | none => .none
      | some (n, k) => .tuple [foD (some (x, n)), .int ((a + (x.length + k) : Nat) : Int)])), e, w) else some (.nx, [some (.d (.str (S l))), some (.d (.int (a : Int))), z, some (.d (.str (S x))), y], w) := by
  unfold bF1_word_at
  have hs : Sh x := by have := hx.2; unfold Sh; omega
  cases hp : pre x (l.drop a) with
  | false =>
    refine ⟨[], ?_⟩
    rw [if_f (e1 := [some (.d (.str (S l))), some (.d (.int (a : Int))), z, some (.d (.str (S x))), y]) (w1 := w) (by (simp only [mSeq, mSet, mVar, mC, mOp, seqE, optE, mTru, mAnd, mOr, mNot, mIf, mBl, mNil, mCons, mCall, mTup, argsD, dsOf, tupD, mFz, mLst, mRet, mDrop, mNx, mBk, mCt, mFail, mItems, itemsD, mRng, mgName, mgNil, mgCons, mgTup, mAsg, mFor, mNo, mPart, mSl, mB, mSetO, mAppend, mPop, mPkOp, mPkIx, mPkLen, mScrLen, mYes, mPar, mPar3, mParO, mAug, mMtS, mIs, mStar, mFmt, mJs, mAndV, mOrV, mListO, mCatO, mgUnl, truD, pk, List.getElem?_cons_zero, List.getElem?_cons_succ, List.set_cons_zero, List.set_cons_succ, List.length_cons, List.length_nil, Option.map_some, Option.map_none, List.map_cons, List.map_nil, List.cons_append, List.nil_append, List.replicate, Nat.zero_add, Nat.reduceAdd, Nat.reduceSub, Nat.reduceLeDiff, if_true, if_false, Bool.not_true, Bool.not_false, reduceCtorEq, reduceIte, decide_true, decide_false, Bool.false_eq_true, List.isEmpty_cons, List.isEmpty_nil, ixT0, ixT1, ixT2, ixL0, ixL1, ixL2, isD_nn, isD_in, isD_sn, isD_tn, isN_nn, isN_in, isN_sn, isN_tn, Int.cast_ofNat_Int, Int.reduceEq, Int.reduceLT, Int.reduceLE, Bool.and_false, Bool.and_true, Bool.true_and, Bool.false_and, Bool.or_false, Bool.or_true, Bool.true_or, Bool.false_or, starts2D, starts3 l x hx.1, hp] <;> rfl))]
    (simp only [mSeq, mSet, mVar, mC, mOp, seqE, optE, mTru, mAnd, mOr, mNot, mIf, mBl, mNil, mCons, mCall, mTup, argsD, dsOf, tupD, mFz, mLst, mRet, mDrop, mNx, mBk, mCt, mFail, mItems, itemsD, mRng, mgName, mgNil, mgCons, mgTup, mAsg, mFor, mNo, mPart, mSl, mB, mSetO, mAppend, mPop, mPkOp, mPkIx, mPkLen, mScrLen, mYes, mPar, mPar3, mParO, mAug, mMtS, mIs, mStar, mFmt, mJs, mAndV, mOrV, mListO, mCatO, mgUnl, truD, pk, List.getElem?_cons_zero, List.getElem?_cons_succ, List.set_cons_zero, List.set_cons_succ, List.length_cons, List.length_nil, Option.map_some, Option.map_none, List.map_cons, List.map_nil, List.cons_append, List.nil_append, List.replicate, Nat.zero_add, Nat.reduceAdd, Nat.reduceSub, Nat.reduceLeDiff, if_true, if_false, Bool.not_true, Bool.not_false, reduceCtorEq, reduceIte, decide_true, decide_false, Bool.false_eq_true, List.isEmpty_cons, List.isEmpty_nil, ixT0, ixT1, ixT2, ixL0, ixL1, ixL2, isD_nn, isD_in, isD_sn, isD_tn, isN_nn, isN_in, isN_sn, isN_tn, Int.cast_ofNat_Int, Int.reduceEq, Int.reduceLT, Int.reduceLE, Bool.and_false, Bool.and_true, Bool.true_and, Bool.false_and, Bool.or_false, Bool.or_true, Bool.true_or, Bool.false_or] <;> rfl)
  | true =>
    have hlen : a + x.length ≤ l.length := by
      have e := congrArg List.length (eq_of_beq hp)
      rw [List.length_take, List.length_drop] at e
      omega
    have hadd : addD (.int (a : Int)) (.int (x.length : Int)) = some (.int ((a + x.length : Nat) : Int)) := add_nat a x.length
    simp only [if_true]
    rw [if_t (e1 := [some (.d (.str (S l))), some (.d (.int (a : Int))), z, some (.d (.str (S x))), y]) (w1 := w) (by (simp only [mSeq, mSet, mVar, mC, mOp, seqE, optE, mTru, mAnd, mOr, mNot, mIf, mBl, mNil, mCons, mCall, mTup, argsD, dsOf, tupD, mFz, mLst, mRet, mDrop, mNx, mBk, mCt, mFail, mItems, itemsD, mRng, mgName, mgNil, mgCons, mgTup, mAsg, mFor, mNo, mPart, mSl, mB, mSetO, mAppend, mPop, mPkOp, mPkIx, mPkLen, mScrLen, mYes, mPar, mPar3, mParO, mAug, mMtS, mIs, mStar, mFmt, mJs, mAndV, mOrV, mListO, mCatO, mgUnl, truD, pk, List.getElem?_cons_zero, List.getElem?_cons_succ, List.set_cons_zero, List.set_cons_succ, List.length_cons, List.length_nil, Option.map_some, Option.map_none, List.map_cons, List.map_nil, List.cons_append, List.nil_append, List.replicate, Nat.zero_add, Nat.reduceAdd, Nat.reduceSub, Nat.reduceLeDiff, if_true, if_false, Bool.not_true, Bool.not_false, reduceCtorEq, reduceIte, decide_true, decide_false, Bool.false_eq_true, List.isEmpty_cons, List.isEmpty_nil, ixT0, ixT1, ixT2, ixL0, ixL1, ixL2, isD_nn, isD_in, isD_sn, isD_tn, isN_nn, isN_in, isN_sn, isN_tn, Int.cast_ofNat_Int, Int.reduceEq, Int.reduceLT, Int.reduceLE, Bool.and_false, Bool.and_true, Bool.true_and, Bool.false_and, Bool.or_false, Bool.or_true, Bool.true_or, Bool.false_or, starts2D, starts3 l x hx.1, hp] <;> rfl)),
      seq_nx (e1 := [some (.d (.str (S l))), some (.d (.int (a : Int))), z, some (.d (.str (S x))), some (.d (numD (a + x.length) (l.drop (a + x.length))))]) (w1 := w) (by (simp only [mSeq, mSet, mVar, mC, mOp, seqE, optE, mTru, mAnd, mOr, mNot, mIf, mBl, mNil, mCons, mCall, mTup, argsD, dsOf, tupD, mFz, mLst, mRet, mDrop, mNx, mBk, mCt, mFail, mItems, itemsD, mRng, mgName, mgNil, mgCons, mgTup, mAsg, mFor, mNo, mPart, mSl, mB, mSetO, mAppend, mPop, mPkOp, mPkIx, mPkLen, mScrLen, mYes, mPar, mPar3, mParO, mAug, mMtS, mIs, mStar, mFmt, mJs, mAndV, mOrV, mListO, mCatO, mgUnl, truD, pk, List.getElem?_cons_zero, List.getElem?_cons_succ, List.set_cons_zero, List.set_cons_succ, List.length_cons, List.length_nil, Option.map_some, Option.map_none, List.map_cons, List.map_nil, List.cons_append, List.nil_append, List.replicate, Nat.zero_add, Nat.reduceAdd, Nat.reduceSub, Nat.reduceLeDiff, if_true, if_false, Bool.not_true, Bool.not_false, reduceCtorEq, reduceIte, decide_true, decide_false, Bool.false_eq_true, List.isEmpty_cons, List.isEmpty_nil, ixT0, ixT1, ixT2, ixL0, ixL1, ixL2, isD_nn, isD_in, isD_sn, isD_tn, isN_nn, isN_in, isN_sn, isN_tn, Int.cast_ofNat_Int, Int.reduceEq, Int.reduceLT, Int.reduceLE, Bool.and_false, Bool.and_true, Bool.true_and, Bool.false_and, Bool.or_false, Bool.or_true, Bool.true_or, Bool.false_or, lenD_S hs, hadd, run_number h hlen] <;> rfl))]
    rw [List.drop_drop]
    unfold numD
    cases hn : numR (l.drop (a + x.length)) with
    | none => exact ⟨_, by (simp only [mSeq, mSet, mVar, mC, mOp, seqE, optE, mTru, mAnd, mOr, mNot, mIf, mBl, mNil, mCons, mCall, mTup, argsD, dsOf, tupD, mFz, mLst, mRet, mDrop, mNx, mBk, mCt, mFail, mItems, itemsD, mRng, mgName, mgNil, mgCons, mgTup, mAsg, mFor, mNo, mPart, mSl, mB, mSetO, mAppend, mPop, mPkOp, mPkIx, mPkLen, mScrLen, mYes, mPar, mPar3, mParO, mAug, mMtS, mIs, mStar, mFmt, mJs, mAndV, mOrV, mListO, mCatO, mgUnl, truD, pk, List.getElem?_cons_zero, List.getElem?_cons_succ, List.set_cons_zero, List.set_cons_succ, List.length_cons, List.length_nil, Option.map_some, Option.map_none, List.map_cons, List.map_nil, List.cons_append, List.nil_append, List.replicate, Nat.zero_add, Nat.reduceAdd, Nat.reduceSub, Nat.reduceLeDiff, if_true, if_false, Bool.not_true, Bool.not_false, reduceCtorEq, reduceIte, decide_true, decide_false, Bool.false_eq_true, List.isEmpty_cons, List.isEmpty_nil, ixT0, ixT1, ixT2, ixL0, ixL1, ixL2, isD_nn, isD_in, isD_sn, isD_tn, isN_nn, isN_in, isN_sn, isN_tn, Int.cast_ofNat_Int, Int.reduceEq, Int.reduceLT, Int.reduceLE, Bool.and_false, Bool.and_true, Bool.true_and, Bool.false_and, Bool.or_false, Bool.or_true, Bool.true_or, Bool.false_or] <;> rfl)⟩
    | some q =>
      obtain ⟨n, k⟩ := q
      dsimp only
      rw [show a + (x.length + k) = a + x.length + k by omega]
      exact ⟨_, by (simp only [mSeq, mSet, mVar, mC, mOp, seqE, optE, mTru, mAnd, mOr, mNot, mIf, mBl, mNil, mCons, mCall, mTup, argsD, dsOf, tupD, mFz, mLst, mRet, mDrop, mNx, mBk, mCt, mFail, mItems, itemsD, mRng, mgName, mgNil, mgCons, mgTup, mAsg, mFor, mNo, mPart, mSl, mB, mSetO, mAppend, mPop, mPkOp, mPkIx, mPkLen, mScrLen, mYes, mPar, mPar3, mParO, mAug, mMtS, mIs, mStar, mFmt, mJs, mAndV, mOrV, mListO, mCatO, mgUnl, truD, pk, List.getElem?_cons_zero, List.getElem?_cons_succ, List.set_cons_zero, List.set_cons_succ, List.length_cons, List.length_nil, Option.map_some, Option.map_none, List.map_cons, List.map_nil, List.cons_append, List.nil_append, List.replicate, Nat.zero_add, Nat.reduceAdd, Nat.reduceSub, Nat.reduceLeDiff, if_true, if_false, Bool.not_true, Bool.not_false, reduceCtorEq, reduceIte, decide_true, decide_false, Bool.false_eq_true, List.isEmpty_cons, List.isEmpty_nil, ixT0, ixT1, ixT2, ixL0, ixL1, ixL2, isD_nn, isD_in, isD_sn, isD_tn, isN_nn, isN_in, isN_sn, isN_tn, Int.cast_ofNat_Int, Int.reduceEq, Int.reduceLT, Int.reduceLE, Bool.and_false, Bool.and_true, Bool.true_and, Bool.false_and, Bool.or_false, Bool.or_true, Bool.true_or, Bool.false_or, foD] <;> rfl)⟩
theorem loop_word {l : List Nat} (h : Sh l) {a : Nat} (ha : a ≤ l.length) (z : Option SD) (w : W) : ∀ (xs : List (List Nat)) (y u : Option SD), (∀ x ∈ xs, Wok x) → ∃ e y',
    mLoop (mgName 3) bF1_word_at (xs.map fun x => .str (S x)) [some (.d (.str (S l))), some (.d (.int (a : Int))), z, y, u] w = match wordR xs (l.drop a) with
      | some (none, _) => some (.nx, [some (.d (.str (S l))), some (.d (.int (a : Int))), z, y', u], w)
      | some (some q, k) => some (.rt (.d (.tuple [foD (some q), .int ((a + k : Nat) : Int)])), e, w)
      | none => some (.rt (.d .none), e, w)
  | [], y, u, hx => ⟨[], y, rfl⟩
  | x :: xs, y, u, hx => by
    obtain ⟨e, he⟩ := bF_word h ha z u x (hx x (by simp)) w
    unfold wordR
    cases hp : pre x (l.drop a) with
    | true =>
      rw [hp, if_pos rfl] at he
      refine ⟨e, none, ?_⟩
      rw [List.map_cons, loop_rt (by (simp only [mSeq, mSet, mVar, mC, mOp, seqE, optE, mTru, mAnd, mOr, mNot, mIf, mBl, mNil, mCons, mCall, mTup, argsD, dsOf, tupD, mFz, mLst, mRet, mDrop, mNx, mBk, mCt, mFail, mItems, itemsD, mRng, mgName, mgNil, mgCons, mgTup, mAsg, mFor, mNo, mPart, mSl, mB, mSetO, mAppend, mPop, mPkOp, mPkIx, mPkLen, mScrLen, mYes, mPar, mPar3, mParO, mAug, mMtS, mIs, mStar, mFmt, mJs, mAndV, mOrV, mListO, mCatO, mgUnl, truD, pk, List.getElem?_cons_zero, List.getElem?_cons_succ, List.set_cons_zero, List.set_cons_succ, List.length_cons, List.length_nil, Option.map_some, Option.map_none, List.map_cons, List.map_nil, List.cons_append, List.nil_append, List.replicate, Nat.zero_add, Nat.reduceAdd, Nat.reduceSub, Nat.reduceLeDiff, if_true, if_false, Bool.not_true, Bool.not_false, reduceCtorEq, reduceIte, decide_true, decide_false, Bool.false_eq_true, List.isEmpty_cons, List.isEmpty_nil, ixT0, ixT1, ixT2, ixL0, ixL1, ixL2, isD_nn, isD_in, isD_sn, isD_tn, isN_nn, isN_in, isN_sn, isN_tn, Int.cast_ofNat_Int, Int.reduceEq, Int.reduceLT, Int.reduceLE, Bool.and_false, Bool.and_true, Bool.true_and, Bool.false_and, Bool.or_false, Bool.or_true, Bool.true_or, Bool.false_or] <;> rfl)) he]
      simp only [if_true]
      cases hn : numR ((l.drop a).drop x.length) with
      | none => rfl
      | some q => rfl
    | false =>
      rw [hp] at he
      simp only [Bool.false_eq_true, if_false] at he ⊢
      obtain ⟨e', y', h'⟩ := loop_word h ha z w xs (some (.d (.str (S x)))) u fun x hm => hx x (List.mem_cons_of_mem _ hm)
      refine ⟨e', y', ?_⟩
      rw [List.map_cons, loop_go (by (simp only [mSeq, mSet, mVar, mC, mOp, seqE, optE, mTru, mAnd, mOr, mNot, mIf, mBl, mNil, mCons, mCall, mTup, argsD, dsOf, tupD, mFz, mLst, mRet, mDrop, mNx, mBk, mCt, mFail, mItems, itemsD, mRng, mgName, mgNil, mgCons, mgTup, mAsg, mFor, mNo, mPart, mSl, mB, mSetO, mAppend, mPop, mPkOp, mPkIx, mPkLen, mScrLen, mYes, mPar, mPar3, mParO, mAug, mMtS, mIs, mStar, mFmt, mJs, mAndV, mOrV, mListO, mCatO, mgUnl, truD, pk, List.getElem?_cons_zero, List.getElem?_cons_succ, List.set_cons_zero, List.set_cons_succ, List.length_cons, List.length_nil, Option.map_some, Option.map_none, List.map_cons, List.map_nil, List.cons_append, List.nil_append, List.replicate, Nat.zero_add, Nat.reduceAdd, Nat.reduceSub, Nat.reduceLeDiff, if_true, if_false, Bool.not_true, Bool.not_false, reduceCtorEq, reduceIte, decide_true, decide_false, Bool.false_eq_true, List.isEmpty_cons, List.isEmpty_nil, ixT0, ixT1, ixT2, ixL0, ixL1, ixL2, isD_nn, isD_in, isD_sn, isD_tn, isN_nn, isN_in, isN_sn, isN_tn, Int.cast_ofNat_Int, Int.reduceEq, Int.reduceLT, Int.reduceLE, Bool.and_false, Bool.and_true, Bool.true_and, Bool.false_and, Bool.or_false, Bool.or_true, Bool.true_or, Bool.false_or] <;> rfl)) he]
      exact h'
theorem wordR_none {xs : List (List Nat)} {r : List Nat} : ∀ {k : Nat}, wordR xs r = some (none, k) → k = 0 := by
  induction xs with
  | nil => intro k h; cases h; rfl
  | cons x xs ih =>
    intro k h
    unfold wordR at h
    split at h
    · split at h <;> cases h
    · exact ih h
theorem run_word {l : List Nat} (h : Sh l) {a : Nat} (ha : a ≤ l.length) (xs : List (List Nat)) (hx : ∀ x ∈ xs, Wok x) (w : W) : m_word_at [.d (.str (S l)), .d (.int (a : Int)), .d (.tuple (xs.map fun x => .str (S x)))] w = some (.d (wordD a xs (l.drop a)), w) := by
  obtain ⟨e, y', he⟩ := loop_word h ha (some (.d (.tuple (xs.map fun x => .str (S x))))) w xs none none hx
  unfold wordD
  cases hq : wordR xs (l.drop a) with
  | none =>
    rw [hq] at he
    refine fn_rt (e' := e) rfl ?_
    unfold b_word_at
    refine (seq_rt ?_).trans rfl
    simp only [mFor, mItems, seqE, mVar, itemsD, Option.map_some, List.map_cons, List.map_nil, List.cons_append, List.nil_append, List.getElem?_cons_zero, List.getElem?_cons_succ]
    exact he
  | some q =>
    obtain ⟨o, k⟩ := q
    cases o with
    | none =>
      rw [hq] at he
      rw [wordR_none hq]
      refine fn_rt (e' := [some (.d (.str (S l))), some (.d (.int (a : Int))), some (.d (.tuple (xs.map fun x => .str (S x)))), y', none]) rfl ?_
      unfold b_word_at
      refine (seq_nx (e1 := [some (.d (.str (S l))), some (.d (.int (a : Int))), some (.d (.tuple (xs.map fun x => .str (S x)))), y', none]) (w1 := w) ?_).trans (by (simp only [mSeq, mSet, mVar, mC, mOp, seqE, optE, mTru, mAnd, mOr, mNot, mIf, mBl, mNil, mCons, mCall, mTup, argsD, dsOf, tupD, mFz, mLst, mRet, mDrop, mNx, mBk, mCt, mFail, mItems, itemsD, mRng, mgName, mgNil, mgCons, mgTup, mAsg, mFor, mNo, mPart, mSl, mB, mSetO, mAppend, mPop, mPkOp, mPkIx, mPkLen, mScrLen, mYes, mPar, mPar3, mParO, mAug, mMtS, mIs, mStar, mFmt, mJs, mAndV, mOrV, mListO, mCatO, mgUnl, truD, pk, List.getElem?_cons_zero, List.getElem?_cons_succ, List.set_cons_zero, List.set_cons_succ, List.length_cons, List.length_nil, Option.map_some, Option.map_none, List.map_cons, List.map_nil, List.cons_append, List.nil_append, List.replicate, Nat.zero_add, Nat.reduceAdd, Nat.reduceSub, Nat.reduceLeDiff, if_true, if_false, Bool.not_true, Bool.not_false, reduceCtorEq, reduceIte, decide_true, decide_false, Bool.false_eq_true, List.isEmpty_cons, List.isEmpty_nil, ixT0, ixT1, ixT2, ixL0, ixL1, ixL2, isD_nn, isD_in, isD_sn, isD_tn, isN_nn, isN_in, isN_sn, isN_tn, Int.cast_ofNat_Int, Int.reduceEq, Int.reduceLT, Int.reduceLE, Bool.and_false, Bool.and_true, Bool.true_and, Bool.false_and, Bool.or_false, Bool.or_true, Bool.true_or, Bool.false_or, foD, Nat.add_zero] <;> rfl))
      simp only [mFor, mItems, seqE, mVar, itemsD, Option.map_some, List.map_cons, List.map_nil, List.cons_append, List.nil_append, List.getElem?_cons_zero, List.getElem?_cons_succ]
      exact he
    | some q =>
      rw [hq] at he
      refine fn_rt (e' := e) rfl ?_
      unfold b_word_at
      refine (seq_rt ?_).trans rfl
      simp only [mFor, mItems, seqE, mVar, itemsD, Option.map_some, List.map_cons, List.map_nil, List.cons_append, List.nil_append, List.getElem?_cons_zero, List.getElem?_cons_succ]
      exact he
theorem wordR_bound : ∀ {xs : List (List Nat)} {r : List Nat} {o : Option (List Nat × Nat)} {k : Nat}, wordR xs r = some (o, k) → k ≤ r.length
  | [], r, o, k, h => by cases h; exact Nat.zero_le _
  | x :: xs, r, o, k, h => by
    unfold wordR at h
    split at h
    · rename_i hp
      split at h
      · cases h
      · rename_i n j hn
        cases h
        have h1 := (numR_bound hn).2
        have e := congrArg List.length (eq_of_beq hp)
        rw [List.length_take] at e
        rw [List.length_drop] at h1
        omega
    · exact wordR_bound h

/-! ### tail_at -/
def WS : List (List Nat) := [[97], [98], [114, 99]]
def POSTS : List Nat := [46, 112, 111, 115, 116]
def DEVS : List Nat := [46, 100, 101, 118]
def tailR (r : List Nat) : Option (Option (List Nat × Nat) × Option Nat × Option Nat) := match wordR WS r with
  | none => none
  | some (f, k1) => match wordR [POSTS] (r.drop k1) with
    | none => none
    | some (p, k2) => match wordR [DEVS] (r.drop (k1 + k2)) with
      | none => none
      | some (d, k3) => if k1 + k2 + k3 = r.length then some (f, p.map Prod.snd, d.map Prod.snd) else none
def onD : Option Nat → PyData
  | none => .none
  | some n => .int (n : Int)
def tailD (r : List Nat) : PyData := match tailR r with
  | none => .none
  | some (f, p, d) => .tuple [foD f, onD p, onD d]
theorem bF_tail {l : List Nat} (h : Sh l) {a : Nat} (ha : a ≤ l.length) (x y : Option SD) (acc : List PyData) (hacc : acc.length < 10) (xs : List (List Nat)) (hx : ∀ x ∈ xs, Wok x) (w : W) : ∃ e,
    bF1_tail_at [some (.d (.str (S l))), x, some (.own acc), some (.d (.int (a : Int))), some (.d (.tuple (xs.map fun x => .str (S x)))), y, none, none, none] w = match wordR xs (l.drop a) with
      | none => some (.rt (.d .none), e, w)
      | some (o, k) => some (.nx, [some (.d (.str (S l))), x, some (.own (acc ++ [foD o])), some (.d (.int ((a + k : Nat) : Int))), some (.d (.tuple (xs.map fun x => .str (S x)))), some (.d (wordD a xs (l.drop a))), none, none, none], w) := by
  unfold bF1_tail_at
  rw [seq_nx (e1 := [some (.d (.str (S l))), x, some (.own acc), some (.d (.int (a : Int))), some (.d (.tuple (xs.map fun x => .str (S x)))), some (.d (wordD a xs (l.drop a))), none, none, none]) (w1 := w) (by (simp only [mSeq, mSet, mVar, mC, mOp, seqE, optE, mTru, mAnd, mOr, mNot, mIf, mBl, mNil, mCons, mCall, mTup, argsD, dsOf, tupD, mFz, mLst, mRet, mDrop, mNx, mBk, mCt, mFail, mItems, itemsD, mRng, mgName, mgNil, mgCons, mgTup, mAsg, mFor, mNo, mPart, mSl, mB, mSetO, mAppend, mPop, mPkOp, mPkIx, mPkLen, mScrLen, mYes, mPar, mPar3, mParO, mAug, mMtS, mIs, mStar, mFmt, mJs, mAndV, mOrV, mListO, mCatO, mgUnl, truD, pk, List.getElem?_cons_zero, List.getElem?_cons_succ, List.set_cons_zero, List.set_cons_succ, List.length_cons, List.length_nil, Option.map_some, Option.map_none, List.map_cons, List.map_nil, List.cons_append, List.nil_append, List.replicate, Nat.zero_add, Nat.reduceAdd, Nat.reduceSub, Nat.reduceLeDiff, if_true, if_false, Bool.not_true, Bool.not_false, reduceCtorEq, reduceIte, decide_true, decide_false, Bool.false_eq_true, List.isEmpty_cons, List.isEmpty_nil, ixT0, ixT1, ixT2, ixL0, ixL1, ixL2, isD_nn, isD_in, isD_sn, isD_tn, isN_nn, isN_in, isN_sn, isN_tn, Int.cast_ofNat_Int, Int.reduceEq, Int.reduceLT, Int.reduceLE, Bool.and_false, Bool.and_true, Bool.true_and, Bool.false_and, Bool.or_false, Bool.or_true, Bool.true_or, Bool.false_or, run_word h ha xs hx] <;> rfl))]
  have hal : acc.length < sizeLine := by rw [sizeLine_eq]; omega
  unfold wordD
  cases hq : wordR xs (l.drop a) with
  | none => exact ⟨_, seq_rt (by (simp only [mSeq, mSet, mVar, mC, mOp, seqE, optE, mTru, mAnd, mOr, mNot, mIf, mBl, mNil, mCons, mCall, mTup, argsD, dsOf, tupD, mFz, mLst, mRet, mDrop, mNx, mBk, mCt, mFail, mItems, itemsD, mRng, mgName, mgNil, mgCons, mgTup, mAsg, mFor, mNo, mPart, mSl, mB, mSetO, mAppend, mPop, mPkOp, mPkIx, mPkLen, mScrLen, mYes, mPar, mPar3, mParO, mAug, mMtS, mIs, mStar, mFmt, mJs, mAndV, mOrV, mListO, mCatO, mgUnl, truD, pk, List.getElem?_cons_zero, List.getElem?_cons_succ, List.set_cons_zero, List.set_cons_succ, List.length_cons, List.length_nil, Option.map_some, Option.map_none, List.map_cons, List.map_nil, List.cons_append, List.nil_append, List.replicate, Nat.zero_add, Nat.reduceAdd, Nat.reduceSub, Nat.reduceLeDiff, if_true, if_false, Bool.not_true, Bool.not_false, reduceCtorEq, reduceIte, decide_true, decide_false, Bool.false_eq_true, List.isEmpty_cons, List.isEmpty_nil, ixT0, ixT1, ixT2, ixL0, ixL1, ixL2, isD_nn, isD_in, isD_sn, isD_tn, isN_nn, isN_in, isN_sn, isN_tn, Int.cast_ofNat_Int, Int.reduceEq, Int.reduceLT, Int.reduceLE, Bool.and_false, Bool.and_true, Bool.true_and, Bool.false_and, Bool.or_false, Bool.or_true, Bool.true_or, Bool.false_or] <;> rfl))⟩
  | some q =>
    obtain ⟨o, k⟩ := q
    refine ⟨[], ?_⟩
    dsimp only
    refine (seq_nx (by (simp only [mSeq, mSet, mVar, mC, mOp, seqE, optE, mTru, mAnd, mOr, mNot, mIf, mBl, mNil, mCons, mCall, mTup, argsD, dsOf, tupD, mFz, mLst, mRet, mDrop, mNx, mBk, mCt, mFail, mItems, itemsD, mRng, mgName, mgNil, mgCons, mgTup, mAsg, mFor, mNo, mPart, mSl, mB, mSetO, mAppend, mPop, mPkOp, mPkIx, mPkLen, mScrLen, mYes, mPar, mPar3, mParO, mAug, mMtS, mIs, mStar, mFmt, mJs, mAndV, mOrV, mListO, mCatO, mgUnl, truD, pk, List.getElem?_cons_zero, List.getElem?_cons_succ, List.set_cons_zero, List.set_cons_succ, List.length_cons, List.length_nil, Option.map_some, Option.map_none, List.map_cons, List.map_nil, List.cons_append, List.nil_append, List.replicate, Nat.zero_add, Nat.reduceAdd, Nat.reduceSub, Nat.reduceLeDiff, if_true, if_false, Bool.not_true, Bool.not_false, reduceCtorEq, reduceIte, decide_true, decide_false, Bool.false_eq_true, List.isEmpty_cons, List.isEmpty_nil, ixT0, ixT1, ixT2, ixL0, ixL1, ixL2, isD_nn, isD_in, isD_sn, isD_tn, isN_nn, isN_in, isN_sn, isN_tn, Int.cast_ofNat_Int, Int.reduceEq, Int.reduceLT, Int.reduceLE, Bool.and_false, Bool.and_true, Bool.true_and, Bool.false_and, Bool.or_false, Bool.or_true, Bool.true_or, Bool.false_or] <;> rfl))).trans ?_
    refine (seq_nx (by (simp only [mSeq, mSet, mVar, mC, mOp, seqE, optE, mTru, mAnd, mOr, mNot, mIf, mBl, mNil, mCons, mCall, mTup, argsD, dsOf, tupD, mFz, mLst, mRet, mDrop, mNx, mBk, mCt, mFail, mItems, itemsD, mRng, mgName, mgNil, mgCons, mgTup, mAsg, mFor, mNo, mPart, mSl, mB, mSetO, mAppend, mPop, mPkOp, mPkIx, mPkLen, mScrLen, mYes, mPar, mPar3, mParO, mAug, mMtS, mIs, mStar, mFmt, mJs, mAndV, mOrV, mListO, mCatO, mgUnl, truD, pk, List.getElem?_cons_zero, List.getElem?_cons_succ, List.set_cons_zero, List.set_cons_succ, List.length_cons, List.length_nil, Option.map_some, Option.map_none, List.map_cons, List.map_nil, List.cons_append, List.nil_append, List.replicate, Nat.zero_add, Nat.reduceAdd, Nat.reduceSub, Nat.reduceLeDiff, if_true, if_false, Bool.not_true, Bool.not_false, reduceCtorEq, reduceIte, decide_true, decide_false, Bool.false_eq_true, List.isEmpty_cons, List.isEmpty_nil, ixT0, ixT1, ixT2, ixL0, ixL1, ixL2, isD_nn, isD_in, isD_sn, isD_tn, isN_nn, isN_in, isN_sn, isN_tn, Int.cast_ofNat_Int, Int.reduceEq, Int.reduceLT, Int.reduceLE, Bool.and_false, Bool.and_true, Bool.true_and, Bool.false_and, Bool.or_false, Bool.or_true, Bool.true_or, Bool.false_or, hal] <;> rfl))).trans ?_
    (simp only [mSeq, mSet, mVar, mC, mOp, seqE, optE, mTru, mAnd, mOr, mNot, mIf, mBl, mNil, mCons, mCall, mTup, argsD, dsOf, tupD, mFz, mLst, mRet, mDrop, mNx, mBk, mCt, mFail, mItems, itemsD, mRng, mgName, mgNil, mgCons, mgTup, mAsg, mFor, mNo, mPart, mSl, mB, mSetO, mAppend, mPop, mPkOp, mPkIx, mPkLen, mScrLen, mYes, mPar, mPar3, mParO, mAug, mMtS, mIs, mStar, mFmt, mJs, mAndV, mOrV, mListO, mCatO, mgUnl, truD, pk, List.getElem?_cons_zero, List.getElem?_cons_succ, List.set_cons_zero, List.set_cons_succ, List.length_cons, List.length_nil, Option.map_some, Option.map_none, List.map_cons, List.map_nil, List.cons_append, List.nil_append, List.replicate, Nat.zero_add, Nat.reduceAdd, Nat.reduceSub, Nat.reduceLeDiff, if_true, if_false, Bool.not_true, Bool.not_false, reduceCtorEq, reduceIte, decide_true, decide_false, Bool.false_eq_true, List.isEmpty_cons, List.isEmpty_nil, ixT0, ixT1, ixT2, ixL0, ixL1, ixL2, isD_nn, isD_in, isD_sn, isD_tn, isN_nn, isN_in, isN_sn, isN_tn, Int.cast_ofNat_Int, Int.reduceEq, Int.reduceLT, Int.reduceLE, Bool.and_false, Bool.and_true, Bool.true_and, Bool.false_and, Bool.or_false, Bool.or_true, Bool.true_or, Bool.false_or] <;> rfl)
theorem ws_data : ((["a", "b", "rc"] : List Str).map PyData.str) = WS.map fun x => .str (S x) := by
  unfold WS
  rfl
theorem ws_ok : ∀ x ∈ WS, Wok x := by
  unfold WS Wok
  simp
theorem post_data : PyData.str ".post" = .str (S POSTS) := rfl
theorem dev_data : PyData.str ".dev" = .str (S DEVS) := rfl
theorem post_ok : ∀ x ∈ [POSTS], Wok x := by
  unfold POSTS Wok
  simp
theorem dev_ok : ∀ x ∈ [DEVS], Wok x := by
  unfold DEVS Wok
  simp
def wordsD (xs : List (List Nat)) : PyData := .tuple (xs.map fun x => .str (S x))
theorem tails_it : ∀ (env : Ev) (w : W), mItems (mTup (mCons (mC (.tuple ((["a", "b", "rc"] : List Str).map .str))) (mCons (mTup (mCons (mC (.str ".post")) mNil)) (mCons (mTup (mCons (mC (.str ".dev")) mNil)) mNil)))) env w = some ([wordsD WS, wordsD [POSTS], wordsD [DEVS]], env, w) := by
  intro env w
  rw [ws_data]
  simp only [mSeq, mSet, mVar, mC, mOp, seqE, optE, mTru, mAnd, mOr, mNot, mIf, mBl, mNil, mCons, mCall, mTup, argsD, dsOf, tupD, mFz, mLst, mRet, mDrop, mNx, mBk, mCt, mFail, mItems, itemsD, mRng, mgName, mgNil, mgCons, mgTup, mAsg, mFor, mNo, mPart, mSl, mB, mSetO, mAppend, mPop, mPkOp, mPkIx, mPkLen, mScrLen, mYes, mPar, mPar3, mParO, mAug, mMtS, mIs, mStar, mFmt, mJs, mAndV, mOrV, mListO, mCatO, mgUnl, truD, pk, List.getElem?_cons_zero, List.getElem?_cons_succ, List.set_cons_zero, List.set_cons_succ, List.length_cons, List.length_nil, Option.map_some, Option.map_none, List.map_cons, List.map_nil, List.cons_append, List.nil_append, List.replicate, Nat.zero_add, Nat.reduceAdd, Nat.reduceSub, Nat.reduceLeDiff, if_true, if_false, Bool.not_true, Bool.not_false, reduceCtorEq, reduceIte, decide_true, decide_false, Bool.false_eq_true, List.isEmpty_cons, List.isEmpty_nil, ixT0, ixT1, ixT2, ixL0, ixL1, ixL2, isD_nn, isD_in, isD_sn, isD_tn, isN_nn, isN_in, isN_sn, isN_tn, Int.cast_ofNat_Int, Int.reduceEq, Int.reduceLT, Int.reduceLE, Bool.and_false, Bool.and_true, Bool.true_and, Bool.false_and, Bool.or_false, Bool.or_true, Bool.true_or, Bool.false_or, wordsD, post_data, dev_data]
theorem pick2 (o : Option (List Nat × Nat)) (i : Nat) (env : Ev) (w : W) (h : env[i]? = some (some (.d (foD o)))) : mIf (mTru (mOp isD (mVar i) (mC .none))) (mC .none) (mOp ixD (mVar i) (mC (.int 1))) env w = some (.d (onD (o.map Prod.snd)), env, w) := by
  cases o with
  | none =>
    simp only [mSeq, mSet, mVar, mC, mOp, seqE, optE, mTru, mAnd, mOr, mNot, mIf, mBl, mNil, mCons, mCall, mTup, argsD, dsOf, tupD, mFz, mLst, mRet, mDrop, mNx, mBk, mCt, mFail, mItems, itemsD, mRng, mgName, mgNil, mgCons, mgTup, mAsg, mFor, mNo, mPart, mSl, mB, mSetO, mAppend, mPop, mPkOp, mPkIx, mPkLen, mScrLen, mYes, mPar, mPar3, mParO, mAug, mMtS, mIs, mStar, mFmt, mJs, mAndV, mOrV, mListO, mCatO, mgUnl, truD, pk, List.getElem?_cons_zero, List.getElem?_cons_succ, List.set_cons_zero, List.set_cons_succ, List.length_cons, List.length_nil, Option.map_some, Option.map_none, List.map_cons, List.map_nil, List.cons_append, List.nil_append, List.replicate, Nat.zero_add, Nat.reduceAdd, Nat.reduceSub, Nat.reduceLeDiff, if_true, if_false, Bool.not_true, Bool.not_false, reduceCtorEq, reduceIte, decide_true, decide_false, Bool.false_eq_true, List.isEmpty_cons, List.isEmpty_nil, ixT0, ixT1, ixT2, ixL0, ixL1, ixL2, isD_nn, isD_in, isD_sn, isD_tn, isN_nn, isN_in, isN_sn, isN_tn, Int.cast_ofNat_Int, Int.reduceEq, Int.reduceLT, Int.reduceLE, Bool.and_false, Bool.and_true, Bool.true_and, Bool.false_and, Bool.or_false, Bool.or_true, Bool.true_or, Bool.false_or, h, foD]
    rfl
  | some q =>
    obtain ⟨x, n⟩ := q
    simp only [mSeq, mSet, mVar, mC, mOp, seqE, optE, mTru, mAnd, mOr, mNot, mIf, mBl, mNil, mCons, mCall, mTup, argsD, dsOf, tupD, mFz, mLst, mRet, mDrop, mNx, mBk, mCt, mFail, mItems, itemsD, mRng, mgName, mgNil, mgCons, mgTup, mAsg, mFor, mNo, mPart, mSl, mB, mSetO, mAppend, mPop, mPkOp, mPkIx, mPkLen, mScrLen, mYes, mPar, mPar3, mParO, mAug, mMtS, mIs, mStar, mFmt, mJs, mAndV, mOrV, mListO, mCatO, mgUnl, truD, pk, List.getElem?_cons_zero, List.getElem?_cons_succ, List.set_cons_zero, List.set_cons_succ, List.length_cons, List.length_nil, Option.map_some, Option.map_none, List.map_cons, List.map_nil, List.cons_append, List.nil_append, List.replicate, Nat.zero_add, Nat.reduceAdd, Nat.reduceSub, Nat.reduceLeDiff, if_true, if_false, Bool.not_true, Bool.not_false, reduceCtorEq, reduceIte, decide_true, decide_false, Bool.false_eq_true, List.isEmpty_cons, List.isEmpty_nil, ixT0, ixT1, ixT2, ixL0, ixL1, ixL2, isD_nn, isD_in, isD_sn, isD_tn, isN_nn, isN_in, isN_sn, isN_tn, Int.cast_ofNat_Int, Int.reduceEq, Int.reduceLT, Int.reduceLE, Bool.and_false, Bool.and_true, Bool.true_and, Bool.false_and, Bool.or_false, Bool.or_true, Bool.true_or, Bool.false_or, h, foD]
    rfl
theorem run_tail {l : List Nat} (h : Sh l) {a : Nat} (ha : a ≤ l.length) (w : W) : m_tail_at [.d (.str (S l)), .d (.int (a : Int))] w = some (.d (tailD (l.drop a)), w) := by
  suffices hs : ∃ e, b_tail_at [some (.d (.str (S l))), some (.d (.int (a : Int))), none, none, none, none, none, none, none] w = some (.rt (.d (tailD (l.drop a))), e, w) by
    obtain ⟨e, he⟩ := hs
    exact fn_rt (e' := e) rfl he
  unfold b_tail_at
  rw [seq_nx (e1 := [some (.d (.str (S l))), some (.d (.int (a : Int))), some (.own []), some (.d (.int (a : Int))), none, none, none, none, none]) (w1 := w) (by (simp only [mSeq, mSet, mVar, mC, mOp, seqE, optE, mTru, mAnd, mOr, mNot, mIf, mBl, mNil, mCons, mCall, mTup, argsD, dsOf, tupD, mFz, mLst, mRet, mDrop, mNx, mBk, mCt, mFail, mItems, itemsD, mRng, mgName, mgNil, mgCons, mgTup, mAsg, mFor, mNo, mPart, mSl, mB, mSetO, mAppend, mPop, mPkOp, mPkIx, mPkLen, mScrLen, mYes, mPar, mPar3, mParO, mAug, mMtS, mIs, mStar, mFmt, mJs, mAndV, mOrV, mListO, mCatO, mgUnl, truD, pk, List.getElem?_cons_zero, List.getElem?_cons_succ, List.set_cons_zero, List.set_cons_succ, List.length_cons, List.length_nil, Option.map_some, Option.map_none, List.map_cons, List.map_nil, List.cons_append, List.nil_append, List.replicate, Nat.zero_add, Nat.reduceAdd, Nat.reduceSub, Nat.reduceLeDiff, if_true, if_false, Bool.not_true, Bool.not_false, reduceCtorEq, reduceIte, decide_true, decide_false, Bool.false_eq_true, List.isEmpty_cons, List.isEmpty_nil, ixT0, ixT1, ixT2, ixL0, ixL1, ixL2, isD_nn, isD_in, isD_sn, isD_tn, isN_nn, isN_in, isN_sn, isN_tn, Int.cast_ofNat_Int, Int.reduceEq, Int.reduceLT, Int.reduceLE, Bool.and_false, Bool.and_true, Bool.true_and, Bool.false_and, Bool.or_false, Bool.or_true, Bool.true_or, Bool.false_or] <;> rfl))]
  have hfor : ∀ (b : Sx) (env : Ev) (w : W), mFor (mItems (mTup (mCons (mC (.tuple ((["a", "b", "rc"] : List Str).map .str))) (mCons (mTup (mCons (mC (.str ".post")) mNil)) (mCons (mTup (mCons (mC (.str ".dev")) mNil)) mNil))))) (mgName 4) b env w = mLoop (mgName 4) b [wordsD WS, wordsD [POSTS], wordsD [DEVS]] env w := by
    intro b env w
    unfold mFor
    rw [tails_it]
  unfold tailD tailR
  obtain ⟨e1, h1⟩ := bF_tail h ha (some (.d (.int (a : Int)))) none [] (by simp) WS ws_ok w
  cases q1 : wordR WS (l.drop a) with
  | none =>
    rw [q1] at h1
    exact ⟨e1, seq_rt ((hfor _ _ _).trans (loop_rt (by (simp only [mSeq, mSet, mVar, mC, mOp, seqE, optE, mTru, mAnd, mOr, mNot, mIf, mBl, mNil, mCons, mCall, mTup, argsD, dsOf, tupD, mFz, mLst, mRet, mDrop, mNx, mBk, mCt, mFail, mItems, itemsD, mRng, mgName, mgNil, mgCons, mgTup, mAsg, mFor, mNo, mPart, mSl, mB, mSetO, mAppend, mPop, mPkOp, mPkIx, mPkLen, mScrLen, mYes, mPar, mPar3, mParO, mAug, mMtS, mIs, mStar, mFmt, mJs, mAndV, mOrV, mListO, mCatO, mgUnl, truD, pk, List.getElem?_cons_zero, List.getElem?_cons_succ, List.set_cons_zero, List.set_cons_succ, List.length_cons, List.length_nil, Option.map_some, Option.map_none, List.map_cons, List.map_nil, List.cons_append, List.nil_append, List.replicate, Nat.zero_add, Nat.reduceAdd, Nat.reduceSub, Nat.reduceLeDiff, if_true, if_false, Bool.not_true, Bool.not_false, reduceCtorEq, reduceIte, decide_true, decide_false, Bool.false_eq_true, List.isEmpty_cons, List.isEmpty_nil, ixT0, ixT1, ixT2, ixL0, ixL1, ixL2, isD_nn, isD_in, isD_sn, isD_tn, isN_nn, isN_in, isN_sn, isN_tn, Int.cast_ofNat_Int, Int.reduceEq, Int.reduceLT, Int.reduceLE, Bool.and_false, Bool.and_true, Bool.true_and, Bool.false_and, Bool.or_false, Bool.or_true, Bool.true_or, Bool.false_or] <;> rfl)) h1))⟩
  | some z1 =>
    obtain ⟨f, k1⟩ := z1
    rw [q1] at h1
    have b1 := wordR_bound q1
    rw [List.length_drop] at b1
    obtain ⟨e2, h2⟩ := bF_tail h (a := a + k1) (by omega) (some (.d (.int (a : Int)))) (some (.d (wordD a WS (l.drop a)))) [foD f] (by simp) [POSTS] post_ok w
    dsimp only
    rw [List.drop_drop]
    cases q2 : wordR [POSTS] (l.drop (a + k1)) with
    | none =>
      rw [q2] at h2
      exact ⟨e2, seq_rt ((hfor _ _ _).trans ((loop_go (by (simp only [mSeq, mSet, mVar, mC, mOp, seqE, optE, mTru, mAnd, mOr, mNot, mIf, mBl, mNil, mCons, mCall, mTup, argsD, dsOf, tupD, mFz, mLst, mRet, mDrop, mNx, mBk, mCt, mFail, mItems, itemsD, mRng, mgName, mgNil, mgCons, mgTup, mAsg, mFor, mNo, mPart, mSl, mB, mSetO, mAppend, mPop, mPkOp, mPkIx, mPkLen, mScrLen, mYes, mPar, mPar3, mParO, mAug, mMtS, mIs, mStar, mFmt, mJs, mAndV, mOrV, mListO, mCatO, mgUnl, truD, pk, List.getElem?_cons_zero, List.getElem?_cons_succ, List.set_cons_zero, List.set_cons_succ, List.length_cons, List.length_nil, Option.map_some, Option.map_none, List.map_cons, List.map_nil, List.cons_append, List.nil_append, List.replicate, Nat.zero_add, Nat.reduceAdd, Nat.reduceSub, Nat.reduceLeDiff, if_true, if_false, Bool.not_true, Bool.not_false, reduceCtorEq, reduceIte, decide_true, decide_false, Bool.false_eq_true, List.isEmpty_cons, List.isEmpty_nil, ixT0, ixT1, ixT2, ixL0, ixL1, ixL2, isD_nn, isD_in, isD_sn, isD_tn, isN_nn, isN_in, isN_sn, isN_tn, Int.cast_ofNat_Int, Int.reduceEq, Int.reduceLT, Int.reduceLE, Bool.and_false, Bool.and_true, Bool.true_and, Bool.false_and, Bool.or_false, Bool.or_true, Bool.true_or, Bool.false_or] <;> rfl)) h1).trans (loop_rt (by (simp only [mSeq, mSet, mVar, mC, mOp, seqE, optE, mTru, mAnd, mOr, mNot, mIf, mBl, mNil, mCons, mCall, mTup, argsD, dsOf, tupD, mFz, mLst, mRet, mDrop, mNx, mBk, mCt, mFail, mItems, itemsD, mRng, mgName, mgNil, mgCons, mgTup, mAsg, mFor, mNo, mPart, mSl, mB, mSetO, mAppend, mPop, mPkOp, mPkIx, mPkLen, mScrLen, mYes, mPar, mPar3, mParO, mAug, mMtS, mIs, mStar, mFmt, mJs, mAndV, mOrV, mListO, mCatO, mgUnl, truD, pk, List.getElem?_cons_zero, List.getElem?_cons_succ, List.set_cons_zero, List.set_cons_succ, List.length_cons, List.length_nil, Option.map_some, Option.map_none, List.map_cons, List.map_nil, List.cons_append, List.nil_append, List.replicate, Nat.zero_add, Nat.reduceAdd, Nat.reduceSub, Nat.reduceLeDiff, if_true, if_false, Bool.not_true, Bool.not_false, reduceCtorEq, reduceIte, decide_true, decide_false, Bool.false_eq_true, List.isEmpty_cons, List.isEmpty_nil, ixT0, ixT1, ixT2, ixL0, ixL1, ixL2, isD_nn, isD_in, isD_sn, isD_tn, isN_nn, isN_in, isN_sn, isN_tn, Int.cast_ofNat_Int, Int.reduceEq, Int.reduceLT, Int.reduceLE, Bool.and_false, Bool.and_true, Bool.true_and, Bool.false_and, Bool.or_false, Bool.or_true, Bool.true_or, Bool.false_or] <;> rfl)) h2)))⟩
    | some z2 =>
      obtain ⟨p, k2⟩ := z2
      rw [q2] at h2
      have b2 := wordR_bound q2
      rw [List.length_drop] at b2
      obtain ⟨e3, h3⟩ := bF_tail h (a := a + k1 + k2) (by omega) (some (.d (.int (a : Int)))) (some (.d (wordD (a + k1) [POSTS] (l.drop (a + k1))))) [foD f, foD p] (by simp) [DEVS] dev_ok w
      dsimp only
      rw [List.drop_drop, show a + (k1 + k2) = a + k1 + k2 by omega]
      cases q3 : wordR [DEVS] (l.drop (a + k1 + k2)) with
      | none =>
        rw [q3] at h3
        exact ⟨e3, seq_rt ((hfor _ _ _).trans ((loop_go (by (simp only [mSeq, mSet, mVar, mC, mOp, seqE, optE, mTru, mAnd, mOr, mNot, mIf, mBl, mNil, mCons, mCall, mTup, argsD, dsOf, tupD, mFz, mLst, mRet, mDrop, mNx, mBk, mCt, mFail, mItems, itemsD, mRng, mgName, mgNil, mgCons, mgTup, mAsg, mFor, mNo, mPart, mSl, mB, mSetO, mAppend, mPop, mPkOp, mPkIx, mPkLen, mScrLen, mYes, mPar, mPar3, mParO, mAug, mMtS, mIs, mStar, mFmt, mJs, mAndV, mOrV, mListO, mCatO, mgUnl, truD, pk, List.getElem?_cons_zero, List.getElem?_cons_succ, List.set_cons_zero, List.set_cons_succ, List.length_cons, List.length_nil, Option.map_some, Option.map_none, List.map_cons, List.map_nil, List.cons_append, List.nil_append, List.replicate, Nat.zero_add, Nat.reduceAdd, Nat.reduceSub, Nat.reduceLeDiff, if_true, if_false, Bool.not_true, Bool.not_false, reduceCtorEq, reduceIte, decide_true, decide_false, Bool.false_eq_true, List.isEmpty_cons, List.isEmpty_nil, ixT0, ixT1, ixT2, ixL0, ixL1, ixL2, isD_nn, isD_in, isD_sn, isD_tn, isN_nn, isN_in, isN_sn, isN_tn, Int.cast_ofNat_Int, Int.reduceEq, Int.reduceLT, Int.reduceLE, Bool.and_false, Bool.and_true, Bool.true_and, Bool.false_and, Bool.or_false, Bool.or_true, Bool.true_or, Bool.false_or] <;> rfl)) h1).trans ((loop_go (by (simp only [mSeq, mSet, mVar, mC, mOp, seqE, optE, mTru, mAnd, mOr, mNot, mIf, mBl, mNil, mCons, mCall, mTup, argsD, dsOf, tupD, mFz, mLst, mRet, mDrop, mNx, mBk, mCt, mFail, mItems, itemsD, mRng, mgName, mgNil, mgCons, mgTup, mAsg, mFor, mNo, mPart, mSl, mB, mSetO, mAppend, mPop, mPkOp, mPkIx, mPkLen, mScrLen, mYes, mPar, mPar3, mParO, mAug, mMtS, mIs, mStar, mFmt, mJs, mAndV, mOrV, mListO, mCatO, mgUnl, truD, pk, List.getElem?_cons_zero, List.getElem?_cons_succ, List.set_cons_zero, List.set_cons_succ, List.length_cons, List.length_nil, Option.map_some, Option.map_none, List.map_cons, List.map_nil, List.cons_append, List.nil_append, List.replicate, Nat.zero_add, Nat.reduceAdd, Nat.reduceSub, Nat.reduceLeDiff, if_true, if_false, Bool.not_true, Bool.not_false, reduceCtorEq, reduceIte, decide_true, decide_false, Bool.false_eq_true, List.isEmpty_cons, List.isEmpty_nil, ixT0, ixT1, ixT2, ixL0, ixL1, ixL2, isD_nn, isD_in, isD_sn, isD_tn, isN_nn, isN_in, isN_sn, isN_tn, Int.cast_ofNat_Int, Int.reduceEq, Int.reduceLT, Int.reduceLE, Bool.and_false, Bool.and_true, Bool.true_and, Bool.false_and, Bool.or_false, Bool.or_true, Bool.true_or, Bool.false_or] <;> rfl)) h2).trans (loop_rt (by (simp only [mSeq, mSet, mVar, mC, mOp, seqE, optE, mTru, mAnd, mOr, mNot, mIf, mBl, mNil, mCons, mCall, mTup, argsD, dsOf, tupD, mFz, mLst, mRet, mDrop, mNx, mBk, mCt, mFail, mItems, itemsD, mRng, mgName, mgNil, mgCons, mgTup, mAsg, mFor, mNo, mPart, mSl, mB, mSetO, mAppend, mPop, mPkOp, mPkIx, mPkLen, mScrLen, mYes, mPar, mPar3, mParO, mAug, mMtS, mIs, mStar, mFmt, mJs, mAndV, mOrV, mListO, mCatO, mgUnl, truD, pk, List.getElem?_cons_zero, List.getElem?_cons_succ, List.set_cons_zero, List.set_cons_succ, List.length_cons, List.length_nil, Option.map_some, Option.map_none, List.map_cons, List.map_nil, List.cons_append, List.nil_append, List.replicate, Nat.zero_add, Nat.reduceAdd, Nat.reduceSub, Nat.reduceLeDiff, if_true, if_false, Bool.not_true, Bool.not_false, reduceCtorEq, reduceIte, decide_true, decide_false, Bool.false_eq_true, List.isEmpty_cons, List.isEmpty_nil, ixT0, ixT1, ixT2, ixL0, ixL1, ixL2, isD_nn, isD_in, isD_sn, isD_tn, isN_nn, isN_in, isN_sn, isN_tn, Int.cast_ofNat_Int, Int.reduceEq, Int.reduceLT, Int.reduceLE, Bool.and_false, Bool.and_true, Bool.true_and, Bool.false_and, Bool.or_false, Bool.or_true, Bool.true_or, Bool.false_or] <;> rfl)) h3))))⟩
      | some z3 =>
        obtain ⟨d, k3⟩ := z3
        rw [q3] at h3
        have b3 := wordR_bound q3
        rw [List.length_drop] at b3
        dsimp only
        rw [seq_nx ((hfor _ _ _).trans ((loop_go (by (simp only [mSeq, mSet, mVar, mC, mOp, seqE, optE, mTru, mAnd, mOr, mNot, mIf, mBl, mNil, mCons, mCall, mTup, argsD, dsOf, tupD, mFz, mLst, mRet, mDrop, mNx, mBk, mCt, mFail, mItems, itemsD, mRng, mgName, mgNil, mgCons, mgTup, mAsg, mFor, mNo, mPart, mSl, mB, mSetO, mAppend, mPop, mPkOp, mPkIx, mPkLen, mScrLen, mYes, mPar, mPar3, mParO, mAug, mMtS, mIs, mStar, mFmt, mJs, mAndV, mOrV, mListO, mCatO, mgUnl, truD, pk, List.getElem?_cons_zero, List.getElem?_cons_succ, List.set_cons_zero, List.set_cons_succ, List.length_cons, List.length_nil, Option.map_some, Option.map_none, List.map_cons, List.map_nil, List.cons_append, List.nil_append, List.replicate, Nat.zero_add, Nat.reduceAdd, Nat.reduceSub, Nat.reduceLeDiff, if_true, if_false, Bool.not_true, Bool.not_false, reduceCtorEq, reduceIte, decide_true, decide_false, Bool.false_eq_true, List.isEmpty_cons, List.isEmpty_nil, ixT0, ixT1, ixT2, ixL0, ixL1, ixL2, isD_nn, isD_in, isD_sn, isD_tn, isN_nn, isN_in, isN_sn, isN_tn, Int.cast_ofNat_Int, Int.reduceEq, Int.reduceLT, Int.reduceLE, Bool.and_false, Bool.and_true, Bool.true_and, Bool.false_and, Bool.or_false, Bool.or_true, Bool.true_or, Bool.false_or] <;> rfl)) h1).trans ((loop_go (by (simp only [mSeq, mSet, mVar, mC, mOp, seqE, optE, mTru, mAnd, mOr, mNot, mIf, mBl, mNil, mCons, mCall, mTup, argsD, dsOf, tupD, mFz, mLst, mRet, mDrop, mNx, mBk, mCt, mFail, mItems, itemsD, mRng, mgName, mgNil, mgCons, mgTup, mAsg, mFor, mNo, mPart, mSl, mB, mSetO, mAppend, mPop, mPkOp, mPkIx, mPkLen, mScrLen, mYes, mPar, mPar3, mParO, mAug, mMtS, mIs, mStar, mFmt, mJs, mAndV, mOrV, mListO, mCatO, mgUnl, truD, pk, List.getElem?_cons_zero, List.getElem?_cons_succ, List.set_cons_zero, List.set_cons_succ, List.length_cons, List.length_nil, Option.map_some, Option.map_none, List.map_cons, List.map_nil, List.cons_append, List.nil_append, List.replicate, Nat.zero_add, Nat.reduceAdd, Nat.reduceSub, Nat.reduceLeDiff, if_true, if_false, Bool.not_true, Bool.not_false, reduceCtorEq, reduceIte, decide_true, decide_false, Bool.false_eq_true, List.isEmpty_cons, List.isEmpty_nil, ixT0, ixT1, ixT2, ixL0, ixL1, ixL2, isD_nn, isD_in, isD_sn, isD_tn, isN_nn, isN_in, isN_sn, isN_tn, Int.cast_ofNat_Int, Int.reduceEq, Int.reduceLT, Int.reduceLE, Bool.and_false, Bool.and_true, Bool.true_and, Bool.false_and, Bool.or_false, Bool.or_true, Bool.true_or, Bool.false_or] <;> rfl)) h2).trans ((loop_go (by (simp only [mSeq, mSet, mVar, mC, mOp, seqE, optE, mTru, mAnd, mOr, mNot, mIf, mBl, mNil, mCons, mCall, mTup, argsD, dsOf, tupD, mFz, mLst, mRet, mDrop, mNx, mBk, mCt, mFail, mItems, itemsD, mRng, mgName, mgNil, mgCons, mgTup, mAsg, mFor, mNo, mPart, mSl, mB, mSetO, mAppend, mPop, mPkOp, mPkIx, mPkLen, mScrLen, mYes, mPar, mPar3, mParO, mAug, mMtS, mIs, mStar, mFmt, mJs, mAndV, mOrV, mListO, mCatO, mgUnl, truD, pk, List.getElem?_cons_zero, List.getElem?_cons_succ, List.set_cons_zero, List.set_cons_succ, List.length_cons, List.length_nil, Option.map_some, Option.map_none, List.map_cons, List.map_nil, List.cons_append, List.nil_append, List.replicate, Nat.zero_add, Nat.reduceAdd, Nat.reduceSub, Nat.reduceLeDiff, if_true, if_false, Bool.not_true, Bool.not_false, reduceCtorEq, reduceIte, decide_true, decide_false, Bool.false_eq_true, List.isEmpty_cons, List.isEmpty_nil, ixT0, ixT1, ixT2, ixL0, ixL1, ixL2, isD_nn, isD_in, isD_sn, isD_tn, isN_nn, isN_in, isN_sn, isN_tn, Int.cast_ofNat_Int, Int.reduceEq, Int.reduceLT, Int.reduceLE, Bool.and_false, Bool.and_true, Bool.true_and, Bool.false_and, Bool.or_false, Bool.or_true, Bool.true_or, Bool.false_or] <;> rfl)) h3).trans loop_nil))))]
        rw [List.length_drop]
        by_cases c : k1 + k2 + k3 = l.length - a
        · rw [if_pos c]
          have c' : ((a + k1 + k2 + k3 : Nat) : Int) = (l.length : Int) := by omega
          refine ex_nx (by (simp only [mSeq, mSet, mVar, mC, mOp, seqE, optE, mTru, mAnd, mOr, mNot, mIf, mBl, mNil, mCons, mCall, mTup, argsD, dsOf, tupD, mFz, mLst, mRet, mDrop, mNx, mBk, mCt, mFail, mItems, itemsD, mRng, mgName, mgNil, mgCons, mgTup, mAsg, mFor, mNo, mPart, mSl, mB, mSetO, mAppend, mPop, mPkOp, mPkIx, mPkLen, mScrLen, mYes, mPar, mPar3, mParO, mAug, mMtS, mIs, mStar, mFmt, mJs, mAndV, mOrV, mListO, mCatO, mgUnl, truD, pk, List.getElem?_cons_zero, List.getElem?_cons_succ, List.set_cons_zero, List.set_cons_succ, List.length_cons, List.length_nil, Option.map_some, Option.map_none, List.map_cons, List.map_nil, List.cons_append, List.nil_append, List.replicate, Nat.zero_add, Nat.reduceAdd, Nat.reduceSub, Nat.reduceLeDiff, if_true, if_false, Bool.not_true, Bool.not_false, reduceCtorEq, reduceIte, decide_true, decide_false, Bool.false_eq_true, List.isEmpty_cons, List.isEmpty_nil, ixT0, ixT1, ixT2, ixL0, ixL1, ixL2, isD_nn, isD_in, isD_sn, isD_tn, isN_nn, isN_in, isN_sn, isN_tn, Int.cast_ofNat_Int, Int.reduceEq, Int.reduceLT, Int.reduceLE, Bool.and_false, Bool.and_true, Bool.true_and, Bool.false_and, Bool.or_false, Bool.or_true, Bool.true_or, Bool.false_or, lenD_S h, neD_int, c'] <;> rfl)) ?_
          refine ex_nx (by (simp only [mSeq, mSet, mVar, mC, mOp, seqE, optE, mTru, mAnd, mOr, mNot, mIf, mBl, mNil, mCons, mCall, mTup, argsD, dsOf, tupD, mFz, mLst, mRet, mDrop, mNx, mBk, mCt, mFail, mItems, itemsD, mRng, mgName, mgNil, mgCons, mgTup, mAsg, mFor, mNo, mPart, mSl, mB, mSetO, mAppend, mPop, mPkOp, mPkIx, mPkLen, mScrLen, mYes, mPar, mPar3, mParO, mAug, mMtS, mIs, mStar, mFmt, mJs, mAndV, mOrV, mListO, mCatO, mgUnl, truD, pk, List.getElem?_cons_zero, List.getElem?_cons_succ, List.set_cons_zero, List.set_cons_succ, List.length_cons, List.length_nil, Option.map_some, Option.map_none, List.map_cons, List.map_nil, List.cons_append, List.nil_append, List.replicate, Nat.zero_add, Nat.reduceAdd, Nat.reduceSub, Nat.reduceLeDiff, if_true, if_false, Bool.not_true, Bool.not_false, reduceCtorEq, reduceIte, decide_true, decide_false, Bool.false_eq_true, List.isEmpty_cons, List.isEmpty_nil, ixT0, ixT1, ixT2, ixL0, ixL1, ixL2, isD_nn, isD_in, isD_sn, isD_tn, isN_nn, isN_in, isN_sn, isN_tn, Int.cast_ofNat_Int, Int.reduceEq, Int.reduceLT, Int.reduceLE, Bool.and_false, Bool.and_true, Bool.true_and, Bool.false_and, Bool.or_false, Bool.or_true, Bool.true_or, Bool.false_or] <;> rfl)) ?_
          exact ⟨_, ret_ok (tup_ok (cons_ok (by (simp only [mSeq, mSet, mVar, mC, mOp, seqE, optE, mTru, mAnd, mOr, mNot, mIf, mBl, mNil, mCons, mCall, mTup, argsD, dsOf, tupD, mFz, mLst, mRet, mDrop, mNx, mBk, mCt, mFail, mItems, itemsD, mRng, mgName, mgNil, mgCons, mgTup, mAsg, mFor, mNo, mPart, mSl, mB, mSetO, mAppend, mPop, mPkOp, mPkIx, mPkLen, mScrLen, mYes, mPar, mPar3, mParO, mAug, mMtS, mIs, mStar, mFmt, mJs, mAndV, mOrV, mListO, mCatO, mgUnl, truD, pk, List.getElem?_cons_zero, List.getElem?_cons_succ, List.set_cons_zero, List.set_cons_succ, List.length_cons, List.length_nil, Option.map_some, Option.map_none, List.map_cons, List.map_nil, List.cons_append, List.nil_append, List.replicate, Nat.zero_add, Nat.reduceAdd, Nat.reduceSub, Nat.reduceLeDiff, if_true, if_false, Bool.not_true, Bool.not_false, reduceCtorEq, reduceIte, decide_true, decide_false, Bool.false_eq_true, List.isEmpty_cons, List.isEmpty_nil, ixT0, ixT1, ixT2, ixL0, ixL1, ixL2, isD_nn, isD_in, isD_sn, isD_tn, isN_nn, isN_in, isN_sn, isN_tn, Int.cast_ofNat_Int, Int.reduceEq, Int.reduceLT, Int.reduceLE, Bool.and_false, Bool.and_true, Bool.true_and, Bool.false_and, Bool.or_false, Bool.or_true, Bool.true_or, Bool.false_or] <;> rfl)) (cons_ok (pick2 p 7 _ _ rfl) (cons_ok (pick2 d 8 _ _ rfl) nil_ok))) rfl (by simp))⟩
        · rw [if_neg c]
          have c' : ¬ ((a + k1 + k2 + k3 : Nat) : Int) = (l.length : Int) := by omega
          exact ⟨_, seq_rt (by (simp only [mSeq, mSet, mVar, mC, mOp, seqE, optE, mTru, mAnd, mOr, mNot, mIf, mBl, mNil, mCons, mCall, mTup, argsD, dsOf, tupD, mFz, mLst, mRet, mDrop, mNx, mBk, mCt, mFail, mItems, itemsD, mRng, mgName, mgNil, mgCons, mgTup, mAsg, mFor, mNo, mPart, mSl, mB, mSetO, mAppend, mPop, mPkOp, mPkIx, mPkLen, mScrLen, mYes, mPar, mPar3, mParO, mAug, mMtS, mIs, mStar, mFmt, mJs, mAndV, mOrV, mListO, mCatO, mgUnl, truD, pk, List.getElem?_cons_zero, List.getElem?_cons_succ, List.set_cons_zero, List.set_cons_succ, List.length_cons, List.length_nil, Option.map_some, Option.map_none, List.map_cons, List.map_nil, List.cons_append, List.nil_append, List.replicate, Nat.zero_add, Nat.reduceAdd, Nat.reduceSub, Nat.reduceLeDiff, if_true, if_false, Bool.not_true, Bool.not_false, reduceCtorEq, reduceIte, decide_true, decide_false, Bool.false_eq_true, List.isEmpty_cons, List.isEmpty_nil, ixT0, ixT1, ixT2, ixL0, ixL1, ixL2, isD_nn, isD_in, isD_sn, isD_tn, isN_nn, isN_in, isN_sn, isN_tn, Int.cast_ofNat_Int, Int.reduceEq, Int.reduceLT, Int.reduceLE, Bool.and_false, Bool.and_true, Bool.true_and, Bool.false_and, Bool.or_false, Bool.or_true, Bool.true_or, Bool.false_or, lenD_S h, neD_int, c'] <;> rfl))⟩

/-! ### parts_of -/
structure Pt where
  ep : Nat
  ns : List Nat
  fo : Option (List Nat × Nat)
  po : Option Nat
  dv : Option Nat
def restR (e : Nat) (r : List Nat) : Option Pt := match numsR (r.length + 1) r with
  | none => none
  | some (ns, j) => if ns.length ≤ 60 then (match tailR (r.drop j) with
    | none => none
    | some (f, p, d) => some ⟨e, ns, f, p, d⟩) else none
def partsR (l : List Nat) : Option Pt := if 33 ∈ l then (match numR l with
  | none => none
  | some (n, k) => if l[k]? = some 33 then restR n (l.drop (k + 1)) else none) else restR 0 l
def ptD (p : Pt) : PyData := .tuple [.int (p.ep : Int), .tuple (intsD p.ns), foD p.fo, onD p.po, onD p.dv]
def opD (f : Pt → PyData) : Option Pt → PyData
  | none => .none
  | some p => f p
theorem numR_stop {l : List Nat} {n k : Nat} (hb : 33 ∈ l) (h : numR l = some (n, k)) : k < l.length := by
  unfold numR at h
  split at h
  · cases h
  · cases h
    have hp := List.takeWhile_prefix (p := dig) (l := l)
    rcases Nat.lt_or_ge (l.takeWhile dig).length l.length with q | q
    · exact q
    · have e : l.takeWhile dig = l := hp.eq_of_length (Nat.le_antisymm hp.length_le q)
      have hm : 33 ∈ l.takeWhile dig := by rw [e]; exact hb
      have := tw_dig l 33 hm
      omega
theorem rest_parts {l : List Nat} (h : Sh l) {a e : Nat} (ha : a ≤ l.length) (y : Option SD) (w : W) : ∃ e',
    mSeq (mSet 4 (mCall m_numbers_at (mCons (mVar 0) (mCons (mVar 2) mNil))))
     (mSeq (mIf (mTru (mOp isD (mVar 4) (mC .none))) (mRet (mC .none)) mNx)
     (mSeq (mSet 5 (mCall m_tail_at (mCons (mVar 0) (mCons (mOp ixD (mVar 4) (mC (.int 1))) mNil))))
     (mRet (mIf (mTru (mOp isD (mVar 5) (mC .none))) (mC .none) (mTup (mCons (mVar 1) (mCons (mOp ixD (mVar 4) (mC (.int 0))) (mStar (mVar 5) mNil)))))))) [some (.d (.str (S l))), some (.d (.int (e : Int))), some (.d (.int (a : Int))), y, none, none] w = some (.rt (.d (opD ptD (restR e (l.drop a)))), e', w) := by
  refine ex_nx (e1 := [some (.d (.str (S l))), some (.d (.int (e : Int))), some (.d (.int (a : Int))), y, some (.d (numsD a (l.drop a))), none]) (w1 := w) (by (simp only [mSeq, mSet, mVar, mC, mOp, seqE, optE, mTru, mAnd, mOr, mNot, mIf, mBl, mNil, mCons, mCall, mTup, argsD, dsOf, tupD, mFz, mLst, mRet, mDrop, mNx, mBk, mCt, mFail, mItems, itemsD, mRng, mgName, mgNil, mgCons, mgTup, mAsg, mFor, mNo, mPart, mSl, mB, mSetO, mAppend, mPop, mPkOp, mPkIx, mPkLen, mScrLen, mYes, mPar, mPar3, mParO, mAug, mMtS, mIs, mStar, mFmt, mJs, mAndV, mOrV, mListO, mCatO, mgUnl, truD, pk, List.getElem?_cons_zero, List.getElem?_cons_succ, List.set_cons_zero, List.set_cons_succ, List.length_cons, List.length_nil, Option.map_some, Option.map_none, List.map_cons, List.map_nil, List.cons_append, List.nil_append, List.replicate, Nat.zero_add, Nat.reduceAdd, Nat.reduceSub, Nat.reduceLeDiff, if_true, if_false, Bool.not_true, Bool.not_false, reduceCtorEq, reduceIte, decide_true, decide_false, Bool.false_eq_true, List.isEmpty_cons, List.isEmpty_nil, ixT0, ixT1, ixT2, ixL0, ixL1, ixL2, isD_nn, isD_in, isD_sn, isD_tn, isN_nn, isN_in, isN_sn, isN_tn, Int.cast_ofNat_Int, Int.reduceEq, Int.reduceLT, Int.reduceLE, Bool.and_false, Bool.and_true, Bool.true_and, Bool.false_and, Bool.or_false, Bool.or_true, Bool.true_or, Bool.false_or, run_numbers h ha] <;> rfl)) ?_
  unfold numsD restR
  cases hq : numsR ((l.drop a).length + 1) (l.drop a) with
  | none => exact ex_rt (by (simp only [mSeq, mSet, mVar, mC, mOp, seqE, optE, mTru, mAnd, mOr, mNot, mIf, mBl, mNil, mCons, mCall, mTup, argsD, dsOf, tupD, mFz, mLst, mRet, mDrop, mNx, mBk, mCt, mFail, mItems, itemsD, mRng, mgName, mgNil, mgCons, mgTup, mAsg, mFor, mNo, mPart, mSl, mB, mSetO, mAppend, mPop, mPkOp, mPkIx, mPkLen, mScrLen, mYes, mPar, mPar3, mParO, mAug, mMtS, mIs, mStar, mFmt, mJs, mAndV, mOrV, mListO, mCatO, mgUnl, truD, pk, List.getElem?_cons_zero, List.getElem?_cons_succ, List.set_cons_zero, List.set_cons_succ, List.length_cons, List.length_nil, Option.map_some, Option.map_none, List.map_cons, List.map_nil, List.cons_append, List.nil_append, List.replicate, Nat.zero_add, Nat.reduceAdd, Nat.reduceSub, Nat.reduceLeDiff, if_true, if_false, Bool.not_true, Bool.not_false, reduceCtorEq, reduceIte, decide_true, decide_false, Bool.false_eq_true, List.isEmpty_cons, List.isEmpty_nil, ixT0, ixT1, ixT2, ixL0, ixL1, ixL2, isD_nn, isD_in, isD_sn, isD_tn, isN_nn, isN_in, isN_sn, isN_tn, Int.cast_ofNat_Int, Int.reduceEq, Int.reduceLT, Int.reduceLE, Bool.and_false, Bool.and_true, Bool.true_and, Bool.false_and, Bool.or_false, Bool.or_true, Bool.true_or, Bool.false_or] <;> rfl))
  | some q =>
    obtain ⟨ns, j⟩ := q
    have hj := (numsR_bound hq).1
    rw [List.length_drop] at hj
    dsimp only
    unfold numsEnd
    by_cases c : ns.length ≤ 60
    · rw [if_pos c, if_pos c, List.drop_drop]
      refine ex_nx (by (simp only [mSeq, mSet, mVar, mC, mOp, seqE, optE, mTru, mAnd, mOr, mNot, mIf, mBl, mNil, mCons, mCall, mTup, argsD, dsOf, tupD, mFz, mLst, mRet, mDrop, mNx, mBk, mCt, mFail, mItems, itemsD, mRng, mgName, mgNil, mgCons, mgTup, mAsg, mFor, mNo, mPart, mSl, mB, mSetO, mAppend, mPop, mPkOp, mPkIx, mPkLen, mScrLen, mYes, mPar, mPar3, mParO, mAug, mMtS, mIs, mStar, mFmt, mJs, mAndV, mOrV, mListO, mCatO, mgUnl, truD, pk, List.getElem?_cons_zero, List.getElem?_cons_succ, List.set_cons_zero, List.set_cons_succ, List.length_cons, List.length_nil, Option.map_some, Option.map_none, List.map_cons, List.map_nil, List.cons_append, List.nil_append, List.replicate, Nat.zero_add, Nat.reduceAdd, Nat.reduceSub, Nat.reduceLeDiff, if_true, if_false, Bool.not_true, Bool.not_false, reduceCtorEq, reduceIte, decide_true, decide_false, Bool.false_eq_true, List.isEmpty_cons, List.isEmpty_nil, ixT0, ixT1, ixT2, ixL0, ixL1, ixL2, isD_nn, isD_in, isD_sn, isD_tn, isN_nn, isN_in, isN_sn, isN_tn, Int.cast_ofNat_Int, Int.reduceEq, Int.reduceLT, Int.reduceLE, Bool.and_false, Bool.and_true, Bool.true_and, Bool.false_and, Bool.or_false, Bool.or_true, Bool.true_or, Bool.false_or] <;> rfl)) ?_
      refine ex_nx (e1 := [some (.d (.str (S l))), some (.d (.int (e : Int))), some (.d (.int (a : Int))), y, some (.d (.tuple [.tuple (intsD ns), .int ((a + j : Nat) : Int)])), some (.d (tailD (l.drop (a + j))))]) (w1 := w) (by (simp only [mSeq, mSet, mVar, mC, mOp, seqE, optE, mTru, mAnd, mOr, mNot, mIf, mBl, mNil, mCons, mCall, mTup, argsD, dsOf, tupD, mFz, mLst, mRet, mDrop, mNx, mBk, mCt, mFail, mItems, itemsD, mRng, mgName, mgNil, mgCons, mgTup, mAsg, mFor, mNo, mPart, mSl, mB, mSetO, mAppend, mPop, mPkOp, mPkIx, mPkLen, mScrLen, mYes, mPar, mPar3, mParO, mAug, mMtS, mIs, mStar, mFmt, mJs, mAndV, mOrV, mListO, mCatO, mgUnl, truD, pk, List.getElem?_cons_zero, List.getElem?_cons_succ, List.set_cons_zero, List.set_cons_succ, List.length_cons, List.length_nil, Option.map_some, Option.map_none, List.map_cons, List.map_nil, List.cons_append, List.nil_append, List.replicate, Nat.zero_add, Nat.reduceAdd, Nat.reduceSub, Nat.reduceLeDiff, if_true, if_false, Bool.not_true, Bool.not_false, reduceCtorEq, reduceIte, decide_true, decide_false, Bool.false_eq_true, List.isEmpty_cons, List.isEmpty_nil, ixT0, ixT1, ixT2, ixL0, ixL1, ixL2, isD_nn, isD_in, isD_sn, isD_tn, isN_nn, isN_in, isN_sn, isN_tn, Int.cast_ofNat_Int, Int.reduceEq, Int.reduceLT, Int.reduceLE, Bool.and_false, Bool.and_true, Bool.true_and, Bool.false_and, Bool.or_false, Bool.or_true, Bool.true_or, Bool.false_or, run_tail h (a := a + j) (by omega)] <;> rfl)) ?_
      unfold tailD
      cases ht : tailR (l.drop (a + j)) with
      | none => exact ⟨_, by (simp only [mSeq, mSet, mVar, mC, mOp, seqE, optE, mTru, mAnd, mOr, mNot, mIf, mBl, mNil, mCons, mCall, mTup, argsD, dsOf, tupD, mFz, mLst, mRet, mDrop, mNx, mBk, mCt, mFail, mItems, itemsD, mRng, mgName, mgNil, mgCons, mgTup, mAsg, mFor, mNo, mPart, mSl, mB, mSetO, mAppend, mPop, mPkOp, mPkIx, mPkLen, mScrLen, mYes, mPar, mPar3, mParO, mAug, mMtS, mIs, mStar, mFmt, mJs, mAndV, mOrV, mListO, mCatO, mgUnl, truD, pk, List.getElem?_cons_zero, List.getElem?_cons_succ, List.set_cons_zero, List.set_cons_succ, List.length_cons, List.length_nil, Option.map_some, Option.map_none, List.map_cons, List.map_nil, List.cons_append, List.nil_append, List.replicate, Nat.zero_add, Nat.reduceAdd, Nat.reduceSub, Nat.reduceLeDiff, if_true, if_false, Bool.not_true, Bool.not_false, reduceCtorEq, reduceIte, decide_true, decide_false, Bool.false_eq_true, List.isEmpty_cons, List.isEmpty_nil, ixT0, ixT1, ixT2, ixL0, ixL1, ixL2, isD_nn, isD_in, isD_sn, isD_tn, isN_nn, isN_in, isN_sn, isN_tn, Int.cast_ofNat_Int, Int.reduceEq, Int.reduceLT, Int.reduceLE, Bool.and_false, Bool.and_true, Bool.true_and, Bool.false_and, Bool.or_false, Bool.or_true, Bool.true_or, Bool.false_or, opD] <;> rfl)⟩
      | some q =>
        obtain ⟨f, p, d⟩ := q
        exact ⟨_, by (simp only [mSeq, mSet, mVar, mC, mOp, seqE, optE, mTru, mAnd, mOr, mNot, mIf, mBl, mNil, mCons, mCall, mTup, argsD, dsOf, tupD, mFz, mLst, mRet, mDrop, mNx, mBk, mCt, mFail, mItems, itemsD, mRng, mgName, mgNil, mgCons, mgTup, mAsg, mFor, mNo, mPart, mSl, mB, mSetO, mAppend, mPop, mPkOp, mPkIx, mPkLen, mScrLen, mYes, mPar, mPar3, mParO, mAug, mMtS, mIs, mStar, mFmt, mJs, mAndV, mOrV, mListO, mCatO, mgUnl, truD, pk, List.getElem?_cons_zero, List.getElem?_cons_succ, List.set_cons_zero, List.set_cons_succ, List.length_cons, List.length_nil, Option.map_some, Option.map_none, List.map_cons, List.map_nil, List.cons_append, List.nil_append, List.replicate, Nat.zero_add, Nat.reduceAdd, Nat.reduceSub, Nat.reduceLeDiff, if_true, if_false, Bool.not_true, Bool.not_false, reduceCtorEq, reduceIte, decide_true, decide_false, Bool.false_eq_true, List.isEmpty_cons, List.isEmpty_nil, ixT0, ixT1, ixT2, ixL0, ixL1, ixL2, isD_nn, isD_in, isD_sn, isD_tn, isN_nn, isN_in, isN_sn, isN_tn, Int.cast_ofNat_Int, Int.reduceEq, Int.reduceLT, Int.reduceLE, Bool.and_false, Bool.and_true, Bool.true_and, Bool.false_and, Bool.or_false, Bool.or_true, Bool.true_or, Bool.false_or, opD, ptD] <;> rfl)⟩
    · rw [if_neg c, if_neg c]
      exact ex_rt (by (simp only [mSeq, mSet, mVar, mC, mOp, seqE, optE, mTru, mAnd, mOr, mNot, mIf, mBl, mNil, mCons, mCall, mTup, argsD, dsOf, tupD, mFz, mLst, mRet, mDrop, mNx, mBk, mCt, mFail, mItems, itemsD, mRng, mgName, mgNil, mgCons, mgTup, mAsg, mFor, mNo, mPart, mSl, mB, mSetO, mAppend, mPop, mPkOp, mPkIx, mPkLen, mScrLen, mYes, mPar, mPar3, mParO, mAug, mMtS, mIs, mStar, mFmt, mJs, mAndV, mOrV, mListO, mCatO, mgUnl, truD, pk, List.getElem?_cons_zero, List.getElem?_cons_succ, List.set_cons_zero, List.set_cons_succ, List.length_cons, List.length_nil, Option.map_some, Option.map_none, List.map_cons, List.map_nil, List.cons_append, List.nil_append, List.replicate, Nat.zero_add, Nat.reduceAdd, Nat.reduceSub, Nat.reduceLeDiff, if_true, if_false, Bool.not_true, Bool.not_false, reduceCtorEq, reduceIte, decide_true, decide_false, Bool.false_eq_true, List.isEmpty_cons, List.isEmpty_nil, ixT0, ixT1, ixT2, ixL0, ixL1, ixL2, isD_nn, isD_in, isD_sn, isD_tn, isN_nn, isN_in, isN_sn, isN_tn, Int.cast_ofNat_Int, Int.reduceEq, Int.reduceLT, Int.reduceLE, Bool.and_false, Bool.and_true, Bool.true_and, Bool.false_and, Bool.or_false, Bool.or_true, Bool.true_or, Bool.false_or] <;> rfl))
theorem run_parts {l : List Nat} (h : Sh l) (w : W) : m_parts_of [.d (.str (S l))] w = some (.d (opD ptD (partsR l)), w) := by
  refine fn_ex rfl ?_
  unfold b_parts_of
  refine ex_nx (e1 := [some (.d (.str (S l))), none, none, none, none, none]) (w1 := w) (by (simp only [mSeq, mSet, mVar, mC, mOp, seqE, optE, mTru, mAnd, mOr, mNot, mIf, mBl, mNil, mCons, mCall, mTup, argsD, dsOf, tupD, mFz, mLst, mRet, mDrop, mNx, mBk, mCt, mFail, mItems, itemsD, mRng, mgName, mgNil, mgCons, mgTup, mAsg, mFor, mNo, mPart, mSl, mB, mSetO, mAppend, mPop, mPkOp, mPkIx, mPkLen, mScrLen, mYes, mPar, mPar3, mParO, mAug, mMtS, mIs, mStar, mFmt, mJs, mAndV, mOrV, mListO, mCatO, mgUnl, truD, pk, List.getElem?_cons_zero, List.getElem?_cons_succ, List.set_cons_zero, List.set_cons_succ, List.length_cons, List.length_nil, Option.map_some, Option.map_none, List.map_cons, List.map_nil, List.cons_append, List.nil_append, List.replicate, Nat.zero_add, Nat.reduceAdd, Nat.reduceSub, Nat.reduceLeDiff, if_true, if_false, Bool.not_true, Bool.not_false, reduceCtorEq, reduceIte, decide_true, decide_false, Bool.false_eq_true, List.isEmpty_cons, List.isEmpty_nil, ixT0, ixT1, ixT2, ixL0, ixL1, ixL2, isD_nn, isD_in, isD_sn, isD_tn, isN_nn, isN_in, isN_sn, isN_tn, Int.cast_ofNat_Int, Int.reduceEq, Int.reduceLT, Int.reduceLE, Bool.and_false, Bool.and_true, Bool.true_and, Bool.false_and, Bool.or_false, Bool.or_true, Bool.true_or, Bool.false_or, isStr] <;> rfl)) ?_
  refine ex_nx (e1 := [some (.d (.str (S l))), some (.d (.int ((0 : Nat) : Int))), some (.d (.int ((0 : Nat) : Int))), none, none, none]) (w1 := w) (by (simp only [mSeq, mSet, mVar, mC, mOp, seqE, optE, mTru, mAnd, mOr, mNot, mIf, mBl, mNil, mCons, mCall, mTup, argsD, dsOf, tupD, mFz, mLst, mRet, mDrop, mNx, mBk, mCt, mFail, mItems, itemsD, mRng, mgName, mgNil, mgCons, mgTup, mAsg, mFor, mNo, mPart, mSl, mB, mSetO, mAppend, mPop, mPkOp, mPkIx, mPkLen, mScrLen, mYes, mPar, mPar3, mParO, mAug, mMtS, mIs, mStar, mFmt, mJs, mAndV, mOrV, mListO, mCatO, mgUnl, truD, pk, List.getElem?_cons_zero, List.getElem?_cons_succ, List.set_cons_zero, List.set_cons_succ, List.length_cons, List.length_nil, Option.map_some, Option.map_none, List.map_cons, List.map_nil, List.cons_append, List.nil_append, List.replicate, Nat.zero_add, Nat.reduceAdd, Nat.reduceSub, Nat.reduceLeDiff, if_true, if_false, Bool.not_true, Bool.not_false, reduceCtorEq, reduceIte, decide_true, decide_false, Bool.false_eq_true, List.isEmpty_cons, List.isEmpty_nil, ixT0, ixT1, ixT2, ixL0, ixL1, ixL2, isD_nn, isD_in, isD_sn, isD_tn, isN_nn, isN_in, isN_sn, isN_tn, Int.cast_ofNat_Int, Int.reduceEq, Int.reduceLT, Int.reduceLE, Bool.and_false, Bool.and_true, Bool.true_and, Bool.false_and, Bool.or_false, Bool.or_true, Bool.true_or, Bool.false_or] <;> rfl)) ?_
  unfold partsR
  by_cases hb : 33 ∈ l
  · rw [if_pos hb]
    have hin : inD (.str "!") (.str (S l)) = some (.bool true) := by rw [strBang, inD_one, decide_eq_true hb]
    have r0 := run_number h (a := 0) (Nat.zero_le _) w
    rw [List.drop_zero] at r0
    have hz : (((0 : Nat) : Int)) = 0 := rfl
    rw [hz] at r0
    have st : mSet 3 (mCall m_number_at (mCons (mVar 0) (mCons (mC (.int 0)) mNil))) [some (.d (.str (S l))), some (.d (.int ((0 : Nat) : Int))), some (.d (.int ((0 : Nat) : Int))), none, none, none] w = some (.nx, [some (.d (.str (S l))), some (.d (.int ((0 : Nat) : Int))), some (.d (.int ((0 : Nat) : Int))), some (.d (numD 0 l)), none, none], w) := by
      (simp only [mSeq, mSet, mVar, mC, mOp, seqE, optE, mTru, mAnd, mOr, mNot, mIf, mBl, mNil, mCons, mCall, mTup, argsD, dsOf, tupD, mFz, mLst, mRet, mDrop, mNx, mBk, mCt, mFail, mItems, itemsD, mRng, mgName, mgNil, mgCons, mgTup, mAsg, mFor, mNo, mPart, mSl, mB, mSetO, mAppend, mPop, mPkOp, mPkIx, mPkLen, mScrLen, mYes, mPar, mPar3, mParO, mAug, mMtS, mIs, mStar, mFmt, mJs, mAndV, mOrV, mListO, mCatO, mgUnl, truD, pk, List.getElem?_cons_zero, List.getElem?_cons_succ, List.set_cons_zero, List.set_cons_succ, List.length_cons, List.length_nil, Option.map_some, Option.map_none, List.map_cons, List.map_nil, List.cons_append, List.nil_append, List.replicate, Nat.zero_add, Nat.reduceAdd, Nat.reduceSub, Nat.reduceLeDiff, if_true, if_false, Bool.not_true, Bool.not_false, reduceCtorEq, reduceIte, decide_true, decide_false, Bool.false_eq_true, List.isEmpty_cons, List.isEmpty_nil, ixT0, ixT1, ixT2, ixL0, ixL1, ixL2, isD_nn, isD_in, isD_sn, isD_tn, isN_nn, isN_in, isN_sn, isN_tn, Int.cast_ofNat_Int, Int.reduceEq, Int.reduceLT, Int.reduceLE, Bool.and_false, Bool.and_true, Bool.true_and, Bool.false_and, Bool.or_false, Bool.or_true, Bool.true_or, Bool.false_or, r0] <;> rfl)
    unfold numD at st
    cases hn : numR l with
    | none =>
      rw [hn] at st
      exact ex_rt ((if_t (by (simp only [mSeq, mSet, mVar, mC, mOp, seqE, optE, mTru, mAnd, mOr, mNot, mIf, mBl, mNil, mCons, mCall, mTup, argsD, dsOf, tupD, mFz, mLst, mRet, mDrop, mNx, mBk, mCt, mFail, mItems, itemsD, mRng, mgName, mgNil, mgCons, mgTup, mAsg, mFor, mNo, mPart, mSl, mB, mSetO, mAppend, mPop, mPkOp, mPkIx, mPkLen, mScrLen, mYes, mPar, mPar3, mParO, mAug, mMtS, mIs, mStar, mFmt, mJs, mAndV, mOrV, mListO, mCatO, mgUnl, truD, pk, List.getElem?_cons_zero, List.getElem?_cons_succ, List.set_cons_zero, List.set_cons_succ, List.length_cons, List.length_nil, Option.map_some, Option.map_none, List.map_cons, List.map_nil, List.cons_append, List.nil_append, List.replicate, Nat.zero_add, Nat.reduceAdd, Nat.reduceSub, Nat.reduceLeDiff, if_true, if_false, Bool.not_true, Bool.not_false, reduceCtorEq, reduceIte, decide_true, decide_false, Bool.false_eq_true, List.isEmpty_cons, List.isEmpty_nil, ixT0, ixT1, ixT2, ixL0, ixL1, ixL2, isD_nn, isD_in, isD_sn, isD_tn, isN_nn, isN_in, isN_sn, isN_tn, Int.cast_ofNat_Int, Int.reduceEq, Int.reduceLT, Int.reduceLE, Bool.and_false, Bool.and_true, Bool.true_and, Bool.false_and, Bool.or_false, Bool.or_true, Bool.true_or, Bool.false_or, hin] <;> rfl))).trans ((seq_nx st).trans (seq_rt (by (simp only [mSeq, mSet, mVar, mC, mOp, seqE, optE, mTru, mAnd, mOr, mNot, mIf, mBl, mNil, mCons, mCall, mTup, argsD, dsOf, tupD, mFz, mLst, mRet, mDrop, mNx, mBk, mCt, mFail, mItems, itemsD, mRng, mgName, mgNil, mgCons, mgTup, mAsg, mFor, mNo, mPart, mSl, mB, mSetO, mAppend, mPop, mPkOp, mPkIx, mPkLen, mScrLen, mYes, mPar, mPar3, mParO, mAug, mMtS, mIs, mStar, mFmt, mJs, mAndV, mOrV, mListO, mCatO, mgUnl, truD, pk, List.getElem?_cons_zero, List.getElem?_cons_succ, List.set_cons_zero, List.set_cons_succ, List.length_cons, List.length_nil, Option.map_some, Option.map_none, List.map_cons, List.map_nil, List.cons_append, List.nil_append, List.replicate, Nat.zero_add, Nat.reduceAdd, Nat.reduceSub, Nat.reduceLeDiff, if_true, if_false, Bool.not_true, Bool.not_false, reduceCtorEq, reduceIte, decide_true, decide_false, Bool.false_eq_true, List.isEmpty_cons, List.isEmpty_nil, ixT0, ixT1, ixT2, ixL0, ixL1, ixL2, isD_nn, isD_in, isD_sn, isD_tn, isN_nn, isN_in, isN_sn, isN_tn, Int.cast_ofNat_Int, Int.reduceEq, Int.reduceLT, Int.reduceLE, Bool.and_false, Bool.and_true, Bool.true_and, Bool.false_and, Bool.or_false, Bool.or_true, Bool.true_or, Bool.false_or] <;> rfl)))))
    | some q =>
      obtain ⟨n, k⟩ := q
      rw [hn] at st
      have hk := numR_stop hb hn
      obtain ⟨c, hc⟩ : ∃ c, l[k]? = some c := ⟨_, List.getElem?_eq_getElem hk⟩
      have hix : ixD (.str (S l)) (.int (k : Int)) = some (.str (S [c])) := ixD_S h hc
      dsimp only at st ⊢
      rw [hc]
      by_cases c33 : c = 33
      · subst c33
        rw [if_pos rfl]
        have hb' := hin
        refine ex_nx (e1 := [some (.d (.str (S l))), some (.d (.int (n : Int))), some (.d (.int ((k + 1 : Nat) : Int))), some (.d (.tuple [.int (n : Int), .int ((0 + k : Nat) : Int)])), none, none]) (w1 := w) ((if_t (e1 := [some (.d (.str (S l))), some (.d (.int ((0 : Nat) : Int))), some (.d (.int ((0 : Nat) : Int))), none, none, none]) (w1 := w) (by (simp only [mSeq, mSet, mVar, mC, mOp, seqE, optE, mTru, mAnd, mOr, mNot, mIf, mBl, mNil, mCons, mCall, mTup, argsD, dsOf, tupD, mFz, mLst, mRet, mDrop, mNx, mBk, mCt, mFail, mItems, itemsD, mRng, mgName, mgNil, mgCons, mgTup, mAsg, mFor, mNo, mPart, mSl, mB, mSetO, mAppend, mPop, mPkOp, mPkIx, mPkLen, mScrLen, mYes, mPar, mPar3, mParO, mAug, mMtS, mIs, mStar, mFmt, mJs, mAndV, mOrV, mListO, mCatO, mgUnl, truD, pk, List.getElem?_cons_zero, List.getElem?_cons_succ, List.set_cons_zero, List.set_cons_succ, List.length_cons, List.length_nil, Option.map_some, Option.map_none, List.map_cons, List.map_nil, List.cons_append, List.nil_append, List.replicate, Nat.zero_add, Nat.reduceAdd, Nat.reduceSub, Nat.reduceLeDiff, if_true, if_false, Bool.not_true, Bool.not_false, reduceCtorEq, reduceIte, decide_true, decide_false, Bool.false_eq_true, List.isEmpty_cons, List.isEmpty_nil, ixT0, ixT1, ixT2, ixL0, ixL1, ixL2, isD_nn, isD_in, isD_sn, isD_tn, isN_nn, isN_in, isN_sn, isN_tn, Int.cast_ofNat_Int, Int.reduceEq, Int.reduceLT, Int.reduceLE, Bool.and_false, Bool.and_true, Bool.true_and, Bool.false_and, Bool.or_false, Bool.or_true, Bool.true_or, Bool.false_or, hin] <;> rfl))).trans ((seq_nx st).trans ((seq_nx (e1 := [some (.d (.str (S l))), some (.d (.int ((0 : Nat) : Int))), some (.d (.int ((0 : Nat) : Int))), some (.d (.tuple [.int (n : Int), .int ((0 + k : Nat) : Int)])), none, none]) (w1 := w) (by (simp only [mSeq, mSet, mVar, mC, mOp, seqE, optE, mTru, mAnd, mOr, mNot, mIf, mBl, mNil, mCons, mCall, mTup, argsD, dsOf, tupD, mFz, mLst, mRet, mDrop, mNx, mBk, mCt, mFail, mItems, itemsD, mRng, mgName, mgNil, mgCons, mgTup, mAsg, mFor, mNo, mPart, mSl, mB, mSetO, mAppend, mPop, mPkOp, mPkIx, mPkLen, mScrLen, mYes, mPar, mPar3, mParO, mAug, mMtS, mIs, mStar, mFmt, mJs, mAndV, mOrV, mListO, mCatO, mgUnl, truD, pk, List.getElem?_cons_zero, List.getElem?_cons_succ, List.set_cons_zero, List.set_cons_succ, List.length_cons, List.length_nil, Option.map_some, Option.map_none, List.map_cons, List.map_nil, List.cons_append, List.nil_append, List.replicate, Nat.zero_add, Nat.reduceAdd, Nat.reduceSub, Nat.reduceLeDiff, if_true, if_false, Bool.not_true, Bool.not_false, reduceCtorEq, reduceIte, decide_true, decide_false, Bool.false_eq_true, List.isEmpty_cons, List.isEmpty_nil, ixT0, ixT1, ixT2, ixL0, ixL1, ixL2, isD_nn, isD_in, isD_sn, isD_tn, isN_nn, isN_in, isN_sn, isN_tn, Int.cast_ofNat_Int, Int.reduceEq, Int.reduceLT, Int.reduceLE, Bool.and_false, Bool.and_true, Bool.true_and, Bool.false_and, Bool.or_false, Bool.or_true, Bool.true_or, Bool.false_or, hix, strBang, neD_S] <;> rfl))).trans (by (simp only [mSeq, mSet, mVar, mC, mOp, seqE, optE, mTru, mAnd, mOr, mNot, mIf, mBl, mNil, mCons, mCall, mTup, argsD, dsOf, tupD, mFz, mLst, mRet, mDrop, mNx, mBk, mCt, mFail, mItems, itemsD, mRng, mgName, mgNil, mgCons, mgTup, mAsg, mFor, mNo, mPart, mSl, mB, mSetO, mAppend, mPop, mPkOp, mPkIx, mPkLen, mScrLen, mYes, mPar, mPar3, mParO, mAug, mMtS, mIs, mStar, mFmt, mJs, mAndV, mOrV, mListO, mCatO, mgUnl, truD, pk, List.getElem?_cons_zero, List.getElem?_cons_succ, List.set_cons_zero, List.set_cons_succ, List.length_cons, List.length_nil, Option.map_some, Option.map_none, List.map_cons, List.map_nil, List.cons_append, List.nil_append, List.replicate, Nat.zero_add, Nat.reduceAdd, Nat.reduceSub, Nat.reduceLeDiff, if_true, if_false, Bool.not_true, Bool.not_false, reduceCtorEq, reduceIte, decide_true, decide_false, Bool.false_eq_true, List.isEmpty_cons, List.isEmpty_nil, ixT0, ixT1, ixT2, ixL0, ixL1, ixL2, isD_nn, isD_in, isD_sn, isD_tn, isN_nn, isN_in, isN_sn, isN_tn, Int.cast_ofNat_Int, Int.reduceEq, Int.reduceLT, Int.reduceLE, Bool.and_false, Bool.and_true, Bool.true_and, Bool.false_and, Bool.or_false, Bool.or_true, Bool.true_or, Bool.false_or, addD1, Nat.zero_add] <;> rfl))))) ?_
        exact rest_parts h (by omega) _ w
      · have c33' : ¬ (some c = some 33) := by simpa using c33
        have c34 : ¬ ([c] = [33]) := by simpa using c33
        rw [if_neg c33']
        exact ex_rt ((if_t (by (simp only [mSeq, mSet, mVar, mC, mOp, seqE, optE, mTru, mAnd, mOr, mNot, mIf, mBl, mNil, mCons, mCall, mTup, argsD, dsOf, tupD, mFz, mLst, mRet, mDrop, mNx, mBk, mCt, mFail, mItems, itemsD, mRng, mgName, mgNil, mgCons, mgTup, mAsg, mFor, mNo, mPart, mSl, mB, mSetO, mAppend, mPop, mPkOp, mPkIx, mPkLen, mScrLen, mYes, mPar, mPar3, mParO, mAug, mMtS, mIs, mStar, mFmt, mJs, mAndV, mOrV, mListO, mCatO, mgUnl, truD, pk, List.getElem?_cons_zero, List.getElem?_cons_succ, List.set_cons_zero, List.set_cons_succ, List.length_cons, List.length_nil, Option.map_some, Option.map_none, List.map_cons, List.map_nil, List.cons_append, List.nil_append, List.replicate, Nat.zero_add, Nat.reduceAdd, Nat.reduceSub, Nat.reduceLeDiff, if_true, if_false, Bool.not_true, Bool.not_false, reduceCtorEq, reduceIte, decide_true, decide_false, Bool.false_eq_true, List.isEmpty_cons, List.isEmpty_nil, ixT0, ixT1, ixT2, ixL0, ixL1, ixL2, isD_nn, isD_in, isD_sn, isD_tn, isN_nn, isN_in, isN_sn, isN_tn, Int.cast_ofNat_Int, Int.reduceEq, Int.reduceLT, Int.reduceLE, Bool.and_false, Bool.and_true, Bool.true_and, Bool.false_and, Bool.or_false, Bool.or_true, Bool.true_or, Bool.false_or, hin] <;> rfl))).trans ((seq_nx st).trans (seq_rt (by (simp only [mSeq, mSet, mVar, mC, mOp, seqE, optE, mTru, mAnd, mOr, mNot, mIf, mBl, mNil, mCons, mCall, mTup, argsD, dsOf, tupD, mFz, mLst, mRet, mDrop, mNx, mBk, mCt, mFail, mItems, itemsD, mRng, mgName, mgNil, mgCons, mgTup, mAsg, mFor, mNo, mPart, mSl, mB, mSetO, mAppend, mPop, mPkOp, mPkIx, mPkLen, mScrLen, mYes, mPar, mPar3, mParO, mAug, mMtS, mIs, mStar, mFmt, mJs, mAndV, mOrV, mListO, mCatO, mgUnl, truD, pk, List.getElem?_cons_zero, List.getElem?_cons_succ, List.set_cons_zero, List.set_cons_succ, List.length_cons, List.length_nil, Option.map_some, Option.map_none, List.map_cons, List.map_nil, List.cons_append, List.nil_append, List.replicate, Nat.zero_add, Nat.reduceAdd, Nat.reduceSub, Nat.reduceLeDiff, if_true, if_false, Bool.not_true, Bool.not_false, reduceCtorEq, reduceIte, decide_true, decide_false, Bool.false_eq_true, List.isEmpty_cons, List.isEmpty_nil, ixT0, ixT1, ixT2, ixL0, ixL1, ixL2, isD_nn, isD_in, isD_sn, isD_tn, isN_nn, isN_in, isN_sn, isN_tn, Int.cast_ofNat_Int, Int.reduceEq, Int.reduceLT, Int.reduceLE, Bool.and_false, Bool.and_true, Bool.true_and, Bool.false_and, Bool.or_false, Bool.or_true, Bool.true_or, Bool.false_or, hix, strBang, neD_S, c34, opD] <;> rfl)))))
  · rw [if_neg hb]
    have hin : inD (.str "!") (.str (S l)) = some (.bool false) := by rw [strBang, inD_one, decide_eq_false hb]
    refine ex_nx (e1 := [some (.d (.str (S l))), some (.d (.int ((0 : Nat) : Int))), some (.d (.int ((0 : Nat) : Int))), none, none, none]) (w1 := w) ((if_f (by (simp only [mSeq, mSet, mVar, mC, mOp, seqE, optE, mTru, mAnd, mOr, mNot, mIf, mBl, mNil, mCons, mCall, mTup, argsD, dsOf, tupD, mFz, mLst, mRet, mDrop, mNx, mBk, mCt, mFail, mItems, itemsD, mRng, mgName, mgNil, mgCons, mgTup, mAsg, mFor, mNo, mPart, mSl, mB, mSetO, mAppend, mPop, mPkOp, mPkIx, mPkLen, mScrLen, mYes, mPar, mPar3, mParO, mAug, mMtS, mIs, mStar, mFmt, mJs, mAndV, mOrV, mListO, mCatO, mgUnl, truD, pk, List.getElem?_cons_zero, List.getElem?_cons_succ, List.set_cons_zero, List.set_cons_succ, List.length_cons, List.length_nil, Option.map_some, Option.map_none, List.map_cons, List.map_nil, List.cons_append, List.nil_append, List.replicate, Nat.zero_add, Nat.reduceAdd, Nat.reduceSub, Nat.reduceLeDiff, if_true, if_false, Bool.not_true, Bool.not_false, reduceCtorEq, reduceIte, decide_true, decide_false, Bool.false_eq_true, List.isEmpty_cons, List.isEmpty_nil, ixT0, ixT1, ixT2, ixL0, ixL1, ixL2, isD_nn, isD_in, isD_sn, isD_tn, isN_nn, isN_in, isN_sn, isN_tn, Int.cast_ofNat_Int, Int.reduceEq, Int.reduceLT, Int.reduceLE, Bool.and_false, Bool.and_true, Bool.true_and, Bool.false_and, Bool.or_false, Bool.or_true, Bool.true_or, Bool.false_or, hin] <;> rfl))).trans rfl) ?_
    exact rest_parts h (Nat.zero_le _) _ w
end Dn

set_option maxHeartbeats 4000000
namespace Dn
open PySem PySem.Spec PyProof.Rows L2 SX
open TL (numL pre joinL)

/-! ### based -/
def bas (ns : List Nat) : List Nat := (ns.reverse.dropWhile (· == 0)).reverse
theorem bas_nil : bas [] = [] := rfl
theorem bas_zero (ns : List Nat) : bas (ns ++ [0]) = bas ns := by
  unfold bas
  rw [List.reverse_append]
  rfl
theorem bas_pos (ns : List Nat) {n : Nat} (h : n ≠ 0) : bas (ns ++ [n]) = ns ++ [n] := by
  unfold bas
  rw [List.reverse_append, List.reverse_singleton, List.singleton_append, List.dropWhile_cons, if_neg (by simpa using h), List.reverse_cons, List.reverse_reverse]
theorem bas_pre (ns : List Nat) : bas ns <+: ns := by
  unfold bas
  have h := List.dropWhile_suffix (l := ns.reverse) (· == 0)
  have h2 := List.reverse_prefix.mpr h
  rwa [List.reverse_reverse] at h2
theorem bas_take (ns : List Nat) : ns.take (bas ns).length = bas ns := (List.prefix_iff_eq_take.mp (bas_pre ns)).symm
theorem intsD_len (ns : List Nat) : (intsD ns).length = ns.length := by unfold intsD; rw [List.length_map]
theorem intsD_get (ns : List Nat) (i : Nat) : (intsD ns)[i]? = ns[i]?.map fun n : Nat => .int (n : Int) := by unfold intsD; rw [List.getElem?_map]
theorem loop_based (ns : List Nat) (w : W) : ∀ (m f : Nat), m ≤ ns.length → m < f →
    mWhile cW1_based bW2_based f [some (.d (.tuple (intsD ns))), some (.d (.int (m : Int)))] w = some (.nx, [some (.d (.tuple (intsD ns))), some (.d (.int (((bas (ns.take m)).length : Nat) : Int)))], w)
  | m, 0, _, hf => by omega
  | 0, f + 1, _, _ => by
    rw [while_end (e1 := [some (.d (.tuple (intsD ns))), some (.d (.int ((0 : Nat) : Int)))]) (w1 := w) (by unfold cW1_based; (simp only [mSeq, mSet, mVar, mC, mOp, seqE, optE, mTru, mAnd, mOr, mNot, mIf, mBl, mNil, mCons, mCall, mTup, argsD, dsOf, tupD, mFz, mLst, mRet, mDrop, mNx, mBk, mCt, mFail, mItems, itemsD, mRng, mgName, mgNil, mgCons, mgTup, mAsg, mFor, mNo, mPart, mSl, mB, mSetO, mAppend, mPop, mPkOp, mPkIx, mPkLen, mScrLen, mYes, mPar, mPar3, mParO, mAug, mMtS, mIs, mStar, mFmt, mJs, mAndV, mOrV, mListO, mCatO, mgUnl, truD, pk, List.getElem?_cons_zero, List.getElem?_cons_succ, List.set_cons_zero, List.set_cons_succ, List.length_cons, List.length_nil, Option.map_some, Option.map_none, List.map_cons, List.map_nil, List.cons_append, List.nil_append, List.replicate, Nat.zero_add, Nat.reduceAdd, Nat.reduceSub, Nat.reduceLeDiff, if_true, if_false, Bool.not_true, Bool.not_false, reduceCtorEq, reduceIte, decide_true, decide_false, Bool.false_eq_true, List.isEmpty_cons, List.isEmpty_nil, ixT0, ixT1, ixT2, ixL0, ixL1, ixL2, isD_nn, isD_in, isD_sn, isD_tn, isN_nn, isN_in, isN_sn, isN_tn, Int.cast_ofNat_Int, Int.reduceEq, Int.reduceLT, Int.reduceLE, Bool.and_false, Bool.and_true, Bool.true_and, Bool.false_and, Bool.or_false, Bool.or_true, Bool.true_or, Bool.false_or, gtI_int] <;> rfl))]
    rfl
  | m + 1, f + 1, hm, hf => by
    have h1 : (0 : Int) < ((m + 1 : Nat) : Int) := by omega
    have h2 : subI (.int ((m + 1 : Nat) : Int)) (.int 1) = some (.int (m : Int)) := by
      unfold subI int2
      dsimp only
      rw [show ((m + 1 : Nat) : Int) - 1 = (m : Int) by omega]
    obtain ⟨x, hx⟩ : ∃ x, ns[m]? = some x := ⟨_, List.getElem?_eq_getElem (by omega)⟩
    have h3 : ixD (.tuple (intsD ns)) (.int (m : Int)) = some (.int (x : Int)) := by
      show atI (intsD ns) (m : Int) = _
      rw [atI_nat, intsD_get, hx]
      rfl
    have hs : ns.take (m + 1) = ns.take m ++ [x] := by rw [List.take_add_one, hx]; rfl
    by_cases hz : x = 0
    · subst hz
      rw [while_go (e1 := [some (.d (.tuple (intsD ns))), some (.d (.int ((m + 1 : Nat) : Int)))]) (w1 := w) (e2 := [some (.d (.tuple (intsD ns))), some (.d (.int (m : Int)))]) (w2 := w) (by unfold cW1_based; (simp only [mSeq, mSet, mVar, mC, mOp, seqE, optE, mTru, mAnd, mOr, mNot, mIf, mBl, mNil, mCons, mCall, mTup, argsD, dsOf, tupD, mFz, mLst, mRet, mDrop, mNx, mBk, mCt, mFail, mItems, itemsD, mRng, mgName, mgNil, mgCons, mgTup, mAsg, mFor, mNo, mPart, mSl, mB, mSetO, mAppend, mPop, mPkOp, mPkIx, mPkLen, mScrLen, mYes, mPar, mPar3, mParO, mAug, mMtS, mIs, mStar, mFmt, mJs, mAndV, mOrV, mListO, mCatO, mgUnl, truD, pk, List.getElem?_cons_zero, List.getElem?_cons_succ, List.set_cons_zero, List.set_cons_succ, List.length_cons, List.length_nil, Option.map_some, Option.map_none, List.map_cons, List.map_nil, List.cons_append, List.nil_append, List.replicate, Nat.zero_add, Nat.reduceAdd, Nat.reduceSub, Nat.reduceLeDiff, if_true, if_false, Bool.not_true, Bool.not_false, reduceCtorEq, reduceIte, decide_true, decide_false, Bool.false_eq_true, List.isEmpty_cons, List.isEmpty_nil, ixT0, ixT1, ixT2, ixL0, ixL1, ixL2, isD_nn, isD_in, isD_sn, isD_tn, isN_nn, isN_in, isN_sn, isN_tn, Int.cast_ofNat_Int, Int.reduceEq, Int.reduceLT, Int.reduceLE, Bool.and_false, Bool.and_true, Bool.true_and, Bool.false_and, Bool.or_false, Bool.or_true, Bool.true_or, Bool.false_or, gtI_int, h1, h2, h3, eqD_int] <;> rfl)) (by unfold bW2_based; (simp only [mSeq, mSet, mVar, mC, mOp, seqE, optE, mTru, mAnd, mOr, mNot, mIf, mBl, mNil, mCons, mCall, mTup, argsD, dsOf, tupD, mFz, mLst, mRet, mDrop, mNx, mBk, mCt, mFail, mItems, itemsD, mRng, mgName, mgNil, mgCons, mgTup, mAsg, mFor, mNo, mPart, mSl, mB, mSetO, mAppend, mPop, mPkOp, mPkIx, mPkLen, mScrLen, mYes, mPar, mPar3, mParO, mAug, mMtS, mIs, mStar, mFmt, mJs, mAndV, mOrV, mListO, mCatO, mgUnl, truD, pk, List.getElem?_cons_zero, List.getElem?_cons_succ, List.set_cons_zero, List.set_cons_succ, List.length_cons, List.length_nil, Option.map_some, Option.map_none, List.map_cons, List.map_nil, List.cons_append, List.nil_append, List.replicate, Nat.zero_add, Nat.reduceAdd, Nat.reduceSub, Nat.reduceLeDiff, if_true, if_false, Bool.not_true, Bool.not_false, reduceCtorEq, reduceIte, decide_true, decide_false, Bool.false_eq_true, List.isEmpty_cons, List.isEmpty_nil, ixT0, ixT1, ixT2, ixL0, ixL1, ixL2, isD_nn, isD_in, isD_sn, isD_tn, isN_nn, isN_in, isN_sn, isN_tn, Int.cast_ofNat_Int, Int.reduceEq, Int.reduceLT, Int.reduceLE, Bool.and_false, Bool.and_true, Bool.true_and, Bool.false_and, Bool.or_false, Bool.or_true, Bool.true_or, Bool.false_or, h2] <;> rfl)),
        loop_based ns w m f (by omega) (by omega), hs, bas_zero]
    · have hz' : ¬ ((x : Int) = 0) := by omega
      rw [while_end (e1 := [some (.d (.tuple (intsD ns))), some (.d (.int ((m + 1 : Nat) : Int)))]) (w1 := w) (by unfold cW1_based; (simp only [mSeq, mSet, mVar, mC, mOp, seqE, optE, mTru, mAnd, mOr, mNot, mIf, mBl, mNil, mCons, mCall, mTup, argsD, dsOf, tupD, mFz, mLst, mRet, mDrop, mNx, mBk, mCt, mFail, mItems, itemsD, mRng, mgName, mgNil, mgCons, mgTup, mAsg, mFor, mNo, mPart, mSl, mB, mSetO, mAppend, mPop, mPkOp, mPkIx, mPkLen, mScrLen, mYes, mPar, mPar3, mParO, mAug, mMtS, mIs, mStar, mFmt, mJs, mAndV, mOrV, mListO, mCatO, mgUnl, truD, pk, List.getElem?_cons_zero, List.getElem?_cons_succ, List.set_cons_zero, List.set_cons_succ, List.length_cons, List.length_nil, Option.map_some, Option.map_none, List.map_cons, List.map_nil, List.cons_append, List.nil_append, List.replicate, Nat.zero_add, Nat.reduceAdd, Nat.reduceSub, Nat.reduceLeDiff, if_true, if_false, Bool.not_true, Bool.not_false, reduceCtorEq, reduceIte, decide_true, decide_false, Bool.false_eq_true, List.isEmpty_cons, List.isEmpty_nil, ixT0, ixT1, ixT2, ixL0, ixL1, ixL2, isD_nn, isD_in, isD_sn, isD_tn, isN_nn, isN_in, isN_sn, isN_tn, Int.cast_ofNat_Int, Int.reduceEq, Int.reduceLT, Int.reduceLE, Bool.and_false, Bool.and_true, Bool.true_and, Bool.false_and, Bool.or_false, Bool.or_true, Bool.true_or, Bool.false_or, gtI_int, h1, h2, h3, eqD_int, hz'] <;> rfl)), hs, bas_pos _ hz, ← hs, List.length_take, Nat.min_eq_left hm]
theorem run_based {ns : List Nat} (h : ns.length ≤ 1000) (w : W) : m_based [.d (.tuple (intsD ns))] w = some (.d (.tuple (intsD (bas ns))), w) := by
  refine fn_ex rfl ?_
  unfold b_based
  refine ex_nx (e1 := [some (.d (.tuple (intsD ns))), some (.d (.int (ns.length : Int)))]) (w1 := w) (by (simp only [mSeq, mSet, mVar, mC, mOp, seqE, optE, mTru, mAnd, mOr, mNot, mIf, mBl, mNil, mCons, mCall, mTup, argsD, dsOf, tupD, mFz, mLst, mRet, mDrop, mNx, mBk, mCt, mFail, mItems, itemsD, mRng, mgName, mgNil, mgCons, mgTup, mAsg, mFor, mNo, mPart, mSl, mB, mSetO, mAppend, mPop, mPkOp, mPkIx, mPkLen, mScrLen, mYes, mPar, mPar3, mParO, mAug, mMtS, mIs, mStar, mFmt, mJs, mAndV, mOrV, mListO, mCatO, mgUnl, truD, pk, List.getElem?_cons_zero, List.getElem?_cons_succ, List.set_cons_zero, List.set_cons_succ, List.length_cons, List.length_nil, Option.map_some, Option.map_none, List.map_cons, List.map_nil, List.cons_append, List.nil_append, List.replicate, Nat.zero_add, Nat.reduceAdd, Nat.reduceSub, Nat.reduceLeDiff, if_true, if_false, Bool.not_true, Bool.not_false, reduceCtorEq, reduceIte, decide_true, decide_false, Bool.false_eq_true, List.isEmpty_cons, List.isEmpty_nil, ixT0, ixT1, ixT2, ixL0, ixL1, ixL2, isD_nn, isD_in, isD_sn, isD_tn, isN_nn, isN_in, isN_sn, isN_tn, Int.cast_ofNat_Int, Int.reduceEq, Int.reduceLT, Int.reduceLE, Bool.and_false, Bool.and_true, Bool.true_and, Bool.false_and, Bool.or_false, Bool.or_true, Bool.true_or, Bool.false_or, lenD, intsD_len] <;> rfl)) ?_
  refine ex_nx (loop_based ns w ns.length fuel (Nat.le_refl _) (by unfold fuel; omega)) ?_
  rw [List.take_length]
  have hc : cutL (intsD ns) none (some (((bas ns).length : Nat) : Int)) = intsD (bas ns) := by
    unfold cutL
    rw [HT.sIx_none, HT.sIx_nat, intsD_len, List.drop_zero, Nat.sub_zero, Nat.min_eq_left (bas_pre ns).length_le]
    unfold intsD
    rw [← List.map_take, bas_take]
  exact ⟨_, by (simp only [mSeq, mSet, mVar, mC, mOp, seqE, optE, mTru, mAnd, mOr, mNot, mIf, mBl, mNil, mCons, mCall, mTup, argsD, dsOf, tupD, mFz, mLst, mRet, mDrop, mNx, mBk, mCt, mFail, mItems, itemsD, mRng, mgName, mgNil, mgCons, mgTup, mAsg, mFor, mNo, mPart, mSl, mB, mSetO, mAppend, mPop, mPkOp, mPkIx, mPkLen, mScrLen, mYes, mPar, mPar3, mParO, mAug, mMtS, mIs, mStar, mFmt, mJs, mAndV, mOrV, mListO, mCatO, mgUnl, truD, pk, List.getElem?_cons_zero, List.getElem?_cons_succ, List.set_cons_zero, List.set_cons_succ, List.length_cons, List.length_nil, Option.map_some, Option.map_none, List.map_cons, List.map_nil, List.cons_append, List.nil_append, List.replicate, Nat.zero_add, Nat.reduceAdd, Nat.reduceSub, Nat.reduceLeDiff, if_true, if_false, Bool.not_true, Bool.not_false, reduceCtorEq, reduceIte, decide_true, decide_false, Bool.false_eq_true, List.isEmpty_cons, List.isEmpty_nil, ixT0, ixT1, ixT2, ixL0, ixL1, ixL2, isD_nn, isD_in, isD_sn, isD_tn, isN_nn, isN_in, isN_sn, isN_tn, Int.cast_ofNat_Int, Int.reduceEq, Int.reduceLT, Int.reduceLE, Bool.and_false, Bool.and_true, Bool.true_and, Bool.false_and, Bool.or_false, Bool.or_true, Bool.true_or, Bool.false_or, slD, hc] <;> rfl)⟩

/-! ### tail_of -/
def widx (x : List Nat) : Nat := if x = [97] then 0 else if x = [98] then 1 else 2
def ownK : Option Nat → List Nat
  | none => [1]
  | some d => [0, d]
def tailK (fo : Option (List Nat × Nat)) (po dv : Option Nat) : List Nat := match fo, po with
  | some (x, n), none => [1, widx x, n] ++ ownK dv
  | some (x, n), some p => [1, widx x, n] ++ [2, p] ++ ownK dv
  | none, some p => [3, p] ++ ownK dv
  | none, none => (match dv with
    | none => [2]
    | some d => [0, d])
theorem idx_ws {x : List Nat} (h : x ∈ WS) : idxD ["a", "b", "rc"] [.str (S x)] = some (.int ((widx x : Nat) : Int)) := by
  unfold WS at h
  simp only [List.mem_cons, List.not_mem_nil, or_false] at h
  rcases h with rfl | rfl | rfl <;> rfl
theorem run_tailof {fo : Option (List Nat × Nat)} (hf : ∀ x n, fo = some (x, n) → x ∈ WS) (po dv : Option Nat) (w : W) : m_tail_of [.d (foD fo), .d (onD po), .d (onD dv)] w = some (.d (.tuple (intsD (tailK fo po dv))), w) := by
  refine fn_ex rfl ?_
  unfold b_tail_of
  have sz : ∀ a b : Nat, a + b ≤ 20 → a + b ≤ sizeLine := fun a b h => by rw [sizeLine_eq]; omega
  cases fo with
  | none =>
    cases po <;> cases dv
    · exact ⟨_, by (simp only [mSeq, mSet, mVar, mC, mOp, seqE, optE, mTru, mAnd, mOr, mNot, mIf, mBl, mNil, mCons, mCall, mTup, argsD, dsOf, tupD, mFz, mLst, mRet, mDrop, mNx, mBk, mCt, mFail, mItems, itemsD, mRng, mgName, mgNil, mgCons, mgTup, mAsg, mFor, mNo, mPart, mSl, mB, mSetO, mAppend, mPop, mPkOp, mPkIx, mPkLen, mScrLen, mYes, mPar, mPar3, mParO, mAug, mMtS, mIs, mStar, mFmt, mJs, mAndV, mOrV, mListO, mCatO, mgUnl, truD, pk, List.getElem?_cons_zero, List.getElem?_cons_succ, List.set_cons_zero, List.set_cons_succ, List.length_cons, List.length_nil, Option.map_some, Option.map_none, List.map_cons, List.map_nil, List.cons_append, List.nil_append, List.replicate, Nat.zero_add, Nat.reduceAdd, Nat.reduceSub, Nat.reduceLeDiff, if_true, if_false, Bool.not_true, Bool.not_false, reduceCtorEq, reduceIte, decide_true, decide_false, Bool.false_eq_true, List.isEmpty_cons, List.isEmpty_nil, ixT0, ixT1, ixT2, ixL0, ixL1, ixL2, isD_nn, isD_in, isD_sn, isD_tn, isN_nn, isN_in, isN_sn, isN_tn, Int.cast_ofNat_Int, Int.reduceEq, Int.reduceLT, Int.reduceLE, Bool.and_false, Bool.and_true, Bool.true_and, Bool.false_and, Bool.or_false, Bool.or_true, Bool.true_or, Bool.false_or, foD, onD, tailK, intsD] <;> rfl)⟩
    · exact ⟨_, by (simp only [mSeq, mSet, mVar, mC, mOp, seqE, optE, mTru, mAnd, mOr, mNot, mIf, mBl, mNil, mCons, mCall, mTup, argsD, dsOf, tupD, mFz, mLst, mRet, mDrop, mNx, mBk, mCt, mFail, mItems, itemsD, mRng, mgName, mgNil, mgCons, mgTup, mAsg, mFor, mNo, mPart, mSl, mB, mSetO, mAppend, mPop, mPkOp, mPkIx, mPkLen, mScrLen, mYes, mPar, mPar3, mParO, mAug, mMtS, mIs, mStar, mFmt, mJs, mAndV, mOrV, mListO, mCatO, mgUnl, truD, pk, List.getElem?_cons_zero, List.getElem?_cons_succ, List.set_cons_zero, List.set_cons_succ, List.length_cons, List.length_nil, Option.map_some, Option.map_none, List.map_cons, List.map_nil, List.cons_append, List.nil_append, List.replicate, Nat.zero_add, Nat.reduceAdd, Nat.reduceSub, Nat.reduceLeDiff, if_true, if_false, Bool.not_true, Bool.not_false, reduceCtorEq, reduceIte, decide_true, decide_false, Bool.false_eq_true, List.isEmpty_cons, List.isEmpty_nil, ixT0, ixT1, ixT2, ixL0, ixL1, ixL2, isD_nn, isD_in, isD_sn, isD_tn, isN_nn, isN_in, isN_sn, isN_tn, Int.cast_ofNat_Int, Int.reduceEq, Int.reduceLT, Int.reduceLE, Bool.and_false, Bool.and_true, Bool.true_and, Bool.false_and, Bool.or_false, Bool.or_true, Bool.true_or, Bool.false_or, foD, onD, tailK, intsD] <;> rfl)⟩
    · exact ⟨_, by (simp only [mSeq, mSet, mVar, mC, mOp, seqE, optE, mTru, mAnd, mOr, mNot, mIf, mBl, mNil, mCons, mCall, mTup, argsD, dsOf, tupD, mFz, mLst, mRet, mDrop, mNx, mBk, mCt, mFail, mItems, itemsD, mRng, mgName, mgNil, mgCons, mgTup, mAsg, mFor, mNo, mPart, mSl, mB, mSetO, mAppend, mPop, mPkOp, mPkIx, mPkLen, mScrLen, mYes, mPar, mPar3, mParO, mAug, mMtS, mIs, mStar, mFmt, mJs, mAndV, mOrV, mListO, mCatO, mgUnl, truD, pk, List.getElem?_cons_zero, List.getElem?_cons_succ, List.set_cons_zero, List.set_cons_succ, List.length_cons, List.length_nil, Option.map_some, Option.map_none, List.map_cons, List.map_nil, List.cons_append, List.nil_append, List.replicate, Nat.zero_add, Nat.reduceAdd, Nat.reduceSub, Nat.reduceLeDiff, if_true, if_false, Bool.not_true, Bool.not_false, reduceCtorEq, reduceIte, decide_true, decide_false, Bool.false_eq_true, List.isEmpty_cons, List.isEmpty_nil, ixT0, ixT1, ixT2, ixL0, ixL1, ixL2, isD_nn, isD_in, isD_sn, isD_tn, isN_nn, isN_in, isN_sn, isN_tn, Int.cast_ofNat_Int, Int.reduceEq, Int.reduceLT, Int.reduceLE, Bool.and_false, Bool.and_true, Bool.true_and, Bool.false_and, Bool.or_false, Bool.or_true, Bool.true_or, Bool.false_or, foD, onD, tailK, intsD, ownK, addD, addT, sizeLine_eq] <;> rfl)⟩
    · exact ⟨_, by (simp only [mSeq, mSet, mVar, mC, mOp, seqE, optE, mTru, mAnd, mOr, mNot, mIf, mBl, mNil, mCons, mCall, mTup, argsD, dsOf, tupD, mFz, mLst, mRet, mDrop, mNx, mBk, mCt, mFail, mItems, itemsD, mRng, mgName, mgNil, mgCons, mgTup, mAsg, mFor, mNo, mPart, mSl, mB, mSetO, mAppend, mPop, mPkOp, mPkIx, mPkLen, mScrLen, mYes, mPar, mPar3, mParO, mAug, mMtS, mIs, mStar, mFmt, mJs, mAndV, mOrV, mListO, mCatO, mgUnl, truD, pk, List.getElem?_cons_zero, List.getElem?_cons_succ, List.set_cons_zero, List.set_cons_succ, List.length_cons, List.length_nil, Option.map_some, Option.map_none, List.map_cons, List.map_nil, List.cons_append, List.nil_append, List.replicate, Nat.zero_add, Nat.reduceAdd, Nat.reduceSub, Nat.reduceLeDiff, if_true, if_false, Bool.not_true, Bool.not_false, reduceCtorEq, reduceIte, decide_true, decide_false, Bool.false_eq_true, List.isEmpty_cons, List.isEmpty_nil, ixT0, ixT1, ixT2, ixL0, ixL1, ixL2, isD_nn, isD_in, isD_sn, isD_tn, isN_nn, isN_in, isN_sn, isN_tn, Int.cast_ofNat_Int, Int.reduceEq, Int.reduceLT, Int.reduceLE, Bool.and_false, Bool.and_true, Bool.true_and, Bool.false_and, Bool.or_false, Bool.or_true, Bool.true_or, Bool.false_or, foD, onD, tailK, intsD, ownK, addD, addT, sizeLine_eq] <;> rfl)⟩
  | some q =>
    obtain ⟨x, n⟩ := q
    have hi := idx_ws (hf x n rfl)
    cases po <;> cases dv <;> exact ⟨_, by (simp only [mSeq, mSet, mVar, mC, mOp, seqE, optE, mTru, mAnd, mOr, mNot, mIf, mBl, mNil, mCons, mCall, mTup, argsD, dsOf, tupD, mFz, mLst, mRet, mDrop, mNx, mBk, mCt, mFail, mItems, itemsD, mRng, mgName, mgNil, mgCons, mgTup, mAsg, mFor, mNo, mPart, mSl, mB, mSetO, mAppend, mPop, mPkOp, mPkIx, mPkLen, mScrLen, mYes, mPar, mPar3, mParO, mAug, mMtS, mIs, mStar, mFmt, mJs, mAndV, mOrV, mListO, mCatO, mgUnl, truD, pk, List.getElem?_cons_zero, List.getElem?_cons_succ, List.set_cons_zero, List.set_cons_succ, List.length_cons, List.length_nil, Option.map_some, Option.map_none, List.map_cons, List.map_nil, List.cons_append, List.nil_append, List.replicate, Nat.zero_add, Nat.reduceAdd, Nat.reduceSub, Nat.reduceLeDiff, if_true, if_false, Bool.not_true, Bool.not_false, reduceCtorEq, reduceIte, decide_true, decide_false, Bool.false_eq_true, List.isEmpty_cons, List.isEmpty_nil, ixT0, ixT1, ixT2, ixL0, ixL1, ixL2, isD_nn, isD_in, isD_sn, isD_tn, isN_nn, isN_in, isN_sn, isN_tn, Int.cast_ofNat_Int, Int.reduceEq, Int.reduceLT, Int.reduceLE, Bool.and_false, Bool.and_true, Bool.true_and, Bool.false_and, Bool.or_false, Bool.or_true, Bool.true_or, Bool.false_or, foD, onD, tailK, intsD, ownK, addD, addT, sizeLine_eq, hi] <;> rfl)⟩

/-! ### split_tail -/
theorem ws_ix {x : List Nat} (h : x ∈ WS) : ixD (.tuple ((["a", "b", "rc"] : List Str).map .str)) (.int ((widx x : Nat) : Int)) = some (.str (S x)) := by
  unfold WS at h
  simp only [List.mem_cons, List.not_mem_nil, or_false] at h
  rcases h with rfl | rfl | rfl <;> rfl
theorem cut3 (a b c : PyData) (r : List PyData) : cutL (a :: b :: c :: r) (some 3) none = r := by
  unfold cutL
  rw [HT.sIx_none, show (3 : Int) = ((3 : Nat) : Int) from rfl, HT.sIx_nat]
  have : min 3 (a :: b :: c :: r).length = 3 := by simp
  rw [this]
  simp
theorem cut2 (a b : PyData) (r : List PyData) : cutL (a :: b :: r) (some 2) none = r := by
  unfold cutL
  rw [HT.sIx_none, show (2 : Int) = ((2 : Nat) : Int) from rfl, HT.sIx_nat]
  have : min 2 (a :: b :: r).length = 2 := by simp
  rw [this]
  simp
theorem eqv_i (a b : Int) : PyData.eqv (.int a) (.int b) = decide (a = b) := by
  have h := eqD_int a b
  unfold eqD at h
  rw [if_pos (by rfl)] at h
  cases h
  rfl
theorem inD_23 (a : Int) : inD (.int a) (.tuple [.int 2, .int 3]) = some (.bool (decide (a = 2) || decide (a = 3))) := by
  unfold inD inS
  simp only [dOk, Bool.true_or, if_true, Option.map_some, List.any_cons, List.any_nil, eqv_i, Bool.or_false]
  rw [show decide (2 = a) = decide (a = 2) from decide_eq_decide.mpr ⟨Eq.symm, Eq.symm⟩, show decide (3 = a) = decide (a = 3) from decide_eq_decide.mpr ⟨Eq.symm, Eq.symm⟩]
theorem eqD_t2 (xs : List PyData) : eqD (.tuple xs) (.tuple [.int 2]) = some (.bool (PyData.eqvAll xs [.int 2])) := by
  unfold eqD
  rw [PyData.eqv, if_pos]
  rw [Bool.or_eq_true]
  exact .inr rfl
theorem eqA_t2_nil : PyData.eqvAll [] [.int 2] = false := rfl
theorem eqA_t2 (a : Int) (xs : List PyData) : PyData.eqvAll (.int a :: xs) [.int 2] = (decide (a = 2) && xs.isEmpty) := by
  rw [PyData.eqvAll, eqv_i]
  cases xs <;> rfl
theorem run_split {fo : Option (List Nat × Nat)} (hf : ∀ x n, fo = some (x, n) → x ∈ WS) (po dv : Option Nat) (w : W) : m_split_tail [.d (.tuple (intsD (tailK fo po dv)))] w = some (.d (.tuple [foD fo, onD po, onD dv]), w) := by
  refine fn_ex rfl ?_
  unfold b_split_tail
  cases fo with
  | none =>
    cases po <;> cases dv
    · exact ⟨_, by (simp only [mSeq, mSet, mVar, mC, mOp, seqE, optE, mTru, mAnd, mOr, mNot, mIf, mBl, mNil, mCons, mCall, mTup, argsD, dsOf, tupD, mFz, mLst, mRet, mDrop, mNx, mBk, mCt, mFail, mItems, itemsD, mRng, mgName, mgNil, mgCons, mgTup, mAsg, mFor, mNo, mPart, mSl, mB, mSetO, mAppend, mPop, mPkOp, mPkIx, mPkLen, mScrLen, mYes, mPar, mPar3, mParO, mAug, mMtS, mIs, mStar, mFmt, mJs, mAndV, mOrV, mListO, mCatO, mgUnl, truD, pk, List.getElem?_cons_zero, List.getElem?_cons_succ, List.set_cons_zero, List.set_cons_succ, List.length_cons, List.length_nil, Option.map_some, Option.map_none, List.map_cons, List.map_nil, List.cons_append, List.nil_append, List.replicate, Nat.zero_add, Nat.reduceAdd, Nat.reduceSub, Nat.reduceLeDiff, if_true, if_false, Bool.not_true, Bool.not_false, reduceCtorEq, reduceIte, decide_true, decide_false, Bool.false_eq_true, List.isEmpty_cons, List.isEmpty_nil, ixT0, ixT1, ixT2, ixL0, ixL1, ixL2, isD_nn, isD_in, isD_sn, isD_tn, isN_nn, isN_in, isN_sn, isN_tn, Int.cast_ofNat_Int, Int.reduceEq, Int.reduceLT, Int.reduceLE, Bool.and_false, Bool.and_true, Bool.true_and, Bool.false_and, Bool.or_false, Bool.or_true, Bool.true_or, Bool.false_or, foD, onD, tailK, intsD, eqD_t2, eqA_t2] <;> rfl)⟩
    · exact ⟨_, by (simp only [mSeq, mSet, mVar, mC, mOp, seqE, optE, mTru, mAnd, mOr, mNot, mIf, mBl, mNil, mCons, mCall, mTup, argsD, dsOf, tupD, mFz, mLst, mRet, mDrop, mNx, mBk, mCt, mFail, mItems, itemsD, mRng, mgName, mgNil, mgCons, mgTup, mAsg, mFor, mNo, mPart, mSl, mB, mSetO, mAppend, mPop, mPkOp, mPkIx, mPkLen, mScrLen, mYes, mPar, mPar3, mParO, mAug, mMtS, mIs, mStar, mFmt, mJs, mAndV, mOrV, mListO, mCatO, mgUnl, truD, pk, List.getElem?_cons_zero, List.getElem?_cons_succ, List.set_cons_zero, List.set_cons_succ, List.length_cons, List.length_nil, Option.map_some, Option.map_none, List.map_cons, List.map_nil, List.cons_append, List.nil_append, List.replicate, Nat.zero_add, Nat.reduceAdd, Nat.reduceSub, Nat.reduceLeDiff, if_true, if_false, Bool.not_true, Bool.not_false, reduceCtorEq, reduceIte, decide_true, decide_false, Bool.false_eq_true, List.isEmpty_cons, List.isEmpty_nil, ixT0, ixT1, ixT2, ixL0, ixL1, ixL2, isD_nn, isD_in, isD_sn, isD_tn, isN_nn, isN_in, isN_sn, isN_tn, Int.cast_ofNat_Int, Int.reduceEq, Int.reduceLT, Int.reduceLE, Bool.and_false, Bool.and_true, Bool.true_and, Bool.false_and, Bool.or_false, Bool.or_true, Bool.true_or, Bool.false_or, foD, onD, tailK, intsD, eqD_t2, eqA_t2, eqD_int, inD_23, Bool.or_false] <;> rfl)⟩
    · exact ⟨_, by (simp only [mSeq, mSet, mVar, mC, mOp, seqE, optE, mTru, mAnd, mOr, mNot, mIf, mBl, mNil, mCons, mCall, mTup, argsD, dsOf, tupD, mFz, mLst, mRet, mDrop, mNx, mBk, mCt, mFail, mItems, itemsD, mRng, mgName, mgNil, mgCons, mgTup, mAsg, mFor, mNo, mPart, mSl, mB, mSetO, mAppend, mPop, mPkOp, mPkIx, mPkLen, mScrLen, mYes, mPar, mPar3, mParO, mAug, mMtS, mIs, mStar, mFmt, mJs, mAndV, mOrV, mListO, mCatO, mgUnl, truD, pk, List.getElem?_cons_zero, List.getElem?_cons_succ, List.set_cons_zero, List.set_cons_succ, List.length_cons, List.length_nil, Option.map_some, Option.map_none, List.map_cons, List.map_nil, List.cons_append, List.nil_append, List.replicate, Nat.zero_add, Nat.reduceAdd, Nat.reduceSub, Nat.reduceLeDiff, if_true, if_false, Bool.not_true, Bool.not_false, reduceCtorEq, reduceIte, decide_true, decide_false, Bool.false_eq_true, List.isEmpty_cons, List.isEmpty_nil, ixT0, ixT1, ixT2, ixL0, ixL1, ixL2, isD_nn, isD_in, isD_sn, isD_tn, isN_nn, isN_in, isN_sn, isN_tn, Int.cast_ofNat_Int, Int.reduceEq, Int.reduceLT, Int.reduceLE, Bool.and_false, Bool.and_true, Bool.true_and, Bool.false_and, Bool.or_false, Bool.or_true, Bool.true_or, Bool.false_or, foD, onD, tailK, intsD, ownK, eqD_t2, eqA_t2, eqD_int, inD_23, slD, cut2] <;> rfl)⟩
    · exact ⟨_, by (simp only [mSeq, mSet, mVar, mC, mOp, seqE, optE, mTru, mAnd, mOr, mNot, mIf, mBl, mNil, mCons, mCall, mTup, argsD, dsOf, tupD, mFz, mLst, mRet, mDrop, mNx, mBk, mCt, mFail, mItems, itemsD, mRng, mgName, mgNil, mgCons, mgTup, mAsg, mFor, mNo, mPart, mSl, mB, mSetO, mAppend, mPop, mPkOp, mPkIx, mPkLen, mScrLen, mYes, mPar, mPar3, mParO, mAug, mMtS, mIs, mStar, mFmt, mJs, mAndV, mOrV, mListO, mCatO, mgUnl, truD, pk, List.getElem?_cons_zero, List.getElem?_cons_succ, List.set_cons_zero, List.set_cons_succ, List.length_cons, List.length_nil, Option.map_some, Option.map_none, List.map_cons, List.map_nil, List.cons_append, List.nil_append, List.replicate, Nat.zero_add, Nat.reduceAdd, Nat.reduceSub, Nat.reduceLeDiff, if_true, if_false, Bool.not_true, Bool.not_false, reduceCtorEq, reduceIte, decide_true, decide_false, Bool.false_eq_true, List.isEmpty_cons, List.isEmpty_nil, ixT0, ixT1, ixT2, ixL0, ixL1, ixL2, isD_nn, isD_in, isD_sn, isD_tn, isN_nn, isN_in, isN_sn, isN_tn, Int.cast_ofNat_Int, Int.reduceEq, Int.reduceLT, Int.reduceLE, Bool.and_false, Bool.and_true, Bool.true_and, Bool.false_and, Bool.or_false, Bool.or_true, Bool.true_or, Bool.false_or, foD, onD, tailK, intsD, ownK, eqD_t2, eqA_t2, eqD_int, inD_23, slD, cut2] <;> rfl)⟩
  | some q =>
    obtain ⟨x, n⟩ := q
    have hi := ws_ix (hf x n rfl)
    rw [ws_data] at hi ⊢
    cases po <;> cases dv <;> exact ⟨_, by (simp only [mSeq, mSet, mVar, mC, mOp, seqE, optE, mTru, mAnd, mOr, mNot, mIf, mBl, mNil, mCons, mCall, mTup, argsD, dsOf, tupD, mFz, mLst, mRet, mDrop, mNx, mBk, mCt, mFail, mItems, itemsD, mRng, mgName, mgNil, mgCons, mgTup, mAsg, mFor, mNo, mPart, mSl, mB, mSetO, mAppend, mPop, mPkOp, mPkIx, mPkLen, mScrLen, mYes, mPar, mPar3, mParO, mAug, mMtS, mIs, mStar, mFmt, mJs, mAndV, mOrV, mListO, mCatO, mgUnl, truD, pk, List.getElem?_cons_zero, List.getElem?_cons_succ, List.set_cons_zero, List.set_cons_succ, List.length_cons, List.length_nil, Option.map_some, Option.map_none, List.map_cons, List.map_nil, List.cons_append, List.nil_append, List.replicate, Nat.zero_add, Nat.reduceAdd, Nat.reduceSub, Nat.reduceLeDiff, if_true, if_false, Bool.not_true, Bool.not_false, reduceCtorEq, reduceIte, decide_true, decide_false, Bool.false_eq_true, List.isEmpty_cons, List.isEmpty_nil, ixT0, ixT1, ixT2, ixL0, ixL1, ixL2, isD_nn, isD_in, isD_sn, isD_tn, isN_nn, isN_in, isN_sn, isN_tn, Int.cast_ofNat_Int, Int.reduceEq, Int.reduceLT, Int.reduceLE, Bool.and_false, Bool.and_true, Bool.true_and, Bool.false_and, Bool.or_false, Bool.or_true, Bool.true_or, Bool.false_or, foD, onD, tailK, intsD, ownK, eqD_t2, eqA_t2, eqD_int, inD_23, slD, cut2, cut3, hi] <;> rfl)⟩

/-! ### numbers as texts -/
abbrev Sm (n : Nat) : Prop := n < 10 ^ 24
theorem sm_log {n : Nat} (h : Sm n) : (n : Int).natAbs.log2 < 1920 := by
  rw [Int.natAbs_natCast]
  by_cases hz : n = 0
  · subst hz; decide
  · have h1 : n < 2 ^ 80 := Nat.lt_of_lt_of_le h (by decide)
    exact Nat.lt_trans ((Nat.log2_lt hz).mpr h1) (by decide)
theorem strD_num {n : Nat} (h : Sm n) : strD [.int (n : Int)] = some (.str (S (numL n))) := by
  unfold strD
  dsimp only
  rw [if_pos (sm_log h), num_S]
theorem fmtD_num {n : Nat} (h : Sm n) : fmtD (.int (n : Int)) = some (.str (S (numL n))) := by
  unfold fmtD
  dsimp only
  rw [if_pos (sm_log h), num_S]
theorem fmtD_S {l : List Nat} (h : Sh l) : fmtD (.str (S l)) = some (.str (S l)) := by
  unfold fmtD
  dsimp only
  rw [if_pos (sh_line h)]
theorem addS_S {a b : List Nat} (h : Sh (a ++ b)) : addS (.str (S a)) (.str (S b)) = some (.str (S (a ++ b))) := by
  unfold addS
  dsimp only
  rw [if_pos (by rw [S_len, S_len, sizeLine_eq]; unfold Sh at h; rw [List.length_append] at h; omega), S_cat]
theorem addD_S {a b : List Nat} (h : Sh (a ++ b)) : addD (.str (S a)) (.str (S b)) = some (.str (S (a ++ b))) := addS_S h
theorem num24 {n : Nat} (h : Sm n) : (numL n).length ≤ 24 := TL.numL_len (by decide) h
theorem js_one {ms : List Ex} {m : Ex} {acc x : List Nat} {env : Ev} {w : W} (h : m env w = some (.d (.str (S x)), env, w)) (hs : Sh (acc ++ x)) : mJs (m :: ms) (S acc) env w = mJs ms (S (acc ++ x)) env w := by
  rw [mJs, seqE_of h]
  dsimp only
  rw [S_cat, if_pos (sh_line hs)]
theorem js_nil {acc : Str} {env : Ev} {w : W} : mJs [] acc env w = some (.d (.str acc), env, w) := rfl
theorem emp_S : Str.empty = S [] := rfl
/-- the texts of numbers -/
def numsS (ns : List Nat) : List PyData := ns.map fun n => .str (S (numL n))
theorem strsOf_nums : ∀ ns : List Nat, strsOf (numsS ns) = some ((ns.map numL).map S)
  | [] => rfl
  | n :: ns => by
    show strsOf (PyData.str (S (numL n)) :: numsS ns) = _
    unfold strsOf
    rw [strsOf_nums ns]
    rfl
theorem lens_nums : ∀ {ns : List Nat}, (∀ n ∈ ns, Sm n) → ((ns.map numL).map fun x => x.length).sum ≤ 24 * ns.length
  | [], _ => by simp
  | n :: ns, h => by
    have h1 := num24 (h n (by simp))
    have h2 := lens_nums (ns := ns) fun m hm => h m (by simp [hm])
    simp only [List.map_cons, List.sum_cons, List.length_cons]
    omega
theorem join_num {ns : List Nat} (h : ∀ n ∈ ns, Sm n) (hl : ns.length ≤ 1000) : joinD (.str (S [46])) [.list (numsS ns)] = some (.str (S (joinL [46] (ns.map numL)))) := by
  unfold joinD
  simp only [itemsD, strsOf_nums]
  rw [if_pos, join_S]
  unfold joinFits
  rw [decide_eq_true_iff, lens, S_len, List.length_map, List.length_map, List.length_singleton]
  have := lens_nums h
  omega
end Dn

set_option maxHeartbeats 4000000
namespace Dn
open PySem PySem.Spec PyProof.Rows L2 SX
open TL (numL pre joinL)

/-! ### versions and their texts -/
structure Pt.Wf (p : Pt) : Prop where
  ne : p.ns ≠ []
  len : p.ns.length ≤ 60
  sm : ∀ n ∈ p.ns, Sm n
  ep : Sm p.ep
  fo : ∀ x n, p.fo = some (x, n) → x ∈ WS ∧ Sm n
  po : ∀ n, p.po = some n → Sm n
  dv : ∀ n, p.dv = some n → Sm n
def epS (b : Bool) (e : Nat) : List Nat := if e = 0 ∧ b = false then [] else numL e ++ [33]
def foS : Option (List Nat × Nat) → List Nat
  | none => []
  | some (x, n) => x ++ numL n
def poS : Option Nat → List Nat
  | none => []
  | some n => POSTS ++ numL n
def dvS : Option Nat → List Nat
  | none => []
  | some n => DEVS ++ numL n
def nsS (ns : List Nat) : List Nat := joinL [46] (ns.map numL)
def prB (b : Bool) (p : Pt) : List Nat := epS b p.ep ++ (nsS p.ns ++ (foS p.fo ++ (poS p.po ++ dvS p.dv)))
def nrm (p : Pt) : Pt := { p with ns := if bas p.ns = [] then [0] else bas p.ns }
theorem nsS_len : ∀ {ns : List Nat}, (∀ n ∈ ns, Sm n) → (nsS ns).length ≤ 25 * ns.length
  | [], _ => by simp [nsS, joinL]
  | [n], h => by
    have := num24 (h n (by simp))
    simp only [nsS, List.map_cons, List.map_nil, joinL, List.length_cons, List.length_nil]
    omega
  | n :: m :: ns, h => by
    have h1 := num24 (h n (by simp))
    have h2 := nsS_len (ns := m :: ns) fun k hk => h k (List.mem_cons_of_mem _ hk)
    simp only [nsS, List.map_cons, joinL, List.length_append, List.length_cons, List.length_nil] at h2 ⊢
    omega
theorem epS_len {b : Bool} {e : Nat} (h : Sm e) : (epS b e).length ≤ 25 := by
  unfold epS
  split
  · simp
  · have := num24 h
    simp only [List.length_append, List.length_cons, List.length_nil]
    omega
theorem ws_len {x : List Nat} (h : x ∈ WS) : x.length ≤ 2 := by
  unfold WS at h
  simp only [List.mem_cons, List.not_mem_nil, or_false] at h
  rcases h with rfl | rfl | rfl <;> decide
theorem foS_len {p : Pt} (h : p.Wf) : (foS p.fo).length ≤ 26 := by
  have q := h.fo
  cases e : p.fo with
  | none => simp [foS]
  | some z =>
    obtain ⟨x, n⟩ := z
    have h1 := ws_len (q x n e).1
    have h2 := num24 (q x n e).2
    simp only [foS, List.length_append]
    omega
theorem poS_len {p : Pt} (h : p.Wf) : (poS p.po).length ≤ 29 := by
  have q := h.po
  cases e : p.po with
  | none => simp [poS]
  | some n =>
    have h2 := num24 (q n e)
    simp only [poS, POSTS, List.length_append, List.length_cons, List.length_nil]
    omega
theorem dvS_len {p : Pt} (h : p.Wf) : (dvS p.dv).length ≤ 28 := by
  have q := h.dv
  cases e : p.dv with
  | none => simp [dvS]
  | some n =>
    have h2 := num24 (q n e)
    simp only [dvS, DEVS, List.length_append, List.length_cons, List.length_nil]
    omega
theorem prB_len {b : Bool} {p : Pt} (h : p.Wf) : (prB b p).length ≤ 2000 := by
  have h1 := epS_len (b := b) h.ep
  have h2 := nsS_len h.sm
  have h3 := foS_len h
  have h4 := poS_len h
  have h5 := dvS_len h
  have h6 := h.len
  unfold prB
  simp only [List.length_append]
  omega
theorem prB_sh {b : Bool} {p : Pt} (h : p.Wf) : Sh (prB b p) := by
  have := prB_len (b := b) h
  unfold Sh
  omega

/-! ### key_from -/
def keyD (p : Pt) : PyData := .tuple [.int (p.ep : Int), .tuple (intsD (bas p.ns)), .tuple (intsD (tailK p.fo p.po p.dv))]
theorem run_key {p : Pt} (h : p.Wf) (w : W) : m_key_from [.d (ptD p)] w = some (.d (keyD p), w) := by
  refine fn_ex rfl ?_
  unfold b_key_from ptD
  have h1 := run_based (ns := p.ns) (by have := h.len; omega) w
  have h2 := run_tailof (fo := p.fo) (fun x n e => (h.fo x n e).1) p.po p.dv w
  refine ex_nx (by (simp only [mSeq, mSet, mVar, mC, mOp, seqE, optE, mTru, mAnd, mOr, mNot, mIf, mBl, mNil, mCons, mCall, mTup, argsD, dsOf, tupD, mFz, mLst, mRet, mDrop, mNx, mBk, mCt, mFail, mItems, itemsD, mRng, mgName, mgNil, mgCons, mgTup, mAsg, mFor, mNo, mPart, mSl, mB, mSetO, mAppend, mPop, mPkOp, mPkIx, mPkLen, mScrLen, mYes, mPar, mPar3, mParO, mAug, mMtS, mIs, mStar, mFmt, mJs, mAndV, mOrV, mListO, mCatO, mgUnl, truD, pk, List.getElem?_cons_zero, List.getElem?_cons_succ, List.set_cons_zero, List.set_cons_succ, List.length_cons, List.length_nil, Option.map_some, Option.map_none, List.map_cons, List.map_nil, List.cons_append, List.nil_append, List.replicate, Nat.zero_add, Nat.reduceAdd, Nat.reduceSub, Nat.reduceLeDiff, if_true, if_false, Bool.not_true, Bool.not_false, reduceCtorEq, reduceIte, decide_true, decide_false, Bool.false_eq_true, List.isEmpty_cons, List.isEmpty_nil, ixT0, ixT1, ixT2, ixL0, ixL1, ixL2, isD_nn, isD_in, isD_sn, isD_tn, isN_nn, isN_in, isN_sn, isN_tn, Int.cast_ofNat_Int, Int.reduceEq, Int.reduceLT, Int.reduceLE, Bool.and_false, Bool.and_true, Bool.true_and, Bool.false_and, Bool.or_false, Bool.or_true, Bool.true_or, Bool.false_or] <;> rfl)) ?_
  exact ⟨_, by (simp only [mSeq, mSet, mVar, mC, mOp, seqE, optE, mTru, mAnd, mOr, mNot, mIf, mBl, mNil, mCons, mCall, mTup, argsD, dsOf, tupD, mFz, mLst, mRet, mDrop, mNx, mBk, mCt, mFail, mItems, itemsD, mRng, mgName, mgNil, mgCons, mgTup, mAsg, mFor, mNo, mPart, mSl, mB, mSetO, mAppend, mPop, mPkOp, mPkIx, mPkLen, mScrLen, mYes, mPar, mPar3, mParO, mAug, mMtS, mIs, mStar, mFmt, mJs, mAndV, mOrV, mListO, mCatO, mgUnl, truD, pk, List.getElem?_cons_zero, List.getElem?_cons_succ, List.set_cons_zero, List.set_cons_succ, List.length_cons, List.length_nil, Option.map_some, Option.map_none, List.map_cons, List.map_nil, List.cons_append, List.nil_append, List.replicate, Nat.zero_add, Nat.reduceAdd, Nat.reduceSub, Nat.reduceLeDiff, if_true, if_false, Bool.not_true, Bool.not_false, reduceCtorEq, reduceIte, decide_true, decide_false, Bool.false_eq_true, List.isEmpty_cons, List.isEmpty_nil, ixT0, ixT1, ixT2, ixL0, ixL1, ixL2, isD_nn, isD_in, isD_sn, isD_tn, isN_nn, isN_in, isN_sn, isN_tn, Int.cast_ofNat_Int, Int.reduceEq, Int.reduceLT, Int.reduceLE, Bool.and_false, Bool.and_true, Bool.true_and, Bool.false_and, Bool.or_false, Bool.or_true, Bool.true_or, Bool.false_or, h1, h2, keyD] <;> rfl)⟩

/-! ### text_of -/
theorem lc_nums (w : W) (a b c d e f g h' : Option SD) : ∀ (ns : List Nat) (acc : List PyData), (∀ n ∈ ns, Sm n) →
    lcLoop (mgName 8) mYes eC1_text_of [8] (intsD ns) acc [a, b, c, d, e, f, g, h', none] w = some (acc ++ numsS ns, [a, b, c, d, e, f, g, h', none], w)
  | [], acc, _ => by
    unfold intsD numsS
    rw [List.map_nil, lc_nil, List.map_nil, List.append_nil]
  | n :: ns, acc, hn => by
    have hs := strD_num (hn n (by simp))
    have ih := lc_nums w a b c d e f g h' ns (acc ++ [.str (S (numL n))]) fun m hm => hn m (by simp [hm])
    show lcLoop (mgName 8) mYes eC1_text_of [8] (.int (n : Int) :: intsD ns) acc [a, b, c, d, e, f, g, h', none] w = _
    rw [lc_go (e1 := [a, b, c, d, e, f, g, h', some (.d (.int (n : Int)))]) (e2 := [a, b, c, d, e, f, g, h', some (.d (.int (n : Int)))]) (e3 := [a, b, c, d, e, f, g, h', some (.d (.int (n : Int)))]) (w2 := w) (w3 := w) (y := .str (S (numL n))) (by (simp only [mSeq, mSet, mVar, mC, mOp, seqE, optE, mTru, mAnd, mOr, mNot, mIf, mBl, mNil, mCons, mCall, mTup, argsD, dsOf, tupD, mFz, mLst, mRet, mDrop, mNx, mBk, mCt, mFail, mItems, itemsD, mRng, mgName, mgNil, mgCons, mgTup, mAsg, mFor, mNo, mPart, mSl, mB, mSetO, mAppend, mPop, mPkOp, mPkIx, mPkLen, mScrLen, mYes, mPar, mPar3, mParO, mAug, mMtS, mIs, mStar, mFmt, mJs, mAndV, mOrV, mListO, mCatO, mgUnl, truD, pk, List.getElem?_cons_zero, List.getElem?_cons_succ, List.set_cons_zero, List.set_cons_succ, List.length_cons, List.length_nil, Option.map_some, Option.map_none, List.map_cons, List.map_nil, List.cons_append, List.nil_append, List.replicate, Nat.zero_add, Nat.reduceAdd, Nat.reduceSub, Nat.reduceLeDiff, if_true, if_false, Bool.not_true, Bool.not_false, reduceCtorEq, reduceIte, decide_true, decide_false, Bool.false_eq_true, List.isEmpty_cons, List.isEmpty_nil, ixT0, ixT1, ixT2, ixL0, ixL1, ixL2, isD_nn, isD_in, isD_sn, isD_tn, isN_nn, isN_in, isN_sn, isN_tn, Int.cast_ofNat_Int, Int.reduceEq, Int.reduceLT, Int.reduceLE, Bool.and_false, Bool.and_true, Bool.true_and, Bool.false_and, Bool.or_false, Bool.or_true, Bool.true_or, Bool.false_or] <;> rfl)) (by (simp only [mSeq, mSet, mVar, mC, mOp, seqE, optE, mTru, mAnd, mOr, mNot, mIf, mBl, mNil, mCons, mCall, mTup, argsD, dsOf, tupD, mFz, mLst, mRet, mDrop, mNx, mBk, mCt, mFail, mItems, itemsD, mRng, mgName, mgNil, mgCons, mgTup, mAsg, mFor, mNo, mPart, mSl, mB, mSetO, mAppend, mPop, mPkOp, mPkIx, mPkLen, mScrLen, mYes, mPar, mPar3, mParO, mAug, mMtS, mIs, mStar, mFmt, mJs, mAndV, mOrV, mListO, mCatO, mgUnl, truD, pk, List.getElem?_cons_zero, List.getElem?_cons_succ, List.set_cons_zero, List.set_cons_succ, List.length_cons, List.length_nil, Option.map_some, Option.map_none, List.map_cons, List.map_nil, List.cons_append, List.nil_append, List.replicate, Nat.zero_add, Nat.reduceAdd, Nat.reduceSub, Nat.reduceLeDiff, if_true, if_false, Bool.not_true, Bool.not_false, reduceCtorEq, reduceIte, decide_true, decide_false, Bool.false_eq_true, List.isEmpty_cons, List.isEmpty_nil, ixT0, ixT1, ixT2, ixL0, ixL1, ixL2, isD_nn, isD_in, isD_sn, isD_tn, isN_nn, isN_in, isN_sn, isN_tn, Int.cast_ofNat_Int, Int.reduceEq, Int.reduceLT, Int.reduceLE, Bool.and_false, Bool.and_true, Bool.true_and, Bool.false_and, Bool.or_false, Bool.or_true, Bool.true_or, Bool.false_or] <;> rfl)) (by unfold eC1_text_of; (simp only [mSeq, mSet, mVar, mC, mOp, seqE, optE, mTru, mAnd, mOr, mNot, mIf, mBl, mNil, mCons, mCall, mTup, argsD, dsOf, tupD, mFz, mLst, mRet, mDrop, mNx, mBk, mCt, mFail, mItems, itemsD, mRng, mgName, mgNil, mgCons, mgTup, mAsg, mFor, mNo, mPart, mSl, mB, mSetO, mAppend, mPop, mPkOp, mPkIx, mPkLen, mScrLen, mYes, mPar, mPar3, mParO, mAug, mMtS, mIs, mStar, mFmt, mJs, mAndV, mOrV, mListO, mCatO, mgUnl, truD, pk, List.getElem?_cons_zero, List.getElem?_cons_succ, List.set_cons_zero, List.set_cons_succ, List.length_cons, List.length_nil, Option.map_some, Option.map_none, List.map_cons, List.map_nil, List.cons_append, List.nil_append, List.replicate, Nat.zero_add, Nat.reduceAdd, Nat.reduceSub, Nat.reduceLeDiff, if_true, if_false, Bool.not_true, Bool.not_false, reduceCtorEq, reduceIte, decide_true, decide_false, Bool.false_eq_true, List.isEmpty_cons, List.isEmpty_nil, ixT0, ixT1, ixT2, ixL0, ixL1, ixL2, isD_nn, isD_in, isD_sn, isD_tn, isN_nn, isN_in, isN_sn, isN_tn, Int.cast_ofNat_Int, Int.reduceEq, Int.reduceLT, Int.reduceLE, Bool.and_false, Bool.and_true, Bool.true_and, Bool.false_and, Bool.or_false, Bool.or_true, Bool.true_or, Bool.false_or, hs] <;> rfl))]
    refine ih.trans ?_
    rw [List.append_assoc]
    rfl
theorem bas_mem {ns : List Nat} {n : Nat} (h : n ∈ bas ns) : n ∈ ns := (bas_pre ns).subset h
theorem ne_tup (xs : List Nat) : neD (.tuple (intsD xs)) (.tuple []) = some (.bool (!xs.isEmpty)) := by
  unfold neD
  rw [PyData.eqv, if_pos (by rw [Bool.or_eq_true]; exact .inr rfl)]
  cases xs with
  | nil => rfl
  | cons x xs => rfl
theorem aug_ok {g : PyData → PyData → Option PyData} {i : Nat} {m : Ex} {env e1 : Ev} {w w1 : W} {x y z : PyData} (h0 : env[i]? = some (some (.d x))) (hm : m env w = some (.d y, e1, w1)) (hz : g x y = some z) : mAug g i m env w = some (.nx, e1.set i (some (.d z)), w1) := by
  simp only [mAug, h0, seqE, hm, hz]
theorem sh_le {l : List Nat} (h : l.length ≤ 2000) : Sh l := by unfold Sh; omega
theorem run_text {p : Pt} (h : p.Wf) (w : W) : m_text_of [.d (keyD p)] w = some (.d (.str (S (prB false (nrm p)))), w) := by
  refine fn_ex rfl ?_
  unfold b_text_of keyD
  have L1 := epS_len (b := false) h.ep
  have L2 := nsS_len (ns := bas p.ns) fun n hn => h.sm n (bas_mem hn)
  have L2' := (bas_pre p.ns).length_le
  have L3 := foS_len h
  have L4 := poS_len h
  have L5 := dvS_len h
  have L6 := h.len
  have hsp := run_split (fo := p.fo) (fun x n e => (h.fo x n e).1) p.po p.dv w
  refine ex_nx (by (simp only [mSeq, mSet, mVar, mC, mOp, seqE, optE, mTru, mAnd, mOr, mNot, mIf, mBl, mNil, mCons, mCall, mTup, argsD, dsOf, tupD, mFz, mLst, mRet, mDrop, mNx, mBk, mCt, mFail, mItems, itemsD, mRng, mgName, mgNil, mgCons, mgTup, mAsg, mFor, mNo, mPart, mSl, mB, mSetO, mAppend, mPop, mPkOp, mPkIx, mPkLen, mScrLen, mYes, mPar, mPar3, mParO, mAug, mMtS, mIs, mStar, mFmt, mJs, mAndV, mOrV, mListO, mCatO, mgUnl, truD, pk, List.getElem?_cons_zero, List.getElem?_cons_succ, List.set_cons_zero, List.set_cons_succ, List.length_cons, List.length_nil, Option.map_some, Option.map_none, List.map_cons, List.map_nil, List.cons_append, List.nil_append, List.replicate, Nat.zero_add, Nat.reduceAdd, Nat.reduceSub, Nat.reduceLeDiff, if_true, if_false, Bool.not_true, Bool.not_false, reduceCtorEq, reduceIte, decide_true, decide_false, Bool.false_eq_true, List.isEmpty_cons, List.isEmpty_nil, ixT0, ixT1, ixT2, ixL0, ixL1, ixL2, isD_nn, isD_in, isD_sn, isD_tn, isN_nn, isN_in, isN_sn, isN_tn, Int.cast_ofNat_Int, Int.reduceEq, Int.reduceLT, Int.reduceLE, Bool.and_false, Bool.and_true, Bool.true_and, Bool.false_and, Bool.or_false, Bool.or_true, Bool.true_or, Bool.false_or] <;> rfl)) ?_
  refine ex_nx (by (simp only [mSeq, mSet, mVar, mC, mOp, seqE, optE, mTru, mAnd, mOr, mNot, mIf, mBl, mNil, mCons, mCall, mTup, argsD, dsOf, tupD, mFz, mLst, mRet, mDrop, mNx, mBk, mCt, mFail, mItems, itemsD, mRng, mgName, mgNil, mgCons, mgTup, mAsg, mFor, mNo, mPart, mSl, mB, mSetO, mAppend, mPop, mPkOp, mPkIx, mPkLen, mScrLen, mYes, mPar, mPar3, mParO, mAug, mMtS, mIs, mStar, mFmt, mJs, mAndV, mOrV, mListO, mCatO, mgUnl, truD, pk, List.getElem?_cons_zero, List.getElem?_cons_succ, List.set_cons_zero, List.set_cons_succ, List.length_cons, List.length_nil, Option.map_some, Option.map_none, List.map_cons, List.map_nil, List.cons_append, List.nil_append, List.replicate, Nat.zero_add, Nat.reduceAdd, Nat.reduceSub, Nat.reduceLeDiff, if_true, if_false, Bool.not_true, Bool.not_false, reduceCtorEq, reduceIte, decide_true, decide_false, Bool.false_eq_true, List.isEmpty_cons, List.isEmpty_nil, ixT0, ixT1, ixT2, ixL0, ixL1, ixL2, isD_nn, isD_in, isD_sn, isD_tn, isN_nn, isN_in, isN_sn, isN_tn, Int.cast_ofNat_Int, Int.reduceEq, Int.reduceLT, Int.reduceLE, Bool.and_false, Bool.and_true, Bool.true_and, Bool.false_and, Bool.or_false, Bool.or_true, Bool.true_or, Bool.false_or, hsp] <;> rfl)) ?_
  refine ex_nx (e1 := [some (.d (.tuple [.int (p.ep : Int), .tuple (intsD (bas p.ns)), .tuple (intsD (tailK p.fo p.po p.dv))])), some (.d (.int (p.ep : Int))), some (.d (.tuple (intsD (bas p.ns)))), some (.d (.tuple (intsD (tailK p.fo p.po p.dv)))), some (.d (foD p.fo)), some (.d (onD p.po)), some (.d (onD p.dv)), some (.d (.str (S (epS false p.ep)))), none]) (w1 := w) ?_ ?_
  · unfold epS
    by_cases c : p.ep = 0
    · have c' : (p.ep : Int) = 0 := by omega
      rw [if_pos ⟨c, rfl⟩]
      (simp only [mSeq, mSet, mVar, mC, mOp, seqE, optE, mTru, mAnd, mOr, mNot, mIf, mBl, mNil, mCons, mCall, mTup, argsD, dsOf, tupD, mFz, mLst, mRet, mDrop, mNx, mBk, mCt, mFail, mItems, itemsD, mRng, mgName, mgNil, mgCons, mgTup, mAsg, mFor, mNo, mPart, mSl, mB, mSetO, mAppend, mPop, mPkOp, mPkIx, mPkLen, mScrLen, mYes, mPar, mPar3, mParO, mAug, mMtS, mIs, mStar, mFmt, mJs, mAndV, mOrV, mListO, mCatO, mgUnl, truD, pk, List.getElem?_cons_zero, List.getElem?_cons_succ, List.set_cons_zero, List.set_cons_succ, List.length_cons, List.length_nil, Option.map_some, Option.map_none, List.map_cons, List.map_nil, List.cons_append, List.nil_append, List.replicate, Nat.zero_add, Nat.reduceAdd, Nat.reduceSub, Nat.reduceLeDiff, if_true, if_false, Bool.not_true, Bool.not_false, reduceCtorEq, reduceIte, decide_true, decide_false, Bool.false_eq_true, List.isEmpty_cons, List.isEmpty_nil, ixT0, ixT1, ixT2, ixL0, ixL1, ixL2, isD_nn, isD_in, isD_sn, isD_tn, isN_nn, isN_in, isN_sn, isN_tn, Int.cast_ofNat_Int, Int.reduceEq, Int.reduceLT, Int.reduceLE, Bool.and_false, Bool.and_true, Bool.true_and, Bool.false_and, Bool.or_false, Bool.or_true, Bool.true_or, Bool.false_or, eqD_int, c', str0] <;> rfl)
    · have c' : ¬ (p.ep : Int) = 0 := by omega
      rw [if_neg (fun z => c z.1)]
      have hj : ∀ (env : Ev), env[1]? = some (some (.d (.int (p.ep : Int)))) → mJs [(mFmt (mVar 1)), (mC (.str "!"))] Str.empty env w = some (.d (.str (S (numL p.ep ++ [33]))), env, w) := fun env he => by
        rw [emp_S, js_one (x := numL p.ep) (by simp only [mFmt, seqE, mVar, he, fmtD_num h.ep, optE]) (sh_le (by have := num24 h.ep; simp only [List.length_append, List.length_nil]; omega)),
          js_one (x := [33]) (by rw [strBang]; rfl) (sh_le (by have := num24 h.ep; simp only [List.length_append, List.length_nil, List.length_cons]; omega)), js_nil]
        rfl
      unfold mSet
      rw [if_f (e1 := [some (.d (.tuple [.int (p.ep : Int), .tuple (intsD (bas p.ns)), .tuple (intsD (tailK p.fo p.po p.dv))])), some (.d (.int (p.ep : Int))), some (.d (.tuple (intsD (bas p.ns)))), some (.d (.tuple (intsD (tailK p.fo p.po p.dv)))), some (.d (foD p.fo)), some (.d (onD p.po)), some (.d (onD p.dv)), none, none]) (w1 := w) (by (simp only [mSeq, mSet, mVar, mC, mOp, seqE, optE, mTru, mAnd, mOr, mNot, mIf, mBl, mNil, mCons, mCall, mTup, argsD, dsOf, tupD, mFz, mLst, mRet, mDrop, mNx, mBk, mCt, mFail, mItems, itemsD, mRng, mgName, mgNil, mgCons, mgTup, mAsg, mFor, mNo, mPart, mSl, mB, mSetO, mAppend, mPop, mPkOp, mPkIx, mPkLen, mScrLen, mYes, mPar, mPar3, mParO, mAug, mMtS, mIs, mStar, mFmt, mJs, mAndV, mOrV, mListO, mCatO, mgUnl, truD, pk, List.getElem?_cons_zero, List.getElem?_cons_succ, List.set_cons_zero, List.set_cons_succ, List.length_cons, List.length_nil, Option.map_some, Option.map_none, List.map_cons, List.map_nil, List.cons_append, List.nil_append, List.replicate, Nat.zero_add, Nat.reduceAdd, Nat.reduceSub, Nat.reduceLeDiff, if_true, if_false, Bool.not_true, Bool.not_false, reduceCtorEq, reduceIte, decide_true, decide_false, Bool.false_eq_true, List.isEmpty_cons, List.isEmpty_nil, ixT0, ixT1, ixT2, ixL0, ixL1, ixL2, isD_nn, isD_in, isD_sn, isD_tn, isN_nn, isN_in, isN_sn, isN_tn, Int.cast_ofNat_Int, Int.reduceEq, Int.reduceLT, Int.reduceLE, Bool.and_false, Bool.and_true, Bool.true_and, Bool.false_and, Bool.or_false, Bool.or_true, Bool.true_or, Bool.false_or, eqD_int, c'] <;> rfl)), hj _ rfl]
      rfl
  -- the numbers
  have hnsS : nsS (nrm p).ns = if bas p.ns = [] then [48] else nsS (bas p.ns) := by
    unfold nrm nsS
    dsimp only
    split
    · exact TL.numL_lt (n := 0) (by decide)
    · rfl
  refine ex_nx (e1 := [some (.d (.tuple [.int (p.ep : Int), .tuple (intsD (bas p.ns)), .tuple (intsD (tailK p.fo p.po p.dv))])), some (.d (.int (p.ep : Int))), some (.d (.tuple (intsD (bas p.ns)))), some (.d (.tuple (intsD (tailK p.fo p.po p.dv)))), some (.d (foD p.fo)), some (.d (onD p.po)), some (.d (onD p.dv)), some (.d (.str (S (epS false p.ep ++ nsS (nrm p).ns)))), none]) (w1 := w) ?_ ?_
  · rw [hnsS]
    by_cases c : bas p.ns = []
    · rw [if_pos c]
      have hs := addS_S (a := epS false p.ep) (b := [48]) (sh_le (by simp only [List.length_append, List.length_cons, List.length_nil]; omega))
      (simp only [mSeq, mSet, mVar, mC, mOp, seqE, optE, mTru, mAnd, mOr, mNot, mIf, mBl, mNil, mCons, mCall, mTup, argsD, dsOf, tupD, mFz, mLst, mRet, mDrop, mNx, mBk, mCt, mFail, mItems, itemsD, mRng, mgName, mgNil, mgCons, mgTup, mAsg, mFor, mNo, mPart, mSl, mB, mSetO, mAppend, mPop, mPkOp, mPkIx, mPkLen, mScrLen, mYes, mPar, mPar3, mParO, mAug, mMtS, mIs, mStar, mFmt, mJs, mAndV, mOrV, mListO, mCatO, mgUnl, truD, pk, List.getElem?_cons_zero, List.getElem?_cons_succ, List.set_cons_zero, List.set_cons_succ, List.length_cons, List.length_nil, Option.map_some, Option.map_none, List.map_cons, List.map_nil, List.cons_append, List.nil_append, List.replicate, Nat.zero_add, Nat.reduceAdd, Nat.reduceSub, Nat.reduceLeDiff, if_true, if_false, Bool.not_true, Bool.not_false, reduceCtorEq, reduceIte, decide_true, decide_false, Bool.false_eq_true, List.isEmpty_cons, List.isEmpty_nil, ixT0, ixT1, ixT2, ixL0, ixL1, ixL2, isD_nn, isD_in, isD_sn, isD_tn, isN_nn, isN_in, isN_sn, isN_tn, Int.cast_ofNat_Int, Int.reduceEq, Int.reduceLT, Int.reduceLE, Bool.and_false, Bool.and_true, Bool.true_and, Bool.false_and, Bool.or_false, Bool.or_true, Bool.true_or, Bool.false_or, ne_tup, c, strN, hs] <;> rfl)
    · rw [if_neg c]
      have hs := addS_S (a := epS false p.ep) (b := nsS (bas p.ns)) (sh_le (by simp only [List.length_append]; omega))
      have hl := lc_nums w (some (.d (.tuple [.int (p.ep : Int), .tuple (intsD (bas p.ns)), .tuple (intsD (tailK p.fo p.po p.dv))]))) (some (.d (.int (p.ep : Int)))) (some (.d (.tuple (intsD (bas p.ns))))) (some (.d (.tuple (intsD (tailK p.fo p.po p.dv))))) (some (.d (foD p.fo))) (some (.d (onD p.po))) (some (.d (onD p.dv))) (some (.d (.str (S (epS false p.ep))))) (bas p.ns) [] fun n hn => h.sm n (bas_mem hn)
      have hj : joinD (.str (S [46])) [.list (numsS (bas p.ns))] = some (.str (S (nsS (bas p.ns)))) := join_num (ns := bas p.ns) (fun n hn => h.sm n (bas_mem hn)) (by omega)
      have hb : (bas p.ns).isEmpty = false := by
        cases q : bas p.ns with
        | nil => exact absurd q c
        | cons _ _ => rfl
      have hw : ∀ a b c d e f g h' i : Option SD, wipeE [a, b, c, d, e, f, g, h', i] [8] = [a, b, c, d, e, f, g, h', none] := fun _ _ _ _ _ _ _ _ _ => rfl
      have hr : ∀ a b c d e f g h' : Option SD, rst [a, b, c, d, e, f, g, h', none] [a, b, c, d, e, f, g, h', none] [8] = [a, b, c, d, e, f, g, h', none] := fun _ _ _ _ _ _ _ _ => rfl
      rw [List.nil_append] at hl
      (simp only [mSeq, mSet, mVar, mC, mOp, seqE, optE, mTru, mAnd, mOr, mNot, mIf, mBl, mNil, mCons, mCall, mTup, argsD, dsOf, tupD, mFz, mLst, mRet, mDrop, mNx, mBk, mCt, mFail, mItems, itemsD, mRng, mgName, mgNil, mgCons, mgTup, mAsg, mFor, mNo, mPart, mSl, mB, mSetO, mAppend, mPop, mPkOp, mPkIx, mPkLen, mScrLen, mYes, mPar, mPar3, mParO, mAug, mMtS, mIs, mStar, mFmt, mJs, mAndV, mOrV, mListO, mCatO, mgUnl, truD, pk, List.getElem?_cons_zero, List.getElem?_cons_succ, List.set_cons_zero, List.set_cons_succ, List.length_cons, List.length_nil, Option.map_some, Option.map_none, List.map_cons, List.map_nil, List.cons_append, List.nil_append, List.replicate, Nat.zero_add, Nat.reduceAdd, Nat.reduceSub, Nat.reduceLeDiff, if_true, if_false, Bool.not_true, Bool.not_false, reduceCtorEq, reduceIte, decide_true, decide_false, Bool.false_eq_true, List.isEmpty_cons, List.isEmpty_nil, ixT0, ixT1, ixT2, ixL0, ixL1, ixL2, isD_nn, isD_in, isD_sn, isD_tn, isN_nn, isN_in, isN_sn, isN_tn, Int.cast_ofNat_Int, Int.reduceEq, Int.reduceLT, Int.reduceLE, Bool.and_false, Bool.and_true, Bool.true_and, Bool.false_and, Bool.or_false, Bool.or_true, Bool.true_or, Bool.false_or, ne_tup, hb, strDot, mLc, hw, hl, hr, hj, hs] <;> rfl)
  -- what stands behind
  unfold prB
  have Ln : (nsS (nrm p).ns).length ≤ 1501 := by
    rw [hnsS]
    split
    · simp
    · omega
  generalize hA : nsS (nrm p).ns = A at Ln ⊢
  show ∃ e, _ = some (Fl.rt (SD.d (.str (S (epS false p.ep ++ (A ++ (foS p.fo ++ (poS p.po ++ dvS p.dv))))))), e, w)
  refine ex_nx (e1 := [some (.d (.tuple [.int (p.ep : Int), .tuple (intsD (bas p.ns)), .tuple (intsD (tailK p.fo p.po p.dv))])), some (.d (.int (p.ep : Int))), some (.d (.tuple (intsD (bas p.ns)))), some (.d (.tuple (intsD (tailK p.fo p.po p.dv)))), some (.d (foD p.fo)), some (.d (onD p.po)), some (.d (onD p.dv)), some (.d (.str (S (epS false p.ep ++ (A ++ foS p.fo))))), none]) (w1 := w) ?_ ?_
  · cases hf : p.fo with
    | none => (simp only [mSeq, mSet, mVar, mC, mOp, seqE, optE, mTru, mAnd, mOr, mNot, mIf, mBl, mNil, mCons, mCall, mTup, argsD, dsOf, tupD, mFz, mLst, mRet, mDrop, mNx, mBk, mCt, mFail, mItems, itemsD, mRng, mgName, mgNil, mgCons, mgTup, mAsg, mFor, mNo, mPart, mSl, mB, mSetO, mAppend, mPop, mPkOp, mPkIx, mPkLen, mScrLen, mYes, mPar, mPar3, mParO, mAug, mMtS, mIs, mStar, mFmt, mJs, mAndV, mOrV, mListO, mCatO, mgUnl, truD, pk, List.getElem?_cons_zero, List.getElem?_cons_succ, List.set_cons_zero, List.set_cons_succ, List.length_cons, List.length_nil, Option.map_some, Option.map_none, List.map_cons, List.map_nil, List.cons_append, List.nil_append, List.replicate, Nat.zero_add, Nat.reduceAdd, Nat.reduceSub, Nat.reduceLeDiff, if_true, if_false, Bool.not_true, Bool.not_false, reduceCtorEq, reduceIte, decide_true, decide_false, Bool.false_eq_true, List.isEmpty_cons, List.isEmpty_nil, ixT0, ixT1, ixT2, ixL0, ixL1, ixL2, isD_nn, isD_in, isD_sn, isD_tn, isN_nn, isN_in, isN_sn, isN_tn, Int.cast_ofNat_Int, Int.reduceEq, Int.reduceLT, Int.reduceLE, Bool.and_false, Bool.and_true, Bool.true_and, Bool.false_and, Bool.or_false, Bool.or_true, Bool.true_or, Bool.false_or, foD, foS, List.append_nil] <;> rfl)
    | some z =>
      obtain ⟨x, n⟩ := z
      have hw := h.fo x n hf
      rw [hf] at L3
      have l1 := ws_len hw.1
      have l2 := num24 hw.2
      have f1 := fmtD_S (sh_le (l := x) (by omega))
      have f2 := fmtD_num hw.2
      have s0 : ([] ++ x).length ≤ 2000 := by simp only [List.nil_append]; omega
      have s1 : ([] ++ x ++ numL n).length ≤ 2000 := by simp only [List.nil_append, List.length_append]; omega
      have hs := addS_S (a := epS false p.ep ++ A) (b := x ++ numL n) (sh_le (by simp only [List.length_append]; omega))
      have hj : ∀ (env : Ev), env[4]? = some (some (.d (.tuple [.str (S x), .int (n : Int)]))) → mJs [(mFmt (mOp ixD (mVar 4) (mC (.int 0)))), (mFmt (mOp ixD (mVar 4) (mC (.int 1))))] Str.empty env w = some (.d (.str (S (x ++ numL n))), env, w) := fun env he => by
        rw [emp_S, js_one (x := x) (by simp only [mFmt, mOp, mC, seqE, mVar, he, ixT0, f1, optE]) (sh_le s0), js_one (x := numL n) (by simp only [mFmt, mOp, mC, seqE, mVar, he, ixT1, f2, optE]) (sh_le s1), js_nil]
        rfl
      have e4 : foD (some (x, n)) = .tuple [.str (S x), .int (n : Int)] := rfl
      rw [e4, if_t (e1 := [some (.d (.tuple [.int (p.ep : Int), .tuple (intsD (bas p.ns)), .tuple (intsD (tailK (some (x, n)) p.po p.dv))])), some (.d (.int (p.ep : Int))), some (.d (.tuple (intsD (bas p.ns)))), some (.d (.tuple (intsD (tailK (some (x, n)) p.po p.dv)))), some (.d (.tuple [.str (S x), .int (n : Int)])), some (.d (onD p.po)), some (.d (onD p.dv)), some (.d (.str (S (epS false p.ep ++ A)))), none]) (w1 := w) (by (simp only [mSeq, mSet, mVar, mC, mOp, seqE, optE, mTru, mAnd, mOr, mNot, mIf, mBl, mNil, mCons, mCall, mTup, argsD, dsOf, tupD, mFz, mLst, mRet, mDrop, mNx, mBk, mCt, mFail, mItems, itemsD, mRng, mgName, mgNil, mgCons, mgTup, mAsg, mFor, mNo, mPart, mSl, mB, mSetO, mAppend, mPop, mPkOp, mPkIx, mPkLen, mScrLen, mYes, mPar, mPar3, mParO, mAug, mMtS, mIs, mStar, mFmt, mJs, mAndV, mOrV, mListO, mCatO, mgUnl, truD, pk, List.getElem?_cons_zero, List.getElem?_cons_succ, List.set_cons_zero, List.set_cons_succ, List.length_cons, List.length_nil, Option.map_some, Option.map_none, List.map_cons, List.map_nil, List.cons_append, List.nil_append, List.replicate, Nat.zero_add, Nat.reduceAdd, Nat.reduceSub, Nat.reduceLeDiff, if_true, if_false, Bool.not_true, Bool.not_false, reduceCtorEq, reduceIte, decide_true, decide_false, Bool.false_eq_true, List.isEmpty_cons, List.isEmpty_nil, ixT0, ixT1, ixT2, ixL0, ixL1, ixL2, isD_nn, isD_in, isD_sn, isD_tn, isN_nn, isN_in, isN_sn, isN_tn, Int.cast_ofNat_Int, Int.reduceEq, Int.reduceLT, Int.reduceLE, Bool.and_false, Bool.and_true, Bool.true_and, Bool.false_and, Bool.or_false, Bool.or_true, Bool.true_or, Bool.false_or] <;> rfl))]
      refine (aug_ok rfl (hj _ rfl) hs).trans ?_
      simp only [foS, List.append_assoc]
      rfl
  refine ex_nx (e1 := [some (.d (.tuple [.int (p.ep : Int), .tuple (intsD (bas p.ns)), .tuple (intsD (tailK p.fo p.po p.dv))])), some (.d (.int (p.ep : Int))), some (.d (.tuple (intsD (bas p.ns)))), some (.d (.tuple (intsD (tailK p.fo p.po p.dv)))), some (.d (foD p.fo)), some (.d (onD p.po)), some (.d (onD p.dv)), some (.d (.str (S (epS false p.ep ++ (A ++ (foS p.fo ++ poS p.po)))))), none]) (w1 := w) ?_ ?_
  · cases hf : p.po with
    | none => (simp only [mSeq, mSet, mVar, mC, mOp, seqE, optE, mTru, mAnd, mOr, mNot, mIf, mBl, mNil, mCons, mCall, mTup, argsD, dsOf, tupD, mFz, mLst, mRet, mDrop, mNx, mBk, mCt, mFail, mItems, itemsD, mRng, mgName, mgNil, mgCons, mgTup, mAsg, mFor, mNo, mPart, mSl, mB, mSetO, mAppend, mPop, mPkOp, mPkIx, mPkLen, mScrLen, mYes, mPar, mPar3, mParO, mAug, mMtS, mIs, mStar, mFmt, mJs, mAndV, mOrV, mListO, mCatO, mgUnl, truD, pk, List.getElem?_cons_zero, List.getElem?_cons_succ, List.set_cons_zero, List.set_cons_succ, List.length_cons, List.length_nil, Option.map_some, Option.map_none, List.map_cons, List.map_nil, List.cons_append, List.nil_append, List.replicate, Nat.zero_add, Nat.reduceAdd, Nat.reduceSub, Nat.reduceLeDiff, if_true, if_false, Bool.not_true, Bool.not_false, reduceCtorEq, reduceIte, decide_true, decide_false, Bool.false_eq_true, List.isEmpty_cons, List.isEmpty_nil, ixT0, ixT1, ixT2, ixL0, ixL1, ixL2, isD_nn, isD_in, isD_sn, isD_tn, isN_nn, isN_in, isN_sn, isN_tn, Int.cast_ofNat_Int, Int.reduceEq, Int.reduceLT, Int.reduceLE, Bool.and_false, Bool.and_true, Bool.true_and, Bool.false_and, Bool.or_false, Bool.or_true, Bool.true_or, Bool.false_or, onD, poS, List.append_nil] <;> rfl)
    | some n =>
      have hw := h.po n hf
      rw [hf] at L4
      have l2 := num24 hw
      have f1 := fmtD_S (sh_le (l := POSTS) (by decide))
      have f2 := fmtD_num hw
      have s0 : ([] ++ POSTS).length ≤ 2000 := by decide
      have s1 : ([] ++ POSTS ++ numL n).length ≤ 2000 := by
        have : POSTS.length = 5 := rfl
        simp only [List.nil_append, List.length_append]; omega
      have hs := addS_S (a := epS false p.ep ++ (A ++ foS p.fo)) (b := POSTS ++ numL n) (sh_le (by have : POSTS.length = 5 := rfl; simp only [List.length_append]; omega))
      have hj : ∀ (env : Ev), env[5]? = some (some (.d (.int (n : Int)))) → mJs [(mFmt (mC (.str ".post"))), (mFmt (mVar 5))] Str.empty env w = some (.d (.str (S (POSTS ++ numL n))), env, w) := fun env he => by
        rw [emp_S, post_data, js_one (x := POSTS) (by simp only [mFmt, mC, seqE, f1, optE]) (sh_le s0), js_one (x := numL n) (by simp only [mFmt, seqE, mVar, he, f2, optE]) (sh_le s1), js_nil]
        rfl
      have e4 : onD (some n) = .int (n : Int) := rfl
      rw [e4, if_t (e1 := [some (.d (.tuple [.int (p.ep : Int), .tuple (intsD (bas p.ns)), .tuple (intsD (tailK p.fo (some n) p.dv))])), some (.d (.int (p.ep : Int))), some (.d (.tuple (intsD (bas p.ns)))), some (.d (.tuple (intsD (tailK p.fo (some n) p.dv)))), some (.d (foD p.fo)), some (.d (.int (n : Int))), some (.d (onD p.dv)), some (.d (.str (S (epS false p.ep ++ (A ++ foS p.fo))))), none]) (w1 := w) (by (simp only [mSeq, mSet, mVar, mC, mOp, seqE, optE, mTru, mAnd, mOr, mNot, mIf, mBl, mNil, mCons, mCall, mTup, argsD, dsOf, tupD, mFz, mLst, mRet, mDrop, mNx, mBk, mCt, mFail, mItems, itemsD, mRng, mgName, mgNil, mgCons, mgTup, mAsg, mFor, mNo, mPart, mSl, mB, mSetO, mAppend, mPop, mPkOp, mPkIx, mPkLen, mScrLen, mYes, mPar, mPar3, mParO, mAug, mMtS, mIs, mStar, mFmt, mJs, mAndV, mOrV, mListO, mCatO, mgUnl, truD, pk, List.getElem?_cons_zero, List.getElem?_cons_succ, List.set_cons_zero, List.set_cons_succ, List.length_cons, List.length_nil, Option.map_some, Option.map_none, List.map_cons, List.map_nil, List.cons_append, List.nil_append, List.replicate, Nat.zero_add, Nat.reduceAdd, Nat.reduceSub, Nat.reduceLeDiff, if_true, if_false, Bool.not_true, Bool.not_false, reduceCtorEq, reduceIte, decide_true, decide_false, Bool.false_eq_true, List.isEmpty_cons, List.isEmpty_nil, ixT0, ixT1, ixT2, ixL0, ixL1, ixL2, isD_nn, isD_in, isD_sn, isD_tn, isN_nn, isN_in, isN_sn, isN_tn, Int.cast_ofNat_Int, Int.reduceEq, Int.reduceLT, Int.reduceLE, Bool.and_false, Bool.and_true, Bool.true_and, Bool.false_and, Bool.or_false, Bool.or_true, Bool.true_or, Bool.false_or] <;> rfl))]
      refine (aug_ok rfl (hj _ rfl) hs).trans ?_
      simp only [poS, List.append_assoc]
      rfl
  cases hf : p.dv with
  | none => exact ⟨_, by (simp only [mSeq, mSet, mVar, mC, mOp, seqE, optE, mTru, mAnd, mOr, mNot, mIf, mBl, mNil, mCons, mCall, mTup, argsD, dsOf, tupD, mFz, mLst, mRet, mDrop, mNx, mBk, mCt, mFail, mItems, itemsD, mRng, mgName, mgNil, mgCons, mgTup, mAsg, mFor, mNo, mPart, mSl, mB, mSetO, mAppend, mPop, mPkOp, mPkIx, mPkLen, mScrLen, mYes, mPar, mPar3, mParO, mAug, mMtS, mIs, mStar, mFmt, mJs, mAndV, mOrV, mListO, mCatO, mgUnl, truD, pk, List.getElem?_cons_zero, List.getElem?_cons_succ, List.set_cons_zero, List.set_cons_succ, List.length_cons, List.length_nil, Option.map_some, Option.map_none, List.map_cons, List.map_nil, List.cons_append, List.nil_append, List.replicate, Nat.zero_add, Nat.reduceAdd, Nat.reduceSub, Nat.reduceLeDiff, if_true, if_false, Bool.not_true, Bool.not_false, reduceCtorEq, reduceIte, decide_true, decide_false, Bool.false_eq_true, List.isEmpty_cons, List.isEmpty_nil, ixT0, ixT1, ixT2, ixL0, ixL1, ixL2, isD_nn, isD_in, isD_sn, isD_tn, isN_nn, isN_in, isN_sn, isN_tn, Int.cast_ofNat_Int, Int.reduceEq, Int.reduceLT, Int.reduceLE, Bool.and_false, Bool.and_true, Bool.true_and, Bool.false_and, Bool.or_false, Bool.or_true, Bool.true_or, Bool.false_or, onD, dvS, List.append_nil] <;> rfl)⟩
  | some n =>
    have hw := h.dv n hf
    rw [hf] at L5
    have l2 := num24 hw
    have lA : (epS false p.ep ++ (A ++ (foS p.fo ++ poS p.po))).length ≤ 1600 := by simp only [List.length_append]; omega
    have f0 := fmtD_S (sh_le (l := epS false p.ep ++ (A ++ (foS p.fo ++ poS p.po))) (by omega))
    have f1 := fmtD_S (sh_le (l := DEVS) (by decide))
    have f2 := fmtD_num hw
    have l4 : DEVS.length = 4 := rfl
    have hj : ∀ (env : Ev), env[7]? = some (some (.d (.str (S (epS false p.ep ++ (A ++ (foS p.fo ++ poS p.po))))))) → env[6]? = some (some (.d (.int (n : Int)))) →
        mJs [(mFmt (mVar 7)), (mFmt (mC (.str ".dev"))), (mFmt (mVar 6))] Str.empty env w = some (.d (.str (S (epS false p.ep ++ (A ++ (foS p.fo ++ poS p.po)) ++ DEVS ++ numL n))), env, w) := fun env he he2 => by
      rw [emp_S, dev_data, js_one (x := epS false p.ep ++ (A ++ (foS p.fo ++ poS p.po))) (by simp only [mFmt, mVar, he, seqE, f0, optE]) (sh_le (by rw [List.nil_append]; omega)), js_one (x := DEVS) (by simp only [mFmt, mC, seqE, f1, optE]) (sh_le (by rw [List.nil_append, List.length_append]; omega)), js_one (x := numL n) (by simp only [mFmt, seqE, mVar, he2, f2, optE]) (sh_le (by rw [List.nil_append, List.length_append, List.length_append]; omega)), js_nil]
      rfl
    have e4 : onD (some n) = .int (n : Int) := rfl
    have et : epS false p.ep ++ (A ++ (foS p.fo ++ (poS p.po ++ dvS (some n)))) = epS false p.ep ++ (A ++ (foS p.fo ++ poS p.po)) ++ DEVS ++ numL n := by simp only [dvS, List.append_assoc]
    rw [e4, et]
    exact ⟨_, ret_ok ((if_f (e1 := [some (.d (.tuple [.int (p.ep : Int), .tuple (intsD (bas p.ns)), .tuple (intsD (tailK p.fo p.po (some n)))])), some (.d (.int (p.ep : Int))), some (.d (.tuple (intsD (bas p.ns)))), some (.d (.tuple (intsD (tailK p.fo p.po (some n))))), some (.d (foD p.fo)), some (.d (onD p.po)), some (.d (.int (n : Int))), some (.d (.str (S (epS false p.ep ++ (A ++ (foS p.fo ++ poS p.po)))))), none]) (w1 := w) (by (simp only [mSeq, mSet, mVar, mC, mOp, seqE, optE, mTru, mAnd, mOr, mNot, mIf, mBl, mNil, mCons, mCall, mTup, argsD, dsOf, tupD, mFz, mLst, mRet, mDrop, mNx, mBk, mCt, mFail, mItems, itemsD, mRng, mgName, mgNil, mgCons, mgTup, mAsg, mFor, mNo, mPart, mSl, mB, mSetO, mAppend, mPop, mPkOp, mPkIx, mPkLen, mScrLen, mYes, mPar, mPar3, mParO, mAug, mMtS, mIs, mStar, mFmt, mJs, mAndV, mOrV, mListO, mCatO, mgUnl, truD, pk, List.getElem?_cons_zero, List.getElem?_cons_succ, List.set_cons_zero, List.set_cons_succ, List.length_cons, List.length_nil, Option.map_some, Option.map_none, List.map_cons, List.map_nil, List.cons_append, List.nil_append, List.replicate, Nat.zero_add, Nat.reduceAdd, Nat.reduceSub, Nat.reduceLeDiff, if_true, if_false, Bool.not_true, Bool.not_false, reduceCtorEq, reduceIte, decide_true, decide_false, Bool.false_eq_true, List.isEmpty_cons, List.isEmpty_nil, ixT0, ixT1, ixT2, ixL0, ixL1, ixL2, isD_nn, isD_in, isD_sn, isD_tn, isN_nn, isN_in, isN_sn, isN_tn, Int.cast_ofNat_Int, Int.reduceEq, Int.reduceLT, Int.reduceLE, Bool.and_false, Bool.and_true, Bool.true_and, Bool.false_and, Bool.or_false, Bool.or_true, Bool.true_or, Bool.false_or] <;> rfl))).trans (hj _ rfl rfl))⟩

/-! ### need_key, is_version, plainest, order -/
theorem run_need {l : List Nat} (hl : Sh l) {p : Pt} (h : p.Wf) (e : partsR l = some p) (w : W) : m_need_key [.d (.str (S l))] w = some (.d (keyD p), w) := by
  refine fn_ex rfl ?_
  unfold b_need_key
  have h1 := run_parts hl w
  rw [e] at h1
  have h1' : m_parts_of [.d (.str (S l))] w = some (.d (ptD p), w) := h1
  have h2 := run_key h w
  have h3 : isD (ptD p) .none = some (.bool false) := rfl
  refine ex_nx (by (simp only [mSeq, mSet, mVar, mC, mOp, seqE, optE, mTru, mAnd, mOr, mNot, mIf, mBl, mNil, mCons, mCall, mTup, argsD, dsOf, tupD, mFz, mLst, mRet, mDrop, mNx, mBk, mCt, mFail, mItems, itemsD, mRng, mgName, mgNil, mgCons, mgTup, mAsg, mFor, mNo, mPart, mSl, mB, mSetO, mAppend, mPop, mPkOp, mPkIx, mPkLen, mScrLen, mYes, mPar, mPar3, mParO, mAug, mMtS, mIs, mStar, mFmt, mJs, mAndV, mOrV, mListO, mCatO, mgUnl, truD, pk, List.getElem?_cons_zero, List.getElem?_cons_succ, List.set_cons_zero, List.set_cons_succ, List.length_cons, List.length_nil, Option.map_some, Option.map_none, List.map_cons, List.map_nil, List.cons_append, List.nil_append, List.replicate, Nat.zero_add, Nat.reduceAdd, Nat.reduceSub, Nat.reduceLeDiff, if_true, if_false, Bool.not_true, Bool.not_false, reduceCtorEq, reduceIte, decide_true, decide_false, Bool.false_eq_true, List.isEmpty_cons, List.isEmpty_nil, ixT0, ixT1, ixT2, ixL0, ixL1, ixL2, isD_nn, isD_in, isD_sn, isD_tn, isN_nn, isN_in, isN_sn, isN_tn, Int.cast_ofNat_Int, Int.reduceEq, Int.reduceLT, Int.reduceLE, Bool.and_false, Bool.and_true, Bool.true_and, Bool.false_and, Bool.or_false, Bool.or_true, Bool.true_or, Bool.false_or, h1'] <;> rfl)) ?_
  refine ex_nx (by (simp only [mSeq, mSet, mVar, mC, mOp, seqE, optE, mTru, mAnd, mOr, mNot, mIf, mBl, mNil, mCons, mCall, mTup, argsD, dsOf, tupD, mFz, mLst, mRet, mDrop, mNx, mBk, mCt, mFail, mItems, itemsD, mRng, mgName, mgNil, mgCons, mgTup, mAsg, mFor, mNo, mPart, mSl, mB, mSetO, mAppend, mPop, mPkOp, mPkIx, mPkLen, mScrLen, mYes, mPar, mPar3, mParO, mAug, mMtS, mIs, mStar, mFmt, mJs, mAndV, mOrV, mListO, mCatO, mgUnl, truD, pk, List.getElem?_cons_zero, List.getElem?_cons_succ, List.set_cons_zero, List.set_cons_succ, List.length_cons, List.length_nil, Option.map_some, Option.map_none, List.map_cons, List.map_nil, List.cons_append, List.nil_append, List.replicate, Nat.zero_add, Nat.reduceAdd, Nat.reduceSub, Nat.reduceLeDiff, if_true, if_false, Bool.not_true, Bool.not_false, reduceCtorEq, reduceIte, decide_true, decide_false, Bool.false_eq_true, List.isEmpty_cons, List.isEmpty_nil, ixT0, ixT1, ixT2, ixL0, ixL1, ixL2, isD_nn, isD_in, isD_sn, isD_tn, isN_nn, isN_in, isN_sn, isN_tn, Int.cast_ofNat_Int, Int.reduceEq, Int.reduceLT, Int.reduceLE, Bool.and_false, Bool.and_true, Bool.true_and, Bool.false_and, Bool.or_false, Bool.or_true, Bool.true_or, Bool.false_or, h3] <;> rfl)) ?_
  exact ⟨_, by (simp only [mSeq, mSet, mVar, mC, mOp, seqE, optE, mTru, mAnd, mOr, mNot, mIf, mBl, mNil, mCons, mCall, mTup, argsD, dsOf, tupD, mFz, mLst, mRet, mDrop, mNx, mBk, mCt, mFail, mItems, itemsD, mRng, mgName, mgNil, mgCons, mgTup, mAsg, mFor, mNo, mPart, mSl, mB, mSetO, mAppend, mPop, mPkOp, mPkIx, mPkLen, mScrLen, mYes, mPar, mPar3, mParO, mAug, mMtS, mIs, mStar, mFmt, mJs, mAndV, mOrV, mListO, mCatO, mgUnl, truD, pk, List.getElem?_cons_zero, List.getElem?_cons_succ, List.set_cons_zero, List.set_cons_succ, List.length_cons, List.length_nil, Option.map_some, Option.map_none, List.map_cons, List.map_nil, List.cons_append, List.nil_append, List.replicate, Nat.zero_add, Nat.reduceAdd, Nat.reduceSub, Nat.reduceLeDiff, if_true, if_false, Bool.not_true, Bool.not_false, reduceCtorEq, reduceIte, decide_true, decide_false, Bool.false_eq_true, List.isEmpty_cons, List.isEmpty_nil, ixT0, ixT1, ixT2, ixL0, ixL1, ixL2, isD_nn, isD_in, isD_sn, isD_tn, isN_nn, isN_in, isN_sn, isN_tn, Int.cast_ofNat_Int, Int.reduceEq, Int.reduceLT, Int.reduceLE, Bool.and_false, Bool.and_true, Bool.true_and, Bool.false_and, Bool.or_false, Bool.or_true, Bool.true_or, Bool.false_or, h2] <;> rfl)⟩
theorem run_isv {l : List Nat} (hl : Sh l) {p : Pt} (e : partsR l = some p) (w : W) : m_is_version [.d (.str (S l))] w = some (.d (.bool true), w) := by
  refine fn_ex rfl ?_
  unfold b_is_version
  have h1 := run_parts hl w
  rw [e] at h1
  have h1' : m_parts_of [.d (.str (S l))] w = some (.d (ptD p), w) := h1
  have h3 : isNotD (ptD p) .none = some (.bool true) := rfl
  exact ⟨_, by (simp only [mSeq, mSet, mVar, mC, mOp, seqE, optE, mTru, mAnd, mOr, mNot, mIf, mBl, mNil, mCons, mCall, mTup, argsD, dsOf, tupD, mFz, mLst, mRet, mDrop, mNx, mBk, mCt, mFail, mItems, itemsD, mRng, mgName, mgNil, mgCons, mgTup, mAsg, mFor, mNo, mPart, mSl, mB, mSetO, mAppend, mPop, mPkOp, mPkIx, mPkLen, mScrLen, mYes, mPar, mPar3, mParO, mAug, mMtS, mIs, mStar, mFmt, mJs, mAndV, mOrV, mListO, mCatO, mgUnl, truD, pk, List.getElem?_cons_zero, List.getElem?_cons_succ, List.set_cons_zero, List.set_cons_succ, List.length_cons, List.length_nil, Option.map_some, Option.map_none, List.map_cons, List.map_nil, List.cons_append, List.nil_append, List.replicate, Nat.zero_add, Nat.reduceAdd, Nat.reduceSub, Nat.reduceLeDiff, if_true, if_false, Bool.not_true, Bool.not_false, reduceCtorEq, reduceIte, decide_true, decide_false, Bool.false_eq_true, List.isEmpty_cons, List.isEmpty_nil, ixT0, ixT1, ixT2, ixL0, ixL1, ixL2, isD_nn, isD_in, isD_sn, isD_tn, isN_nn, isN_in, isN_sn, isN_tn, Int.cast_ofNat_Int, Int.reduceEq, Int.reduceLT, Int.reduceLE, Bool.and_false, Bool.and_true, Bool.true_and, Bool.false_and, Bool.or_false, Bool.or_true, Bool.true_or, Bool.false_or, h1', h3] <;> rfl)⟩
theorem run_plain {l : List Nat} (hl : Sh l) {p : Pt} (h : p.Wf) (e : partsR l = some p) (w : W) : m_plainest [.d (.str (S l))] w = some (.d (.str (S (prB false (nrm p)))), w) := by
  refine fn_ex rfl ?_
  unfold b_plainest
  have h1 := run_need hl h e w
  have h2 := run_text h w
  exact ⟨_, by (simp only [mSeq, mSet, mVar, mC, mOp, seqE, optE, mTru, mAnd, mOr, mNot, mIf, mBl, mNil, mCons, mCall, mTup, argsD, dsOf, tupD, mFz, mLst, mRet, mDrop, mNx, mBk, mCt, mFail, mItems, itemsD, mRng, mgName, mgNil, mgCons, mgTup, mAsg, mFor, mNo, mPart, mSl, mB, mSetO, mAppend, mPop, mPkOp, mPkIx, mPkLen, mScrLen, mYes, mPar, mPar3, mParO, mAug, mMtS, mIs, mStar, mFmt, mJs, mAndV, mOrV, mListO, mCatO, mgUnl, truD, pk, List.getElem?_cons_zero, List.getElem?_cons_succ, List.set_cons_zero, List.set_cons_succ, List.length_cons, List.length_nil, Option.map_some, Option.map_none, List.map_cons, List.map_nil, List.cons_append, List.nil_append, List.replicate, Nat.zero_add, Nat.reduceAdd, Nat.reduceSub, Nat.reduceLeDiff, if_true, if_false, Bool.not_true, Bool.not_false, reduceCtorEq, reduceIte, decide_true, decide_false, Bool.false_eq_true, List.isEmpty_cons, List.isEmpty_nil, ixT0, ixT1, ixT2, ixL0, ixL1, ixL2, isD_nn, isD_in, isD_sn, isD_tn, isN_nn, isN_in, isN_sn, isN_tn, Int.cast_ofNat_Int, Int.reduceEq, Int.reduceLT, Int.reduceLE, Bool.and_false, Bool.and_true, Bool.true_and, Bool.false_and, Bool.or_false, Bool.or_true, Bool.true_or, Bool.false_or, h1, h2] <;> rfl)⟩
end Dn

set_option maxHeartbeats 4000000
namespace Dn
open PySem PySem.Spec PyProof.Rows L2 SX
open TL (numL pre joinL)

/-! ### reading what was printed -/
/-- no figure comes first -/
def NoFig (r : List Nat) : Prop := ∀ c, r.head? = some c → dig c = false
theorem noFig_nil : NoFig [] := fun c h => by simp at h
theorem noFig_cons {c : Nat} {r : List Nat} (h : dig c = false) : NoFig (c :: r) := fun d e => by
  simp at e
  subst e
  exact h
theorem numL_dig (n : Nat) : ∀ c ∈ numL n, dig c = true := fun c hc => by
  have := TL.numL_digits n c hc
  unfold dig
  simpa using this
theorem tw_all {p : Nat → Bool} : ∀ {a r : List Nat}, (∀ c ∈ a, p c = true) → (∀ c, r.head? = some c → p c = false) → (a ++ r).takeWhile p = a
  | [], r, _, h => by
    rw [List.nil_append]
    cases r with
    | nil => rfl
    | cons c r => rw [List.takeWhile_cons, h c rfl]; rfl
  | x :: a, r, ha, h => by
    rw [List.cons_append, List.takeWhile_cons, ha x (by simp), if_pos rfl, tw_all (fun c hc => ha c (by simp [hc])) h]
theorem numL_head : ∀ (n : Nat), n ≠ 0 → (numL n).head? ≠ some 48 := by
  intro n
  induction n using Nat.strongRecOn with
  | ind n ih =>
    intro hn
    by_cases h : n < 10
    · rw [TL.numL_lt h]
      simp
      omega
    · have h1 := ih (n / 10) (by omega) (by omega)
      rw [TL.numL_step (by omega)]
      cases q : numL (n / 10) with
      | nil => exact absurd q (TL.numL_ne _)
      | cons c r =>
        rw [q] at h1
        exact h1
theorem numR_print {n : Nat} (h : Sm n) {r : List Nat} (hr : NoFig r) : numR (numL n ++ r) = some (n, (numL n).length) := by
  unfold numR
  rw [tw_all (numL_dig n) hr, TL.numL_val, if_neg]
  have h1 := num24 h
  rintro (z | z | z)
  · exact TL.numL_ne n z
  · omega
  · by_cases hn : n = 0
    · subst hn
      exact z.2 (TL.numL_lt (n := 0) (by decide))
    · exact numL_head n hn z.1
theorem drop_app (a b : List Nat) : (a ++ b).drop a.length = b := List.drop_left
theorem noFig_dot (r : List Nat) : NoFig (46 :: r) := noFig_cons (by decide)
theorem numL_cons (n : Nat) : ∃ c r, numL n = c :: r ∧ dig c = true := by
  cases q : numL n with
  | nil => exact absurd q (TL.numL_ne n)
  | cons c r => exact ⟨c, r, rfl, numL_dig n c (by rw [q]; simp)⟩
theorem nsS_cons (n m : Nat) (ns : List Nat) : nsS (n :: m :: ns) = numL n ++ (46 :: nsS (m :: ns)) := rfl
theorem nsS_one (n : Nat) : nsS [n] = numL n := rfl
theorem nsS_head (n : Nat) (ns : List Nat) : ∃ c r, nsS (n :: ns) = c :: r ∧ dig c = true := by
  obtain ⟨c, r, e, h⟩ := numL_cons n
  cases ns with
  | nil => exact ⟨c, r, by rw [nsS_one, e], h⟩
  | cons m ns => exact ⟨c, r ++ (46 :: nsS (m :: ns)), by rw [nsS_cons, e]; rfl, h⟩
theorem numsR_print : ∀ (ns : List Nat) {f : Nat} {r : List Nat}, ns ≠ [] → (∀ n ∈ ns, Sm n) → ns.length ≤ f → NoFig r → nxt r = false → numsR f (nsS ns ++ r) = some (ns, (nsS ns).length)
  | [], _, _, h, _, _, _, _ => absurd rfl h
  | [n], 0, _, _, _, hf, _, _ => by simp at hf
  | [n], f + 1, r, _, hs, _, hr, hx => by
    unfold numsR
    rw [nsS_one, numR_print (hs n (by simp)) hr]
    dsimp only
    rw [drop_app, hx]
    rfl
  | n :: m :: ns, 0, _, _, _, hf, _, _ => by simp at hf
  | n :: m :: ns, f + 1, r, _, hs, hf, hr, hx => by
    have ih := numsR_print (m :: ns) (f := f) (r := r) (by simp) (fun k hk => hs k (List.mem_cons_of_mem _ hk)) (by simp at hf ⊢; omega) hr hx
    unfold numsR
    rw [nsS_cons, List.append_assoc, List.cons_append, numR_print (hs n (by simp)) (noFig_dot _)]
    dsimp only
    obtain ⟨c, q, e, hd⟩ := nsS_head m ns
    have hn : nxt (46 :: (nsS (m :: ns) ++ r)) = true := by
      rw [e]
      exact hd
    have hd1 : (numL n ++ 46 :: (nsS (m :: ns) ++ r)).drop ((numL n).length + 1) = nsS (m :: ns) ++ r := by
      rw [← List.drop_drop, drop_app]
      rfl
    rw [drop_app, hn, if_pos rfl, hd1, ih]
    simp
    omega

/-! ### the tail -/
def Dot0 (r : List Nat) : Prop := r = [] ∨ ∃ q, r = 46 :: q
theorem dot0_fig {r : List Nat} (h : Dot0 r) : NoFig r := by
  rcases h with rfl | ⟨q, rfl⟩
  · exact noFig_nil
  · exact noFig_dot q
theorem poS_dot (po dv : Option Nat) : Dot0 (poS po ++ dvS dv) := by
  cases po with
  | some n => exact .inr ⟨_, rfl⟩
  | none =>
    cases dv with
    | some n => exact .inr ⟨_, rfl⟩
    | none => exact .inl rfl
theorem dvS_dot (dv : Option Nat) : Dot0 (dvS dv) := poS_dot none dv
theorem pre_head {s c : Nat} {S r : List Nat} (h : c ≠ s) : pre (s :: S) (c :: r) = false := TL.pre_of_head S r h
theorem word_fore {fo : Option (List Nat × Nat)} (hf : ∀ x n, fo = some (x, n) → x ∈ WS ∧ Sm n) {r : List Nat} (hr : Dot0 r) : wordR WS (foS fo ++ r) = some (fo, (foS fo).length) := by
  cases fo with
  | none =>
    show wordR WS r = some (none, 0)
    rcases hr with rfl | ⟨q, rfl⟩
    · rfl
    · unfold WS
      simp only [wordR, pre_head (c := 46) (s := 97) (by decide), pre_head (c := 46) (s := 98) (by decide), pre_head (c := 46) (s := 114) (by decide), Bool.false_eq_true, if_false]
  | some q =>
    obtain ⟨x, n⟩ := q
    obtain ⟨h1, h2⟩ := hf x n rfl
    have hn := numR_print h2 (dot0_fig hr)
    unfold WS at h1
    simp only [List.mem_cons, List.not_mem_nil, or_false] at h1
    have key : ∀ y : List Nat, (y ++ (numL n ++ r)).drop y.length = numL n ++ r := fun y => drop_app y _
    rcases h1 with rfl | rfl | rfl
    · show wordR WS ([97] ++ numL n ++ r) = _
      rw [List.append_assoc]
      unfold WS wordR
      rw [TL.pre_self, if_pos rfl, key, hn]
      simp [foS]
      omega
    · show wordR WS ([98] ++ numL n ++ r) = _
      rw [List.append_assoc]
      unfold WS wordR
      rw [show pre [97] ([98] ++ (numL n ++ r)) = false from pre_head (by decide)]
      unfold wordR
      rw [TL.pre_self, if_pos rfl, key, hn]
      simp [foS]
      omega
    · show wordR WS ([114, 99] ++ numL n ++ r) = _
      rw [List.append_assoc]
      unfold WS wordR
      rw [show pre [97] ([114, 99] ++ (numL n ++ r)) = false from pre_head (by decide)]
      unfold wordR
      rw [show pre [98] ([114, 99] ++ (numL n ++ r)) = false from pre_head (by decide)]
      unfold wordR
      rw [TL.pre_self, if_pos rfl, key, hn]
      simp [foS]
      omega
theorem word_one {y : List Nat} {n : Nat} (h : Sm n) {r : List Nat} (hr : Dot0 r) : wordR [y] (y ++ numL n ++ r) = some (some (y, n), (y ++ numL n).length) := by
  have hn := numR_print h (dot0_fig hr)
  rw [List.append_assoc]
  unfold wordR
  rw [TL.pre_self, if_pos rfl, drop_app, hn, List.length_append]
theorem word_post {po : Option Nat} (hp : ∀ n, po = some n → Sm n) (dv : Option Nat) : wordR [POSTS] (poS po ++ dvS dv) = some (po.map fun n => (POSTS, n), (poS po).length) := by
  cases po with
  | some n => exact word_one (hp n rfl) (dvS_dot dv)
  | none =>
    cases dv with
    | none => rfl
    | some d =>
      show wordR [POSTS] (DEVS ++ numL d) = some (none, 0)
      have : pre POSTS (DEVS ++ numL d) = false := by
        unfold POSTS DEVS pre
        simp
      unfold wordR
      rw [this]
      rfl
theorem word_dev {dv : Option Nat} (hp : ∀ n, dv = some n → Sm n) : wordR [DEVS] (dvS dv) = some (dv.map fun n => (DEVS, n), (dvS dv).length) := by
  cases dv with
  | none => rfl
  | some n =>
    have := word_one (y := DEVS) (hp n rfl) (r := []) (.inl rfl)
    rw [List.append_nil] at this
    exact this
theorem tail_print {p : Pt} (h : p.Wf) : tailR (foS p.fo ++ (poS p.po ++ dvS p.dv)) = some (p.fo, p.po, p.dv) := by
  unfold tailR
  rw [word_fore h.fo (poS_dot p.po p.dv)]
  dsimp only
  rw [drop_app, word_post h.po]
  dsimp only
  rw [← List.drop_drop, drop_app, drop_app, word_dev h.dv]
  dsimp only
  rw [if_pos (by simp only [List.length_append]; omega)]
  cases p.po <;> cases p.dv <;> rfl

def tlS (p : Pt) : List Nat := foS p.fo ++ (poS p.po ++ dvS p.dv)
theorem tlS_cases {p : Pt} (h : p.Wf) : tlS p = [] ∨ ∃ c q, tlS p = c :: q ∧ dig c = false ∧ (c = 46 → ∃ d q', q = d :: q' ∧ dig d = false) := by
  unfold tlS
  have hf := h.fo
  cases e : p.fo with
  | some z =>
    obtain ⟨x, n⟩ := z
    have hx := (hf x n e).1
    unfold WS at hx
    simp only [List.mem_cons, List.not_mem_nil, or_false] at hx
    rcases hx with rfl | rfl | rfl
    · exact .inr ⟨97, _, rfl, by decide, fun z => absurd z (by decide)⟩
    · exact .inr ⟨98, _, rfl, by decide, fun z => absurd z (by decide)⟩
    · exact .inr ⟨114, _, rfl, by decide, fun z => absurd z (by decide)⟩
  | none =>
    cases p.po with
    | some n => exact .inr ⟨46, _, rfl, by decide, fun _ => ⟨112, _, rfl, by decide⟩⟩
    | none =>
      cases p.dv with
      | some n => exact .inr ⟨46, _, rfl, by decide, fun _ => ⟨100, _, rfl, by decide⟩⟩
      | none => exact .inl rfl
theorem tlS_fig {p : Pt} (h : p.Wf) : NoFig (tlS p) := by
  rcases tlS_cases h with e | ⟨c, q, e, hc, _⟩
  · rw [e]; exact noFig_nil
  · rw [e]; exact noFig_cons hc
theorem tlS_nxt {p : Pt} (h : p.Wf) : nxt (tlS p) = false := by
  rcases tlS_cases h with e | ⟨c, q, e, hc, hd⟩
  · rw [e]; rfl
  · rw [e]
    unfold nxt
    split
    · rename_i z
      cases z
      obtain ⟨d, q', e', hd'⟩ := hd rfl
      cases e'
      exact hd'
    · rfl
theorem rest_print {p : Pt} (h : p.Wf) : restR p.ep (nsS p.ns ++ tlS p) = some p := by
  have hl : p.ns.length ≤ (nsS p.ns).length := by
    have : ∀ ns : List Nat, ns.length ≤ (nsS ns).length := by
      intro ns
      induction ns with
      | nil => exact Nat.zero_le _
      | cons n ns ih =>
        obtain ⟨c, r, e, _⟩ := numL_cons n
        cases ns with
        | nil => rw [nsS_one, e]; simp
        | cons m ns =>
          rw [nsS_cons, e]
          simp only [List.length_append, List.length_cons] at ih ⊢
          omega
    exact this _
  unfold restR
  rw [numsR_print p.ns h.ne h.sm (by rw [List.length_append]; omega) (tlS_fig h) (tlS_nxt h)]
  dsimp only
  rw [if_pos h.len, drop_app]
  unfold tlS
  rw [tail_print h]
theorem bang_num (n : Nat) : 33 ∉ numL n := TL.numL_free (.inl (by decide))
theorem bang_ns : ∀ ns : List Nat, 33 ∉ nsS ns
  | [] => by simp [nsS, joinL]
  | [n] => bang_num n
  | n :: m :: ns => by
    rw [nsS_cons]
    have h1 := bang_num n
    have h2 := bang_ns (m :: ns)
    simp [h1, h2]
theorem bang_tl {p : Pt} (h : p.Wf) : 33 ∉ tlS p := by
  unfold tlS
  have hf : 33 ∉ foS p.fo := by
    have q := h.fo
    cases e : p.fo with
    | none => simp [foS]
    | some z =>
      obtain ⟨x, n⟩ := z
      have hx := (q x n e).1
      have h1 := bang_num n
      unfold WS at hx
      simp only [List.mem_cons, List.not_mem_nil, or_false] at hx
      rcases hx with rfl | rfl | rfl <;> simp [foS, h1]
  have hp : 33 ∉ poS p.po := by
    cases p.po with
    | none => simp [poS]
    | some n => simp [poS, POSTS, bang_num n]
  have hd : 33 ∉ dvS p.dv := by
    cases p.dv with
    | none => simp [dvS]
    | some n => simp [dvS, DEVS, bang_num n]
  simp [hf, hp, hd]
theorem parts_print (b : Bool) {p : Pt} (h : p.Wf) : partsR (prB b p) = some p := by
  have hb : 33 ∉ nsS p.ns ++ tlS p := by
    have h1 := bang_ns p.ns
    have h2 := bang_tl h
    simp [h1, h2]
  have ep : prB b p = epS b p.ep ++ (nsS p.ns ++ tlS p) := rfl
  rw [ep]
  unfold partsR epS
  by_cases c : p.ep = 0 ∧ b = false
  · rw [if_pos c, List.nil_append, if_neg hb]
    have := rest_print h
    rw [c.1] at this
    exact this
  · rw [if_neg c, if_pos (by simp), List.append_assoc, numR_print h.ep (r := [33] ++ (nsS p.ns ++ tlS p)) (noFig_cons (by decide))]
    dsimp only
    have hg : (numL p.ep ++ ([33] ++ (nsS p.ns ++ tlS p)))[(numL p.ep).length]? = some 33 := by
      rw [List.getElem?_append_right (Nat.le_refl _), Nat.sub_self]
      rfl
    rw [hg, if_pos rfl, ← List.drop_drop, drop_app]
    exact rest_print h
/-- texts of versions are read back -/
theorem print_inj {p q : Pt} {b c : Bool} (hp : p.Wf) (hq : q.Wf) (e : prB b p = prB c q) : p = q := by
  have h1 := parts_print b hp
  rw [e, parts_print c hq] at h1
  cases h1
  rfl

/-! ### normal parts -/
theorem nrm_wf {p : Pt} (h : p.Wf) : (nrm p).Wf := by
  have hl := (bas_pre p.ns).length_le
  have h6 := h.len
  refine ⟨?_, ?_, ?_, h.ep, h.fo, h.po, h.dv⟩
  · unfold nrm
    dsimp only
    split
    · simp
    · assumption
  · unfold nrm
    dsimp only
    split
    · simp
    · omega
  · unfold nrm
    dsimp only
    split
    · intro n hn
      simp at hn
      subst hn
      decide
    · exact fun n hn => h.sm n (bas_mem hn)
theorem snoc_ind {α : Type} {P : List α → Prop} (h0 : P []) (hs : ∀ xs x, P xs → P (xs ++ [x])) (l : List α) : P l := by
  have h : ∀ m : List α, P m.reverse := fun m => by
    induction m with
    | nil => exact h0
    | cons x m ih => rw [List.reverse_cons]; exact hs _ _ ih
  have := h l.reverse
  rwa [List.reverse_reverse] at this
theorem bas_bas (ns : List Nat) : bas (bas ns) = bas ns := by
  have key : ∀ xs : List Nat, bas xs = [] ∨ ∃ ys n, bas xs = ys ++ [n] ∧ n ≠ 0 := by
    refine snoc_ind (.inl rfl) fun ys n ih => ?_
    by_cases hn : n = 0
    · subst hn; rw [bas_zero]; exact ih
    · rw [bas_pos _ hn]; exact .inr ⟨ys, n, rfl, hn⟩
  rcases key ns with e | ⟨ys, n, e, hn⟩
  · rw [e]; rfl
  · rw [e, bas_pos _ hn]
theorem bas_nrm (p : Pt) : bas (nrm p).ns = bas p.ns := by
  unfold nrm
  dsimp only
  split
  · rename_i h
    rw [h]
    rfl
  · exact bas_bas _
theorem nrm_nrm (p : Pt) : nrm (nrm p) = nrm p := by
  have h := bas_nrm p
  unfold nrm at h ⊢
  dsimp only at h ⊢
  rw [h]
theorem key_nrm (p : Pt) : keyD (nrm p) = keyD p := by
  unfold keyD
  rw [bas_nrm]
  rfl
end Dn

set_option maxHeartbeats 4000000
namespace Dn
open PySem PySem.Spec PyProof.Rows L2 SX
open TL (numL pre joinL)

/-! ### partition, rpartition, in -/
theorem pre_one (c : Nat) (l : List Nat) : pre [c] l = true ↔ l.head? = some c := by
  cases l with
  | nil => simp [pre]
  | cons d r => simp [pre]
theorem at_one (l : List Nat) (c i : Nat) : PySem.StrLaws.At (S l) (S [c]) (S l).length i ↔ l[i]? = some c := by
  rw [TL.at_iff (x := S l) (y := S [c]) (by simp) i]
  show pre [c] (l.drop i) = true ↔ _
  rw [pre_one, List.head?_drop]
theorem rpart_none {r : List Nat} (h : 33 ∉ r) : rpart (S r) (S [33]) = (S [], S [], S r) := by
  unfold rpart
  rcases PySem.StrLaws.last_spec (S r) (S [33]) with ⟨e, _⟩ | ⟨i, e, ha, _⟩
  · rw [e]
    rfl
  · rw [at_one] at ha
    exact absurd (List.mem_of_getElem? ha) h
theorem rpart_some {a r : List Nat} (h : 33 ∉ r) : rpart (S (a ++ 33 :: r)) (S [33]) = (S a, S [33], S r) := by
  have hat : (a ++ 33 :: r)[a.length]? = some 33 := by
    rw [List.getElem?_append_right (Nat.le_refl _), Nat.sub_self]
    rfl
  unfold rpart
  rcases PySem.StrLaws.last_spec (S (a ++ 33 :: r)) (S [33]) with ⟨e, hn⟩ | ⟨i, e, ha, hl⟩
  · exact absurd ((at_one _ _ _).mpr hat) (hn a.length)
  · rw [at_one] at ha
    have hi : i = a.length := by
      rcases Nat.lt_trichotomy i a.length with q | q | q
      · exact absurd ((at_one _ _ _).mpr hat) (hl a.length q)
      · exact q
      · rw [List.getElem?_append_right (by omega)] at ha
        obtain ⟨j, hj⟩ : ∃ j, i - a.length = j + 1 := ⟨i - a.length - 1, by omega⟩
        rw [hj, List.getElem?_cons_succ] at ha
        exact absurd (List.mem_of_getElem? ha) h
    rw [e]
    dsimp only
    subst hi
    have e1 : Builtin.Str.strSub (S (a ++ 33 :: r)) 0 a.length = S a := by
      refine TL.ext_tl ?_
      rw [TL.tl_strSub]
      show ((a ++ 33 :: r).drop 0).take (a.length - 0) = a
      rw [List.drop_zero, Nat.sub_zero, List.take_left]
    have e2 : Builtin.Str.strSub (S (a ++ 33 :: r)) (a.length + (S [33]).length) (S (a ++ 33 :: r)).length = S r := by
      refine TL.ext_tl ?_
      rw [TL.tl_strSub_end]
      show (a ++ 33 :: r).drop (a.length + 1) = r
      rw [← List.drop_drop, drop_app]
      rfl
    rw [e1, e2]
theorem rpartD_S {l a m r : List Nat} (hl : Sh l) (h : rpart (S l) (S [33]) = (S a, S m, S r)) : rpartD (.str (S l)) [.str (S [33])] = some (.tuple [.str (S a), .str (S m), .str (S r)]) := by
  unfold rpartD
  dsimp only
  rw [if_pos ⟨rfl, sh_line hl⟩, h]
theorem partD_some {l y a r : List Nat} (hl : Sh l) (hy : y ≠ []) (h : TL.par y [] l = some (a, r)) : partD (.str (S l)) [.str (S y)] = some (.tuple [.str (S a), .str (S y), .str (S r)]) := by
  unfold partD
  dsimp only
  rw [if_pos ⟨by rw [S_len]; cases y with | nil => exact absurd rfl hy | cons _ _ => rfl, sh_line hl⟩, SX.partition_some hy h]
theorem partD_none {l y : List Nat} (hl : Sh l) (hy : y ≠ []) (h : TL.par y [] l = none) : partD (.str (S l)) [.str (S y)] = some (.tuple [.str (S l), .str (S []), .str (S [])]) := by
  unfold partD
  dsimp only
  rw [if_pos ⟨by rw [S_len]; cases y with | nil => exact absurd rfl hy | cons _ _ => rfl, sh_line hl⟩, SX.partition_none hy h]
theorem pre_two {s t : Nat} {Z : List Nat} {l : List Nat} (h : pre (s :: t :: Z) l = true) : ∃ r, l = s :: t :: r := by
  have e := eq_of_beq h
  cases l with
  | nil => simp at e
  | cons a l =>
    cases l with
    | nil => simp at e
    | cons b l =>
      simp only [List.length_cons, List.take_succ_cons, List.cons.injEq] at e
      exact ⟨l, by rw [e.1, e.2.1]⟩
/-- the second sign of sep is not in p -/
theorem free_two {s t : Nat} {Z : List Nat} (hst : t ≠ s) : ∀ {p : List Nat}, t ∉ p → SX.free (s :: t :: Z) p = true
  | [], _ => rfl
  | c :: r, h => by
    have ih := free_two (Z := Z) hst (p := r) fun z => h (List.mem_cons_of_mem _ z)
    unfold SX.free
    rw [ih, Bool.and_true]
    cases q : pre (s :: t :: Z) (c :: (r ++ s :: t :: Z)) with
    | false => rfl
    | true =>
      obtain ⟨r', e⟩ := pre_two q
      cases r with
      | nil =>
        simp at e
        exact absurd e.2.1.symm hst
      | cons d r =>
        simp at e
        exact absurd (by rw [e.2.1]; simp) h
theorem par_two {s t : Nat} {Z p : List Nat} (q : List Nat) (hst : t ≠ s) (h : t ∉ p) : TL.par (s :: t :: Z) [] (p ++ (s :: t :: Z ++ q)) = some (p, q) := SX.par_free q (by simp) (free_two hst h)
theorem par_two_none {s t : Nat} {Z p : List Nat} (h : t ∉ p) : TL.par (s :: t :: Z) [] p = none := by
  refine TL.par_none fun i hi => ?_
  cases q : pre (s :: t :: Z) (p.drop i) with
  | false => rfl
  | true =>
    obtain ⟨r', e⟩ := pre_two q
    have : t ∈ p.drop i := by rw [e]; simp
    exact absurd (List.mem_of_mem_drop this) h
theorem inD_not {c : Nat} {s l : List Nat} (h : c ∉ l) : inD (.str (S (c :: s))) (.str (S l)) = some (.bool false) := by
  unfold inD inS
  rw [Option.map_some]
  refine congrArg some (congrArg PyData.bool ?_)
  cases q : (!(Builtin.Str.occurrences (S l) (S (c :: s)) 0 (S l).length 1).isEmpty) with
  | false => rfl
  | true =>
    obtain ⟨i, h1, h2⟩ := (PySem.StrLaws.found_iff (S l) (S (c :: s))).mp q
    have h3 := (TL.at_iff (x := S l) (y := S (c :: s)) (by simp) i).mp ⟨h1, h2⟩
    have e : (l.drop i).take (c :: s).length = c :: s := eq_of_beq h3
    have : c ∈ (l.drop i).take (c :: s).length := by rw [e]; simp
    exact absurd (List.mem_of_mem_drop (List.mem_of_mem_take this)) h
theorem inD_yes {x p q : List Nat} (hx : x ≠ []) : inD (.str (S x)) (.str (S (p ++ (x ++ q)))) = some (.bool true) := by
  unfold inD inS
  rw [Option.map_some]
  refine congrArg some (congrArg PyData.bool ?_)
  refine (PySem.StrLaws.found_iff _ _).mpr ⟨p.length, ?_⟩
  refine (TL.at_iff (x := S (p ++ (x ++ q))) (y := S x) hx p.length).mpr ?_
  show pre x ((p ++ (x ++ q)).drop p.length) = true
  rw [drop_app]
  exact TL.pre_self x q
theorem numL_all (n : Nat) : NumText.AllDigits (numL n) := TL.numL_digits n
theorem intD_num {n : Nat} (h : Sm n) : intD [.str (S (numL n))] = some (.int (n : Int)) := by
  rw [intS (numL_all n) (TL.numL_ne n) (num24 h), TL.numL_val]
theorem intD_0num {n : Nat} (h : Sm n) : intD [.str (S (48 :: numL n))] = some (.int (n : Int)) := by
  have h1 : NumText.AllDigits (48 :: numL n) := fun c hc => by
    rcases List.mem_cons.mp hc with rfl | hc
    · omega
    · exact numL_all n c hc
  have h2 := num24 h
  unfold intD
  dsimp only
  rw [PySem.intText_digits (x := S (48 :: numL n)) h1 (by simp) (by rw [S_len, List.length_cons]; omega)]
  dsimp only
  rw [if_pos (by rw [S_len, List.length_cons]; omega)]
  have e : NumText.digitsVal (48 :: numL n) = n := by
    have := TL.numL_val n
    unfold NumText.digitsVal at this ⊢
    exact this
  show some (PyData.int ((NumText.digitsVal (48 :: numL n) : Nat) : Int)) = _
  rw [e]
theorem intD_0 : intD [.str (S [48])] = some (.int 0) := by
  have := intD_num (n := 0) (by decide)
  rw [TL.numL_lt (n := 0) (by decide)] at this
  exact this

/-! ### _law_parts -/
def foL : Option (List Nat × Nat) → PyData
  | none => .list []
  | some (x, n) => .list [.str (S x), .int (n : Int)]
def onL : Option Nat → PyData
  | none => .list []
  | some n => .list [.int (n : Int)]
def lpD (p : Pt) : PyData := .tuple [.int (p.ep : Int), .list (intsD p.ns), foL p.fo, onL p.po, onL p.dv]
theorem eqD_nil0 : eqD (.list []) (.list []) = some (.bool true) := rfl
theorem eqD_nil1 (x : PyData) (xs : List PyData) : eqD (.list (x :: xs)) (.list []) = some (.bool false) := by
  unfold eqD
  rw [PyData.eqv, if_pos (by rw [Bool.or_eq_true]; exact .inr rfl)]
  rfl
theorem neD_nil0 : neD (.list []) (.list []) = some (.bool false) := rfl
theorem neD_nil1 (x : PyData) (xs : List PyData) : neD (.list (x :: xs)) (.list []) = some (.bool true) := by
  unfold neD
  rw [PyData.eqv, if_pos (by rw [Bool.or_eq_true]; exact .inr rfl)]
  rfl
section
variable (t e m d p : Option SD) (u v z : Option SD) (w : W)
theorem lp_skip1 {c : Nat} {x r : List Nat} (h : c ∉ r) : bF1__law_parts [t, e, m, some (.d (.str (S r))), d, p, some (.d (.list [])), some (.d (.str (S (c :: x)))), v, z] w = some (.nx, [t, e, m, some (.d (.str (S r))), d, p, some (.d (.list [])), some (.d (.str (S (c :: x)))), v, z], w) := by
  unfold bF1__law_parts
  (simp only [mSeq, mSet, mVar, mC, mOp, seqE, optE, mTru, mAnd, mOr, mNot, mIf, mBl, mNil, mCons, mCall, mTup, argsD, dsOf, tupD, mFz, mLst, mRet, mDrop, mNx, mBk, mCt, mFail, mItems, itemsD, mRng, mgName, mgNil, mgCons, mgTup, mAsg, mFor, mNo, mPart, mSl, mB, mSetO, mAppend, mPop, mPkOp, mPkIx, mPkLen, mScrLen, mYes, mPar, mPar3, mParO, mAug, mMtS, mIs, mStar, mFmt, mJs, mAndV, mOrV, mListO, mCatO, mgUnl, truD, pk, List.getElem?_cons_zero, List.getElem?_cons_succ, List.set_cons_zero, List.set_cons_succ, List.length_cons, List.length_nil, Option.map_some, Option.map_none, List.map_cons, List.map_nil, List.cons_append, List.nil_append, List.replicate, Nat.zero_add, Nat.reduceAdd, Nat.reduceSub, Nat.reduceLeDiff, if_true, if_false, Bool.not_true, Bool.not_false, reduceCtorEq, reduceIte, decide_true, decide_false, Bool.false_eq_true, List.isEmpty_cons, List.isEmpty_nil, ixT0, ixT1, ixT2, ixL0, ixL1, ixL2, isD_nn, isD_in, isD_sn, isD_tn, isN_nn, isN_in, isN_sn, isN_tn, Int.cast_ofNat_Int, Int.reduceEq, Int.reduceLT, Int.reduceLE, Bool.and_false, Bool.and_true, Bool.true_and, Bool.false_and, Bool.or_false, Bool.or_true, Bool.true_or, Bool.false_or, eqD_nil0, inD_not h] <;> rfl)
theorem lp_skip2 {y : PyData} {ys : List PyData} {x r : List Nat} : bF1__law_parts [t, e, m, some (.d (.str (S r))), d, p, some (.d (.list (y :: ys))), some (.d (.str (S x))), v, z] w = some (.nx, [t, e, m, some (.d (.str (S r))), d, p, some (.d (.list (y :: ys))), some (.d (.str (S x))), v, z], w) := by
  unfold bF1__law_parts
  (simp only [mSeq, mSet, mVar, mC, mOp, seqE, optE, mTru, mAnd, mOr, mNot, mIf, mBl, mNil, mCons, mCall, mTup, argsD, dsOf, tupD, mFz, mLst, mRet, mDrop, mNx, mBk, mCt, mFail, mItems, itemsD, mRng, mgName, mgNil, mgCons, mgTup, mAsg, mFor, mNo, mPart, mSl, mB, mSetO, mAppend, mPop, mPkOp, mPkIx, mPkLen, mScrLen, mYes, mPar, mPar3, mParO, mAug, mMtS, mIs, mStar, mFmt, mJs, mAndV, mOrV, mListO, mCatO, mgUnl, truD, pk, List.getElem?_cons_zero, List.getElem?_cons_succ, List.set_cons_zero, List.set_cons_succ, List.length_cons, List.length_nil, Option.map_some, Option.map_none, List.map_cons, List.map_nil, List.cons_append, List.nil_append, List.replicate, Nat.zero_add, Nat.reduceAdd, Nat.reduceSub, Nat.reduceLeDiff, if_true, if_false, Bool.not_true, Bool.not_false, reduceCtorEq, reduceIte, decide_true, decide_false, Bool.false_eq_true, List.isEmpty_cons, List.isEmpty_nil, ixT0, ixT1, ixT2, ixL0, ixL1, ixL2, isD_nn, isD_in, isD_sn, isD_tn, isN_nn, isN_in, isN_sn, isN_tn, Int.cast_ofNat_Int, Int.reduceEq, Int.reduceLT, Int.reduceLE, Bool.and_false, Bool.and_true, Bool.true_and, Bool.false_and, Bool.or_false, Bool.or_true, Bool.true_or, Bool.false_or, eqD_nil1] <;> rfl)
theorem lp_hit {c : Nat} {x r : List Nat} {n : Nat} (hn : Sm n) (h : c ∉ r) (hs : Sh (r ++ (c :: x ++ numL n))) : bF1__law_parts [t, e, m, some (.d (.str (S (r ++ (c :: x ++ numL n))))), d, p, some (.d (.list [])), some (.d (.str (S (c :: x)))), v, z] w
    = some (.nx, [t, e, some (.d (.str (S (c :: x)))), some (.d (.str (S r))), d, p, some (.d (.list [.str (S (c :: x)), .int (n : Int)])), some (.d (.str (S (c :: x)))), some (.d (.str (S (numL n)))), z], w) := by
  have h1 := partD_some hs (y := c :: x) (by simp) (SX.par_head (sep := x) (numL n) h)
  have h2 : inD (.str (S (c :: x))) (.str (S (r ++ (c :: x ++ numL n)))) = some (.bool true) := inD_yes (by simp)
  generalize r ++ (c :: x ++ numL n) = l at h1 h2 ⊢
  unfold bF1__law_parts
  rw [if_t (e1 := [t, e, m, some (.d (.str (S l))), d, p, some (.d (.list [])), some (.d (.str (S (c :: x)))), v, z]) (w1 := w) (by (simp only [mSeq, mSet, mVar, mC, mOp, seqE, optE, mTru, mAnd, mOr, mNot, mIf, mBl, mNil, mCons, mCall, mTup, argsD, dsOf, tupD, mFz, mLst, mRet, mDrop, mNx, mBk, mCt, mFail, mItems, itemsD, mRng, mgName, mgNil, mgCons, mgTup, mAsg, mFor, mNo, mPart, mSl, mB, mSetO, mAppend, mPop, mPkOp, mPkIx, mPkLen, mScrLen, mYes, mPar, mPar3, mParO, mAug, mMtS, mIs, mStar, mFmt, mJs, mAndV, mOrV, mListO, mCatO, mgUnl, truD, pk, List.getElem?_cons_zero, List.getElem?_cons_succ, List.set_cons_zero, List.set_cons_succ, List.length_cons, List.length_nil, Option.map_some, Option.map_none, List.map_cons, List.map_nil, List.cons_append, List.nil_append, List.replicate, Nat.zero_add, Nat.reduceAdd, Nat.reduceSub, Nat.reduceLeDiff, if_true, if_false, Bool.not_true, Bool.not_false, reduceCtorEq, reduceIte, decide_true, decide_false, Bool.false_eq_true, List.isEmpty_cons, List.isEmpty_nil, ixT0, ixT1, ixT2, ixL0, ixL1, ixL2, isD_nn, isD_in, isD_sn, isD_tn, isN_nn, isN_in, isN_sn, isN_tn, Int.cast_ofNat_Int, Int.reduceEq, Int.reduceLT, Int.reduceLE, Bool.and_false, Bool.and_true, Bool.true_and, Bool.false_and, Bool.or_false, Bool.or_true, Bool.true_or, Bool.false_or, eqD_nil0, h2] <;> rfl))]
  exact (seq_nx (e1 := [t, e, some (.d (.str (S (c :: x)))), some (.d (.str (S r))), d, p, some (.d (.list [])), some (.d (.str (S (c :: x)))), some (.d (.str (S (numL n)))), z]) (w1 := w) (by (simp only [mSeq, mSet, mVar, mC, mOp, seqE, optE, mTru, mAnd, mOr, mNot, mIf, mBl, mNil, mCons, mCall, mTup, argsD, dsOf, tupD, mFz, mLst, mRet, mDrop, mNx, mBk, mCt, mFail, mItems, itemsD, mRng, mgName, mgNil, mgCons, mgTup, mAsg, mFor, mNo, mPart, mSl, mB, mSetO, mAppend, mPop, mPkOp, mPkIx, mPkLen, mScrLen, mYes, mPar, mPar3, mParO, mAug, mMtS, mIs, mStar, mFmt, mJs, mAndV, mOrV, mListO, mCatO, mgUnl, truD, pk, List.getElem?_cons_zero, List.getElem?_cons_succ, List.set_cons_zero, List.set_cons_succ, List.length_cons, List.length_nil, Option.map_some, Option.map_none, List.map_cons, List.map_nil, List.cons_append, List.nil_append, List.replicate, Nat.zero_add, Nat.reduceAdd, Nat.reduceSub, Nat.reduceLeDiff, if_true, if_false, Bool.not_true, Bool.not_false, reduceCtorEq, reduceIte, decide_true, decide_false, Bool.false_eq_true, List.isEmpty_cons, List.isEmpty_nil, ixT0, ixT1, ixT2, ixL0, ixL1, ixL2, isD_nn, isD_in, isD_sn, isD_tn, isN_nn, isN_in, isN_sn, isN_tn, Int.cast_ofNat_Int, Int.reduceEq, Int.reduceLT, Int.reduceLE, Bool.and_false, Bool.and_true, Bool.true_and, Bool.false_and, Bool.or_false, Bool.or_true, Bool.true_or, Bool.false_or, h1] <;> rfl))).trans (by (simp only [mSeq, mSet, mVar, mC, mOp, seqE, optE, mTru, mAnd, mOr, mNot, mIf, mBl, mNil, mCons, mCall, mTup, argsD, dsOf, tupD, mFz, mLst, mRet, mDrop, mNx, mBk, mCt, mFail, mItems, itemsD, mRng, mgName, mgNil, mgCons, mgTup, mAsg, mFor, mNo, mPart, mSl, mB, mSetO, mAppend, mPop, mPkOp, mPkIx, mPkLen, mScrLen, mYes, mPar, mPar3, mParO, mAug, mMtS, mIs, mStar, mFmt, mJs, mAndV, mOrV, mListO, mCatO, mgUnl, truD, pk, List.getElem?_cons_zero, List.getElem?_cons_succ, List.set_cons_zero, List.set_cons_succ, List.length_cons, List.length_nil, Option.map_some, Option.map_none, List.map_cons, List.map_nil, List.cons_append, List.nil_append, List.replicate, Nat.zero_add, Nat.reduceAdd, Nat.reduceSub, Nat.reduceLeDiff, if_true, if_false, Bool.not_true, Bool.not_false, reduceCtorEq, reduceIte, decide_true, decide_false, Bool.false_eq_true, List.isEmpty_cons, List.isEmpty_nil, ixT0, ixT1, ixT2, ixL0, ixL1, ixL2, isD_nn, isD_in, isD_sn, isD_tn, isN_nn, isN_in, isN_sn, isN_tn, Int.cast_ofNat_Int, Int.reduceEq, Int.reduceLT, Int.reduceLE, Bool.and_false, Bool.and_true, Bool.true_and, Bool.false_and, Bool.or_false, Bool.or_true, Bool.true_or, Bool.false_or, intD_num hn] <;> rfl))
theorem sign_free {s : Nat} (hs : s = 97 ∨ s = 98 ∨ s = 114) : ∀ ns : List Nat, s ∉ nsS ns
  | [] => by simp [nsS, joinL]
  | [n] => TL.numL_free (.inr (by omega))
  | n :: k :: ns => by
    rw [nsS_cons]
    have h1 : s ∉ numL n := TL.numL_free (.inr (by omega))
    have h2 := sign_free hs (k :: ns)
    simp only [List.mem_append, List.mem_cons, not_or]
    exact ⟨h1, by omega, h2⟩
theorem lp_loop {ns : List Nat} {fo : Option (List Nat × Nat)} (hf : ∀ x n, fo = some (x, n) → x ∈ WS ∧ Sm n) (hs : Sh (nsS ns ++ foS fo)) : ∃ m' u' v',
    mLoop (mgName 7) bF1__law_parts [.str (S [114, 99]), .str (S [98]), .str (S [97])] [t, e, m, some (.d (.str (S (nsS ns ++ foS fo)))), d, p, some (.d (.list [])), u, v, z] w = some (.nx, [t, e, m', some (.d (.str (S (nsS ns)))), d, p, some (.d (foL fo)), u', v', z], w) := by
  have f1 := sign_free (s := 97) (.inl rfl) ns
  have f2 := sign_free (s := 98) (.inr (.inl rfl)) ns
  have f3 := sign_free (s := 114) (.inr (.inr rfl)) ns
  cases fo with
  | none =>
    have e0 : nsS ns ++ foS none = nsS ns := List.append_nil _
    rw [e0]
    refine ⟨m, _, v, (loop_go (by (simp only [mSeq, mSet, mVar, mC, mOp, seqE, optE, mTru, mAnd, mOr, mNot, mIf, mBl, mNil, mCons, mCall, mTup, argsD, dsOf, tupD, mFz, mLst, mRet, mDrop, mNx, mBk, mCt, mFail, mItems, itemsD, mRng, mgName, mgNil, mgCons, mgTup, mAsg, mFor, mNo, mPart, mSl, mB, mSetO, mAppend, mPop, mPkOp, mPkIx, mPkLen, mScrLen, mYes, mPar, mPar3, mParO, mAug, mMtS, mIs, mStar, mFmt, mJs, mAndV, mOrV, mListO, mCatO, mgUnl, truD, pk, List.getElem?_cons_zero, List.getElem?_cons_succ, List.set_cons_zero, List.set_cons_succ, List.length_cons, List.length_nil, Option.map_some, Option.map_none, List.map_cons, List.map_nil, List.cons_append, List.nil_append, List.replicate, Nat.zero_add, Nat.reduceAdd, Nat.reduceSub, Nat.reduceLeDiff, if_true, if_false, Bool.not_true, Bool.not_false, reduceCtorEq, reduceIte, decide_true, decide_false, Bool.false_eq_true, List.isEmpty_cons, List.isEmpty_nil, ixT0, ixT1, ixT2, ixL0, ixL1, ixL2, isD_nn, isD_in, isD_sn, isD_tn, isN_nn, isN_in, isN_sn, isN_tn, Int.cast_ofNat_Int, Int.reduceEq, Int.reduceLT, Int.reduceLE, Bool.and_false, Bool.and_true, Bool.true_and, Bool.false_and, Bool.or_false, Bool.or_true, Bool.true_or, Bool.false_or] <;> rfl)) (lp_skip1 t e m d p v z w f3)).trans ((loop_go (by (simp only [mSeq, mSet, mVar, mC, mOp, seqE, optE, mTru, mAnd, mOr, mNot, mIf, mBl, mNil, mCons, mCall, mTup, argsD, dsOf, tupD, mFz, mLst, mRet, mDrop, mNx, mBk, mCt, mFail, mItems, itemsD, mRng, mgName, mgNil, mgCons, mgTup, mAsg, mFor, mNo, mPart, mSl, mB, mSetO, mAppend, mPop, mPkOp, mPkIx, mPkLen, mScrLen, mYes, mPar, mPar3, mParO, mAug, mMtS, mIs, mStar, mFmt, mJs, mAndV, mOrV, mListO, mCatO, mgUnl, truD, pk, List.getElem?_cons_zero, List.getElem?_cons_succ, List.set_cons_zero, List.set_cons_succ, List.length_cons, List.length_nil, Option.map_some, Option.map_none, List.map_cons, List.map_nil, List.cons_append, List.nil_append, List.replicate, Nat.zero_add, Nat.reduceAdd, Nat.reduceSub, Nat.reduceLeDiff, if_true, if_false, Bool.not_true, Bool.not_false, reduceCtorEq, reduceIte, decide_true, decide_false, Bool.false_eq_true, List.isEmpty_cons, List.isEmpty_nil, ixT0, ixT1, ixT2, ixL0, ixL1, ixL2, isD_nn, isD_in, isD_sn, isD_tn, isN_nn, isN_in, isN_sn, isN_tn, Int.cast_ofNat_Int, Int.reduceEq, Int.reduceLT, Int.reduceLE, Bool.and_false, Bool.and_true, Bool.true_and, Bool.false_and, Bool.or_false, Bool.or_true, Bool.true_or, Bool.false_or] <;> rfl)) (lp_skip1 t e m d p v z w f2)).trans ((loop_go (by (simp only [mSeq, mSet, mVar, mC, mOp, seqE, optE, mTru, mAnd, mOr, mNot, mIf, mBl, mNil, mCons, mCall, mTup, argsD, dsOf, tupD, mFz, mLst, mRet, mDrop, mNx, mBk, mCt, mFail, mItems, itemsD, mRng, mgName, mgNil, mgCons, mgTup, mAsg, mFor, mNo, mPart, mSl, mB, mSetO, mAppend, mPop, mPkOp, mPkIx, mPkLen, mScrLen, mYes, mPar, mPar3, mParO, mAug, mMtS, mIs, mStar, mFmt, mJs, mAndV, mOrV, mListO, mCatO, mgUnl, truD, pk, List.getElem?_cons_zero, List.getElem?_cons_succ, List.set_cons_zero, List.set_cons_succ, List.length_cons, List.length_nil, Option.map_some, Option.map_none, List.map_cons, List.map_nil, List.cons_append, List.nil_append, List.replicate, Nat.zero_add, Nat.reduceAdd, Nat.reduceSub, Nat.reduceLeDiff, if_true, if_false, Bool.not_true, Bool.not_false, reduceCtorEq, reduceIte, decide_true, decide_false, Bool.false_eq_true, List.isEmpty_cons, List.isEmpty_nil, ixT0, ixT1, ixT2, ixL0, ixL1, ixL2, isD_nn, isD_in, isD_sn, isD_tn, isN_nn, isN_in, isN_sn, isN_tn, Int.cast_ofNat_Int, Int.reduceEq, Int.reduceLT, Int.reduceLE, Bool.and_false, Bool.and_true, Bool.true_and, Bool.false_and, Bool.or_false, Bool.or_true, Bool.true_or, Bool.false_or] <;> rfl)) (lp_skip1 t e m d p v z w f1)).trans loop_nil))⟩
  | some q =>
    obtain ⟨x, n⟩ := q
    obtain ⟨h1, h2⟩ := hf x n rfl
    have g2 : ∀ s : Nat, (s = 98 ∨ s = 114 ∨ s = 97) → s ∉ numL n := fun s hs => TL.numL_free (.inr (by omega))
    unfold WS at h1
    simp only [List.mem_cons, List.not_mem_nil, or_false] at h1
    rcases h1 with rfl | rfl | rfl
    · have a1 : 114 ∉ nsS ns ++ foS (some ([97], n)) := by
        simp only [foS, List.mem_append, List.mem_singleton, not_or]
        exact ⟨f3, by decide, g2 114 (by simp)⟩
      have a2 : 98 ∉ nsS ns ++ foS (some ([97], n)) := by
        simp only [foS, List.mem_append, List.mem_singleton, not_or]
        exact ⟨f2, by decide, g2 98 (by simp)⟩
      exact ⟨_, _, _, (loop_go (by (simp only [mSeq, mSet, mVar, mC, mOp, seqE, optE, mTru, mAnd, mOr, mNot, mIf, mBl, mNil, mCons, mCall, mTup, argsD, dsOf, tupD, mFz, mLst, mRet, mDrop, mNx, mBk, mCt, mFail, mItems, itemsD, mRng, mgName, mgNil, mgCons, mgTup, mAsg, mFor, mNo, mPart, mSl, mB, mSetO, mAppend, mPop, mPkOp, mPkIx, mPkLen, mScrLen, mYes, mPar, mPar3, mParO, mAug, mMtS, mIs, mStar, mFmt, mJs, mAndV, mOrV, mListO, mCatO, mgUnl, truD, pk, List.getElem?_cons_zero, List.getElem?_cons_succ, List.set_cons_zero, List.set_cons_succ, List.length_cons, List.length_nil, Option.map_some, Option.map_none, List.map_cons, List.map_nil, List.cons_append, List.nil_append, List.replicate, Nat.zero_add, Nat.reduceAdd, Nat.reduceSub, Nat.reduceLeDiff, if_true, if_false, Bool.not_true, Bool.not_false, reduceCtorEq, reduceIte, decide_true, decide_false, Bool.false_eq_true, List.isEmpty_cons, List.isEmpty_nil, ixT0, ixT1, ixT2, ixL0, ixL1, ixL2, isD_nn, isD_in, isD_sn, isD_tn, isN_nn, isN_in, isN_sn, isN_tn, Int.cast_ofNat_Int, Int.reduceEq, Int.reduceLT, Int.reduceLE, Bool.and_false, Bool.and_true, Bool.true_and, Bool.false_and, Bool.or_false, Bool.or_true, Bool.true_or, Bool.false_or] <;> rfl)) (lp_skip1 t e m d p v z w a1)).trans ((loop_go (by (simp only [mSeq, mSet, mVar, mC, mOp, seqE, optE, mTru, mAnd, mOr, mNot, mIf, mBl, mNil, mCons, mCall, mTup, argsD, dsOf, tupD, mFz, mLst, mRet, mDrop, mNx, mBk, mCt, mFail, mItems, itemsD, mRng, mgName, mgNil, mgCons, mgTup, mAsg, mFor, mNo, mPart, mSl, mB, mSetO, mAppend, mPop, mPkOp, mPkIx, mPkLen, mScrLen, mYes, mPar, mPar3, mParO, mAug, mMtS, mIs, mStar, mFmt, mJs, mAndV, mOrV, mListO, mCatO, mgUnl, truD, pk, List.getElem?_cons_zero, List.getElem?_cons_succ, List.set_cons_zero, List.set_cons_succ, List.length_cons, List.length_nil, Option.map_some, Option.map_none, List.map_cons, List.map_nil, List.cons_append, List.nil_append, List.replicate, Nat.zero_add, Nat.reduceAdd, Nat.reduceSub, Nat.reduceLeDiff, if_true, if_false, Bool.not_true, Bool.not_false, reduceCtorEq, reduceIte, decide_true, decide_false, Bool.false_eq_true, List.isEmpty_cons, List.isEmpty_nil, ixT0, ixT1, ixT2, ixL0, ixL1, ixL2, isD_nn, isD_in, isD_sn, isD_tn, isN_nn, isN_in, isN_sn, isN_tn, Int.cast_ofNat_Int, Int.reduceEq, Int.reduceLT, Int.reduceLE, Bool.and_false, Bool.and_true, Bool.true_and, Bool.false_and, Bool.or_false, Bool.or_true, Bool.true_or, Bool.false_or] <;> rfl)) (lp_skip1 t e m d p v z w a2)).trans ((loop_go (by (simp only [mSeq, mSet, mVar, mC, mOp, seqE, optE, mTru, mAnd, mOr, mNot, mIf, mBl, mNil, mCons, mCall, mTup, argsD, dsOf, tupD, mFz, mLst, mRet, mDrop, mNx, mBk, mCt, mFail, mItems, itemsD, mRng, mgName, mgNil, mgCons, mgTup, mAsg, mFor, mNo, mPart, mSl, mB, mSetO, mAppend, mPop, mPkOp, mPkIx, mPkLen, mScrLen, mYes, mPar, mPar3, mParO, mAug, mMtS, mIs, mStar, mFmt, mJs, mAndV, mOrV, mListO, mCatO, mgUnl, truD, pk, List.getElem?_cons_zero, List.getElem?_cons_succ, List.set_cons_zero, List.set_cons_succ, List.length_cons, List.length_nil, Option.map_some, Option.map_none, List.map_cons, List.map_nil, List.cons_append, List.nil_append, List.replicate, Nat.zero_add, Nat.reduceAdd, Nat.reduceSub, Nat.reduceLeDiff, if_true, if_false, Bool.not_true, Bool.not_false, reduceCtorEq, reduceIte, decide_true, decide_false, Bool.false_eq_true, List.isEmpty_cons, List.isEmpty_nil, ixT0, ixT1, ixT2, ixL0, ixL1, ixL2, isD_nn, isD_in, isD_sn, isD_tn, isN_nn, isN_in, isN_sn, isN_tn, Int.cast_ofNat_Int, Int.reduceEq, Int.reduceLT, Int.reduceLE, Bool.and_false, Bool.and_true, Bool.true_and, Bool.false_and, Bool.or_false, Bool.or_true, Bool.true_or, Bool.false_or] <;> rfl)) (lp_hit t e m d p v z w (x := []) h2 f1 hs)).trans loop_nil))⟩
    · have a1 : 114 ∉ nsS ns ++ foS (some ([98], n)) := by
        simp only [foS, List.mem_append, List.mem_singleton, not_or]
        exact ⟨f3, by decide, g2 114 (by simp)⟩
      exact ⟨_, _, _, (loop_go (by (simp only [mSeq, mSet, mVar, mC, mOp, seqE, optE, mTru, mAnd, mOr, mNot, mIf, mBl, mNil, mCons, mCall, mTup, argsD, dsOf, tupD, mFz, mLst, mRet, mDrop, mNx, mBk, mCt, mFail, mItems, itemsD, mRng, mgName, mgNil, mgCons, mgTup, mAsg, mFor, mNo, mPart, mSl, mB, mSetO, mAppend, mPop, mPkOp, mPkIx, mPkLen, mScrLen, mYes, mPar, mPar3, mParO, mAug, mMtS, mIs, mStar, mFmt, mJs, mAndV, mOrV, mListO, mCatO, mgUnl, truD, pk, List.getElem?_cons_zero, List.getElem?_cons_succ, List.set_cons_zero, List.set_cons_succ, List.length_cons, List.length_nil, Option.map_some, Option.map_none, List.map_cons, List.map_nil, List.cons_append, List.nil_append, List.replicate, Nat.zero_add, Nat.reduceAdd, Nat.reduceSub, Nat.reduceLeDiff, if_true, if_false, Bool.not_true, Bool.not_false, reduceCtorEq, reduceIte, decide_true, decide_false, Bool.false_eq_true, List.isEmpty_cons, List.isEmpty_nil, ixT0, ixT1, ixT2, ixL0, ixL1, ixL2, isD_nn, isD_in, isD_sn, isD_tn, isN_nn, isN_in, isN_sn, isN_tn, Int.cast_ofNat_Int, Int.reduceEq, Int.reduceLT, Int.reduceLE, Bool.and_false, Bool.and_true, Bool.true_and, Bool.false_and, Bool.or_false, Bool.or_true, Bool.true_or, Bool.false_or] <;> rfl)) (lp_skip1 t e m d p v z w a1)).trans ((loop_go (by (simp only [mSeq, mSet, mVar, mC, mOp, seqE, optE, mTru, mAnd, mOr, mNot, mIf, mBl, mNil, mCons, mCall, mTup, argsD, dsOf, tupD, mFz, mLst, mRet, mDrop, mNx, mBk, mCt, mFail, mItems, itemsD, mRng, mgName, mgNil, mgCons, mgTup, mAsg, mFor, mNo, mPart, mSl, mB, mSetO, mAppend, mPop, mPkOp, mPkIx, mPkLen, mScrLen, mYes, mPar, mPar3, mParO, mAug, mMtS, mIs, mStar, mFmt, mJs, mAndV, mOrV, mListO, mCatO, mgUnl, truD, pk, List.getElem?_cons_zero, List.getElem?_cons_succ, List.set_cons_zero, List.set_cons_succ, List.length_cons, List.length_nil, Option.map_some, Option.map_none, List.map_cons, List.map_nil, List.cons_append, List.nil_append, List.replicate, Nat.zero_add, Nat.reduceAdd, Nat.reduceSub, Nat.reduceLeDiff, if_true, if_false, Bool.not_true, Bool.not_false, reduceCtorEq, reduceIte, decide_true, decide_false, Bool.false_eq_true, List.isEmpty_cons, List.isEmpty_nil, ixT0, ixT1, ixT2, ixL0, ixL1, ixL2, isD_nn, isD_in, isD_sn, isD_tn, isN_nn, isN_in, isN_sn, isN_tn, Int.cast_ofNat_Int, Int.reduceEq, Int.reduceLT, Int.reduceLE, Bool.and_false, Bool.and_true, Bool.true_and, Bool.false_and, Bool.or_false, Bool.or_true, Bool.true_or, Bool.false_or] <;> rfl)) (lp_hit t e m d p v z w (x := []) h2 f2 hs)).trans ((loop_go (by (simp only [mSeq, mSet, mVar, mC, mOp, seqE, optE, mTru, mAnd, mOr, mNot, mIf, mBl, mNil, mCons, mCall, mTup, argsD, dsOf, tupD, mFz, mLst, mRet, mDrop, mNx, mBk, mCt, mFail, mItems, itemsD, mRng, mgName, mgNil, mgCons, mgTup, mAsg, mFor, mNo, mPart, mSl, mB, mSetO, mAppend, mPop, mPkOp, mPkIx, mPkLen, mScrLen, mYes, mPar, mPar3, mParO, mAug, mMtS, mIs, mStar, mFmt, mJs, mAndV, mOrV, mListO, mCatO, mgUnl, truD, pk, List.getElem?_cons_zero, List.getElem?_cons_succ, List.set_cons_zero, List.set_cons_succ, List.length_cons, List.length_nil, Option.map_some, Option.map_none, List.map_cons, List.map_nil, List.cons_append, List.nil_append, List.replicate, Nat.zero_add, Nat.reduceAdd, Nat.reduceSub, Nat.reduceLeDiff, if_true, if_false, Bool.not_true, Bool.not_false, reduceCtorEq, reduceIte, decide_true, decide_false, Bool.false_eq_true, List.isEmpty_cons, List.isEmpty_nil, ixT0, ixT1, ixT2, ixL0, ixL1, ixL2, isD_nn, isD_in, isD_sn, isD_tn, isN_nn, isN_in, isN_sn, isN_tn, Int.cast_ofNat_Int, Int.reduceEq, Int.reduceLT, Int.reduceLE, Bool.and_false, Bool.and_true, Bool.true_and, Bool.false_and, Bool.or_false, Bool.or_true, Bool.true_or, Bool.false_or] <;> rfl)) (lp_skip2 _ _ _ _ _ _ _ _)).trans loop_nil))⟩
    · exact ⟨_, _, _, (loop_go (by (simp only [mSeq, mSet, mVar, mC, mOp, seqE, optE, mTru, mAnd, mOr, mNot, mIf, mBl, mNil, mCons, mCall, mTup, argsD, dsOf, tupD, mFz, mLst, mRet, mDrop, mNx, mBk, mCt, mFail, mItems, itemsD, mRng, mgName, mgNil, mgCons, mgTup, mAsg, mFor, mNo, mPart, mSl, mB, mSetO, mAppend, mPop, mPkOp, mPkIx, mPkLen, mScrLen, mYes, mPar, mPar3, mParO, mAug, mMtS, mIs, mStar, mFmt, mJs, mAndV, mOrV, mListO, mCatO, mgUnl, truD, pk, List.getElem?_cons_zero, List.getElem?_cons_succ, List.set_cons_zero, List.set_cons_succ, List.length_cons, List.length_nil, Option.map_some, Option.map_none, List.map_cons, List.map_nil, List.cons_append, List.nil_append, List.replicate, Nat.zero_add, Nat.reduceAdd, Nat.reduceSub, Nat.reduceLeDiff, if_true, if_false, Bool.not_true, Bool.not_false, reduceCtorEq, reduceIte, decide_true, decide_false, Bool.false_eq_true, List.isEmpty_cons, List.isEmpty_nil, ixT0, ixT1, ixT2, ixL0, ixL1, ixL2, isD_nn, isD_in, isD_sn, isD_tn, isN_nn, isN_in, isN_sn, isN_tn, Int.cast_ofNat_Int, Int.reduceEq, Int.reduceLT, Int.reduceLE, Bool.and_false, Bool.and_true, Bool.true_and, Bool.false_and, Bool.or_false, Bool.or_true, Bool.true_or, Bool.false_or] <;> rfl)) (lp_hit t e m d p v z w (x := [99]) h2 f3 hs)).trans ((loop_go (by (simp only [mSeq, mSet, mVar, mC, mOp, seqE, optE, mTru, mAnd, mOr, mNot, mIf, mBl, mNil, mCons, mCall, mTup, argsD, dsOf, tupD, mFz, mLst, mRet, mDrop, mNx, mBk, mCt, mFail, mItems, itemsD, mRng, mgName, mgNil, mgCons, mgTup, mAsg, mFor, mNo, mPart, mSl, mB, mSetO, mAppend, mPop, mPkOp, mPkIx, mPkLen, mScrLen, mYes, mPar, mPar3, mParO, mAug, mMtS, mIs, mStar, mFmt, mJs, mAndV, mOrV, mListO, mCatO, mgUnl, truD, pk, List.getElem?_cons_zero, List.getElem?_cons_succ, List.set_cons_zero, List.set_cons_succ, List.length_cons, List.length_nil, Option.map_some, Option.map_none, List.map_cons, List.map_nil, List.cons_append, List.nil_append, List.replicate, Nat.zero_add, Nat.reduceAdd, Nat.reduceSub, Nat.reduceLeDiff, if_true, if_false, Bool.not_true, Bool.not_false, reduceCtorEq, reduceIte, decide_true, decide_false, Bool.false_eq_true, List.isEmpty_cons, List.isEmpty_nil, ixT0, ixT1, ixT2, ixL0, ixL1, ixL2, isD_nn, isD_in, isD_sn, isD_tn, isN_nn, isN_in, isN_sn, isN_tn, Int.cast_ofNat_Int, Int.reduceEq, Int.reduceLT, Int.reduceLE, Bool.and_false, Bool.and_true, Bool.true_and, Bool.false_and, Bool.or_false, Bool.or_true, Bool.true_or, Bool.false_or] <;> rfl)) (lp_skip2 _ _ _ _ _ _ _ _)).trans ((loop_go (by (simp only [mSeq, mSet, mVar, mC, mOp, seqE, optE, mTru, mAnd, mOr, mNot, mIf, mBl, mNil, mCons, mCall, mTup, argsD, dsOf, tupD, mFz, mLst, mRet, mDrop, mNx, mBk, mCt, mFail, mItems, itemsD, mRng, mgName, mgNil, mgCons, mgTup, mAsg, mFor, mNo, mPart, mSl, mB, mSetO, mAppend, mPop, mPkOp, mPkIx, mPkLen, mScrLen, mYes, mPar, mPar3, mParO, mAug, mMtS, mIs, mStar, mFmt, mJs, mAndV, mOrV, mListO, mCatO, mgUnl, truD, pk, List.getElem?_cons_zero, List.getElem?_cons_succ, List.set_cons_zero, List.set_cons_succ, List.length_cons, List.length_nil, Option.map_some, Option.map_none, List.map_cons, List.map_nil, List.cons_append, List.nil_append, List.replicate, Nat.zero_add, Nat.reduceAdd, Nat.reduceSub, Nat.reduceLeDiff, if_true, if_false, Bool.not_true, Bool.not_false, reduceCtorEq, reduceIte, decide_true, decide_false, Bool.false_eq_true, List.isEmpty_cons, List.isEmpty_nil, ixT0, ixT1, ixT2, ixL0, ixL1, ixL2, isD_nn, isD_in, isD_sn, isD_tn, isN_nn, isN_in, isN_sn, isN_tn, Int.cast_ofNat_Int, Int.reduceEq, Int.reduceLT, Int.reduceLE, Bool.and_false, Bool.and_true, Bool.true_and, Bool.false_and, Bool.or_false, Bool.or_true, Bool.true_or, Bool.false_or] <;> rfl)) (lp_skip2 _ _ _ _ _ _ _ _)).trans loop_nil))⟩
end
end Dn

set_option maxHeartbeats 4000000
namespace Dn
open PySem PySem.Spec PyProof.Rows L2 SX
open TL (numL pre joinL)

def onS : Option Nat → List Nat
  | none => []
  | some n => numL n
def mkS (y : List Nat) : Option Nat → List Nat
  | none => []
  | some _ => y
theorem dot_free {t : Nat} (ht : t = 100 ∨ t = 112) : ∀ ns : List Nat, t ∉ nsS ns
  | [] => by simp [nsS, joinL]
  | [n] => TL.numL_free (.inr (by omega))
  | n :: k :: ns => by
    rw [nsS_cons]
    have h1 : t ∉ numL n := TL.numL_free (.inr (by omega))
    have h2 := dot_free ht (k :: ns)
    simp only [List.mem_append, List.mem_cons, not_or]
    exact ⟨h1, by omega, h2⟩
theorem fo_free {t : Nat} (ht : t = 100 ∨ t = 112) {p : Pt} (h : p.Wf) : t ∉ foS p.fo := by
  have q := h.fo
  cases e : p.fo with
  | none => simp [foS]
  | some z =>
    obtain ⟨x, n⟩ := z
    have hx := (q x n e).1
    have h1 : t ∉ numL n := TL.numL_free (.inr (by omega))
    unfold WS at hx
    simp only [List.mem_cons, List.not_mem_nil, or_false] at hx
    rcases hx with rfl | rfl | rfl <;> simp only [foS, List.mem_append, List.mem_cons, List.not_mem_nil, or_false, not_or] <;> exact ⟨by omega, h1⟩
theorem part_dev {p : Pt} (h : p.Wf) : TL.par DEVS [] (nsS p.ns ++ (foS p.fo ++ (poS p.po ++ dvS p.dv))) = match p.dv with
    | none => none
    | some d => some (nsS p.ns ++ (foS p.fo ++ poS p.po), numL d) := by
  have hn : 100 ∉ nsS p.ns ++ (foS p.fo ++ poS p.po) := by
    have h1 := dot_free (t := 100) (.inl rfl) p.ns
    have h2 := fo_free (t := 100) (.inl rfl) h
    have h3 : 100 ∉ poS p.po := by
      cases p.po with
      | none => simp [poS]
      | some n => simp [poS, POSTS, (TL.numL_free (.inr (by decide)) : 100 ∉ numL n)]
    simp [h1, h2, h3]
  cases e : p.dv with
  | none =>
    show TL.par DEVS [] (nsS p.ns ++ (foS p.fo ++ (poS p.po ++ []))) = none
    rw [List.append_nil]
    exact par_two_none hn
  | some d =>
    have e1 : nsS p.ns ++ (foS p.fo ++ (poS p.po ++ dvS (some d))) = (nsS p.ns ++ (foS p.fo ++ poS p.po)) ++ (DEVS ++ numL d) := by simp only [dvS, List.append_assoc]
    rw [e1]
    exact par_two (numL d) (by decide) hn
theorem part_post {p : Pt} (h : p.Wf) : TL.par POSTS [] (nsS p.ns ++ (foS p.fo ++ poS p.po)) = match p.po with
    | none => none
    | some d => some (nsS p.ns ++ foS p.fo, numL d) := by
  have hn : 112 ∉ nsS p.ns ++ foS p.fo := by
    have h1 := dot_free (t := 112) (.inr rfl) p.ns
    have h2 := fo_free (t := 112) (.inr rfl) h
    simp [h1, h2]
  cases e : p.po with
  | none =>
    show TL.par POSTS [] (nsS p.ns ++ (foS p.fo ++ [])) = none
    rw [List.append_nil]
    exact par_two_none hn
  | some d =>
    have e1 : nsS p.ns ++ (foS p.fo ++ poS (some d)) = (nsS p.ns ++ foS p.fo) ++ (POSTS ++ numL d) := by simp only [poS, List.append_assoc]
    rw [e1]
    exact par_two (numL d) (by decide) hn
theorem split_ns {ns : List Nat} (hne : ns ≠ []) (hs : Sh (nsS ns)) : splitD (.str (S (nsS ns))) [.str (S [46])] = some (.list (numsS ns)) := by
  unfold splitD
  dsimp only
  rw [if_pos ⟨rfl, by rw [S_len, sizeLine_eq]; unfold Sh at hs; omega⟩, SX.split_S (by simp) (by decide)]
  unfold nsS
  rw [SX.spl_join (c := 46) (sep := []) (by simpa using hne) (fun p hp => by
    obtain ⟨n, _, rfl⟩ := List.mem_map.mp hp
    exact TL.numL_free (.inl (by decide)))]
  unfold numsS
  rw [List.map_map, List.map_map]
  rfl
theorem lc_ints (w : W) (a b c d e f g h' j : Option SD) : ∀ (ns : List Nat) (acc : List PyData), (∀ n ∈ ns, Sm n) →
    lcLoop (mgName 8) mYes eC2__law_parts [8] (numsS ns) acc [a, b, c, d, e, f, g, h', none, j] w = some (acc ++ intsD ns, [a, b, c, d, e, f, g, h', none, j], w)
  | [], acc, _ => by
    unfold intsD numsS
    rw [List.map_nil, lc_nil, List.map_nil, List.append_nil]
  | n :: ns, acc, hn => by
    have hs := intD_num (hn n (by simp))
    have ih := lc_ints w a b c d e f g h' j ns (acc ++ [.int (n : Int)]) fun m hm => hn m (by simp [hm])
    show lcLoop (mgName 8) mYes eC2__law_parts [8] (.str (S (numL n)) :: numsS ns) acc [a, b, c, d, e, f, g, h', none, j] w = _
    rw [lc_go (e1 := [a, b, c, d, e, f, g, h', some (.d (.str (S (numL n)))), j]) (e2 := [a, b, c, d, e, f, g, h', some (.d (.str (S (numL n)))), j]) (e3 := [a, b, c, d, e, f, g, h', some (.d (.str (S (numL n)))), j]) (w2 := w) (w3 := w) (y := .int (n : Int)) (by (simp only [mSeq, mSet, mVar, mC, mOp, seqE, optE, mTru, mAnd, mOr, mNot, mIf, mBl, mNil, mCons, mCall, mTup, argsD, dsOf, tupD, mFz, mLst, mRet, mDrop, mNx, mBk, mCt, mFail, mItems, itemsD, mRng, mgName, mgNil, mgCons, mgTup, mAsg, mFor, mNo, mPart, mSl, mB, mSetO, mAppend, mPop, mPkOp, mPkIx, mPkLen, mScrLen, mYes, mPar, mPar3, mParO, mAug, mMtS, mIs, mStar, mFmt, mJs, mAndV, mOrV, mListO, mCatO, mgUnl, truD, pk, List.getElem?_cons_zero, List.getElem?_cons_succ, List.set_cons_zero, List.set_cons_succ, List.length_cons, List.length_nil, Option.map_some, Option.map_none, List.map_cons, List.map_nil, List.cons_append, List.nil_append, List.replicate, Nat.zero_add, Nat.reduceAdd, Nat.reduceSub, Nat.reduceLeDiff, if_true, if_false, Bool.not_true, Bool.not_false, reduceCtorEq, reduceIte, decide_true, decide_false, Bool.false_eq_true, List.isEmpty_cons, List.isEmpty_nil, ixT0, ixT1, ixT2, ixL0, ixL1, ixL2, isD_nn, isD_in, isD_sn, isD_tn, isN_nn, isN_in, isN_sn, isN_tn, Int.cast_ofNat_Int, Int.reduceEq, Int.reduceLT, Int.reduceLE, Bool.and_false, Bool.and_true, Bool.true_and, Bool.false_and, Bool.or_false, Bool.or_true, Bool.true_or, Bool.false_or] <;> rfl)) (by (simp only [mSeq, mSet, mVar, mC, mOp, seqE, optE, mTru, mAnd, mOr, mNot, mIf, mBl, mNil, mCons, mCall, mTup, argsD, dsOf, tupD, mFz, mLst, mRet, mDrop, mNx, mBk, mCt, mFail, mItems, itemsD, mRng, mgName, mgNil, mgCons, mgTup, mAsg, mFor, mNo, mPart, mSl, mB, mSetO, mAppend, mPop, mPkOp, mPkIx, mPkLen, mScrLen, mYes, mPar, mPar3, mParO, mAug, mMtS, mIs, mStar, mFmt, mJs, mAndV, mOrV, mListO, mCatO, mgUnl, truD, pk, List.getElem?_cons_zero, List.getElem?_cons_succ, List.set_cons_zero, List.set_cons_succ, List.length_cons, List.length_nil, Option.map_some, Option.map_none, List.map_cons, List.map_nil, List.cons_append, List.nil_append, List.replicate, Nat.zero_add, Nat.reduceAdd, Nat.reduceSub, Nat.reduceLeDiff, if_true, if_false, Bool.not_true, Bool.not_false, reduceCtorEq, reduceIte, decide_true, decide_false, Bool.false_eq_true, List.isEmpty_cons, List.isEmpty_nil, ixT0, ixT1, ixT2, ixL0, ixL1, ixL2, isD_nn, isD_in, isD_sn, isD_tn, isN_nn, isN_in, isN_sn, isN_tn, Int.cast_ofNat_Int, Int.reduceEq, Int.reduceLT, Int.reduceLE, Bool.and_false, Bool.and_true, Bool.true_and, Bool.false_and, Bool.or_false, Bool.or_true, Bool.true_or, Bool.false_or] <;> rfl)) (by unfold eC2__law_parts; (simp only [mSeq, mSet, mVar, mC, mOp, seqE, optE, mTru, mAnd, mOr, mNot, mIf, mBl, mNil, mCons, mCall, mTup, argsD, dsOf, tupD, mFz, mLst, mRet, mDrop, mNx, mBk, mCt, mFail, mItems, itemsD, mRng, mgName, mgNil, mgCons, mgTup, mAsg, mFor, mNo, mPart, mSl, mB, mSetO, mAppend, mPop, mPkOp, mPkIx, mPkLen, mScrLen, mYes, mPar, mPar3, mParO, mAug, mMtS, mIs, mStar, mFmt, mJs, mAndV, mOrV, mListO, mCatO, mgUnl, truD, pk, List.getElem?_cons_zero, List.getElem?_cons_succ, List.set_cons_zero, List.set_cons_succ, List.length_cons, List.length_nil, Option.map_some, Option.map_none, List.map_cons, List.map_nil, List.cons_append, List.nil_append, List.replicate, Nat.zero_add, Nat.reduceAdd, Nat.reduceSub, Nat.reduceLeDiff, if_true, if_false, Bool.not_true, Bool.not_false, reduceCtorEq, reduceIte, decide_true, decide_false, Bool.false_eq_true, List.isEmpty_cons, List.isEmpty_nil, ixT0, ixT1, ixT2, ixL0, ixL1, ixL2, isD_nn, isD_in, isD_sn, isD_tn, isN_nn, isN_in, isN_sn, isN_tn, Int.cast_ofNat_Int, Int.reduceEq, Int.reduceLT, Int.reduceLE, Bool.and_false, Bool.and_true, Bool.true_and, Bool.false_and, Bool.or_false, Bool.or_true, Bool.true_or, Bool.false_or, hs] <;> rfl))]
    refine ih.trans ?_
    rw [List.append_assoc]
    rfl
theorem sub_sh {a b : List Nat} (h : Sh b) (hl : a.length ≤ b.length) : Sh a := Nat.le_trans hl h
theorem lp_on {o : Option Nat} (ho : ∀ n, o = some n → Sm n) (i : Nat) (env : Ev) (w : W) (h : env[i]? = some (some (.d (.str (S (onS o)))))) :
    mIf (mTru (mOp neD (mVar i) (mC (.str "")))) (mFz (mLst (mCons (mB intD (mCons (mVar i) mNil)) mNil))) (mFz (mLst mNil)) env w = some (.d (onL o), env, w) := by
  cases o with
  | none =>
    have e : onS none = [] := rfl
    rw [e] at h
    rw [if_f (e1 := env) (w1 := w) (by simp only [mSeq, mSet, mVar, mC, mOp, seqE, optE, mTru, mAnd, mOr, mNot, mIf, mBl, mNil, mCons, mCall, mTup, argsD, dsOf, tupD, mFz, mLst, mRet, mDrop, mNx, mBk, mCt, mFail, mItems, itemsD, mRng, mgName, mgNil, mgCons, mgTup, mAsg, mFor, mNo, mPart, mSl, mB, mSetO, mAppend, mPop, mPkOp, mPkIx, mPkLen, mScrLen, mYes, mPar, mPar3, mParO, mAug, mMtS, mIs, mStar, mFmt, mJs, mAndV, mOrV, mListO, mCatO, mgUnl, truD, pk, List.getElem?_cons_zero, List.getElem?_cons_succ, List.set_cons_zero, List.set_cons_succ, List.length_cons, List.length_nil, Option.map_some, Option.map_none, List.map_cons, List.map_nil, List.cons_append, List.nil_append, List.replicate, Nat.zero_add, Nat.reduceAdd, Nat.reduceSub, Nat.reduceLeDiff, if_true, if_false, Bool.not_true, Bool.not_false, reduceCtorEq, reduceIte, decide_true, decide_false, Bool.false_eq_true, List.isEmpty_cons, List.isEmpty_nil, ixT0, ixT1, ixT2, ixL0, ixL1, ixL2, isD_nn, isD_in, isD_sn, isD_tn, isN_nn, isN_in, isN_sn, isN_tn, Int.cast_ofNat_Int, Int.reduceEq, Int.reduceLT, Int.reduceLE, Bool.and_false, Bool.and_true, Bool.true_and, Bool.false_and, Bool.or_false, Bool.or_true, Bool.true_or, Bool.false_or, h, str0, neD_S])]
    (simp only [mSeq, mSet, mVar, mC, mOp, seqE, optE, mTru, mAnd, mOr, mNot, mIf, mBl, mNil, mCons, mCall, mTup, argsD, dsOf, tupD, mFz, mLst, mRet, mDrop, mNx, mBk, mCt, mFail, mItems, itemsD, mRng, mgName, mgNil, mgCons, mgTup, mAsg, mFor, mNo, mPart, mSl, mB, mSetO, mAppend, mPop, mPkOp, mPkIx, mPkLen, mScrLen, mYes, mPar, mPar3, mParO, mAug, mMtS, mIs, mStar, mFmt, mJs, mAndV, mOrV, mListO, mCatO, mgUnl, truD, pk, List.getElem?_cons_zero, List.getElem?_cons_succ, List.set_cons_zero, List.set_cons_succ, List.length_cons, List.length_nil, Option.map_some, Option.map_none, List.map_cons, List.map_nil, List.cons_append, List.nil_append, List.replicate, Nat.zero_add, Nat.reduceAdd, Nat.reduceSub, Nat.reduceLeDiff, if_true, if_false, Bool.not_true, Bool.not_false, reduceCtorEq, reduceIte, decide_true, decide_false, Bool.false_eq_true, List.isEmpty_cons, List.isEmpty_nil, ixT0, ixT1, ixT2, ixL0, ixL1, ixL2, isD_nn, isD_in, isD_sn, isD_tn, isN_nn, isN_in, isN_sn, isN_tn, Int.cast_ofNat_Int, Int.reduceEq, Int.reduceLT, Int.reduceLE, Bool.and_false, Bool.and_true, Bool.true_and, Bool.false_and, Bool.or_false, Bool.or_true, Bool.true_or, Bool.false_or] <;> rfl)
  | some n =>
    have e : onS (some n) = numL n := rfl
    rw [e] at h
    have hne : ¬ numL n = [] := TL.numL_ne n
    rw [if_t (e1 := env) (w1 := w) (by simp only [mSeq, mSet, mVar, mC, mOp, seqE, optE, mTru, mAnd, mOr, mNot, mIf, mBl, mNil, mCons, mCall, mTup, argsD, dsOf, tupD, mFz, mLst, mRet, mDrop, mNx, mBk, mCt, mFail, mItems, itemsD, mRng, mgName, mgNil, mgCons, mgTup, mAsg, mFor, mNo, mPart, mSl, mB, mSetO, mAppend, mPop, mPkOp, mPkIx, mPkLen, mScrLen, mYes, mPar, mPar3, mParO, mAug, mMtS, mIs, mStar, mFmt, mJs, mAndV, mOrV, mListO, mCatO, mgUnl, truD, pk, List.getElem?_cons_zero, List.getElem?_cons_succ, List.set_cons_zero, List.set_cons_succ, List.length_cons, List.length_nil, Option.map_some, Option.map_none, List.map_cons, List.map_nil, List.cons_append, List.nil_append, List.replicate, Nat.zero_add, Nat.reduceAdd, Nat.reduceSub, Nat.reduceLeDiff, if_true, if_false, Bool.not_true, Bool.not_false, reduceCtorEq, reduceIte, decide_true, decide_false, Bool.false_eq_true, List.isEmpty_cons, List.isEmpty_nil, ixT0, ixT1, ixT2, ixL0, ixL1, ixL2, isD_nn, isD_in, isD_sn, isD_tn, isN_nn, isN_in, isN_sn, isN_tn, Int.cast_ofNat_Int, Int.reduceEq, Int.reduceLT, Int.reduceLE, Bool.and_false, Bool.and_true, Bool.true_and, Bool.false_and, Bool.or_false, Bool.or_true, Bool.true_or, Bool.false_or, h, str0, neD_S, hne])]
    simp only [mSeq, mSet, mVar, mC, mOp, seqE, optE, mTru, mAnd, mOr, mNot, mIf, mBl, mNil, mCons, mCall, mTup, argsD, dsOf, tupD, mFz, mLst, mRet, mDrop, mNx, mBk, mCt, mFail, mItems, itemsD, mRng, mgName, mgNil, mgCons, mgTup, mAsg, mFor, mNo, mPart, mSl, mB, mSetO, mAppend, mPop, mPkOp, mPkIx, mPkLen, mScrLen, mYes, mPar, mPar3, mParO, mAug, mMtS, mIs, mStar, mFmt, mJs, mAndV, mOrV, mListO, mCatO, mgUnl, truD, pk, List.getElem?_cons_zero, List.getElem?_cons_succ, List.set_cons_zero, List.set_cons_succ, List.length_cons, List.length_nil, Option.map_some, Option.map_none, List.map_cons, List.map_nil, List.cons_append, List.nil_append, List.replicate, Nat.zero_add, Nat.reduceAdd, Nat.reduceSub, Nat.reduceLeDiff, if_true, if_false, Bool.not_true, Bool.not_false, reduceCtorEq, reduceIte, decide_true, decide_false, Bool.false_eq_true, List.isEmpty_cons, List.isEmpty_nil, ixT0, ixT1, ixT2, ixL0, ixL1, ixL2, isD_nn, isD_in, isD_sn, isD_tn, isN_nn, isN_in, isN_sn, isN_tn, Int.cast_ofNat_Int, Int.reduceEq, Int.reduceLT, Int.reduceLE, Bool.and_false, Bool.and_true, Bool.true_and, Bool.false_and, Bool.or_false, Bool.or_true, Bool.true_or, Bool.false_or, h, intD_num (ho n rfl)]
    rfl
theorem run_lparts (b : Bool) {p : Pt} (h : p.Wf) (w : W) : m__law_parts [.d (.str (S (prB b p)))] w = some (.d (lpD p), w) := by
  have hl := prB_len (b := b) h
  refine fn_ex rfl ?_
  unfold b__law_parts
  have Lr : (nsS p.ns ++ (foS p.fo ++ (poS p.po ++ dvS p.dv))).length ≤ 2000 := by
    have : prB b p = epS b p.ep ++ (nsS p.ns ++ (foS p.fo ++ (poS p.po ++ dvS p.dv))) := rfl
    rw [this, List.length_append] at hl
    omega
  have hb : 33 ∉ nsS p.ns ++ tlS p := by
    have h1 := bang_ns p.ns
    have h2 := bang_tl h
    simp [h1, h2]
  -- the epoch
  obtain ⟨a, m, hrp, hint⟩ : ∃ a m, rpart (S (prB b p)) (S [33]) = (S a, S m, S (nsS p.ns ++ (foS p.fo ++ (poS p.po ++ dvS p.dv)))) ∧ addD (.str (S [48])) (.str (S a)) = some (.str (S (48 :: a))) ∧ intD [.str (S (48 :: a))] = some (.int (p.ep : Int)) := by
    show ∃ a m, rpart (S (epS b p.ep ++ (nsS p.ns ++ tlS p))) (S [33]) = (S a, S m, S (nsS p.ns ++ tlS p)) ∧ _
    unfold epS
    by_cases c : p.ep = 0 ∧ b = false
    · rw [if_pos c, List.nil_append]
      refine ⟨[], [], rpart_none hb, addD_S (a := [48]) (b := []) (by decide), ?_⟩
      rw [c.1]
      exact intD_0
    · rw [if_neg c, List.append_assoc]
      refine ⟨numL p.ep, [33], rpart_some hb, addD_S (a := [48]) (b := numL p.ep) (sh_le (by have := num24 h.ep; simp only [List.length_append, List.length_cons, List.length_nil]; omega)), intD_0num h.ep⟩
  have hr := rpartD_S (sh_le hl) hrp
  have hp1 := part_dev h
  have hp2 := part_post h
  generalize prB b p = l at hr ⊢
  refine ex_nx (e1 := [some (.d (.str (S l))), some (.d (.str (S a))), some (.d (.str (S m))), some (.d (.str (S (nsS p.ns ++ (foS p.fo ++ (poS p.po ++ dvS p.dv)))))), none, none, none, none, none, none]) (w1 := w) (by (simp only [mSeq, mSet, mVar, mC, mOp, seqE, optE, mTru, mAnd, mOr, mNot, mIf, mBl, mNil, mCons, mCall, mTup, argsD, dsOf, tupD, mFz, mLst, mRet, mDrop, mNx, mBk, mCt, mFail, mItems, itemsD, mRng, mgName, mgNil, mgCons, mgTup, mAsg, mFor, mNo, mPart, mSl, mB, mSetO, mAppend, mPop, mPkOp, mPkIx, mPkLen, mScrLen, mYes, mPar, mPar3, mParO, mAug, mMtS, mIs, mStar, mFmt, mJs, mAndV, mOrV, mListO, mCatO, mgUnl, truD, pk, List.getElem?_cons_zero, List.getElem?_cons_succ, List.set_cons_zero, List.set_cons_succ, List.length_cons, List.length_nil, Option.map_some, Option.map_none, List.map_cons, List.map_nil, List.cons_append, List.nil_append, List.replicate, Nat.zero_add, Nat.reduceAdd, Nat.reduceSub, Nat.reduceLeDiff, if_true, if_false, Bool.not_true, Bool.not_false, reduceCtorEq, reduceIte, decide_true, decide_false, Bool.false_eq_true, List.isEmpty_cons, List.isEmpty_nil, ixT0, ixT1, ixT2, ixL0, ixL1, ixL2, isD_nn, isD_in, isD_sn, isD_tn, isN_nn, isN_in, isN_sn, isN_tn, Int.cast_ofNat_Int, Int.reduceEq, Int.reduceLT, Int.reduceLE, Bool.and_false, Bool.and_true, Bool.true_and, Bool.false_and, Bool.or_false, Bool.or_true, Bool.true_or, Bool.false_or, strBang, hr] <;> rfl)) ?_
  have d1 : partD (.str (S (nsS p.ns ++ (foS p.fo ++ (poS p.po ++ dvS p.dv))))) [.str (S DEVS)] = some (.tuple [.str (S (nsS p.ns ++ (foS p.fo ++ poS p.po))), .str (S (mkS DEVS p.dv)), .str (S (onS p.dv))]) := by
    cases e : p.dv with
    | none =>
      rw [e] at hp1 Lr
      rw [partD_none (sh_le Lr) (by decide) hp1]
      simp only [dvS, List.append_nil, mkS, onS]
    | some d =>
      rw [e] at hp1 Lr
      exact partD_some (sh_le Lr) (by decide) hp1
  have L2 : (nsS p.ns ++ (foS p.fo ++ poS p.po)).length ≤ 2000 := by simp only [List.length_append] at Lr ⊢; omega
  have d2 : partD (.str (S (nsS p.ns ++ (foS p.fo ++ poS p.po)))) [.str (S POSTS)] = some (.tuple [.str (S (nsS p.ns ++ foS p.fo)), .str (S (mkS POSTS p.po)), .str (S (onS p.po))]) := by
    cases e : p.po with
    | none =>
      rw [e] at hp2 L2
      rw [partD_none (sh_le L2) (by decide) hp2]
      simp only [poS, List.append_nil, mkS, onS]
    | some d =>
      rw [e] at hp2 L2
      exact partD_some (sh_le L2) (by decide) hp2
  have L3 : (nsS p.ns ++ foS p.fo).length ≤ 2000 := by simp only [List.length_append] at L2 ⊢; omega
  have L4 : (nsS p.ns).length ≤ 2000 := by simp only [List.length_append] at L3; omega
  have hsp := split_ns h.ne (sh_le L4)
  generalize nsS p.ns ++ (foS p.fo ++ (poS p.po ++ dvS p.dv)) = r1 at d1 ⊢
  generalize nsS p.ns ++ (foS p.fo ++ poS p.po) = r2 at d1 d2 ⊢
  refine ex_nx (e1 := [some (.d (.str (S l))), some (.d (.str (S a))), some (.d (.str (S (mkS DEVS p.dv)))), some (.d (.str (S r2))), some (.d (.str (S (onS p.dv)))), none, none, none, none, none]) (w1 := w) (by (simp only [mSeq, mSet, mVar, mC, mOp, seqE, optE, mTru, mAnd, mOr, mNot, mIf, mBl, mNil, mCons, mCall, mTup, argsD, dsOf, tupD, mFz, mLst, mRet, mDrop, mNx, mBk, mCt, mFail, mItems, itemsD, mRng, mgName, mgNil, mgCons, mgTup, mAsg, mFor, mNo, mPart, mSl, mB, mSetO, mAppend, mPop, mPkOp, mPkIx, mPkLen, mScrLen, mYes, mPar, mPar3, mParO, mAug, mMtS, mIs, mStar, mFmt, mJs, mAndV, mOrV, mListO, mCatO, mgUnl, truD, pk, List.getElem?_cons_zero, List.getElem?_cons_succ, List.set_cons_zero, List.set_cons_succ, List.length_cons, List.length_nil, Option.map_some, Option.map_none, List.map_cons, List.map_nil, List.cons_append, List.nil_append, List.replicate, Nat.zero_add, Nat.reduceAdd, Nat.reduceSub, Nat.reduceLeDiff, if_true, if_false, Bool.not_true, Bool.not_false, reduceCtorEq, reduceIte, decide_true, decide_false, Bool.false_eq_true, List.isEmpty_cons, List.isEmpty_nil, ixT0, ixT1, ixT2, ixL0, ixL1, ixL2, isD_nn, isD_in, isD_sn, isD_tn, isN_nn, isN_in, isN_sn, isN_tn, Int.cast_ofNat_Int, Int.reduceEq, Int.reduceLT, Int.reduceLE, Bool.and_false, Bool.and_true, Bool.true_and, Bool.false_and, Bool.or_false, Bool.or_true, Bool.true_or, Bool.false_or, dev_data, d1] <;> rfl)) ?_
  refine ex_nx (e1 := [some (.d (.str (S l))), some (.d (.str (S a))), some (.d (.str (S (mkS POSTS p.po)))), some (.d (.str (S (nsS p.ns ++ foS p.fo)))), some (.d (.str (S (onS p.dv)))), some (.d (.str (S (onS p.po)))), none, none, none, none]) (w1 := w) (by (simp only [mSeq, mSet, mVar, mC, mOp, seqE, optE, mTru, mAnd, mOr, mNot, mIf, mBl, mNil, mCons, mCall, mTup, argsD, dsOf, tupD, mFz, mLst, mRet, mDrop, mNx, mBk, mCt, mFail, mItems, itemsD, mRng, mgName, mgNil, mgCons, mgTup, mAsg, mFor, mNo, mPart, mSl, mB, mSetO, mAppend, mPop, mPkOp, mPkIx, mPkLen, mScrLen, mYes, mPar, mPar3, mParO, mAug, mMtS, mIs, mStar, mFmt, mJs, mAndV, mOrV, mListO, mCatO, mgUnl, truD, pk, List.getElem?_cons_zero, List.getElem?_cons_succ, List.set_cons_zero, List.set_cons_succ, List.length_cons, List.length_nil, Option.map_some, Option.map_none, List.map_cons, List.map_nil, List.cons_append, List.nil_append, List.replicate, Nat.zero_add, Nat.reduceAdd, Nat.reduceSub, Nat.reduceLeDiff, if_true, if_false, Bool.not_true, Bool.not_false, reduceCtorEq, reduceIte, decide_true, decide_false, Bool.false_eq_true, List.isEmpty_cons, List.isEmpty_nil, ixT0, ixT1, ixT2, ixL0, ixL1, ixL2, isD_nn, isD_in, isD_sn, isD_tn, isN_nn, isN_in, isN_sn, isN_tn, Int.cast_ofNat_Int, Int.reduceEq, Int.reduceLT, Int.reduceLE, Bool.and_false, Bool.and_true, Bool.true_and, Bool.false_and, Bool.or_false, Bool.or_true, Bool.true_or, Bool.false_or, post_data, d2] <;> rfl)) ?_
  refine ex_nx (e1 := [some (.d (.str (S l))), some (.d (.str (S a))), some (.d (.str (S (mkS POSTS p.po)))), some (.d (.str (S (nsS p.ns ++ foS p.fo)))), some (.d (.str (S (onS p.dv)))), some (.d (.str (S (onS p.po)))), some (.d (.list [])), none, none, none]) (w1 := w) (by (simp only [mSeq, mSet, mVar, mC, mOp, seqE, optE, mTru, mAnd, mOr, mNot, mIf, mBl, mNil, mCons, mCall, mTup, argsD, dsOf, tupD, mFz, mLst, mRet, mDrop, mNx, mBk, mCt, mFail, mItems, itemsD, mRng, mgName, mgNil, mgCons, mgTup, mAsg, mFor, mNo, mPart, mSl, mB, mSetO, mAppend, mPop, mPkOp, mPkIx, mPkLen, mScrLen, mYes, mPar, mPar3, mParO, mAug, mMtS, mIs, mStar, mFmt, mJs, mAndV, mOrV, mListO, mCatO, mgUnl, truD, pk, List.getElem?_cons_zero, List.getElem?_cons_succ, List.set_cons_zero, List.set_cons_succ, List.length_cons, List.length_nil, Option.map_some, Option.map_none, List.map_cons, List.map_nil, List.cons_append, List.nil_append, List.replicate, Nat.zero_add, Nat.reduceAdd, Nat.reduceSub, Nat.reduceLeDiff, if_true, if_false, Bool.not_true, Bool.not_false, reduceCtorEq, reduceIte, decide_true, decide_false, Bool.false_eq_true, List.isEmpty_cons, List.isEmpty_nil, ixT0, ixT1, ixT2, ixL0, ixL1, ixL2, isD_nn, isD_in, isD_sn, isD_tn, isN_nn, isN_in, isN_sn, isN_tn, Int.cast_ofNat_Int, Int.reduceEq, Int.reduceLT, Int.reduceLE, Bool.and_false, Bool.and_true, Bool.true_and, Bool.false_and, Bool.or_false, Bool.or_true, Bool.true_or, Bool.false_or] <;> rfl)) ?_
  obtain ⟨m', u', v', hlp⟩ := lp_loop (some (.d (.str (S l)))) (some (.d (.str (S a)))) (some (.d (.str (S (mkS POSTS p.po))))) (some (.d (.str (S (onS p.dv))))) (some (.d (.str (S (onS p.po))))) none none none w (ns := p.ns) h.fo (sh_le L3)
  have hfor : ∀ (env : Ev), mFor (mItems (mTup (mCons (mC (.str "rc")) (mCons (mC (.str "b")) (mCons (mC (.str "a")) mNil))))) (mgName 7) bF1__law_parts env w = mLoop (mgName 7) bF1__law_parts [.str (S [114, 99]), .str (S [98]), .str (S [97])] env w := fun env => by
    unfold mFor
    simp only [mSeq, mSet, mVar, mC, mOp, seqE, optE, mTru, mAnd, mOr, mNot, mIf, mBl, mNil, mCons, mCall, mTup, argsD, dsOf, tupD, mFz, mLst, mRet, mDrop, mNx, mBk, mCt, mFail, mItems, itemsD, mRng, mgName, mgNil, mgCons, mgTup, mAsg, mFor, mNo, mPart, mSl, mB, mSetO, mAppend, mPop, mPkOp, mPkIx, mPkLen, mScrLen, mYes, mPar, mPar3, mParO, mAug, mMtS, mIs, mStar, mFmt, mJs, mAndV, mOrV, mListO, mCatO, mgUnl, truD, pk, List.getElem?_cons_zero, List.getElem?_cons_succ, List.set_cons_zero, List.set_cons_succ, List.length_cons, List.length_nil, Option.map_some, Option.map_none, List.map_cons, List.map_nil, List.cons_append, List.nil_append, List.replicate, Nat.zero_add, Nat.reduceAdd, Nat.reduceSub, Nat.reduceLeDiff, if_true, if_false, Bool.not_true, Bool.not_false, reduceCtorEq, reduceIte, decide_true, decide_false, Bool.false_eq_true, List.isEmpty_cons, List.isEmpty_nil, ixT0, ixT1, ixT2, ixL0, ixL1, ixL2, isD_nn, isD_in, isD_sn, isD_tn, isN_nn, isN_in, isN_sn, isN_tn, Int.cast_ofNat_Int, Int.reduceEq, Int.reduceLT, Int.reduceLE, Bool.and_false, Bool.and_true, Bool.true_and, Bool.false_and, Bool.or_false, Bool.or_true, Bool.true_or, Bool.false_or]
    rfl
  refine ex_nx ((hfor _).trans hlp) ?_
  have hlc := lc_ints w (some (.d (.str (S l)))) (some (.d (.str (S a)))) m' (some (.d (.str (S (nsS p.ns))))) (some (.d (.str (S (onS p.dv))))) (some (.d (.str (S (onS p.po))))) (some (.d (foL p.fo))) u' none p.ns [] h.sm
  rw [List.nil_append] at hlc
  have hw : wipeE [some (.d (.str (S l))), some (.d (.str (S a))), m', some (.d (.str (S (nsS p.ns)))), some (.d (.str (S (onS p.dv)))), some (.d (.str (S (onS p.po)))), some (.d (foL p.fo)), u', v', none] [8] = [some (.d (.str (S l))), some (.d (.str (S a))), m', some (.d (.str (S (nsS p.ns)))), some (.d (.str (S (onS p.dv)))), some (.d (.str (S (onS p.po)))), some (.d (foL p.fo)), u', none, none] := rfl
  obtain ⟨v2, hrs⟩ : ∃ v2, rst [some (.d (.str (S l))), some (.d (.str (S a))), m', some (.d (.str (S (nsS p.ns)))), some (.d (.str (S (onS p.dv)))), some (.d (.str (S (onS p.po)))), some (.d (foL p.fo)), u', v', none] [some (.d (.str (S l))), some (.d (.str (S a))), m', some (.d (.str (S (nsS p.ns)))), some (.d (.str (S (onS p.dv)))), some (.d (.str (S (onS p.po)))), some (.d (foL p.fo)), u', none, none] [8] = [some (.d (.str (S l))), some (.d (.str (S a))), m', some (.d (.str (S (nsS p.ns)))), some (.d (.str (S (onS p.dv)))), some (.d (.str (S (onS p.po)))), some (.d (foL p.fo)), u', v2, none] := ⟨_, rfl⟩
  refine ex_nx (e1 := [some (.d (.str (S l))), some (.d (.str (S a))), m', some (.d (.str (S (nsS p.ns)))), some (.d (.str (S (onS p.dv)))), some (.d (.str (S (onS p.po)))), some (.d (foL p.fo)), u', v2, some (.d (.list (intsD p.ns)))]) (w1 := w) (by simp only [mSeq, mSet, mVar, mC, mOp, seqE, optE, mTru, mAnd, mOr, mNot, mIf, mBl, mNil, mCons, mCall, mTup, argsD, dsOf, tupD, mFz, mLst, mRet, mDrop, mNx, mBk, mCt, mFail, mItems, itemsD, mRng, mgName, mgNil, mgCons, mgTup, mAsg, mFor, mNo, mPart, mSl, mB, mSetO, mAppend, mPop, mPkOp, mPkIx, mPkLen, mScrLen, mYes, mPar, mPar3, mParO, mAug, mMtS, mIs, mStar, mFmt, mJs, mAndV, mOrV, mListO, mCatO, mgUnl, truD, pk, List.getElem?_cons_zero, List.getElem?_cons_succ, List.set_cons_zero, List.set_cons_succ, List.length_cons, List.length_nil, Option.map_some, Option.map_none, List.map_cons, List.map_nil, List.cons_append, List.nil_append, List.replicate, Nat.zero_add, Nat.reduceAdd, Nat.reduceSub, Nat.reduceLeDiff, if_true, if_false, Bool.not_true, Bool.not_false, reduceCtorEq, reduceIte, decide_true, decide_false, Bool.false_eq_true, List.isEmpty_cons, List.isEmpty_nil, ixT0, ixT1, ixT2, ixL0, ixL1, ixL2, isD_nn, isD_in, isD_sn, isD_tn, isN_nn, isN_in, isN_sn, isN_tn, Int.cast_ofNat_Int, Int.reduceEq, Int.reduceLT, Int.reduceLE, Bool.and_false, Bool.and_true, Bool.true_and, Bool.false_and, Bool.or_false, Bool.or_true, Bool.true_or, Bool.false_or, strDot, hsp, mLc, hw, hlc, hrs]) ?_
  exact ⟨_, ret_ok (tup_ok (cons_ok (by (simp only [mSeq, mSet, mVar, mC, mOp, seqE, optE, mTru, mAnd, mOr, mNot, mIf, mBl, mNil, mCons, mCall, mTup, argsD, dsOf, tupD, mFz, mLst, mRet, mDrop, mNx, mBk, mCt, mFail, mItems, itemsD, mRng, mgName, mgNil, mgCons, mgTup, mAsg, mFor, mNo, mPart, mSl, mB, mSetO, mAppend, mPop, mPkOp, mPkIx, mPkLen, mScrLen, mYes, mPar, mPar3, mParO, mAug, mMtS, mIs, mStar, mFmt, mJs, mAndV, mOrV, mListO, mCatO, mgUnl, truD, pk, List.getElem?_cons_zero, List.getElem?_cons_succ, List.set_cons_zero, List.set_cons_succ, List.length_cons, List.length_nil, Option.map_some, Option.map_none, List.map_cons, List.map_nil, List.cons_append, List.nil_append, List.replicate, Nat.zero_add, Nat.reduceAdd, Nat.reduceSub, Nat.reduceLeDiff, if_true, if_false, Bool.not_true, Bool.not_false, reduceCtorEq, reduceIte, decide_true, decide_false, Bool.false_eq_true, List.isEmpty_cons, List.isEmpty_nil, ixT0, ixT1, ixT2, ixL0, ixL1, ixL2, isD_nn, isD_in, isD_sn, isD_tn, isN_nn, isN_in, isN_sn, isN_tn, Int.cast_ofNat_Int, Int.reduceEq, Int.reduceLT, Int.reduceLE, Bool.and_false, Bool.and_true, Bool.true_and, Bool.false_and, Bool.or_false, Bool.or_true, Bool.true_or, Bool.false_or, strN, hint.1, hint.2] <;> rfl)) (cons_ok (by (simp only [mSeq, mSet, mVar, mC, mOp, seqE, optE, mTru, mAnd, mOr, mNot, mIf, mBl, mNil, mCons, mCall, mTup, argsD, dsOf, tupD, mFz, mLst, mRet, mDrop, mNx, mBk, mCt, mFail, mItems, itemsD, mRng, mgName, mgNil, mgCons, mgTup, mAsg, mFor, mNo, mPart, mSl, mB, mSetO, mAppend, mPop, mPkOp, mPkIx, mPkLen, mScrLen, mYes, mPar, mPar3, mParO, mAug, mMtS, mIs, mStar, mFmt, mJs, mAndV, mOrV, mListO, mCatO, mgUnl, truD, pk, List.getElem?_cons_zero, List.getElem?_cons_succ, List.set_cons_zero, List.set_cons_succ, List.length_cons, List.length_nil, Option.map_some, Option.map_none, List.map_cons, List.map_nil, List.cons_append, List.nil_append, List.replicate, Nat.zero_add, Nat.reduceAdd, Nat.reduceSub, Nat.reduceLeDiff, if_true, if_false, Bool.not_true, Bool.not_false, reduceCtorEq, reduceIte, decide_true, decide_false, Bool.false_eq_true, List.isEmpty_cons, List.isEmpty_nil, ixT0, ixT1, ixT2, ixL0, ixL1, ixL2, isD_nn, isD_in, isD_sn, isD_tn, isN_nn, isN_in, isN_sn, isN_tn, Int.cast_ofNat_Int, Int.reduceEq, Int.reduceLT, Int.reduceLE, Bool.and_false, Bool.and_true, Bool.true_and, Bool.false_and, Bool.or_false, Bool.or_true, Bool.true_or, Bool.false_or] <;> rfl)) (cons_ok (by (simp only [mSeq, mSet, mVar, mC, mOp, seqE, optE, mTru, mAnd, mOr, mNot, mIf, mBl, mNil, mCons, mCall, mTup, argsD, dsOf, tupD, mFz, mLst, mRet, mDrop, mNx, mBk, mCt, mFail, mItems, itemsD, mRng, mgName, mgNil, mgCons, mgTup, mAsg, mFor, mNo, mPart, mSl, mB, mSetO, mAppend, mPop, mPkOp, mPkIx, mPkLen, mScrLen, mYes, mPar, mPar3, mParO, mAug, mMtS, mIs, mStar, mFmt, mJs, mAndV, mOrV, mListO, mCatO, mgUnl, truD, pk, List.getElem?_cons_zero, List.getElem?_cons_succ, List.set_cons_zero, List.set_cons_succ, List.length_cons, List.length_nil, Option.map_some, Option.map_none, List.map_cons, List.map_nil, List.cons_append, List.nil_append, List.replicate, Nat.zero_add, Nat.reduceAdd, Nat.reduceSub, Nat.reduceLeDiff, if_true, if_false, Bool.not_true, Bool.not_false, reduceCtorEq, reduceIte, decide_true, decide_false, Bool.false_eq_true, List.isEmpty_cons, List.isEmpty_nil, ixT0, ixT1, ixT2, ixL0, ixL1, ixL2, isD_nn, isD_in, isD_sn, isD_tn, isN_nn, isN_in, isN_sn, isN_tn, Int.cast_ofNat_Int, Int.reduceEq, Int.reduceLT, Int.reduceLE, Bool.and_false, Bool.and_true, Bool.true_and, Bool.false_and, Bool.or_false, Bool.or_true, Bool.true_or, Bool.false_or] <;> rfl)) (cons_ok (lp_on h.po 5 _ _ rfl) (cons_ok (lp_on h.dv 4 _ _ rfl) nil_ok))))) rfl (by simp))⟩
end Dn

set_option maxHeartbeats 4000000
namespace Dn
open PySem PySem.Spec PyProof.Rows L2 SX
open TL (numL pre joinL)

/-! ### _law_base -/
theorem ix_last (xs : List PyData) (x : PyData) : ixD (.list (xs ++ [x])) (.int (-1)) = some x := by
  show atI (xs ++ [x]) (-1) = some x
  unfold atI ixN
  rw [if_neg (by decide), List.length_append, List.length_singleton, if_pos (by omega)]
  show (xs ++ [x])[((-1 : Int) + ((xs.length + 1 : Nat) : Int)).toNat]? = some x
  rw [show ((-1 : Int) + ((xs.length + 1 : Nat) : Int)).toNat = xs.length by omega, List.getElem?_append_right (Nat.le_refl _), Nat.sub_self]
  rfl
theorem intsD_snoc (ns : List Nat) (n : Nat) : intsD (ns ++ [n]) = intsD ns ++ [.int (n : Int)] := by unfold intsD; simp
theorem ne_snoc (xs : List PyData) (x : PyData) : neD (.list (xs ++ [x])) (.list []) = some (.bool true) := by
  cases xs with
  | nil => exact neD_nil1 _ _
  | cons y ys => exact neD_nil1 _ _
theorem loop_lbase (x : Option SD) (w : W) : ∀ (f : Nat) (ns : List Nat), ns.length < f →
    mWhile cW1__law_base (mPop 1) f [x, some (.own (intsD ns))] w = some (.nx, [x, some (.own (intsD (bas ns)))], w)
  | 0, ns, hf => by omega
  | f + 1, ns, hf => by
    rcases List.eq_nil_or_concat ns with rfl | ⟨ys, n, e⟩
    · rw [while_end (e1 := [x, some (.own (intsD []))]) (w1 := w) (by
        unfold cW1__law_base
        have : intsD [] = [] := rfl
        rw [this]
        (simp only [mSeq, mSet, mVar, mC, mOp, seqE, optE, mTru, mAnd, mOr, mNot, mIf, mBl, mNil, mCons, mCall, mTup, argsD, dsOf, tupD, mFz, mLst, mRet, mDrop, mNx, mBk, mCt, mFail, mItems, itemsD, mRng, mgName, mgNil, mgCons, mgTup, mAsg, mFor, mNo, mPart, mSl, mB, mSetO, mAppend, mPop, mPkOp, mPkIx, mPkLen, mScrLen, mYes, mPar, mPar3, mParO, mAug, mMtS, mIs, mStar, mFmt, mJs, mAndV, mOrV, mListO, mCatO, mgUnl, truD, pk, List.getElem?_cons_zero, List.getElem?_cons_succ, List.set_cons_zero, List.set_cons_succ, List.length_cons, List.length_nil, Option.map_some, Option.map_none, List.map_cons, List.map_nil, List.cons_append, List.nil_append, List.replicate, Nat.zero_add, Nat.reduceAdd, Nat.reduceSub, Nat.reduceLeDiff, if_true, if_false, Bool.not_true, Bool.not_false, reduceCtorEq, reduceIte, decide_true, decide_false, Bool.false_eq_true, List.isEmpty_cons, List.isEmpty_nil, ixT0, ixT1, ixT2, ixL0, ixL1, ixL2, isD_nn, isD_in, isD_sn, isD_tn, isN_nn, isN_in, isN_sn, isN_tn, Int.cast_ofNat_Int, Int.reduceEq, Int.reduceLT, Int.reduceLE, Bool.and_false, Bool.and_true, Bool.true_and, Bool.false_and, Bool.or_false, Bool.or_true, Bool.true_or, Bool.false_or, neD_nil0, flatO, flat] <;> rfl))]
      rfl
    · have e' : ns = ys ++ [n] := by rw [e, List.concat_eq_append]
      subst e'
      rw [List.length_append, List.length_singleton] at hf
      have h1 := ne_snoc (intsD ys) (.int (n : Int))
      have h2 := ix_last (intsD ys) (.int (n : Int))
      by_cases hz : n = 0
      · subst hz
        rw [bas_zero, while_go (e1 := [x, some (.own (intsD (ys ++ [0])))]) (w1 := w) (e2 := [x, some (.own (intsD ys))]) (w2 := w) ?_ ?_]
        · exact loop_lbase x w f ys (by omega)
        · have h3 := ne_snoc (intsD ys) (.int 0)
          have h4 := ix_last (intsD ys) (.int 0)
          rw [intsD_snoc]
          unfold cW1__law_base
          simp only [mSeq, mSet, mVar, mC, mOp, seqE, optE, mTru, mAnd, mOr, mNot, mIf, mBl, mNil, mCons, mCall, mTup, argsD, dsOf, tupD, mFz, mLst, mRet, mDrop, mNx, mBk, mCt, mFail, mItems, itemsD, mRng, mgName, mgNil, mgCons, mgTup, mAsg, mFor, mNo, mPart, mSl, mB, mSetO, mAppend, mPop, mPkOp, mPkIx, mPkLen, mScrLen, mYes, mPar, mPar3, mParO, mAug, mMtS, mIs, mStar, mFmt, mJs, mAndV, mOrV, mListO, mCatO, mgUnl, truD, pk, List.getElem?_cons_zero, List.getElem?_cons_succ, List.set_cons_zero, List.set_cons_succ, List.length_cons, List.length_nil, Option.map_some, Option.map_none, List.map_cons, List.map_nil, List.cons_append, List.nil_append, List.replicate, Nat.zero_add, Nat.reduceAdd, Nat.reduceSub, Nat.reduceLeDiff, if_true, if_false, Bool.not_true, Bool.not_false, reduceCtorEq, reduceIte, decide_true, decide_false, Bool.false_eq_true, List.isEmpty_cons, List.isEmpty_nil, ixT0, ixT1, ixT2, ixL0, ixL1, ixL2, isD_nn, isD_in, isD_sn, isD_tn, isN_nn, isN_in, isN_sn, isN_tn, Int.cast_ofNat_Int, Int.reduceEq, Int.reduceLT, Int.reduceLE, Bool.and_false, Bool.and_true, Bool.true_and, Bool.false_and, Bool.or_false, Bool.or_true, Bool.true_or, Bool.false_or, mNeg, h3, h4, flatO, flat, eqD_int]
        · rw [intsD_snoc]
          unfold mPop
          simp only [List.getElem?_cons_zero, List.getElem?_cons_succ]
          cases q : intsD ys ++ [PyData.int ((0 : Nat) : Int)] with
          | nil => simp at q
          | cons a r =>
            dsimp only
            rw [← q, List.dropLast_concat]
            rfl
      · have hz' : ¬ ((n : Int) = 0) := by omega
        rw [bas_pos _ hz, while_end (e1 := [x, some (.own (intsD (ys ++ [n])))]) (w1 := w) ?_]
        rw [intsD_snoc]
        unfold cW1__law_base
        simp only [mSeq, mSet, mVar, mC, mOp, seqE, optE, mTru, mAnd, mOr, mNot, mIf, mBl, mNil, mCons, mCall, mTup, argsD, dsOf, tupD, mFz, mLst, mRet, mDrop, mNx, mBk, mCt, mFail, mItems, itemsD, mRng, mgName, mgNil, mgCons, mgTup, mAsg, mFor, mNo, mPart, mSl, mB, mSetO, mAppend, mPop, mPkOp, mPkIx, mPkLen, mScrLen, mYes, mPar, mPar3, mParO, mAug, mMtS, mIs, mStar, mFmt, mJs, mAndV, mOrV, mListO, mCatO, mgUnl, truD, pk, List.getElem?_cons_zero, List.getElem?_cons_succ, List.set_cons_zero, List.set_cons_succ, List.length_cons, List.length_nil, Option.map_some, Option.map_none, List.map_cons, List.map_nil, List.cons_append, List.nil_append, List.replicate, Nat.zero_add, Nat.reduceAdd, Nat.reduceSub, Nat.reduceLeDiff, if_true, if_false, Bool.not_true, Bool.not_false, reduceCtorEq, reduceIte, decide_true, decide_false, Bool.false_eq_true, List.isEmpty_cons, List.isEmpty_nil, ixT0, ixT1, ixT2, ixL0, ixL1, ixL2, isD_nn, isD_in, isD_sn, isD_tn, isN_nn, isN_in, isN_sn, isN_tn, Int.cast_ofNat_Int, Int.reduceEq, Int.reduceLT, Int.reduceLE, Bool.and_false, Bool.and_true, Bool.true_and, Bool.false_and, Bool.or_false, Bool.or_true, Bool.true_or, Bool.false_or, mNeg, h1, h2, flatO, flat, eqD_int, hz']
theorem run_lbase (a : PyData) {ns : List Nat} (hl : ns.length ≤ 1000) (rest : List PyData) (w : W) : m__law_base [.d (.tuple (a :: .list (intsD ns) :: rest))] w = some (.d (.tuple [a, .list (intsD (bas ns))]), w) := by
  refine fn_ex rfl ?_
  unfold b__law_base
  refine ex_nx (e1 := [some (.d (.tuple (a :: .list (intsD ns) :: rest))), some (.own (intsD ns))]) (w1 := w) (by (simp only [mSeq, mSet, mVar, mC, mOp, seqE, optE, mTru, mAnd, mOr, mNot, mIf, mBl, mNil, mCons, mCall, mTup, argsD, dsOf, tupD, mFz, mLst, mRet, mDrop, mNx, mBk, mCt, mFail, mItems, itemsD, mRng, mgName, mgNil, mgCons, mgTup, mAsg, mFor, mNo, mPart, mSl, mB, mSetO, mAppend, mPop, mPkOp, mPkIx, mPkLen, mScrLen, mYes, mPar, mPar3, mParO, mAug, mMtS, mIs, mStar, mFmt, mJs, mAndV, mOrV, mListO, mCatO, mgUnl, truD, pk, List.getElem?_cons_zero, List.getElem?_cons_succ, List.set_cons_zero, List.set_cons_succ, List.length_cons, List.length_nil, Option.map_some, Option.map_none, List.map_cons, List.map_nil, List.cons_append, List.nil_append, List.replicate, Nat.zero_add, Nat.reduceAdd, Nat.reduceSub, Nat.reduceLeDiff, if_true, if_false, Bool.not_true, Bool.not_false, reduceCtorEq, reduceIte, decide_true, decide_false, Bool.false_eq_true, List.isEmpty_cons, List.isEmpty_nil, ixT0, ixT1, ixT2, ixL0, ixL1, ixL2, isD_nn, isD_in, isD_sn, isD_tn, isN_nn, isN_in, isN_sn, isN_tn, Int.cast_ofNat_Int, Int.reduceEq, Int.reduceLT, Int.reduceLE, Bool.and_false, Bool.and_true, Bool.true_and, Bool.false_and, Bool.or_false, Bool.or_true, Bool.true_or, Bool.false_or] <;> rfl)) ?_
  refine ex_nx (loop_lbase _ w fuel ns (by unfold fuel; omega)) ?_
  exact ⟨_, by (simp only [mSeq, mSet, mVar, mC, mOp, seqE, optE, mTru, mAnd, mOr, mNot, mIf, mBl, mNil, mCons, mCall, mTup, argsD, dsOf, tupD, mFz, mLst, mRet, mDrop, mNx, mBk, mCt, mFail, mItems, itemsD, mRng, mgName, mgNil, mgCons, mgTup, mAsg, mFor, mNo, mPart, mSl, mB, mSetO, mAppend, mPop, mPkOp, mPkIx, mPkLen, mScrLen, mYes, mPar, mPar3, mParO, mAug, mMtS, mIs, mStar, mFmt, mJs, mAndV, mOrV, mListO, mCatO, mgUnl, truD, pk, List.getElem?_cons_zero, List.getElem?_cons_succ, List.set_cons_zero, List.set_cons_succ, List.length_cons, List.length_nil, Option.map_some, Option.map_none, List.map_cons, List.map_nil, List.cons_append, List.nil_append, List.replicate, Nat.zero_add, Nat.reduceAdd, Nat.reduceSub, Nat.reduceLeDiff, if_true, if_false, Bool.not_true, Bool.not_false, reduceCtorEq, reduceIte, decide_true, decide_false, Bool.false_eq_true, List.isEmpty_cons, List.isEmpty_nil, ixT0, ixT1, ixT2, ixL0, ixL1, ixL2, isD_nn, isD_in, isD_sn, isD_tn, isN_nn, isN_in, isN_sn, isN_tn, Int.cast_ofNat_Int, Int.reduceEq, Int.reduceLT, Int.reduceLE, Bool.and_false, Bool.and_true, Bool.true_and, Bool.false_and, Bool.or_false, Bool.or_true, Bool.true_or, Bool.false_or] <;> rfl)⟩

/-! ### _law_key -/
def stageD (p : Pt) : PyData := match p.fo, p.po, p.dv with
  | some (x, n), _, _ => .list [.int 1, .str (S x), .int (n : Int)]
  | none, none, some _ => .list [.int 0]
  | none, _, _ => .list [.int 2]
def lkD (p : Pt) : PyData := .tuple [.tuple [.int (p.ep : Int), .list (intsD (bas p.ns))], stageD p, (match p.po with
  | none => .list [.int (-1)]
  | some n => .list [.int (n : Int)]), (match p.dv with
  | none => .list [.int 1]
  | some n => .list [.int 0, .int (n : Int)])]
theorem run_lkey (b : Bool) {p : Pt} (h : p.Wf) (w : W) : m__law_key [.d (.str (S (prB b p)))] w = some (.d (lkD p), w) := by
  refine fn_ex rfl ?_
  unfold b__law_key
  have h1 := run_lparts b h w
  have h2 := run_lbase (.int (p.ep : Int)) (ns := p.ns) (by have := h.len; omega) [foL p.fo, onL p.po, onL p.dv] w
  generalize prB b p = l at h1 ⊢
  unfold lpD at h1
  refine ex_nx (by (simp only [mSeq, mSet, mVar, mC, mOp, seqE, optE, mTru, mAnd, mOr, mNot, mIf, mBl, mNil, mCons, mCall, mTup, argsD, dsOf, tupD, mFz, mLst, mRet, mDrop, mNx, mBk, mCt, mFail, mItems, itemsD, mRng, mgName, mgNil, mgCons, mgTup, mAsg, mFor, mNo, mPart, mSl, mB, mSetO, mAppend, mPop, mPkOp, mPkIx, mPkLen, mScrLen, mYes, mPar, mPar3, mParO, mAug, mMtS, mIs, mStar, mFmt, mJs, mAndV, mOrV, mListO, mCatO, mgUnl, truD, pk, List.getElem?_cons_zero, List.getElem?_cons_succ, List.set_cons_zero, List.set_cons_succ, List.length_cons, List.length_nil, Option.map_some, Option.map_none, List.map_cons, List.map_nil, List.cons_append, List.nil_append, List.replicate, Nat.zero_add, Nat.reduceAdd, Nat.reduceSub, Nat.reduceLeDiff, if_true, if_false, Bool.not_true, Bool.not_false, reduceCtorEq, reduceIte, decide_true, decide_false, Bool.false_eq_true, List.isEmpty_cons, List.isEmpty_nil, ixT0, ixT1, ixT2, ixL0, ixL1, ixL2, isD_nn, isD_in, isD_sn, isD_tn, isN_nn, isN_in, isN_sn, isN_tn, Int.cast_ofNat_Int, Int.reduceEq, Int.reduceLT, Int.reduceLE, Bool.and_false, Bool.and_true, Bool.true_and, Bool.false_and, Bool.or_false, Bool.or_true, Bool.true_or, Bool.false_or, h1] <;> rfl)) ?_
  refine ex_nx (by (simp only [mSeq, mSet, mVar, mC, mOp, seqE, optE, mTru, mAnd, mOr, mNot, mIf, mBl, mNil, mCons, mCall, mTup, argsD, dsOf, tupD, mFz, mLst, mRet, mDrop, mNx, mBk, mCt, mFail, mItems, itemsD, mRng, mgName, mgNil, mgCons, mgTup, mAsg, mFor, mNo, mPart, mSl, mB, mSetO, mAppend, mPop, mPkOp, mPkIx, mPkLen, mScrLen, mYes, mPar, mPar3, mParO, mAug, mMtS, mIs, mStar, mFmt, mJs, mAndV, mOrV, mListO, mCatO, mgUnl, truD, pk, List.getElem?_cons_zero, List.getElem?_cons_succ, List.set_cons_zero, List.set_cons_succ, List.length_cons, List.length_nil, Option.map_some, Option.map_none, List.map_cons, List.map_nil, List.cons_append, List.nil_append, List.replicate, Nat.zero_add, Nat.reduceAdd, Nat.reduceSub, Nat.reduceLeDiff, if_true, if_false, Bool.not_true, Bool.not_false, reduceCtorEq, reduceIte, decide_true, decide_false, Bool.false_eq_true, List.isEmpty_cons, List.isEmpty_nil, ixT0, ixT1, ixT2, ixL0, ixL1, ixL2, isD_nn, isD_in, isD_sn, isD_tn, isN_nn, isN_in, isN_sn, isN_tn, Int.cast_ofNat_Int, Int.reduceEq, Int.reduceLT, Int.reduceLE, Bool.and_false, Bool.and_true, Bool.true_and, Bool.false_and, Bool.or_false, Bool.or_true, Bool.true_or, Bool.false_or] <;> rfl)) ?_
  unfold lkD stageD
  cases e1 : p.fo with
  | none =>
    cases e2 : p.po <;> cases e3 : p.dv <;> rw [e1, e2, e3] at h2 <;> simp only [foL, onL] at h2
    · refine ex_nx (by (simp only [mSeq, mSet, mVar, mC, mOp, seqE, optE, mTru, mAnd, mOr, mNot, mIf, mBl, mNil, mCons, mCall, mTup, argsD, dsOf, tupD, mFz, mLst, mRet, mDrop, mNx, mBk, mCt, mFail, mItems, itemsD, mRng, mgName, mgNil, mgCons, mgTup, mAsg, mFor, mNo, mPart, mSl, mB, mSetO, mAppend, mPop, mPkOp, mPkIx, mPkLen, mScrLen, mYes, mPar, mPar3, mParO, mAug, mMtS, mIs, mStar, mFmt, mJs, mAndV, mOrV, mListO, mCatO, mgUnl, truD, pk, List.getElem?_cons_zero, List.getElem?_cons_succ, List.set_cons_zero, List.set_cons_succ, List.length_cons, List.length_nil, Option.map_some, Option.map_none, List.map_cons, List.map_nil, List.cons_append, List.nil_append, List.replicate, Nat.zero_add, Nat.reduceAdd, Nat.reduceSub, Nat.reduceLeDiff, if_true, if_false, Bool.not_true, Bool.not_false, reduceCtorEq, reduceIte, decide_true, decide_false, Bool.false_eq_true, List.isEmpty_cons, List.isEmpty_nil, ixT0, ixT1, ixT2, ixL0, ixL1, ixL2, isD_nn, isD_in, isD_sn, isD_tn, isN_nn, isN_in, isN_sn, isN_tn, Int.cast_ofNat_Int, Int.reduceEq, Int.reduceLT, Int.reduceLE, Bool.and_false, Bool.and_true, Bool.true_and, Bool.false_and, Bool.or_false, Bool.or_true, Bool.true_or, Bool.false_or, foL, onL, neD_nil0, eqD_nil0] <;> rfl)) ?_
      exact ⟨_, by (simp only [mSeq, mSet, mVar, mC, mOp, seqE, optE, mTru, mAnd, mOr, mNot, mIf, mBl, mNil, mCons, mCall, mTup, argsD, dsOf, tupD, mFz, mLst, mRet, mDrop, mNx, mBk, mCt, mFail, mItems, itemsD, mRng, mgName, mgNil, mgCons, mgTup, mAsg, mFor, mNo, mPart, mSl, mB, mSetO, mAppend, mPop, mPkOp, mPkIx, mPkLen, mScrLen, mYes, mPar, mPar3, mParO, mAug, mMtS, mIs, mStar, mFmt, mJs, mAndV, mOrV, mListO, mCatO, mgUnl, truD, pk, List.getElem?_cons_zero, List.getElem?_cons_succ, List.set_cons_zero, List.set_cons_succ, List.length_cons, List.length_nil, Option.map_some, Option.map_none, List.map_cons, List.map_nil, List.cons_append, List.nil_append, List.replicate, Nat.zero_add, Nat.reduceAdd, Nat.reduceSub, Nat.reduceLeDiff, if_true, if_false, Bool.not_true, Bool.not_false, reduceCtorEq, reduceIte, decide_true, decide_false, Bool.false_eq_true, List.isEmpty_cons, List.isEmpty_nil, ixT0, ixT1, ixT2, ixL0, ixL1, ixL2, isD_nn, isD_in, isD_sn, isD_tn, isN_nn, isN_in, isN_sn, isN_tn, Int.cast_ofNat_Int, Int.reduceEq, Int.reduceLT, Int.reduceLE, Bool.and_false, Bool.and_true, Bool.true_and, Bool.false_and, Bool.or_false, Bool.or_true, Bool.true_or, Bool.false_or, foL, onL, neD_nil0, neD_nil1, mNeg, h2] <;> rfl)⟩
    · refine ex_nx (by (simp only [mSeq, mSet, mVar, mC, mOp, seqE, optE, mTru, mAnd, mOr, mNot, mIf, mBl, mNil, mCons, mCall, mTup, argsD, dsOf, tupD, mFz, mLst, mRet, mDrop, mNx, mBk, mCt, mFail, mItems, itemsD, mRng, mgName, mgNil, mgCons, mgTup, mAsg, mFor, mNo, mPart, mSl, mB, mSetO, mAppend, mPop, mPkOp, mPkIx, mPkLen, mScrLen, mYes, mPar, mPar3, mParO, mAug, mMtS, mIs, mStar, mFmt, mJs, mAndV, mOrV, mListO, mCatO, mgUnl, truD, pk, List.getElem?_cons_zero, List.getElem?_cons_succ, List.set_cons_zero, List.set_cons_succ, List.length_cons, List.length_nil, Option.map_some, Option.map_none, List.map_cons, List.map_nil, List.cons_append, List.nil_append, List.replicate, Nat.zero_add, Nat.reduceAdd, Nat.reduceSub, Nat.reduceLeDiff, if_true, if_false, Bool.not_true, Bool.not_false, reduceCtorEq, reduceIte, decide_true, decide_false, Bool.false_eq_true, List.isEmpty_cons, List.isEmpty_nil, ixT0, ixT1, ixT2, ixL0, ixL1, ixL2, isD_nn, isD_in, isD_sn, isD_tn, isN_nn, isN_in, isN_sn, isN_tn, Int.cast_ofNat_Int, Int.reduceEq, Int.reduceLT, Int.reduceLE, Bool.and_false, Bool.and_true, Bool.true_and, Bool.false_and, Bool.or_false, Bool.or_true, Bool.true_or, Bool.false_or, foL, onL, neD_nil0, neD_nil1, eqD_nil0] <;> rfl)) ?_
      exact ⟨_, by (simp only [mSeq, mSet, mVar, mC, mOp, seqE, optE, mTru, mAnd, mOr, mNot, mIf, mBl, mNil, mCons, mCall, mTup, argsD, dsOf, tupD, mFz, mLst, mRet, mDrop, mNx, mBk, mCt, mFail, mItems, itemsD, mRng, mgName, mgNil, mgCons, mgTup, mAsg, mFor, mNo, mPart, mSl, mB, mSetO, mAppend, mPop, mPkOp, mPkIx, mPkLen, mScrLen, mYes, mPar, mPar3, mParO, mAug, mMtS, mIs, mStar, mFmt, mJs, mAndV, mOrV, mListO, mCatO, mgUnl, truD, pk, List.getElem?_cons_zero, List.getElem?_cons_succ, List.set_cons_zero, List.set_cons_succ, List.length_cons, List.length_nil, Option.map_some, Option.map_none, List.map_cons, List.map_nil, List.cons_append, List.nil_append, List.replicate, Nat.zero_add, Nat.reduceAdd, Nat.reduceSub, Nat.reduceLeDiff, if_true, if_false, Bool.not_true, Bool.not_false, reduceCtorEq, reduceIte, decide_true, decide_false, Bool.false_eq_true, List.isEmpty_cons, List.isEmpty_nil, ixT0, ixT1, ixT2, ixL0, ixL1, ixL2, isD_nn, isD_in, isD_sn, isD_tn, isN_nn, isN_in, isN_sn, isN_tn, Int.cast_ofNat_Int, Int.reduceEq, Int.reduceLT, Int.reduceLE, Bool.and_false, Bool.and_true, Bool.true_and, Bool.false_and, Bool.or_false, Bool.or_true, Bool.true_or, Bool.false_or, foL, onL, neD_nil0, neD_nil1, mNeg, addD, addL, sizeLine_eq, h2] <;> rfl)⟩
    · refine ex_nx (by (simp only [mSeq, mSet, mVar, mC, mOp, seqE, optE, mTru, mAnd, mOr, mNot, mIf, mBl, mNil, mCons, mCall, mTup, argsD, dsOf, tupD, mFz, mLst, mRet, mDrop, mNx, mBk, mCt, mFail, mItems, itemsD, mRng, mgName, mgNil, mgCons, mgTup, mAsg, mFor, mNo, mPart, mSl, mB, mSetO, mAppend, mPop, mPkOp, mPkIx, mPkLen, mScrLen, mYes, mPar, mPar3, mParO, mAug, mMtS, mIs, mStar, mFmt, mJs, mAndV, mOrV, mListO, mCatO, mgUnl, truD, pk, List.getElem?_cons_zero, List.getElem?_cons_succ, List.set_cons_zero, List.set_cons_succ, List.length_cons, List.length_nil, Option.map_some, Option.map_none, List.map_cons, List.map_nil, List.cons_append, List.nil_append, List.replicate, Nat.zero_add, Nat.reduceAdd, Nat.reduceSub, Nat.reduceLeDiff, if_true, if_false, Bool.not_true, Bool.not_false, reduceCtorEq, reduceIte, decide_true, decide_false, Bool.false_eq_true, List.isEmpty_cons, List.isEmpty_nil, ixT0, ixT1, ixT2, ixL0, ixL1, ixL2, isD_nn, isD_in, isD_sn, isD_tn, isN_nn, isN_in, isN_sn, isN_tn, Int.cast_ofNat_Int, Int.reduceEq, Int.reduceLT, Int.reduceLE, Bool.and_false, Bool.and_true, Bool.true_and, Bool.false_and, Bool.or_false, Bool.or_true, Bool.true_or, Bool.false_or, foL, onL, neD_nil0, neD_nil1, eqD_nil1] <;> rfl)) ?_
      exact ⟨_, by (simp only [mSeq, mSet, mVar, mC, mOp, seqE, optE, mTru, mAnd, mOr, mNot, mIf, mBl, mNil, mCons, mCall, mTup, argsD, dsOf, tupD, mFz, mLst, mRet, mDrop, mNx, mBk, mCt, mFail, mItems, itemsD, mRng, mgName, mgNil, mgCons, mgTup, mAsg, mFor, mNo, mPart, mSl, mB, mSetO, mAppend, mPop, mPkOp, mPkIx, mPkLen, mScrLen, mYes, mPar, mPar3, mParO, mAug, mMtS, mIs, mStar, mFmt, mJs, mAndV, mOrV, mListO, mCatO, mgUnl, truD, pk, List.getElem?_cons_zero, List.getElem?_cons_succ, List.set_cons_zero, List.set_cons_succ, List.length_cons, List.length_nil, Option.map_some, Option.map_none, List.map_cons, List.map_nil, List.cons_append, List.nil_append, List.replicate, Nat.zero_add, Nat.reduceAdd, Nat.reduceSub, Nat.reduceLeDiff, if_true, if_false, Bool.not_true, Bool.not_false, reduceCtorEq, reduceIte, decide_true, decide_false, Bool.false_eq_true, List.isEmpty_cons, List.isEmpty_nil, ixT0, ixT1, ixT2, ixL0, ixL1, ixL2, isD_nn, isD_in, isD_sn, isD_tn, isN_nn, isN_in, isN_sn, isN_tn, Int.cast_ofNat_Int, Int.reduceEq, Int.reduceLT, Int.reduceLE, Bool.and_false, Bool.and_true, Bool.true_and, Bool.false_and, Bool.or_false, Bool.or_true, Bool.true_or, Bool.false_or, foL, onL, neD_nil0, neD_nil1, mNeg, addD, addL, sizeLine_eq, h2] <;> rfl)⟩
    · refine ex_nx (by (simp only [mSeq, mSet, mVar, mC, mOp, seqE, optE, mTru, mAnd, mOr, mNot, mIf, mBl, mNil, mCons, mCall, mTup, argsD, dsOf, tupD, mFz, mLst, mRet, mDrop, mNx, mBk, mCt, mFail, mItems, itemsD, mRng, mgName, mgNil, mgCons, mgTup, mAsg, mFor, mNo, mPart, mSl, mB, mSetO, mAppend, mPop, mPkOp, mPkIx, mPkLen, mScrLen, mYes, mPar, mPar3, mParO, mAug, mMtS, mIs, mStar, mFmt, mJs, mAndV, mOrV, mListO, mCatO, mgUnl, truD, pk, List.getElem?_cons_zero, List.getElem?_cons_succ, List.set_cons_zero, List.set_cons_succ, List.length_cons, List.length_nil, Option.map_some, Option.map_none, List.map_cons, List.map_nil, List.cons_append, List.nil_append, List.replicate, Nat.zero_add, Nat.reduceAdd, Nat.reduceSub, Nat.reduceLeDiff, if_true, if_false, Bool.not_true, Bool.not_false, reduceCtorEq, reduceIte, decide_true, decide_false, Bool.false_eq_true, List.isEmpty_cons, List.isEmpty_nil, ixT0, ixT1, ixT2, ixL0, ixL1, ixL2, isD_nn, isD_in, isD_sn, isD_tn, isN_nn, isN_in, isN_sn, isN_tn, Int.cast_ofNat_Int, Int.reduceEq, Int.reduceLT, Int.reduceLE, Bool.and_false, Bool.and_true, Bool.true_and, Bool.false_and, Bool.or_false, Bool.or_true, Bool.true_or, Bool.false_or, foL, onL, neD_nil0, neD_nil1, eqD_nil1] <;> rfl)) ?_
      exact ⟨_, by (simp only [mSeq, mSet, mVar, mC, mOp, seqE, optE, mTru, mAnd, mOr, mNot, mIf, mBl, mNil, mCons, mCall, mTup, argsD, dsOf, tupD, mFz, mLst, mRet, mDrop, mNx, mBk, mCt, mFail, mItems, itemsD, mRng, mgName, mgNil, mgCons, mgTup, mAsg, mFor, mNo, mPart, mSl, mB, mSetO, mAppend, mPop, mPkOp, mPkIx, mPkLen, mScrLen, mYes, mPar, mPar3, mParO, mAug, mMtS, mIs, mStar, mFmt, mJs, mAndV, mOrV, mListO, mCatO, mgUnl, truD, pk, List.getElem?_cons_zero, List.getElem?_cons_succ, List.set_cons_zero, List.set_cons_succ, List.length_cons, List.length_nil, Option.map_some, Option.map_none, List.map_cons, List.map_nil, List.cons_append, List.nil_append, List.replicate, Nat.zero_add, Nat.reduceAdd, Nat.reduceSub, Nat.reduceLeDiff, if_true, if_false, Bool.not_true, Bool.not_false, reduceCtorEq, reduceIte, decide_true, decide_false, Bool.false_eq_true, List.isEmpty_cons, List.isEmpty_nil, ixT0, ixT1, ixT2, ixL0, ixL1, ixL2, isD_nn, isD_in, isD_sn, isD_tn, isN_nn, isN_in, isN_sn, isN_tn, Int.cast_ofNat_Int, Int.reduceEq, Int.reduceLT, Int.reduceLE, Bool.and_false, Bool.and_true, Bool.true_and, Bool.false_and, Bool.or_false, Bool.or_true, Bool.true_or, Bool.false_or, foL, onL, neD_nil0, neD_nil1, mNeg, addD, addL, sizeLine_eq, h2] <;> rfl)⟩
  | some q =>
    obtain ⟨x, n⟩ := q
    cases e2 : p.po <;> cases e3 : p.dv <;> rw [e1, e2, e3] at h2 <;> simp only [foL, onL] at h2
    all_goals
      refine ex_nx (by (simp only [mSeq, mSet, mVar, mC, mOp, seqE, optE, mTru, mAnd, mOr, mNot, mIf, mBl, mNil, mCons, mCall, mTup, argsD, dsOf, tupD, mFz, mLst, mRet, mDrop, mNx, mBk, mCt, mFail, mItems, itemsD, mRng, mgName, mgNil, mgCons, mgTup, mAsg, mFor, mNo, mPart, mSl, mB, mSetO, mAppend, mPop, mPkOp, mPkIx, mPkLen, mScrLen, mYes, mPar, mPar3, mParO, mAug, mMtS, mIs, mStar, mFmt, mJs, mAndV, mOrV, mListO, mCatO, mgUnl, truD, pk, List.getElem?_cons_zero, List.getElem?_cons_succ, List.set_cons_zero, List.set_cons_succ, List.length_cons, List.length_nil, Option.map_some, Option.map_none, List.map_cons, List.map_nil, List.cons_append, List.nil_append, List.replicate, Nat.zero_add, Nat.reduceAdd, Nat.reduceSub, Nat.reduceLeDiff, if_true, if_false, Bool.not_true, Bool.not_false, reduceCtorEq, reduceIte, decide_true, decide_false, Bool.false_eq_true, List.isEmpty_cons, List.isEmpty_nil, ixT0, ixT1, ixT2, ixL0, ixL1, ixL2, isD_nn, isD_in, isD_sn, isD_tn, isN_nn, isN_in, isN_sn, isN_tn, Int.cast_ofNat_Int, Int.reduceEq, Int.reduceLT, Int.reduceLE, Bool.and_false, Bool.and_true, Bool.true_and, Bool.false_and, Bool.or_false, Bool.or_true, Bool.true_or, Bool.false_or, foL, onL, neD_nil0, neD_nil1, addD, addL, sizeLine_eq] <;> rfl)) ?_
      exact ⟨_, by (simp only [mSeq, mSet, mVar, mC, mOp, seqE, optE, mTru, mAnd, mOr, mNot, mIf, mBl, mNil, mCons, mCall, mTup, argsD, dsOf, tupD, mFz, mLst, mRet, mDrop, mNx, mBk, mCt, mFail, mItems, itemsD, mRng, mgName, mgNil, mgCons, mgTup, mAsg, mFor, mNo, mPart, mSl, mB, mSetO, mAppend, mPop, mPkOp, mPkIx, mPkLen, mScrLen, mYes, mPar, mPar3, mParO, mAug, mMtS, mIs, mStar, mFmt, mJs, mAndV, mOrV, mListO, mCatO, mgUnl, truD, pk, List.getElem?_cons_zero, List.getElem?_cons_succ, List.set_cons_zero, List.set_cons_succ, List.length_cons, List.length_nil, Option.map_some, Option.map_none, List.map_cons, List.map_nil, List.cons_append, List.nil_append, List.replicate, Nat.zero_add, Nat.reduceAdd, Nat.reduceSub, Nat.reduceLeDiff, if_true, if_false, Bool.not_true, Bool.not_false, reduceCtorEq, reduceIte, decide_true, decide_false, Bool.false_eq_true, List.isEmpty_cons, List.isEmpty_nil, ixT0, ixT1, ixT2, ixL0, ixL1, ixL2, isD_nn, isD_in, isD_sn, isD_tn, isN_nn, isN_in, isN_sn, isN_tn, Int.cast_ofNat_Int, Int.reduceEq, Int.reduceLT, Int.reduceLE, Bool.and_false, Bool.and_true, Bool.true_and, Bool.false_and, Bool.or_false, Bool.or_true, Bool.true_or, Bool.false_or, foL, onL, neD_nil0, neD_nil1, mNeg, addD, addL, sizeLine_eq, h2] <;> rfl)⟩
end Dn

set_option maxHeartbeats 4000000
namespace Dn
open PySem PySem.Spec PyProof.Rows L2 SX
open TL (numL pre joinL)

/-! ### _law_text -/
theorem lc_numsT (w : W) (a b c d e f : Option SD) : ∀ (ns : List Nat) (acc : List PyData), (∀ n ∈ ns, Sm n) →
    lcLoop (mgName 6) mYes eC1__law_text [6] (intsD ns) acc [a, b, c, d, e, f, none] w = some (acc ++ numsS ns, [a, b, c, d, e, f, none], w)
  | [], acc, _ => by
    unfold intsD numsS
    rw [List.map_nil, lc_nil, List.map_nil, List.append_nil]
  | n :: ns, acc, hn => by
    have hs := strD_num (hn n (by simp))
    have ih := lc_numsT w a b c d e f ns (acc ++ [.str (S (numL n))]) fun m hm => hn m (by simp [hm])
    show lcLoop (mgName 6) mYes eC1__law_text [6] (.int (n : Int) :: intsD ns) acc [a, b, c, d, e, f, none] w = _
    rw [lc_go (e1 := [a, b, c, d, e, f, some (.d (.int (n : Int)))]) (e2 := [a, b, c, d, e, f, some (.d (.int (n : Int)))]) (e3 := [a, b, c, d, e, f, some (.d (.int (n : Int)))]) (w2 := w) (w3 := w) (y := .str (S (numL n))) (by (simp only [mSeq, mSet, mVar, mC, mOp, seqE, optE, mTru, mAnd, mOr, mNot, mIf, mBl, mNil, mCons, mCall, mTup, argsD, dsOf, tupD, mFz, mLst, mRet, mDrop, mNx, mBk, mCt, mFail, mItems, itemsD, mRng, mgName, mgNil, mgCons, mgTup, mAsg, mFor, mNo, mPart, mSl, mB, mSetO, mAppend, mPop, mPkOp, mPkIx, mPkLen, mScrLen, mYes, mPar, mPar3, mParO, mAug, mMtS, mIs, mStar, mFmt, mJs, mAndV, mOrV, mListO, mCatO, mgUnl, truD, pk, List.getElem?_cons_zero, List.getElem?_cons_succ, List.set_cons_zero, List.set_cons_succ, List.length_cons, List.length_nil, Option.map_some, Option.map_none, List.map_cons, List.map_nil, List.cons_append, List.nil_append, List.replicate, Nat.zero_add, Nat.reduceAdd, Nat.reduceSub, Nat.reduceLeDiff, if_true, if_false, Bool.not_true, Bool.not_false, reduceCtorEq, reduceIte, decide_true, decide_false, Bool.false_eq_true, List.isEmpty_cons, List.isEmpty_nil, ixT0, ixT1, ixT2, ixL0, ixL1, ixL2, isD_nn, isD_in, isD_sn, isD_tn, isN_nn, isN_in, isN_sn, isN_tn, Int.cast_ofNat_Int, Int.reduceEq, Int.reduceLT, Int.reduceLE, Bool.and_false, Bool.and_true, Bool.true_and, Bool.false_and, Bool.or_false, Bool.or_true, Bool.true_or, Bool.false_or] <;> rfl)) (by (simp only [mSeq, mSet, mVar, mC, mOp, seqE, optE, mTru, mAnd, mOr, mNot, mIf, mBl, mNil, mCons, mCall, mTup, argsD, dsOf, tupD, mFz, mLst, mRet, mDrop, mNx, mBk, mCt, mFail, mItems, itemsD, mRng, mgName, mgNil, mgCons, mgTup, mAsg, mFor, mNo, mPart, mSl, mB, mSetO, mAppend, mPop, mPkOp, mPkIx, mPkLen, mScrLen, mYes, mPar, mPar3, mParO, mAug, mMtS, mIs, mStar, mFmt, mJs, mAndV, mOrV, mListO, mCatO, mgUnl, truD, pk, List.getElem?_cons_zero, List.getElem?_cons_succ, List.set_cons_zero, List.set_cons_succ, List.length_cons, List.length_nil, Option.map_some, Option.map_none, List.map_cons, List.map_nil, List.cons_append, List.nil_append, List.replicate, Nat.zero_add, Nat.reduceAdd, Nat.reduceSub, Nat.reduceLeDiff, if_true, if_false, Bool.not_true, Bool.not_false, reduceCtorEq, reduceIte, decide_true, decide_false, Bool.false_eq_true, List.isEmpty_cons, List.isEmpty_nil, ixT0, ixT1, ixT2, ixL0, ixL1, ixL2, isD_nn, isD_in, isD_sn, isD_tn, isN_nn, isN_in, isN_sn, isN_tn, Int.cast_ofNat_Int, Int.reduceEq, Int.reduceLT, Int.reduceLE, Bool.and_false, Bool.and_true, Bool.true_and, Bool.false_and, Bool.or_false, Bool.or_true, Bool.true_or, Bool.false_or] <;> rfl)) (by unfold eC1__law_text; (simp only [mSeq, mSet, mVar, mC, mOp, seqE, optE, mTru, mAnd, mOr, mNot, mIf, mBl, mNil, mCons, mCall, mTup, argsD, dsOf, tupD, mFz, mLst, mRet, mDrop, mNx, mBk, mCt, mFail, mItems, itemsD, mRng, mgName, mgNil, mgCons, mgTup, mAsg, mFor, mNo, mPart, mSl, mB, mSetO, mAppend, mPop, mPkOp, mPkIx, mPkLen, mScrLen, mYes, mPar, mPar3, mParO, mAug, mMtS, mIs, mStar, mFmt, mJs, mAndV, mOrV, mListO, mCatO, mgUnl, truD, pk, List.getElem?_cons_zero, List.getElem?_cons_succ, List.set_cons_zero, List.set_cons_succ, List.length_cons, List.length_nil, Option.map_some, Option.map_none, List.map_cons, List.map_nil, List.cons_append, List.nil_append, List.replicate, Nat.zero_add, Nat.reduceAdd, Nat.reduceSub, Nat.reduceLeDiff, if_true, if_false, Bool.not_true, Bool.not_false, reduceCtorEq, reduceIte, decide_true, decide_false, Bool.false_eq_true, List.isEmpty_cons, List.isEmpty_nil, ixT0, ixT1, ixT2, ixL0, ixL1, ixL2, isD_nn, isD_in, isD_sn, isD_tn, isN_nn, isN_in, isN_sn, isN_tn, Int.cast_ofNat_Int, Int.reduceEq, Int.reduceLT, Int.reduceLE, Bool.and_false, Bool.and_true, Bool.true_and, Bool.false_and, Bool.or_false, Bool.or_true, Bool.true_or, Bool.false_or, hs] <;> rfl))]
    refine ih.trans ?_
    rw [List.append_assoc]
    rfl
theorem run_ltext {p : Pt} (h : p.Wf) (w : W) : m__law_text [.d (.int (p.ep : Int)), .d (.list (intsD p.ns)), .d (foL p.fo), .d (onL p.po), .d (onL p.dv)] w = some (.d (.str (S (prB false p))), w) := by
  have L1 := epS_len (b := false) h.ep
  have L2 := nsS_len h.sm
  have L3 := foS_len h
  have L4 := poS_len h
  have L5 := dvS_len h
  have L6 := h.len
  refine fn_ex rfl ?_
  unfold b__law_text
  have hl := lc_numsT w (some (.d (.int (p.ep : Int)))) (some (.d (.list (intsD p.ns)))) (some (.d (foL p.fo))) (some (.d (onL p.po))) (some (.d (onL p.dv))) none p.ns [] h.sm
  rw [List.nil_append] at hl
  have hj : joinD (.str (S [46])) [.list (numsS p.ns)] = some (.str (S (nsS p.ns))) := join_num h.sm (by omega)
  have hw : ∀ a b c d e f g : Option SD, wipeE [a, b, c, d, e, f, g] [6] = [a, b, c, d, e, f, none] := fun _ _ _ _ _ _ _ => rfl
  have hr : ∀ a b c d e f : Option SD, rst [a, b, c, d, e, f, none] [a, b, c, d, e, f, none] [6] = [a, b, c, d, e, f, none] := fun _ _ _ _ _ _ => rfl
  refine ex_nx (e1 := [some (.d (.int (p.ep : Int))), some (.d (.list (intsD p.ns))), some (.d (foL p.fo)), some (.d (onL p.po)), some (.d (onL p.dv)), some (.d (.str (S (epS false p.ep ++ nsS p.ns)))), none]) (w1 := w) ?_ ?_
  · have hs := addD_S (a := epS false p.ep) (b := nsS p.ns) (sh_le (by simp only [List.length_append]; omega))
    by_cases c : p.ep = 0
    · have c' : ¬ (0 : Int) < (p.ep : Int) := by omega
      have e : epS false p.ep = [] := by unfold epS; rw [if_pos ⟨c, rfl⟩]
      rw [e] at hs ⊢
      (simp only [mSeq, mSet, mVar, mC, mOp, seqE, optE, mTru, mAnd, mOr, mNot, mIf, mBl, mNil, mCons, mCall, mTup, argsD, dsOf, tupD, mFz, mLst, mRet, mDrop, mNx, mBk, mCt, mFail, mItems, itemsD, mRng, mgName, mgNil, mgCons, mgTup, mAsg, mFor, mNo, mPart, mSl, mB, mSetO, mAppend, mPop, mPkOp, mPkIx, mPkLen, mScrLen, mYes, mPar, mPar3, mParO, mAug, mMtS, mIs, mStar, mFmt, mJs, mAndV, mOrV, mListO, mCatO, mgUnl, truD, pk, List.getElem?_cons_zero, List.getElem?_cons_succ, List.set_cons_zero, List.set_cons_succ, List.length_cons, List.length_nil, Option.map_some, Option.map_none, List.map_cons, List.map_nil, List.cons_append, List.nil_append, List.replicate, Nat.zero_add, Nat.reduceAdd, Nat.reduceSub, Nat.reduceLeDiff, if_true, if_false, Bool.not_true, Bool.not_false, reduceCtorEq, reduceIte, decide_true, decide_false, Bool.false_eq_true, List.isEmpty_cons, List.isEmpty_nil, ixT0, ixT1, ixT2, ixL0, ixL1, ixL2, isD_nn, isD_in, isD_sn, isD_tn, isN_nn, isN_in, isN_sn, isN_tn, Int.cast_ofNat_Int, Int.reduceEq, Int.reduceLT, Int.reduceLE, Bool.and_false, Bool.and_true, Bool.true_and, Bool.false_and, Bool.or_false, Bool.or_true, Bool.true_or, Bool.false_or, gtI_int, c', str0, strDot, mLc, hw, hl, hr, hj, hs] <;> rfl)
    · have c' : (0 : Int) < (p.ep : Int) := by omega
      have e : epS false p.ep = numL p.ep ++ [33] := by unfold epS; rw [if_neg (fun z => c z.1)]
      have hs0 := addD_S (a := numL p.ep) (b := [33]) (sh_le (by rw [← e]; omega))
      rw [e] at hs ⊢
      (simp only [mSeq, mSet, mVar, mC, mOp, seqE, optE, mTru, mAnd, mOr, mNot, mIf, mBl, mNil, mCons, mCall, mTup, argsD, dsOf, tupD, mFz, mLst, mRet, mDrop, mNx, mBk, mCt, mFail, mItems, itemsD, mRng, mgName, mgNil, mgCons, mgTup, mAsg, mFor, mNo, mPart, mSl, mB, mSetO, mAppend, mPop, mPkOp, mPkIx, mPkLen, mScrLen, mYes, mPar, mPar3, mParO, mAug, mMtS, mIs, mStar, mFmt, mJs, mAndV, mOrV, mListO, mCatO, mgUnl, truD, pk, List.getElem?_cons_zero, List.getElem?_cons_succ, List.set_cons_zero, List.set_cons_succ, List.length_cons, List.length_nil, Option.map_some, Option.map_none, List.map_cons, List.map_nil, List.cons_append, List.nil_append, List.replicate, Nat.zero_add, Nat.reduceAdd, Nat.reduceSub, Nat.reduceLeDiff, if_true, if_false, Bool.not_true, Bool.not_false, reduceCtorEq, reduceIte, decide_true, decide_false, Bool.false_eq_true, List.isEmpty_cons, List.isEmpty_nil, ixT0, ixT1, ixT2, ixL0, ixL1, ixL2, isD_nn, isD_in, isD_sn, isD_tn, isN_nn, isN_in, isN_sn, isN_tn, Int.cast_ofNat_Int, Int.reduceEq, Int.reduceLT, Int.reduceLE, Bool.and_false, Bool.and_true, Bool.true_and, Bool.false_and, Bool.or_false, Bool.or_true, Bool.true_or, Bool.false_or, gtI_int, c', strD_num h.ep, strBang, hs0, strDot, mLc, hw, hl, hr, hj, hs] <;> rfl)
  generalize hA : nsS p.ns = A at L2
  have hp : prB false p = epS false p.ep ++ (A ++ (foS p.fo ++ (poS p.po ++ dvS p.dv))) := by unfold prB; rw [hA]
  rw [hp]
  have LA : A.length ≤ 1500 := by omega
  refine ex_nx (e1 := [some (.d (.int (p.ep : Int))), some (.d (.list (intsD p.ns))), some (.d (foL p.fo)), some (.d (onL p.po)), some (.d (onL p.dv)), some (.d (.str (S ((epS false p.ep ++ A) ++ foS p.fo)))), none]) (w1 := w) ?_ ?_
  · have hs := addD_S (a := epS false p.ep ++ A) (b := foS p.fo) (sh_le (by simp only [List.length_append]; omega))
    generalize epS false p.ep ++ A = B at hs ⊢
    have q := h.fo
    cases e : p.fo with
    | none =>
      rw [e] at hs
      simp only [foS] at hs ⊢
      (simp only [mSeq, mSet, mVar, mC, mOp, seqE, optE, mTru, mAnd, mOr, mNot, mIf, mBl, mNil, mCons, mCall, mTup, argsD, dsOf, tupD, mFz, mLst, mRet, mDrop, mNx, mBk, mCt, mFail, mItems, itemsD, mRng, mgName, mgNil, mgCons, mgTup, mAsg, mFor, mNo, mPart, mSl, mB, mSetO, mAppend, mPop, mPkOp, mPkIx, mPkLen, mScrLen, mYes, mPar, mPar3, mParO, mAug, mMtS, mIs, mStar, mFmt, mJs, mAndV, mOrV, mListO, mCatO, mgUnl, truD, pk, List.getElem?_cons_zero, List.getElem?_cons_succ, List.set_cons_zero, List.set_cons_succ, List.length_cons, List.length_nil, Option.map_some, Option.map_none, List.map_cons, List.map_nil, List.cons_append, List.nil_append, List.replicate, Nat.zero_add, Nat.reduceAdd, Nat.reduceSub, Nat.reduceLeDiff, if_true, if_false, Bool.not_true, Bool.not_false, reduceCtorEq, reduceIte, decide_true, decide_false, Bool.false_eq_true, List.isEmpty_cons, List.isEmpty_nil, ixT0, ixT1, ixT2, ixL0, ixL1, ixL2, isD_nn, isD_in, isD_sn, isD_tn, isN_nn, isN_in, isN_sn, isN_tn, Int.cast_ofNat_Int, Int.reduceEq, Int.reduceLT, Int.reduceLE, Bool.and_false, Bool.and_true, Bool.true_and, Bool.false_and, Bool.or_false, Bool.or_true, Bool.true_or, Bool.false_or, foL, neD_nil0, str0, hs] <;> rfl)
    | some z =>
      obtain ⟨x, n⟩ := z
      have hx := q x n e
      have l1 := ws_len hx.1
      have l2 := num24 hx.2
      have hs0 := addD_S (a := x) (b := numL n) (sh_le (by simp only [List.length_append]; omega))
      rw [e] at hs
      simp only [foS] at hs ⊢
      (simp only [mSeq, mSet, mVar, mC, mOp, seqE, optE, mTru, mAnd, mOr, mNot, mIf, mBl, mNil, mCons, mCall, mTup, argsD, dsOf, tupD, mFz, mLst, mRet, mDrop, mNx, mBk, mCt, mFail, mItems, itemsD, mRng, mgName, mgNil, mgCons, mgTup, mAsg, mFor, mNo, mPart, mSl, mB, mSetO, mAppend, mPop, mPkOp, mPkIx, mPkLen, mScrLen, mYes, mPar, mPar3, mParO, mAug, mMtS, mIs, mStar, mFmt, mJs, mAndV, mOrV, mListO, mCatO, mgUnl, truD, pk, List.getElem?_cons_zero, List.getElem?_cons_succ, List.set_cons_zero, List.set_cons_succ, List.length_cons, List.length_nil, Option.map_some, Option.map_none, List.map_cons, List.map_nil, List.cons_append, List.nil_append, List.replicate, Nat.zero_add, Nat.reduceAdd, Nat.reduceSub, Nat.reduceLeDiff, if_true, if_false, Bool.not_true, Bool.not_false, reduceCtorEq, reduceIte, decide_true, decide_false, Bool.false_eq_true, List.isEmpty_cons, List.isEmpty_nil, ixT0, ixT1, ixT2, ixL0, ixL1, ixL2, isD_nn, isD_in, isD_sn, isD_tn, isN_nn, isN_in, isN_sn, isN_tn, Int.cast_ofNat_Int, Int.reduceEq, Int.reduceLT, Int.reduceLE, Bool.and_false, Bool.and_true, Bool.true_and, Bool.false_and, Bool.or_false, Bool.or_true, Bool.true_or, Bool.false_or, foL, neD_nil1, strD_num hx.2, hs0, hs] <;> rfl)
  refine ex_nx (e1 := [some (.d (.int (p.ep : Int))), some (.d (.list (intsD p.ns))), some (.d (foL p.fo)), some (.d (onL p.po)), some (.d (onL p.dv)), some (.d (.str (S ((epS false p.ep ++ A) ++ foS p.fo ++ poS p.po)))), none]) (w1 := w) ?_ ?_
  · have hs := addD_S (a := (epS false p.ep ++ A) ++ foS p.fo) (b := poS p.po) (sh_le (by simp only [List.length_append]; omega))
    generalize (epS false p.ep ++ A) ++ foS p.fo = B at hs ⊢
    have q := h.po
    cases e : p.po with
    | none =>
      rw [e] at hs
      simp only [poS] at hs ⊢
      (simp only [mSeq, mSet, mVar, mC, mOp, seqE, optE, mTru, mAnd, mOr, mNot, mIf, mBl, mNil, mCons, mCall, mTup, argsD, dsOf, tupD, mFz, mLst, mRet, mDrop, mNx, mBk, mCt, mFail, mItems, itemsD, mRng, mgName, mgNil, mgCons, mgTup, mAsg, mFor, mNo, mPart, mSl, mB, mSetO, mAppend, mPop, mPkOp, mPkIx, mPkLen, mScrLen, mYes, mPar, mPar3, mParO, mAug, mMtS, mIs, mStar, mFmt, mJs, mAndV, mOrV, mListO, mCatO, mgUnl, truD, pk, List.getElem?_cons_zero, List.getElem?_cons_succ, List.set_cons_zero, List.set_cons_succ, List.length_cons, List.length_nil, Option.map_some, Option.map_none, List.map_cons, List.map_nil, List.cons_append, List.nil_append, List.replicate, Nat.zero_add, Nat.reduceAdd, Nat.reduceSub, Nat.reduceLeDiff, if_true, if_false, Bool.not_true, Bool.not_false, reduceCtorEq, reduceIte, decide_true, decide_false, Bool.false_eq_true, List.isEmpty_cons, List.isEmpty_nil, ixT0, ixT1, ixT2, ixL0, ixL1, ixL2, isD_nn, isD_in, isD_sn, isD_tn, isN_nn, isN_in, isN_sn, isN_tn, Int.cast_ofNat_Int, Int.reduceEq, Int.reduceLT, Int.reduceLE, Bool.and_false, Bool.and_true, Bool.true_and, Bool.false_and, Bool.or_false, Bool.or_true, Bool.true_or, Bool.false_or, onL, neD_nil0, str0, hs] <;> rfl)
    | some n =>
      have hx := q n e
      have l2 := num24 hx
      have hs0 := addD_S (a := POSTS) (b := numL n) (sh_le (by have : POSTS.length = 5 := rfl; simp only [List.length_append]; omega))
      rw [e] at hs
      simp only [poS] at hs ⊢
      generalize hP : POSTS ++ numL n = Z at hs0 hs ⊢
      (simp only [mSeq, mSet, mVar, mC, mOp, seqE, optE, mTru, mAnd, mOr, mNot, mIf, mBl, mNil, mCons, mCall, mTup, argsD, dsOf, tupD, mFz, mLst, mRet, mDrop, mNx, mBk, mCt, mFail, mItems, itemsD, mRng, mgName, mgNil, mgCons, mgTup, mAsg, mFor, mNo, mPart, mSl, mB, mSetO, mAppend, mPop, mPkOp, mPkIx, mPkLen, mScrLen, mYes, mPar, mPar3, mParO, mAug, mMtS, mIs, mStar, mFmt, mJs, mAndV, mOrV, mListO, mCatO, mgUnl, truD, pk, List.getElem?_cons_zero, List.getElem?_cons_succ, List.set_cons_zero, List.set_cons_succ, List.length_cons, List.length_nil, Option.map_some, Option.map_none, List.map_cons, List.map_nil, List.cons_append, List.nil_append, List.replicate, Nat.zero_add, Nat.reduceAdd, Nat.reduceSub, Nat.reduceLeDiff, if_true, if_false, Bool.not_true, Bool.not_false, reduceCtorEq, reduceIte, decide_true, decide_false, Bool.false_eq_true, List.isEmpty_cons, List.isEmpty_nil, ixT0, ixT1, ixT2, ixL0, ixL1, ixL2, isD_nn, isD_in, isD_sn, isD_tn, isN_nn, isN_in, isN_sn, isN_tn, Int.cast_ofNat_Int, Int.reduceEq, Int.reduceLT, Int.reduceLE, Bool.and_false, Bool.and_true, Bool.true_and, Bool.false_and, Bool.or_false, Bool.or_true, Bool.true_or, Bool.false_or, onL, neD_nil1, strD_num hx, post_data, hs0, hs] <;> rfl)
  have e2 : epS false p.ep ++ (A ++ (foS p.fo ++ (poS p.po ++ dvS p.dv))) = ((epS false p.ep ++ A) ++ foS p.fo ++ poS p.po) ++ dvS p.dv := by simp only [List.append_assoc]
  rw [e2]
  have hs := addD_S (a := (epS false p.ep ++ A) ++ foS p.fo ++ poS p.po) (b := dvS p.dv) (sh_le (by simp only [List.length_append]; omega))
  generalize (epS false p.ep ++ A) ++ foS p.fo ++ poS p.po = B at hs ⊢
  have q := h.dv
  cases e : p.dv with
  | none =>
    rw [e] at hs
    simp only [dvS] at hs ⊢
    exact ⟨_, by (simp only [mSeq, mSet, mVar, mC, mOp, seqE, optE, mTru, mAnd, mOr, mNot, mIf, mBl, mNil, mCons, mCall, mTup, argsD, dsOf, tupD, mFz, mLst, mRet, mDrop, mNx, mBk, mCt, mFail, mItems, itemsD, mRng, mgName, mgNil, mgCons, mgTup, mAsg, mFor, mNo, mPart, mSl, mB, mSetO, mAppend, mPop, mPkOp, mPkIx, mPkLen, mScrLen, mYes, mPar, mPar3, mParO, mAug, mMtS, mIs, mStar, mFmt, mJs, mAndV, mOrV, mListO, mCatO, mgUnl, truD, pk, List.getElem?_cons_zero, List.getElem?_cons_succ, List.set_cons_zero, List.set_cons_succ, List.length_cons, List.length_nil, Option.map_some, Option.map_none, List.map_cons, List.map_nil, List.cons_append, List.nil_append, List.replicate, Nat.zero_add, Nat.reduceAdd, Nat.reduceSub, Nat.reduceLeDiff, if_true, if_false, Bool.not_true, Bool.not_false, reduceCtorEq, reduceIte, decide_true, decide_false, Bool.false_eq_true, List.isEmpty_cons, List.isEmpty_nil, ixT0, ixT1, ixT2, ixL0, ixL1, ixL2, isD_nn, isD_in, isD_sn, isD_tn, isN_nn, isN_in, isN_sn, isN_tn, Int.cast_ofNat_Int, Int.reduceEq, Int.reduceLT, Int.reduceLE, Bool.and_false, Bool.and_true, Bool.true_and, Bool.false_and, Bool.or_false, Bool.or_true, Bool.true_or, Bool.false_or, onL, neD_nil0, str0, hs] <;> rfl)⟩
  | some n =>
    have hx := q n e
    have l2 := num24 hx
    have hs0 := addD_S (a := DEVS) (b := numL n) (sh_le (by have : DEVS.length = 4 := rfl; simp only [List.length_append]; omega))
    rw [e] at hs
    simp only [dvS] at hs ⊢
    generalize hP : DEVS ++ numL n = Z at hs0 hs ⊢
    exact ⟨_, by (simp only [mSeq, mSet, mVar, mC, mOp, seqE, optE, mTru, mAnd, mOr, mNot, mIf, mBl, mNil, mCons, mCall, mTup, argsD, dsOf, tupD, mFz, mLst, mRet, mDrop, mNx, mBk, mCt, mFail, mItems, itemsD, mRng, mgName, mgNil, mgCons, mgTup, mAsg, mFor, mNo, mPart, mSl, mB, mSetO, mAppend, mPop, mPkOp, mPkIx, mPkLen, mScrLen, mYes, mPar, mPar3, mParO, mAug, mMtS, mIs, mStar, mFmt, mJs, mAndV, mOrV, mListO, mCatO, mgUnl, truD, pk, List.getElem?_cons_zero, List.getElem?_cons_succ, List.set_cons_zero, List.set_cons_succ, List.length_cons, List.length_nil, Option.map_some, Option.map_none, List.map_cons, List.map_nil, List.cons_append, List.nil_append, List.replicate, Nat.zero_add, Nat.reduceAdd, Nat.reduceSub, Nat.reduceLeDiff, if_true, if_false, Bool.not_true, Bool.not_false, reduceCtorEq, reduceIte, decide_true, decide_false, Bool.false_eq_true, List.isEmpty_cons, List.isEmpty_nil, ixT0, ixT1, ixT2, ixL0, ixL1, ixL2, isD_nn, isD_in, isD_sn, isD_tn, isN_nn, isN_in, isN_sn, isN_tn, Int.cast_ofNat_Int, Int.reduceEq, Int.reduceLT, Int.reduceLE, Bool.and_false, Bool.and_true, Bool.true_and, Bool.false_and, Bool.or_false, Bool.or_true, Bool.true_or, Bool.false_or, onL, neD_nil1, strD_num hx, dev_data, hs0, hs] <;> rfl)⟩

/-! ### _law_due -/
theorem run_ldue (b : Bool) {p : Pt} (h : p.Wf) (w : W) : m__law_due [.d (.str (S (prB b p)))] w = some (.d (.str (S (prB false (nrm p)))), w) := by
  refine fn_ex rfl ?_
  unfold b__law_due
  have h1 := run_lparts b h w
  have h2 := run_lbase (.int (p.ep : Int)) (ns := p.ns) (by have := h.len; omega) [] w
  have h3 := run_ltext (nrm_wf h) w
  generalize prB b p = l at h1 ⊢
  generalize prB false (nrm p) = l2 at h3 ⊢
  unfold lpD at h1
  refine ex_nx (by (simp only [mSeq, mSet, mVar, mC, mOp, seqE, optE, mTru, mAnd, mOr, mNot, mIf, mBl, mNil, mCons, mCall, mTup, argsD, dsOf, tupD, mFz, mLst, mRet, mDrop, mNx, mBk, mCt, mFail, mItems, itemsD, mRng, mgName, mgNil, mgCons, mgTup, mAsg, mFor, mNo, mPart, mSl, mB, mSetO, mAppend, mPop, mPkOp, mPkIx, mPkLen, mScrLen, mYes, mPar, mPar3, mParO, mAug, mMtS, mIs, mStar, mFmt, mJs, mAndV, mOrV, mListO, mCatO, mgUnl, truD, pk, List.getElem?_cons_zero, List.getElem?_cons_succ, List.set_cons_zero, List.set_cons_succ, List.length_cons, List.length_nil, Option.map_some, Option.map_none, List.map_cons, List.map_nil, List.cons_append, List.nil_append, List.replicate, Nat.zero_add, Nat.reduceAdd, Nat.reduceSub, Nat.reduceLeDiff, if_true, if_false, Bool.not_true, Bool.not_false, reduceCtorEq, reduceIte, decide_true, decide_false, Bool.false_eq_true, List.isEmpty_cons, List.isEmpty_nil, ixT0, ixT1, ixT2, ixL0, ixL1, ixL2, isD_nn, isD_in, isD_sn, isD_tn, isN_nn, isN_in, isN_sn, isN_tn, Int.cast_ofNat_Int, Int.reduceEq, Int.reduceLT, Int.reduceLE, Bool.and_false, Bool.and_true, Bool.true_and, Bool.false_and, Bool.or_false, Bool.or_true, Bool.true_or, Bool.false_or, h1] <;> rfl)) ?_
  refine ex_nx (by (simp only [mSeq, mSet, mVar, mC, mOp, seqE, optE, mTru, mAnd, mOr, mNot, mIf, mBl, mNil, mCons, mCall, mTup, argsD, dsOf, tupD, mFz, mLst, mRet, mDrop, mNx, mBk, mCt, mFail, mItems, itemsD, mRng, mgName, mgNil, mgCons, mgTup, mAsg, mFor, mNo, mPart, mSl, mB, mSetO, mAppend, mPop, mPkOp, mPkIx, mPkLen, mScrLen, mYes, mPar, mPar3, mParO, mAug, mMtS, mIs, mStar, mFmt, mJs, mAndV, mOrV, mListO, mCatO, mgUnl, truD, pk, List.getElem?_cons_zero, List.getElem?_cons_succ, List.set_cons_zero, List.set_cons_succ, List.length_cons, List.length_nil, Option.map_some, Option.map_none, List.map_cons, List.map_nil, List.cons_append, List.nil_append, List.replicate, Nat.zero_add, Nat.reduceAdd, Nat.reduceSub, Nat.reduceLeDiff, if_true, if_false, Bool.not_true, Bool.not_false, reduceCtorEq, reduceIte, decide_true, decide_false, Bool.false_eq_true, List.isEmpty_cons, List.isEmpty_nil, ixT0, ixT1, ixT2, ixL0, ixL1, ixL2, isD_nn, isD_in, isD_sn, isD_tn, isN_nn, isN_in, isN_sn, isN_tn, Int.cast_ofNat_Int, Int.reduceEq, Int.reduceLT, Int.reduceLE, Bool.and_false, Bool.and_true, Bool.true_and, Bool.false_and, Bool.or_false, Bool.or_true, Bool.true_or, Bool.false_or, h2] <;> rfl)) ?_
  have e1 : (nrm p).ep = p.ep := rfl
  have e2 : (nrm p).fo = p.fo := rfl
  have e3 : (nrm p).po = p.po := rfl
  have e4 : (nrm p).dv = p.dv := rfl
  rw [e1, e2, e3, e4] at h3
  by_cases c : bas p.ns = []
  · have e5 : intsD (nrm p).ns = [.int 0] := by unfold nrm; dsimp only; rw [if_pos c]; rfl
    rw [e5] at h3
    rw [c]
    have e6 : intsD [] = [] := rfl
    rw [e6]
    exact ⟨_, by (simp only [mSeq, mSet, mVar, mC, mOp, seqE, optE, mTru, mAnd, mOr, mNot, mIf, mBl, mNil, mCons, mCall, mTup, argsD, dsOf, tupD, mFz, mLst, mRet, mDrop, mNx, mBk, mCt, mFail, mItems, itemsD, mRng, mgName, mgNil, mgCons, mgTup, mAsg, mFor, mNo, mPart, mSl, mB, mSetO, mAppend, mPop, mPkOp, mPkIx, mPkLen, mScrLen, mYes, mPar, mPar3, mParO, mAug, mMtS, mIs, mStar, mFmt, mJs, mAndV, mOrV, mListO, mCatO, mgUnl, truD, pk, List.getElem?_cons_zero, List.getElem?_cons_succ, List.set_cons_zero, List.set_cons_succ, List.length_cons, List.length_nil, Option.map_some, Option.map_none, List.map_cons, List.map_nil, List.cons_append, List.nil_append, List.replicate, Nat.zero_add, Nat.reduceAdd, Nat.reduceSub, Nat.reduceLeDiff, if_true, if_false, Bool.not_true, Bool.not_false, reduceCtorEq, reduceIte, decide_true, decide_false, Bool.false_eq_true, List.isEmpty_cons, List.isEmpty_nil, ixT0, ixT1, ixT2, ixL0, ixL1, ixL2, isD_nn, isD_in, isD_sn, isD_tn, isN_nn, isN_in, isN_sn, isN_tn, Int.cast_ofNat_Int, Int.reduceEq, Int.reduceLT, Int.reduceLE, Bool.and_false, Bool.and_true, Bool.true_and, Bool.false_and, Bool.or_false, Bool.or_true, Bool.true_or, Bool.false_or, neD_nil0, h3] <;> rfl)⟩
  · have e5 : (nrm p).ns = bas p.ns := by unfold nrm; dsimp only; rw [if_neg c]
    rw [e5] at h3
    have hne : neD (.list (intsD (bas p.ns))) (.list []) = some (.bool true) := by
      cases q : bas p.ns with
      | nil => exact absurd q c
      | cons n ns => exact neD_nil1 _ _
    exact ⟨_, by (simp only [mSeq, mSet, mVar, mC, mOp, seqE, optE, mTru, mAnd, mOr, mNot, mIf, mBl, mNil, mCons, mCall, mTup, argsD, dsOf, tupD, mFz, mLst, mRet, mDrop, mNx, mBk, mCt, mFail, mItems, itemsD, mRng, mgName, mgNil, mgCons, mgTup, mAsg, mFor, mNo, mPart, mSl, mB, mSetO, mAppend, mPop, mPkOp, mPkIx, mPkLen, mScrLen, mYes, mPar, mPar3, mParO, mAug, mMtS, mIs, mStar, mFmt, mJs, mAndV, mOrV, mListO, mCatO, mgUnl, truD, pk, List.getElem?_cons_zero, List.getElem?_cons_succ, List.set_cons_zero, List.set_cons_succ, List.length_cons, List.length_nil, Option.map_some, Option.map_none, List.map_cons, List.map_nil, List.cons_append, List.nil_append, List.replicate, Nat.zero_add, Nat.reduceAdd, Nat.reduceSub, Nat.reduceLeDiff, if_true, if_false, Bool.not_true, Bool.not_false, reduceCtorEq, reduceIte, decide_true, decide_false, Bool.false_eq_true, List.isEmpty_cons, List.isEmpty_nil, ixT0, ixT1, ixT2, ixL0, ixL1, ixL2, isD_nn, isD_in, isD_sn, isD_tn, isN_nn, isN_in, isN_sn, isN_tn, Int.cast_ofNat_Int, Int.reduceEq, Int.reduceLT, Int.reduceLE, Bool.and_false, Bool.and_true, Bool.true_and, Bool.false_and, Bool.or_false, Bool.or_true, Bool.true_or, Bool.false_or, hne, h3] <;> rfl)⟩
end Dn

set_option maxHeartbeats 4000000
namespace Dn
open PySem PySem.Spec PyProof.Rows L2 SX
open TL (numL pre joinL)

/-! ### draws -/
/-- n more draws may be done -/
def Gd (n : Nat) (s : DS) : Prop := s.Ok ∧ s.pos + (n : Int) ≤ 1000000000000
theorem Gd.mono {m n : Nat} {s : DS} (h : Gd m s) (hl : n ≤ m) : Gd n s := ⟨h.1, by have := h.2; omega⟩
theorem gd_begin (ns : List Int) (h : ns.length ≤ 63) : Gd 1000000 (beginDS ns) := ⟨begin_ok ns h, by show (0 : Int) + _ ≤ _; decide⟩
theorem draw_ok {n : Nat} {s : DS} (h : Gd (n + 1) s) {many : Nat} (h1 : 0 < many) (h2 : many < 1073741824) : ∃ (k : Nat) (s' : DS), m__law_draw [.st, .d (.int (many : Int))] (some s) = some (.d (.int (k : Int)), some s') ∧ k < many ∧ Gd n s' := by
  have hr := draw_range s (many := (many : Int)) (by omega)
  refine ⟨(s.val many).toNat, s.next many, ?_, by omega, ?_⟩
  · rw [draw_eq h.1 (by omega) (by omega), show (((s.val (many : Int)).toNat : Nat) : Int) = s.val (many : Int) by omega]
  · have ha := draw_adv s (many : Int)
    have := h.2
    refine ⟨ha.ok h.1 (by omega), ?_⟩
    have := ha.hi
    omega
theorem lc_any {g : Gx} {me : Ex} {vs : List Nat} {env : Ev} {K : Nat} {P : PyData → Prop}
    (hstep : ∀ (n : Nat) (s : DS) (d : PyData), Gd (n + K) s → ∃ e1 y e3 s', g d env = some e1 ∧ me e1 (some s) = some (.d y, e3, some s') ∧ wipeE e3 vs = env ∧ P y ∧ Gd n s') :
    ∀ (ds acc : List PyData) (n : Nat) (s : DS), Gd (n + K * ds.length) s → ∃ ys s', lcLoop g mYes me vs ds acc env (some s) = some (acc ++ ys, env, some s') ∧ ys.length = ds.length ∧ (∀ y ∈ ys, P y) ∧ Gd n s'
  | [], acc, n, s, h => ⟨[], s, by rw [lc_nil, List.append_nil], rfl, fun y hy => by simp at hy, by simpa using h⟩
  | d :: ds, acc, n, s, h => by
    obtain ⟨e1, y, e3, s1, h1, h2, h3, hP, h4⟩ := hstep (n + K * ds.length) s d (h.mono (by rw [List.length_cons, Nat.mul_succ]; omega))
    obtain ⟨ys, s2, q1, q2, q3, q4⟩ := lc_any hstep ds (acc ++ [y]) n s1 h4
    refine ⟨y :: ys, s2, ?_, by rw [List.length_cons, List.length_cons, q2], fun z hz => ?_, q4⟩
    · rw [lc_go h1 rfl h2, h3, q1, List.append_assoc]
      rfl
    · rcases List.mem_cons.mp hz with rfl | hz
      · exact hP
      · exact q3 z hz
/-! ### _law_dressed -/
def dress (p : Pt) (k : Nat) : Pt := { p with ns := (p.ns ++ List.replicate k 0).take 8 }
theorem bas_rep : ∀ (k : Nat) (ns : List Nat), bas (ns ++ List.replicate k 0) = bas ns
  | 0, ns => by rw [List.replicate_zero, List.append_nil]
  | k + 1, ns => by
    rw [List.replicate_succ', ← List.append_assoc, bas_zero, bas_rep k ns]
theorem dress_ns {p : Pt} (h : p.ns.length ≤ 8) (k : Nat) : ∃ j, (dress p k).ns = p.ns ++ List.replicate j 0 ∧ j ≤ k := by
  refine ⟨min (8 - p.ns.length) k, ?_, Nat.min_le_right _ _⟩
  unfold dress
  dsimp only
  rw [List.take_append, List.take_of_length_le h, List.take_replicate]
theorem dress_wf {p : Pt} (h : p.Wf) (hl : p.ns.length ≤ 8) (k : Nat) : (dress p k).Wf := by
  obtain ⟨j, e, _⟩ := dress_ns hl k
  refine ⟨?_, ?_, ?_, h.ep, h.fo, h.po, h.dv⟩
  · rw [e]
    have := h.ne
    simp [this]
  · have : (dress p k).ns.length ≤ 8 := by
      unfold dress
      dsimp only
      rw [List.length_take]
      exact Nat.min_le_left _ _
    omega
  · intro n hn
    rw [e, List.mem_append] at hn
    rcases hn with hn | hn
    · exact h.sm n hn
    · rw [List.eq_of_mem_replicate hn]
      decide
theorem dress_nrm {p : Pt} (hl : p.ns.length ≤ 8) (k : Nat) : nrm (dress p k) = nrm p := by
  obtain ⟨j, e, _⟩ := dress_ns hl k
  have hb : bas (dress p k).ns = bas p.ns := by rw [e, bas_rep]
  unfold nrm
  rw [hb]
  rfl
theorem mul_zero (k : Nat) (hk : k < 1000) : mulD (.list [.int 0]) (.int (k : Int)) = some (.list (intsD (List.replicate k 0))) := by
  unfold mulD mulL
  dsimp only
  rw [if_pos ⟨by omega, by omega, by rw [sizeLine_eq, Int.toNat_natCast, List.length_singleton]; omega⟩, Int.toNat_natCast]
  refine congrArg some (congrArg PyData.list ?_)
  unfold intsD
  rw [List.map_replicate]
  induction k with
  | zero => rfl
  | succ k ih =>
    rw [List.replicate_succ, List.flatten_cons, ih (by omega)]
    rfl
theorem intsD_app (a b : List Nat) : intsD a ++ intsD b = intsD (a ++ b) := by unfold intsD; rw [List.map_append]
theorem cut8 (ns : List Nat) : cutL (intsD ns) none (some 8) = intsD (ns.take 8) := by
  unfold cutL
  rw [HT.sIx_none, show (8 : Int) = ((8 : Nat) : Int) from rfl, HT.sIx_nat, List.drop_zero, Nat.sub_zero, intsD_len]
  unfold intsD
  rw [← List.map_take]
  refine congrArg _ ?_
  by_cases c : 8 ≤ ns.length
  · rw [Nat.min_eq_left c]
  · rw [Nat.min_eq_right (by omega), List.take_of_length_le (Nat.le_refl _), List.take_of_length_le (by omega)]
theorem prB_true {p : Pt} (h : p.ep = 0) : [48, 33] ++ prB false p = prB true p := by
  unfold prB epS
  rw [if_pos ⟨h, rfl⟩, if_neg (by simp), h, TL.numL_lt (n := 0) (by decide)]
  rfl
theorem dressed_step (ml : List SD → W → Option (SD × W)) (md : List SD → W → Option (SD × W)) (mu au : PyData → PyData → Option PyData) (k : Nat) (s s1 : DS) (z : List PyData) (p : Pt) (l : List Nat) (x2 : PyData) (r : PyData) (hd1 : md [.st, .d (.int 6)] (some s) = some (.d (.int (k : Int)), some s1)) (h : mu (.list [.int 0]) (.int (k : Int)) = some x2) (ha : au (.list (intsD p.ns)) x2 = some (.list z))
   (h3 : ml [.d (.int (p.ep : Int)), .d (.list (cutL z none (some 8))), .d (foL p.fo), .d (onL p.po), .d (onL p.dv)] (some s1) = some (.d r, some s1)) : mSet 7 (mCall ml (mCons (mVar 2) (mCons (mSl (mOp au (mVar 3) (mOp mu (mFz (mLst (mCons (mC (.int 0)) mNil))) (mCall md (mCons (mVar 0) (mCons (mC (.int 6)) mNil))))) mNo (mPart (mC (.int 8)))) (mCons (mVar 4) (mCons (mVar 5) (mCons (mVar 6) mNil))))))
      [some .st, some (.d (.str (S l))), some (.d (.int (p.ep : Int))), some (.d (.list (intsD p.ns))), some (.d (foL p.fo)), some (.d (onL p.po)), some (.d (onL p.dv)), none] (some s) = some (.nx, [some .st, some (.d (.str (S l))), some (.d (.int (p.ep : Int))), some (.d (.list (intsD p.ns))), some (.d (foL p.fo)), some (.d (onL p.po)), some (.d (onL p.dv)), some (.d r)], some s1) := by
  simp only [mSeq, mSet, mVar, mC, mOp, seqE, optE, mTru, mAnd, mOr, mNot, mIf, mBl, mNil, mCons, mCall, mTup, argsD, dsOf, tupD, mFz, mLst, mRet, mDrop, mNx, mBk, mCt, mFail, mItems, itemsD, mRng, mgName, mgNil, mgCons, mgTup, mAsg, mFor, mNo, mPart, mSl, mB, mSetO, mAppend, mPop, mPkOp, mPkIx, mPkLen, mScrLen, mYes, mPar, mPar3, mParO, mAug, mMtS, mIs, mStar, mFmt, mJs, mAndV, mOrV, mListO, mCatO, mgUnl, truD, pk, List.getElem?_cons_zero, List.getElem?_cons_succ, List.set_cons_zero, List.set_cons_succ, List.length_cons, List.length_nil, Option.map_some, Option.map_none, List.map_cons, List.map_nil, List.cons_append, List.nil_append, List.replicate, Nat.zero_add, Nat.reduceAdd, Nat.reduceSub, Nat.reduceLeDiff, if_true, if_false, Bool.not_true, Bool.not_false, reduceCtorEq, reduceIte, decide_true, decide_false, Bool.false_eq_true, List.isEmpty_cons, List.isEmpty_nil, ixT0, ixT1, ixT2, ixL0, ixL1, ixL2, isD_nn, isD_in, isD_sn, isD_tn, isN_nn, isN_in, isN_sn, isN_tn, Int.cast_ofNat_Int, Int.reduceEq, Int.reduceLT, Int.reduceLE, Bool.and_false, Bool.and_true, Bool.true_and, Bool.false_and, Bool.or_false, Bool.or_true, Bool.true_or, Bool.false_or, hd1, h, ha, slD, h3]
theorem run_dressed (c : Bool) {p : Pt} (h : p.Wf) (hl : p.ns.length ≤ 8) {n : Nat} {s : DS} (hs : Gd (n + 2) s) : ∃ b k s', m__law_dressed [.st, .d (.str (S (prB c p)))] (some s) = some (.d (.str (S (prB b (dress p k)))), some s') ∧ Gd n s' := by
  obtain ⟨k, s1, hd1, hk, hs1⟩ := draw_ok (n := n + 1) hs (many := 6) (by decide) (by decide)
  have hd1 : m__law_draw [.st, .d (.int 6)] (some s) = some (.d (.int (k : Int)), some s1) := hd1
  have h1 := run_lparts c h (some s)
  have h3 := run_ltext (dress_wf h hl k) (some s1)
  have e1 : (dress p k).ep = p.ep := rfl
  have e2 : (dress p k).fo = p.fo := rfl
  have e3 : (dress p k).po = p.po := rfl
  have e4 : (dress p k).dv = p.dv := rfl
  have e5 : (dress p k).ns = (p.ns ++ List.replicate k 0).take 8 := rfl
  rw [e1, e2, e3, e4, e5] at h3
  have hT : Sh ([48, 33] ++ prB false (dress p k)) := by
    have := prB_len (b := false) (dress_wf h hl k)
    unfold Sh
    rw [List.length_append, List.length_cons, List.length_cons, List.length_nil]
    omega
  have hadd := addD_S hT
  have hmul := mul_zero k (by omega)
  have happ : addD (.list (intsD p.ns)) (.list (intsD (List.replicate k 0))) = some (.list (intsD (p.ns ++ List.replicate k 0))) := by
    unfold addD addL
    dsimp only
    rw [if_pos (by rw [intsD_len, intsD_len, List.length_replicate, sizeLine_eq]; omega), intsD_app]
  have hcut := cut8 (p.ns ++ List.replicate k 0)
  have pt := prB_true (p := dress p k)
  generalize hlt : prB false (dress p k) = lt at h3 hadd pt
  generalize prB c p = l at h1 ⊢
  unfold lpD at h1
  have hfound : mSet 7 (mCall m__law_text (mCons (mVar 2) (mCons (mSl (mOp addD (mVar 3) (mOp mulD (mFz (mLst (mCons (mC (.int 0)) mNil))) (mCall m__law_draw (mCons (mVar 0) (mCons (mC (.int 6)) mNil))))) mNo (mPart (mC (.int 8)))) (mCons (mVar 4) (mCons (mVar 5) (mCons (mVar 6) mNil))))))
      [some .st, some (.d (.str (S l))), some (.d (.int (p.ep : Int))), some (.d (.list (intsD p.ns))), some (.d (foL p.fo)), some (.d (onL p.po)), some (.d (onL p.dv)), none] (some s) = some (.nx, [some .st, some (.d (.str (S l))), some (.d (.int (p.ep : Int))), some (.d (.list (intsD p.ns))), some (.d (foL p.fo)), some (.d (onL p.po)), some (.d (onL p.dv)), some (.d (.str (S lt)))], some s1) := by
    rw [← hcut] at h3
    exact dressed_step m__law_text m__law_draw mulD addD k s s1 _ p l _ _ hd1 hmul happ h3
  by_cases c0 : p.ep = 0
  · have c0' : (p.ep : Int) = 0 := by omega
    obtain ⟨k2, s2, hd2, hk2, hs2⟩ := draw_ok (n := n) hs1 (many := 2) (by decide) (by decide)
    have hd2 : m__law_draw [.st, .d (.int 2)] (some s1) = some (.d (.int (k2 : Int)), some s2) := hd2
    by_cases cz : k2 = 0
    · subst cz
      refine ⟨true, k, s2, fn_ex rfl ?_, hs2⟩
      unfold b__law_dressed
      refine ex_nx (by (simp only [mSeq, mSet, mVar, mC, mOp, seqE, optE, mTru, mAnd, mOr, mNot, mIf, mBl, mNil, mCons, mCall, mTup, argsD, dsOf, tupD, mFz, mLst, mRet, mDrop, mNx, mBk, mCt, mFail, mItems, itemsD, mRng, mgName, mgNil, mgCons, mgTup, mAsg, mFor, mNo, mPart, mSl, mB, mSetO, mAppend, mPop, mPkOp, mPkIx, mPkLen, mScrLen, mYes, mPar, mPar3, mParO, mAug, mMtS, mIs, mStar, mFmt, mJs, mAndV, mOrV, mListO, mCatO, mgUnl, truD, pk, List.getElem?_cons_zero, List.getElem?_cons_succ, List.set_cons_zero, List.set_cons_succ, List.length_cons, List.length_nil, Option.map_some, Option.map_none, List.map_cons, List.map_nil, List.cons_append, List.nil_append, List.replicate, Nat.zero_add, Nat.reduceAdd, Nat.reduceSub, Nat.reduceLeDiff, if_true, if_false, Bool.not_true, Bool.not_false, reduceCtorEq, reduceIte, decide_true, decide_false, Bool.false_eq_true, List.isEmpty_cons, List.isEmpty_nil, ixT0, ixT1, ixT2, ixL0, ixL1, ixL2, isD_nn, isD_in, isD_sn, isD_tn, isN_nn, isN_in, isN_sn, isN_tn, Int.cast_ofNat_Int, Int.reduceEq, Int.reduceLT, Int.reduceLE, Bool.and_false, Bool.and_true, Bool.true_and, Bool.false_and, Bool.or_false, Bool.or_true, Bool.true_or, Bool.false_or, h1] <;> rfl)) ?_
      refine ex_nx hfound ?_
      rw [← pt c0]
      have hb0 : PyData.str "0!" = .str (S [48, 33]) := rfl
      generalize [48, 33] ++ lt = Z at hadd ⊢
      generalize m__law_draw = md at hd2 ⊢
      exact ⟨_, by (simp only [mSeq, mSet, mVar, mC, mOp, seqE, optE, mTru, mAnd, mOr, mNot, mIf, mBl, mNil, mCons, mCall, mTup, argsD, dsOf, tupD, mFz, mLst, mRet, mDrop, mNx, mBk, mCt, mFail, mItems, itemsD, mRng, mgName, mgNil, mgCons, mgTup, mAsg, mFor, mNo, mPart, mSl, mB, mSetO, mAppend, mPop, mPkOp, mPkIx, mPkLen, mScrLen, mYes, mPar, mPar3, mParO, mAug, mMtS, mIs, mStar, mFmt, mJs, mAndV, mOrV, mListO, mCatO, mgUnl, truD, pk, List.getElem?_cons_zero, List.getElem?_cons_succ, List.set_cons_zero, List.set_cons_succ, List.length_cons, List.length_nil, Option.map_some, Option.map_none, List.map_cons, List.map_nil, List.cons_append, List.nil_append, List.replicate, Nat.zero_add, Nat.reduceAdd, Nat.reduceSub, Nat.reduceLeDiff, if_true, if_false, Bool.not_true, Bool.not_false, reduceCtorEq, reduceIte, decide_true, decide_false, Bool.false_eq_true, List.isEmpty_cons, List.isEmpty_nil, ixT0, ixT1, ixT2, ixL0, ixL1, ixL2, isD_nn, isD_in, isD_sn, isD_tn, isN_nn, isN_in, isN_sn, isN_tn, Int.cast_ofNat_Int, Int.reduceEq, Int.reduceLT, Int.reduceLE, Bool.and_false, Bool.and_true, Bool.true_and, Bool.false_and, Bool.or_false, Bool.or_true, Bool.true_or, Bool.false_or, eqD_int, c0', hd2, hb0, hadd] <;> rfl)⟩
    · have cz' : ¬ (k2 : Int) = 0 := by omega
      refine ⟨false, k, s2, fn_ex rfl ?_, hs2⟩
      unfold b__law_dressed
      refine ex_nx (by (simp only [mSeq, mSet, mVar, mC, mOp, seqE, optE, mTru, mAnd, mOr, mNot, mIf, mBl, mNil, mCons, mCall, mTup, argsD, dsOf, tupD, mFz, mLst, mRet, mDrop, mNx, mBk, mCt, mFail, mItems, itemsD, mRng, mgName, mgNil, mgCons, mgTup, mAsg, mFor, mNo, mPart, mSl, mB, mSetO, mAppend, mPop, mPkOp, mPkIx, mPkLen, mScrLen, mYes, mPar, mPar3, mParO, mAug, mMtS, mIs, mStar, mFmt, mJs, mAndV, mOrV, mListO, mCatO, mgUnl, truD, pk, List.getElem?_cons_zero, List.getElem?_cons_succ, List.set_cons_zero, List.set_cons_succ, List.length_cons, List.length_nil, Option.map_some, Option.map_none, List.map_cons, List.map_nil, List.cons_append, List.nil_append, List.replicate, Nat.zero_add, Nat.reduceAdd, Nat.reduceSub, Nat.reduceLeDiff, if_true, if_false, Bool.not_true, Bool.not_false, reduceCtorEq, reduceIte, decide_true, decide_false, Bool.false_eq_true, List.isEmpty_cons, List.isEmpty_nil, ixT0, ixT1, ixT2, ixL0, ixL1, ixL2, isD_nn, isD_in, isD_sn, isD_tn, isN_nn, isN_in, isN_sn, isN_tn, Int.cast_ofNat_Int, Int.reduceEq, Int.reduceLT, Int.reduceLE, Bool.and_false, Bool.and_true, Bool.true_and, Bool.false_and, Bool.or_false, Bool.or_true, Bool.true_or, Bool.false_or, h1] <;> rfl)) ?_
      refine ex_nx hfound ?_
      rw [hlt]
      generalize m__law_draw = md at hd2 ⊢
      exact ⟨_, by (simp only [mSeq, mSet, mVar, mC, mOp, seqE, optE, mTru, mAnd, mOr, mNot, mIf, mBl, mNil, mCons, mCall, mTup, argsD, dsOf, tupD, mFz, mLst, mRet, mDrop, mNx, mBk, mCt, mFail, mItems, itemsD, mRng, mgName, mgNil, mgCons, mgTup, mAsg, mFor, mNo, mPart, mSl, mB, mSetO, mAppend, mPop, mPkOp, mPkIx, mPkLen, mScrLen, mYes, mPar, mPar3, mParO, mAug, mMtS, mIs, mStar, mFmt, mJs, mAndV, mOrV, mListO, mCatO, mgUnl, truD, pk, List.getElem?_cons_zero, List.getElem?_cons_succ, List.set_cons_zero, List.set_cons_succ, List.length_cons, List.length_nil, Option.map_some, Option.map_none, List.map_cons, List.map_nil, List.cons_append, List.nil_append, List.replicate, Nat.zero_add, Nat.reduceAdd, Nat.reduceSub, Nat.reduceLeDiff, if_true, if_false, Bool.not_true, Bool.not_false, reduceCtorEq, reduceIte, decide_true, decide_false, Bool.false_eq_true, List.isEmpty_cons, List.isEmpty_nil, ixT0, ixT1, ixT2, ixL0, ixL1, ixL2, isD_nn, isD_in, isD_sn, isD_tn, isN_nn, isN_in, isN_sn, isN_tn, Int.cast_ofNat_Int, Int.reduceEq, Int.reduceLT, Int.reduceLE, Bool.and_false, Bool.and_true, Bool.true_and, Bool.false_and, Bool.or_false, Bool.or_true, Bool.true_or, Bool.false_or, eqD_int, c0', hd2, cz'] <;> rfl)⟩
  · have c0' : ¬ (p.ep : Int) = 0 := by omega
    refine ⟨false, k, s1, fn_ex rfl ?_, hs1.mono (by omega)⟩
    unfold b__law_dressed
    refine ex_nx (by (simp only [mSeq, mSet, mVar, mC, mOp, seqE, optE, mTru, mAnd, mOr, mNot, mIf, mBl, mNil, mCons, mCall, mTup, argsD, dsOf, tupD, mFz, mLst, mRet, mDrop, mNx, mBk, mCt, mFail, mItems, itemsD, mRng, mgName, mgNil, mgCons, mgTup, mAsg, mFor, mNo, mPart, mSl, mB, mSetO, mAppend, mPop, mPkOp, mPkIx, mPkLen, mScrLen, mYes, mPar, mPar3, mParO, mAug, mMtS, mIs, mStar, mFmt, mJs, mAndV, mOrV, mListO, mCatO, mgUnl, truD, pk, List.getElem?_cons_zero, List.getElem?_cons_succ, List.set_cons_zero, List.set_cons_succ, List.length_cons, List.length_nil, Option.map_some, Option.map_none, List.map_cons, List.map_nil, List.cons_append, List.nil_append, List.replicate, Nat.zero_add, Nat.reduceAdd, Nat.reduceSub, Nat.reduceLeDiff, if_true, if_false, Bool.not_true, Bool.not_false, reduceCtorEq, reduceIte, decide_true, decide_false, Bool.false_eq_true, List.isEmpty_cons, List.isEmpty_nil, ixT0, ixT1, ixT2, ixL0, ixL1, ixL2, isD_nn, isD_in, isD_sn, isD_tn, isN_nn, isN_in, isN_sn, isN_tn, Int.cast_ofNat_Int, Int.reduceEq, Int.reduceLT, Int.reduceLE, Bool.and_false, Bool.and_true, Bool.true_and, Bool.false_and, Bool.or_false, Bool.or_true, Bool.true_or, Bool.false_or, h1] <;> rfl)) ?_
    refine ex_nx hfound ?_
    rw [hlt]
    exact ⟨_, by (simp only [mSeq, mSet, mVar, mC, mOp, seqE, optE, mTru, mAnd, mOr, mNot, mIf, mBl, mNil, mCons, mCall, mTup, argsD, dsOf, tupD, mFz, mLst, mRet, mDrop, mNx, mBk, mCt, mFail, mItems, itemsD, mRng, mgName, mgNil, mgCons, mgTup, mAsg, mFor, mNo, mPart, mSl, mB, mSetO, mAppend, mPop, mPkOp, mPkIx, mPkLen, mScrLen, mYes, mPar, mPar3, mParO, mAug, mMtS, mIs, mStar, mFmt, mJs, mAndV, mOrV, mListO, mCatO, mgUnl, truD, pk, List.getElem?_cons_zero, List.getElem?_cons_succ, List.set_cons_zero, List.set_cons_succ, List.length_cons, List.length_nil, Option.map_some, Option.map_none, List.map_cons, List.map_nil, List.cons_append, List.nil_append, List.replicate, Nat.zero_add, Nat.reduceAdd, Nat.reduceSub, Nat.reduceLeDiff, if_true, if_false, Bool.not_true, Bool.not_false, reduceCtorEq, reduceIte, decide_true, decide_false, Bool.false_eq_true, List.isEmpty_cons, List.isEmpty_nil, ixT0, ixT1, ixT2, ixL0, ixL1, ixL2, isD_nn, isD_in, isD_sn, isD_tn, isN_nn, isN_in, isN_sn, isN_tn, Int.cast_ofNat_Int, Int.reduceEq, Int.reduceLT, Int.reduceLE, Bool.and_false, Bool.and_true, Bool.true_and, Bool.false_and, Bool.or_false, Bool.or_true, Bool.true_or, Bool.false_or, eqD_int, c0'] <;> rfl)⟩
end Dn

set_option maxHeartbeats 4000000
namespace Dn
open PySem PySem.Spec PyProof.Rows L2 SX
open TL (numL pre joinL)

/-! ### _law_version -/
abbrev Fx := List SD → W → Option (SD × W)
def DrawOk (md : Fx) : Prop := ∀ (n : Nat) (s : DS), Gd (n + 1) s → ∀ many : Nat, 0 < many → many < 1073741824 → ∃ (k : Nat) (s' : DS), md [.st, .d (.int (many : Int))] (some s) = some (.d (.int (k : Int)), some s') ∧ k < many ∧ Gd n s'
theorem drawOk : DrawOk m__law_draw := fun n s h many h1 h2 => draw_ok h h1 h2
theorem drawE {md : Fx} {i : Nat} {many : Int} {env : Ev} {w w' : W} {k : PyData} (hst : env[i]? = some (some .st)) (hd : md [.st, .d (.int many)] w = some (.d k, w')) : mCall md (mCons (mVar i) (mCons (mC (.int many)) mNil)) env w = some (.d k, env, w') := by
  simp only [mCall, mCons, mNil, mVar, mC, hst, hd]
theorem call2 {m : Fx} {a b : Ex} {env e1 e2 : Ev} {w w1 w2 w3 : W} {x y r : SD} (h1 : a env w = some (x, e1, w1)) (h2 : b e1 w1 = some (y, e2, w2)) (hm : m [x, y] w2 = some (r, w3)) : mCall m (mCons a (mCons b mNil)) env w = some (r, e2, w3) := by
  simp only [mCall, mCons, mNil, h1, h2, hm]
theorem call1 {m : Fx} {a : Ex} {env e1 : Ev} {w w1 w3 : W} {x r : SD} (h1 : a env w = some (x, e1, w1)) (hm : m [x] w1 = some (r, w3)) : mCall m (mCons a mNil) env w = some (r, e1, w3) := by
  simp only [mCall, mCons, mNil, h1, hm]
theorem call5 {m : Fx} {a b c d e : Ex} {env e1 e2 e3 e4 e5 : Ev} {w w1 w2 w3 w4 w5 w6 : W} {x y z u v r : SD} (h1 : a env w = some (x, e1, w1)) (h2 : b e1 w1 = some (y, e2, w2)) (h3 : c e2 w2 = some (z, e3, w3)) (h4 : d e3 w3 = some (u, e4, w4)) (h5 : e e4 w4 = some (v, e5, w5)) (hm : m [x, y, z, u, v] w5 = some (r, w6)) :
    mCall m (mCons a (mCons b (mCons c (mCons d (mCons e mNil))))) env w = some (r, e5, w6) := by
  simp only [mCall, mCons, mNil, h1, h2, h3, h4, h5, hm]
theorem op_ok {g : PyData → PyData → Option PyData} {a b : Ex} {env e1 e2 : Ev} {w w1 w2 : W} {x y z : PyData} (h1 : a env w = some (.d x, e1, w1)) (h2 : b e1 w1 = some (.d y, e2, w2)) (hz : g x y = some z) : mOp g a b env w = some (.d z, e2, w2) := by
  simp only [mOp, seqE, h1, h2, hz, optE]
theorem lst_ok {ms : Ax} {env e1 : Ev} {w w1 : W} {rs : List SD} {ds : List PyData} (h : ms env w = some (rs, e1, w1)) (hd : dsOf rs = some ds) (hl : ds.length ≤ 1000) : mFz (mLst ms) env w = some (.d (.list ds), e1, w1) := by
  simp only [mFz, mLst, argsD, h, hd, hl, if_true]
theorem set_ok {i : Nat} {m : Ex} {env e1 : Ev} {w w1 : W} {r : SD} (h : m env w = some (r, e1, w1)) : mSet i m env w = some (.nx, e1.set i (some r), w1) := by
  simp only [mSet, h]
theorem tru_ok {m : Ex} {env e1 : Ev} {w w1 : W} {b : Bool} (h : m env w = some (.d (.bool b), e1, w1)) : mTru m env w = some (b, e1, w1) := by
  simp only [mTru, seqE, h, truD, Option.map_some]
theorem var_d {i : Nat} {x : PyData} {env : Ev} {w : W} (h : env[i]? = some (some (.d x))) : mVar i env w = some (.d x, env, w) := by
  simp only [mVar, h]
theorem ix_small {d k : Nat} (hd : d < 1000) (hk : k < 5) : ∃ v : Nat, v < 1000 ∧ ixD (.list [.int 0, .int 0, .int 1, .int 2, .int (d : Int)]) (.int (k : Int)) = some (.int (v : Int)) := by
  match k, hk with
  | 0, _ => exact ⟨0, by decide, rfl⟩
  | 1, _ => exact ⟨0, by decide, rfl⟩
  | 2, _ => exact ⟨1, by decide, rfl⟩
  | 3, _ => exact ⟨2, by decide, rfl⟩
  | 4, _ => exact ⟨d, hd, rfl⟩
theorem ix_ep {k : Nat} (hk : k < 8) : ∃ v : Nat, v < 8 ∧ ixD (.list [.int 0, .int 0, .int 0, .int 0, .int 0, .int 1, .int 1, .int 7]) (.int (k : Int)) = some (.int (v : Int)) := by
  match k, hk with
  | 0, _ => exact ⟨0, by decide, rfl⟩
  | 1, _ => exact ⟨0, by decide, rfl⟩
  | 2, _ => exact ⟨0, by decide, rfl⟩
  | 3, _ => exact ⟨0, by decide, rfl⟩
  | 4, _ => exact ⟨0, by decide, rfl⟩
  | 5, _ => exact ⟨1, by decide, rfl⟩
  | 6, _ => exact ⟨1, by decide, rfl⟩
  | 7, _ => exact ⟨7, by decide, rfl⟩
theorem ix_lim {k : Nat} (hk : k < 4) : ∃ v : Nat, 0 < v ∧ v ≤ 12 ∧ ixD (.list [.int 2, .int 3, .int 3, .int 12]) (.int (k : Int)) = some (.int (v : Int)) := by
  match k, hk with
  | 0, _ => exact ⟨2, by decide, by decide, rfl⟩
  | 1, _ => exact ⟨3, by decide, by decide, rfl⟩
  | 2, _ => exact ⟨3, by decide, by decide, rfl⟩
  | 3, _ => exact ⟨12, by decide, by decide, rfl⟩
theorem ix_sign {k : Nat} (hk : k < 3) : ∃ x, x ∈ WS ∧ ixD (.list [.str "a", .str "b", .str "rc"]) (.int (k : Int)) = some (.str (S x)) := by
  match k, hk with
  | 0, _ => exact ⟨[97], by decide, rfl⟩
  | 1, _ => exact ⟨[98], by decide, rfl⟩
  | 2, _ => exact ⟨[114, 99], by decide, rfl⟩
theorem inD_three (a b c x : Int) : ∃ r, inD (.int x) (.tuple [.int a, .int b, .int c]) = some (.bool r) := ⟨_, rfl⟩
section
variable {md : Fx}
/-- one of the first numbers -/
theorem ver_num (hD : DrawOk md) {n : Nat} {s : DS} (hs : Gd (n + 2) s) {env : Ev} (h0 : env[0]? = some (some .st)) : ∃ (k : Nat) (s' : DS), k < 12 ∧ mCall md (mCons (mVar 0) (mCons (mOp ixD (mFz (mLst (mCons (mC (.int 2)) (mCons (mC (.int 3)) (mCons (mC (.int 3)) (mCons (mC (.int 12)) mNil)))))) (mCall md (mCons (mVar 0) (mCons (mC (.int 4)) mNil)))) mNil)) env (some s) = some (.d (.int (k : Int)), env, some s') ∧ Gd n s' := by
  obtain ⟨j, s1, d1, hj, g1⟩ := hD (n + 1) s hs 4 (by decide) (by decide)
  obtain ⟨v, v0, v1, hv⟩ := ix_lim hj
  obtain ⟨k, s2, d2, hk, g2⟩ := hD n s1 g1 v v0 (by omega)
  refine ⟨k, s2, by omega, ?_, g2⟩
  refine call2 (x := .st) (e1 := env) (w1 := some s) (by simp only [mVar, h0]) (op_ok (lst_ok (ds := [.int 2, .int 3, .int 3, .int 12]) (cons_ok rfl (cons_ok rfl (cons_ok rfl (cons_ok rfl nil_ok)))) rfl (by decide)) (drawE h0 d1) hv) d2
theorem pick_small (hD : DrawOk md) {n d : Nat} {s : DS} (hd : d < 1000) (hs : Gd (n + 1) s) {env : Ev} (h0 : env[0]? = some (some .st)) (h3 : env[3]? = some (some (.d (.list [.int 0, .int 0, .int 1, .int 2, .int (d : Int)])))) : ∃ (v : Nat) (s' : DS), v < 1000 ∧ mOp ixD (mVar 3) (mCall md (mCons (mVar 0) (mCons (mC (.int 5)) mNil))) env (some s) = some (.d (.int (v : Int)), env, some s') ∧ Gd n s' := by
  obtain ⟨j, s1, d1, hj, g1⟩ := hD n s hs 5 (by decide) (by decide)
  obtain ⟨v, hv, e⟩ := ix_small hd hj
  exact ⟨v, s1, hv, op_ok (var_d h3) (drawE h0 d1) e, g1⟩
/-- post or dev -/
theorem opt_small (hD : DrawOk md) {n d way : Nat} {s : DS} (hd : d < 1000) (hs : Gd (n + 1) s) {env : Ev} (h0 : env[0]? = some (some .st)) (h2 : env[2]? = some (some (.d (.int (way : Int))))) (h3 : env[3]? = some (some (.d (.list [.int 0, .int 0, .int 1, .int 2, .int (d : Int)])))) (a b c : Int) :
    ∃ (o : Option Nat) (s' : DS), (∀ v, o = some v → Sm v) ∧ mIf (mTru (mOp inD (mVar 2) (mTup (mCons (mC (.int a)) (mCons (mC (.int b)) (mCons (mC (.int c)) mNil)))))) (mFz (mLst (mCons (mOp ixD (mVar 3) (mCall md (mCons (mVar 0) (mCons (mC (.int 5)) mNil)))) mNil))) (mFz (mLst mNil)) env (some s) = some (.d (onL o), env, some s') ∧ Gd n s' := by
  obtain ⟨r, hr⟩ := inD_three a b c way
  have ht : mTru (mOp inD (mVar 2) (mTup (mCons (mC (.int a)) (mCons (mC (.int b)) (mCons (mC (.int c)) mNil))))) env (some s) = some (r, env, some s) := tru_ok (op_ok (var_d h2) (tup_ok (ds := [.int a, .int b, .int c]) (cons_ok rfl (cons_ok rfl (cons_ok rfl nil_ok))) rfl (by simp)) hr)
  cases r with
  | false => exact ⟨none, s, fun v h => (by cases h), (if_f ht).trans (lst_ok nil_ok rfl (by decide)), hs.mono (by omega)⟩
  | true =>
    obtain ⟨v, s1, hv, e, g1⟩ := pick_small hD hd hs h0 h3
    refine ⟨some v, s1, fun u h => ?_, (if_t ht).trans (lst_ok (ds := [.int (v : Int)]) (cons_ok e nil_ok) rfl (by simp)), g1⟩
    cases h
    exact Nat.lt_trans hv (by decide)
theorem opt_fore (hD : DrawOk md) {n d way : Nat} {s : DS} (hd : d < 1000) (hs : Gd (n + 2) s) {env : Ev} (h0 : env[0]? = some (some .st)) (h2 : env[2]? = some (some (.d (.int (way : Int))))) (h3 : env[3]? = some (some (.d (.list [.int 0, .int 0, .int 1, .int 2, .int (d : Int)])))) (a b c : Int) :
    ∃ (o : Option (List Nat × Nat)) (s' : DS), (∀ x v, o = some (x, v) → x ∈ WS ∧ Sm v) ∧ mIf (mTru (mOp inD (mVar 2) (mTup (mCons (mC (.int a)) (mCons (mC (.int b)) (mCons (mC (.int c)) mNil)))))) (mFz (mLst (mCons (mOp ixD (mFz (mLst (mCons (mC (.str "a")) (mCons (mC (.str "b")) (mCons (mC (.str "rc")) mNil))))) (mCall md (mCons (mVar 0) (mCons (mC (.int 3)) mNil)))) (mCons (mOp ixD (mVar 3) (mCall md (mCons (mVar 0) (mCons (mC (.int 5)) mNil)))) mNil)))) (mFz (mLst mNil)) env (some s) = some (.d (foL o), env, some s') ∧ Gd n s' := by
  obtain ⟨r, hr⟩ := inD_three a b c way
  have ht : mTru (mOp inD (mVar 2) (mTup (mCons (mC (.int a)) (mCons (mC (.int b)) (mCons (mC (.int c)) mNil))))) env (some s) = some (r, env, some s) := tru_ok (op_ok (var_d h2) (tup_ok (ds := [.int a, .int b, .int c]) (cons_ok rfl (cons_ok rfl (cons_ok rfl nil_ok))) rfl (by simp)) hr)
  cases r with
  | false => exact ⟨none, s, fun x v h => (by cases h), (if_f ht).trans (lst_ok nil_ok rfl (by decide)), hs.mono (by omega)⟩
  | true =>
    obtain ⟨j, s1, d1, hj, g1⟩ := hD (n + 1) s hs 3 (by decide) (by decide)
    obtain ⟨x, hx, ex⟩ := ix_sign hj
    obtain ⟨v, s2, hv, e, g2⟩ := pick_small hD hd g1 h0 h3
    refine ⟨some (x, v), s2, fun y u h => ?_, (if_t ht).trans (lst_ok (ds := [.str (S x), .int (v : Int)]) (cons_ok (op_ok (lst_ok (ds := [.str "a", .str "b", .str "rc"]) (cons_ok rfl (cons_ok rfl (cons_ok rfl nil_ok))) rfl (by simp)) (drawE h0 d1) ex) (cons_ok e nil_ok)) rfl (by simp)), g2⟩
    cases h
    exact ⟨hx, Nat.lt_trans hv (by decide)⟩
end

theorem lc_vers {md : Fx} (hD : DrawOk md) (a b c d e f : Option SD) : ∀ (ds acc : List PyData) (n : Nat) (s : DS), Gd (n + 2 * ds.length) s → ∃ ys s', lcLoop (mgName 7) mYes (mCall md (mCons (mVar 0) (mCons (mOp ixD (mFz (mLst (mCons (mC (.int 2)) (mCons (mC (.int 3)) (mCons (mC (.int 3)) (mCons (mC (.int 12)) mNil)))))) (mCall md (mCons (mVar 0) (mCons (mC (.int 4)) mNil)))) mNil))) [7] ds acc [some .st, a, b, c, d, e, f, none] (some s) = some (acc ++ ys, [some .st, a, b, c, d, e, f, none], some s') ∧ ys.length = ds.length ∧ (∀ y ∈ ys, ∃ k : Nat, k < 12 ∧ y = .int (k : Int)) ∧ Gd n s' := by
  refine lc_any fun n s x hs => ?_
  obtain ⟨k, s', hk, e1, g⟩ := ver_num hD hs (env := [some .st, a, b, c, d, e, f, some (.d x)]) rfl
  exact ⟨_, .int (k : Int), _, s', rfl, e1, rfl, ⟨k, hk, rfl⟩, g⟩
theorem ints_of : ∀ {ys : List PyData}, (∀ y ∈ ys, ∃ k : Nat, k < 12 ∧ y = .int (k : Int)) → ∃ ns : List Nat, ys = intsD ns ∧ ∀ n ∈ ns, n < 12
  | [], _ => ⟨[], rfl, fun n h => by simp at h⟩
  | y :: ys, h => by
    obtain ⟨k, hk, e⟩ := h y (by simp)
    obtain ⟨ns, e2, h2⟩ := ints_of (ys := ys) fun z hz => h z (by simp [hz])
    refine ⟨k :: ns, by rw [e, e2]; rfl, fun n hn => ?_⟩
    rcases List.mem_cons.mp hn with rfl | hn
    · exact hk
    · exact h2 n hn
theorem rng1 (k : Nat) (hk : k ≤ 1000) : ∃ ds, rng1D [.int (k : Int)] = some ds ∧ ds.length = k := by
  refine ⟨_, by unfold rng1D; dsimp only; rw [if_pos ⟨by omega, by omega⟩], ?_⟩
  rw [List.length_map, List.length_range, Int.toNat_natCast]
/-- the numbers -/
theorem ver_nums {md : Fx} (hD : DrawOk md) {n : Nat} {s : DS} (hs : Gd (n + 7) s) : ∃ ns s', ns ≠ [] ∧ ns.length ≤ 3 ∧ (∀ k ∈ ns, k < 12) ∧ Gd n s' ∧
    mSet 1 (mFz (mLc (mRng rng1D (mCons (mOp addD (mC (.int 1)) (mCall md (mCons (mVar 0) (mCons (mC (.int 3)) mNil)))) mNil)) (mgName 7) mYes (mCall md (mCons (mVar 0) (mCons (mOp ixD (mFz (mLst (mCons (mC (.int 2)) (mCons (mC (.int 3)) (mCons (mC (.int 3)) (mCons (mC (.int 12)) mNil)))))) (mCall md (mCons (mVar 0) (mCons (mC (.int 4)) mNil)))) mNil))) [7]))
      [some .st, none, none, none, none, none, none, none] (some s) = some (.nx, [some .st, some (.d (.list (intsD ns))), none, none, none, none, none, none], some s') := by
  obtain ⟨j, s1, d1, hj, g1⟩ := hD (n + 6) s hs 3 (by decide) (by decide)
  obtain ⟨ds, hds, hdl⟩ := rng1 (1 + j) (by omega)
  obtain ⟨ys, s2, l1, l2, l3, g2⟩ := lc_vers hD none none none none none none ds [] n s1 (g1.mono (by omega))
  obtain ⟨ns, e, hn⟩ := ints_of l3
  have hl : ns.length = 1 + j := by
    have := congrArg List.length e
    rw [intsD_len] at this
    omega
  refine ⟨ns, s2, fun z => ?_, by omega, hn, g2, ?_⟩
  · subst z; simp at hl; omega
  · have hrng : mRng rng1D (mCons (mOp addD (mC (.int 1)) (mCall md (mCons (mVar 0) (mCons (mC (.int 3)) mNil)))) mNil) [some .st, none, none, none, none, none, none, none] (some s) = some (ds, [some .st, none, none, none, none, none, none, none], some s1) := by
      have ha : addD (.int 1) (.int (j : Int)) = some (.int ((1 + j : Nat) : Int)) := add_nat 1 j
      have h1 : mOp addD (mC (.int 1)) (mCall md (mCons (mVar 0) (mCons (mC (.int 3)) mNil))) [some .st, none, none, none, none, none, none, none] (some s) = some (.d (.int ((1 + j : Nat) : Int)), [some .st, none, none, none, none, none, none, none], some s1) := op_ok (g := addD) (a := mC (.int 1)) (env := [some .st, none, none, none, none, none, none, none]) (w := some s) rfl (drawE (i := 0) (env := [some .st, none, none, none, none, none, none, none]) rfl d1) ha
      simp only [mRng, argsD, mCons, mNil, h1, dsOf, Option.map_some, hds]
    refine set_ok (r := .d (.list (intsD ns))) (e1 := [some .st, none, none, none, none, none, none, none]) ?_
    have hw : wipeE [some SD.st, none, none, none, none, none, none, none] [7] = [some .st, none, none, none, none, none, none, none] := rfl
    have hr : rst [some SD.st, none, none, none, none, none, none, none] [some .st, none, none, none, none, none, none, none] [7] = [some .st, none, none, none, none, none, none, none] := rfl
    rw [List.nil_append, e] at l1
    simp only [mFz, mLc, hrng, hw, l1, hr]

theorem pow9 : powI (.int 10) (.int 9) = some (.int ((1000000000 : Nat) : Int)) := by
  unfold powI int2
  dsimp only
  rw [if_pos ⟨by decide, by decide, by decide⟩]
  rfl
/-- perhaps two more -/
theorem ver_more {md : Fx} (hD : DrawOk md) {n : Nat} {s : DS} (hs : Gd (n + 2) s) {ns : List Nat} (h0 : ns ≠ []) (h1 : ns.length ≤ 3) (h2 : ∀ k ∈ ns, k < 12) : ∃ ms s', ms ≠ [] ∧ ms.length ≤ 5 ∧ (∀ k ∈ ms, Sm k) ∧ Gd n s' ∧
    mIf (mTru (mOp eqD (mCall md (mCons (mVar 0) (mCons (mC (.int 12)) mNil))) (mC (.int 0)))) (mSet 1 (mOp addD (mVar 1) (mFz (mLst (mCons (mC (.int 0)) (mCons (mCall md (mCons (mVar 0) (mCons (mOp powI (mC (.int 10)) (mC (.int 9))) mNil))) mNil)))))) mNx
      [some .st, some (.d (.list (intsD ns))), none, none, none, none, none, none] (some s) = some (.nx, [some .st, some (.d (.list (intsD ms))), none, none, none, none, none, none], some s') := by
  obtain ⟨j, s1, d1, hj, g1⟩ := hD (n + 1) s hs 12 (by decide) (by decide)
  have ht : mTru (mOp eqD (mCall md (mCons (mVar 0) (mCons (mC (.int 12)) mNil))) (mC (.int 0))) [some .st, some (.d (.list (intsD ns))), none, none, none, none, none, none] (some s) = some (decide ((j : Int) = 0), [some .st, some (.d (.list (intsD ns))), none, none, none, none, none, none], some s1) :=
    tru_ok (op_ok (drawE (i := 0) (env := [some .st, some (.d (.list (intsD ns))), none, none, none, none, none, none]) rfl d1) rfl (eqD_int _ _))
  have hsm : ∀ k ∈ ns, Sm k := fun k hk => Nat.lt_trans (h2 k hk) (by decide)
  by_cases c : (j : Int) = 0
  · rw [decide_eq_true c] at ht
    obtain ⟨k, s2, d2, hk, g2⟩ := hD n s1 g1 1000000000 (by decide) (by decide)
    refine ⟨ns ++ [0, k], s2, by simp, by simp; omega, fun x hx => ?_, g2, (if_t ht).trans ?_⟩
    · rcases List.mem_append.mp hx with hx | hx
      · exact hsm x hx
      · simp only [List.mem_cons, List.not_mem_nil, or_false] at hx
        rcases hx with rfl | rfl
        · decide
        · exact Nat.lt_trans hk (by decide)
    · refine set_ok (op_ok (x := .list (intsD ns)) (y := .list [.int 0, .int (k : Int)]) (var_d rfl) (lst_ok (rs := [.d (.int 0), .d (.int (k : Int))]) (ds := [.int 0, .int (k : Int)]) (cons_ok rfl (cons_ok (call2 (x := .st) (e1 := [some .st, some (.d (.list (intsD ns))), none, none, none, none, none, none]) (w1 := some s1) rfl (op_ok (a := mC (.int 10)) (b := mC (.int 9)) (e1 := [some .st, some (.d (.list (intsD ns))), none, none, none, none, none, none]) (w1 := some s1) (e2 := [some .st, some (.d (.list (intsD ns))), none, none, none, none, none, none]) (w2 := some s1) rfl rfl pow9) d2) nil_ok)) rfl (by simp)) ?_)
      unfold addD addL
      dsimp only
      rw [if_pos (by rw [intsD_len, sizeLine_eq]; simp; omega)]
      unfold intsD
      rw [List.map_append]
      rfl
  · rw [decide_eq_false c] at ht
    exact ⟨ns, s1, h0, by omega, hsm, g1.mono (by omega), (if_f ht).trans rfl⟩
theorem run_version {n : Nat} {s : DS} (hs : Gd (n + 30) s) : ∃ p s', p.Wf ∧ p.ns.length ≤ 8 ∧ m__law_version [.st] (some s) = some (.d (.str (S (prB false p))), some s') ∧ Gd n s' := by
  have hD := drawOk
  have hT : ∀ (p : Pt) (w : W), p.Wf → m__law_text [.d (.int (p.ep : Int)), .d (.list (intsD p.ns)), .d (foL p.fo), .d (onL p.po), .d (onL p.dv)] w = some (.d (.str (S (prB false p))), w) := fun p w h => run_ltext h w
  suffices hb : ∃ p s', p.Wf ∧ p.ns.length ≤ 8 ∧ Gd n s' ∧ ∃ e, b__law_version [some .st, none, none, none, none, none, none, none] (some s) = some (.rt (.d (.str (S (prB false p)))), e, some s') by
    obtain ⟨p, s', h1, h2, h3, h4⟩ := hb
    exact ⟨p, s', h1, h2, fn_ex rfl h4, h3⟩
  unfold b__law_version eC1__law_version
  generalize m__law_draw = md at hD ⊢
  generalize m__law_text = mt at hT ⊢
  obtain ⟨ns, s1, a1, a2, a3, g1, r1⟩ := ver_nums hD (n := n + 23) (hs.mono (by omega))
  obtain ⟨ms, s2, b1, b2, b3, g2, r2⟩ := ver_more hD (n := n + 21) g1 a1 a2 a3
  obtain ⟨way, s3, d3, hw, g3⟩ := hD (n + 20) s2 g2 9 (by decide) (by decide)
  obtain ⟨d, s4, d4, hd, g4⟩ := hD (n + 19) s3 g3 1000 (by decide) (by decide)
  have r3 : mPar 2 3 (mCall md (mCons (mVar 0) (mCons (mC (.int 9)) mNil))) (mFz (mLst (mCons (mC (.int 0)) (mCons (mC (.int 0)) (mCons (mC (.int 1)) (mCons (mC (.int 2)) (mCons (mCall md (mCons (mVar 0) (mCons (mC (.int 1000)) mNil))) mNil))))))) [some .st, some (.d (.list (intsD ms))), none, none, none, none, none, none] (some s2)
      = some (.nx, [some .st, some (.d (.list (intsD ms))), some (.d (.int (way : Int))), some (.d (.list [.int 0, .int 0, .int 1, .int 2, .int (d : Int)])), none, none, none, none], some s4) := by
    have q1 := cons_ok (drawE (i := 0) (env := [some .st, some (.d (.list (intsD ms))), none, none, none, none, none, none]) rfl d3) (cons_ok (lst_ok (ds := [.int 0, .int 0, .int 1, .int 2, .int (d : Int)]) (cons_ok (a := mC (.int 0)) rfl (cons_ok (a := mC (.int 0)) rfl (cons_ok (a := mC (.int 1)) rfl (cons_ok (a := mC (.int 2)) rfl (cons_ok (drawE (i := 0) rfl d4) nil_ok))))) rfl (by simp)) nil_ok)
    have q1' : mCons (mCall md (mCons (mVar 0) (mCons (mC (.int 9)) mNil))) (mCons (mFz (mLst (mCons (mC (.int 0)) (mCons (mC (.int 0)) (mCons (mC (.int 1)) (mCons (mC (.int 2)) (mCons (mCall md (mCons (mVar 0) (mCons (mC (.int 1000)) mNil))) mNil))))))) mNil) [some .st, some (.d (.list (intsD ms))), none, none, none, none, none, none] (some s2) = some ([.d (.int (way : Int)), .d (.list [.int 0, .int 0, .int 1, .int 2, .int (d : Int)])], [some .st, some (.d (.list (intsD ms))), none, none, none, none, none, none], some s4) := q1
    simp only [mPar, q1']
    rfl
  obtain ⟨fo, s5, hfo, r4, g5⟩ := opt_fore hD (n := n + 17) (s := s4) hd g4 (env := [some .st, some (.d (.list (intsD ms))), some (.d (.int (way : Int))), some (.d (.list [.int 0, .int 0, .int 1, .int 2, .int (d : Int)])), none, none, none, none]) rfl rfl rfl 1 2 3
  obtain ⟨po, s6, hpo, r5, g6⟩ := opt_small hD (n := n + 16) (s := s5) hd g5 (env := [some .st, some (.d (.list (intsD ms))), some (.d (.int (way : Int))), some (.d (.list [.int 0, .int 0, .int 1, .int 2, .int (d : Int)])), some (.d (foL fo)), none, none, none]) rfl rfl rfl 3 4 5
  obtain ⟨dv, s7, hdv, r6, g7⟩ := opt_small hD (n := n + 15) (s := s6) hd g6 (env := [some .st, some (.d (.list (intsD ms))), some (.d (.int (way : Int))), some (.d (.list [.int 0, .int 0, .int 1, .int 2, .int (d : Int)])), some (.d (foL fo)), some (.d (onL po)), none, none]) rfl rfl rfl 2 5 6
  obtain ⟨j, s8, d8, hj, g8⟩ := hD (n + 14) s7 g7 8 (by decide) (by decide)
  obtain ⟨ep, hep, e8⟩ := ix_ep hj
  have hwf : (⟨ep, ms, fo, po, dv⟩ : Pt).Wf := ⟨b1, by show ms.length ≤ 60; omega, b3, Nat.lt_trans hep (by decide), hfo, hpo, hdv⟩
  refine ⟨⟨ep, ms, fo, po, dv⟩, s8, hwf, by show ms.length ≤ 8; omega, g8.mono (by omega), ?_⟩
  refine ex_nx r1 ?_
  refine ex_nx r2 ?_
  refine ex_nx r3 ?_
  refine ex_nx (set_ok r4) ?_
  refine ex_nx (set_ok r5) ?_
  refine ex_nx (set_ok r6) ?_
  refine ⟨_, ret_ok (call5 (op_ok (lst_ok (ds := [.int 0, .int 0, .int 0, .int 0, .int 0, .int 1, .int 1, .int 7]) (cons_ok rfl (cons_ok rfl (cons_ok rfl (cons_ok rfl (cons_ok rfl (cons_ok rfl (cons_ok rfl (cons_ok rfl nil_ok)))))))) rfl (by simp)) (drawE (i := 0) rfl d8) e8) (var_d rfl) (var_d rfl) (var_d rfl) (var_d rfl) (hT ⟨ep, ms, fo, po, dv⟩ (some s8) hwf))⟩
end Dn

set_option maxHeartbeats 4000000
namespace Dn
open PySem PySem.Spec PyProof.Rows L2 SX
open TL (numL pre joinL)

/-! ### equality of data without truth values -/
mutual
def nb : PyData → Bool
  | .none => true
  | .int _ => true
  | .str _ => true
  | .list xs => nbA xs
  | .tuple xs => nbA xs
  | _ => false
def nbA : List PyData → Bool
  | [] => true
  | x :: xs => nb x && nbA xs
end
mutual
theorem eqv_eq : ∀ (x y : PyData), nb x = true → nb y = true → PyData.eqv x y = true → x = y
  | .none, .none, _, _, _ => rfl
  | .int i, .int j, _, _, h => by
    rw [PyData.eqv] at h
    rw [eq_of_beq h]
  | .str i, .str j, _, _, h => by
    rw [PyData.eqv] at h
    rw [eq_of_beq h]
  | .list xs, .list ys, h1, h2, h => by
    rw [PyData.eqv] at h
    rw [eqvA_eq xs ys (by simpa [nb] using h1) (by simpa [nb] using h2) h]
  | .tuple xs, .tuple ys, h1, h2, h => by
    rw [PyData.eqv] at h
    rw [eqvA_eq xs ys (by simpa [nb] using h1) (by simpa [nb] using h2) h]
  | .bool _, _, h, _, _ => by cases h
  | .dict _, _, h, _, _ => by cases h
  | _, .bool _, _, h, _ => by cases h
  | _, .dict _, _, h, _ => by cases h
  | .none, .int _, _, _, h | .none, .str _, _, _, h | .none, .list _, _, _, h | .none, .tuple _, _, _, h => by simp [PyData.eqv] at h
  | .int _, .none, _, _, h | .int _, .str _, _, _, h | .int _, .list _, _, _, h | .int _, .tuple _, _, _, h => by simp [PyData.eqv] at h
  | .str _, .none, _, _, h | .str _, .int _, _, _, h | .str _, .list _, _, _, h | .str _, .tuple _, _, _, h => by simp [PyData.eqv] at h
  | .list _, .none, _, _, h | .list _, .int _, _, _, h | .list _, .str _, _, _, h | .list _, .tuple _, _, _, h => by simp [PyData.eqv] at h
  | .tuple _, .none, _, _, h | .tuple _, .int _, _, _, h | .tuple _, .str _, _, _, h | .tuple _, .list _, _, _, h => by simp [PyData.eqv] at h
theorem eqvA_eq : ∀ (xs ys : List PyData), nbA xs = true → nbA ys = true → PyData.eqvAll xs ys = true → xs = ys
  | [], [], _, _, _ => rfl
  | x :: xs, y :: ys, h1, h2, h => by
    rw [nbA, Bool.and_eq_true] at h1 h2
    rw [PyData.eqvAll, Bool.and_eq_true] at h
    rw [eqv_eq x y h1.1 h2.1 h.1, eqvA_eq xs ys h1.2 h2.2 h.2]
  | [], _ :: _, _, _, h => by simp [PyData.eqvAll] at h
  | _ :: _, [], _, _, h => by simp [PyData.eqvAll] at h
end
mutual
theorem eqv_rf : ∀ (x : PyData), nb x = true → PyData.eqv x x = true
  | .none, _ => rfl
  | .int i, _ => by rw [PyData.eqv]; exact beq_self_eq_true _
  | .str i, _ => by rw [PyData.eqv]; exact beq_self_eq_true _
  | .list xs, h => by rw [PyData.eqv]; exact eqvA_rf xs (by simpa [nb] using h)
  | .tuple xs, h => by rw [PyData.eqv]; exact eqvA_rf xs (by simpa [nb] using h)
  | .bool _, h => by cases h
  | .dict _, h => by cases h
theorem eqvA_rf : ∀ (xs : List PyData), nbA xs = true → PyData.eqvAll xs xs = true
  | [], _ => rfl
  | x :: xs, h => by
    rw [nbA, Bool.and_eq_true] at h
    rw [PyData.eqvAll, eqv_rf x h.1, eqvA_rf xs h.2]
    rfl
end
open Classical in
theorem eqv_dec {x y : PyData} (h1 : nb x = true) (h2 : nb y = true) : PyData.eqv x y = decide (x = y) := by
  by_cases h : x = y
  · subst h
    rw [eqv_rf x h1, decide_eq_true rfl]
  · rw [decide_eq_false h]
    cases q : PyData.eqv x y with
    | false => rfl
    | true => exact absurd (eqv_eq x y h1 h2 q) h
theorem nb_ints : ∀ ns : List Nat, nbA (intsD ns) = true
  | [] => rfl
  | n :: ns => nb_ints ns
theorem dOk_ints (m : Nat) : ∀ ns : List Nat, dOkAll m (intsD ns) = true
  | [] => by unfold intsD; simp [dOkAll]
  | n :: ns => by
    have ih := dOk_ints m ns
    unfold intsD at ih ⊢
    simp [dOkAll, dOk]
    simpa using ih
theorem nb_key (p : Pt) : nb (keyD p) = true := by
  unfold keyD
  simp [nb, nbA, nb_ints]
theorem dOk_key (p : Pt) : dOk 60 (keyD p) = true := by
  unfold keyD
  simp [dOk, dOkAll, dOk_ints]
theorem nb_lk (p : Pt) : nb (lkD p) = true := by
  unfold lkD stageD
  cases p.fo with
  | none => cases p.po <;> cases p.dv <;> simp [nb, nbA, nb_ints]
  | some q => obtain ⟨x, n⟩ := q; cases p.po <;> cases p.dv <;> simp [nb, nbA, nb_ints]
theorem dOk_lk (p : Pt) : dOk 60 (lkD p) = true := by
  unfold lkD stageD
  cases p.fo with
  | none => cases p.po <;> cases p.dv <;> simp [dOk, dOkAll, dOk_ints]
  | some q => obtain ⟨x, n⟩ := q; cases p.po <;> cases p.dv <;> simp [dOk, dOkAll, dOk_ints]
theorem intsD_inj : ∀ {a b : List Nat}, intsD a = intsD b → a = b
  | [], [], _ => rfl
  | [], _ :: _, h => by simp [intsD] at h
  | _ :: _, [], h => by simp [intsD] at h
  | x :: a, y :: b, h => by
    simp only [intsD, List.map_cons, List.cons.injEq, PyData.int.injEq] at h
    rw [show x = y by omega, intsD_inj (a := a) (b := b) h.2]
theorem nrm_of {p q : Pt} (h1 : p.ep = q.ep) (h2 : bas p.ns = bas q.ns) (h3 : p.fo = q.fo) (h4 : p.po = q.po) (h5 : p.dv = q.dv) : nrm p = nrm q := by
  unfold nrm
  rw [h1, h2, h3, h4, h5]
theorem bas_of {p q : Pt} (h : nrm p = nrm q) : bas p.ns = bas q.ns := by rw [← bas_nrm p, ← bas_nrm q, h]
theorem lk_inj {p q : Pt} : lkD p = lkD q ↔ nrm p = nrm q := by
  constructor
  · intro h
    unfold lkD at h
    simp only [PyData.tuple.injEq, List.cons.injEq, PyData.int.injEq, PyData.list.injEq] at h
    obtain ⟨⟨h1, h2, _⟩, h3, h4, h5, _⟩ := h
    have hpo : p.po = q.po := by
      cases e1 : p.po <;> cases e2 : q.po <;> rw [e1, e2] at h4 <;> simp at h4 <;> first | rfl | omega | (congr 1; omega)
    have hdv : p.dv = q.dv := by
      cases e1 : p.dv <;> cases e2 : q.dv <;> rw [e1, e2] at h5 <;> simp at h5 <;> first | rfl | omega | (congr 1; omega)
    have hfo : p.fo = q.fo := by
      unfold stageD at h3
      rw [hpo, hdv] at h3
      cases e1 : p.fo with
      | none =>
        cases e2 : q.fo with
        | none => rfl
        | some z =>
          obtain ⟨x, n⟩ := z
          rw [e1, e2] at h3
          cases e3 : q.po <;> cases e4 : q.dv <;> rw [e3, e4] at h3 <;> simp at h3
      | some z =>
        obtain ⟨x, n⟩ := z
        cases e2 : q.fo with
        | none =>
          rw [e1, e2] at h3
          cases e3 : q.po <;> cases e4 : q.dv <;> rw [e3, e4] at h3 <;> simp at h3
        | some z2 =>
          obtain ⟨y, m⟩ := z2
          rw [e1, e2] at h3
          simp at h3
          rw [h3.1, show n = m by omega]
    exact nrm_of (by omega) (intsD_inj h2) hfo hpo hdv
  · intro h
    have e1 : (nrm p).ep = (nrm q).ep := congrArg Pt.ep h
    replace e1 : p.ep = q.ep := e1
    have e2 : (nrm p).fo = (nrm q).fo := congrArg Pt.fo h
    replace e2 : p.fo = q.fo := e2
    have e3 : (nrm p).po = (nrm q).po := congrArg Pt.po h
    replace e3 : p.po = q.po := e3
    have e4 : (nrm p).dv = (nrm q).dv := congrArg Pt.dv h
    replace e4 : p.dv = q.dv := e4
    have e5 := bas_of h
    unfold lkD stageD
    rw [e1, e2, e3, e4, e5]

/-! ### order of equal ones -/
theorem run_order0 {l m : List Nat} (hl : Sh l) (hm : Sh m) {p q : Pt} (hp : p.Wf) (hq : q.Wf) (e1 : partsR l = some p) (e2 : partsR m = some q) (hk : keyD p = keyD q) (w : W) : m_order [.d (.str (S l)), .d (.str (S m))] w = some (.d (.int 0), w) := by
  refine fn_ex rfl ?_
  unfold b_order
  have h1 := run_need hl hp e1 w
  have h2 := run_need hm hq e2 w
  rw [← hk] at h2
  have h3 : eqD (keyD p) (keyD p) = some (.bool true) := by
    unfold eqD
    rw [dOk_key, Bool.true_or, if_pos rfl, eqv_rf _ (nb_key p)]
  generalize keyD p = K at h1 h2 h3
  generalize m_need_key = mn at h1 h2 ⊢
  refine ex_nx (by (simp only [mSeq, mSet, mVar, mC, mOp, seqE, optE, mTru, mAnd, mOr, mNot, mIf, mBl, mNil, mCons, mCall, mTup, argsD, dsOf, tupD, mFz, mLst, mRet, mDrop, mNx, mBk, mCt, mFail, mItems, itemsD, mRng, mgName, mgNil, mgCons, mgTup, mAsg, mFor, mNo, mPart, mSl, mB, mSetO, mAppend, mPop, mPkOp, mPkIx, mPkLen, mScrLen, mYes, mPar, mPar3, mParO, mAug, mMtS, mIs, mStar, mFmt, mJs, mAndV, mOrV, mListO, mCatO, mgUnl, truD, pk, List.getElem?_cons_zero, List.getElem?_cons_succ, List.set_cons_zero, List.set_cons_succ, List.length_cons, List.length_nil, Option.map_some, Option.map_none, List.map_cons, List.map_nil, List.cons_append, List.nil_append, List.replicate, Nat.zero_add, Nat.reduceAdd, Nat.reduceSub, Nat.reduceLeDiff, if_true, if_false, Bool.not_true, Bool.not_false, reduceCtorEq, reduceIte, decide_true, decide_false, Bool.false_eq_true, List.isEmpty_cons, List.isEmpty_nil, ixT0, ixT1, ixT2, ixL0, ixL1, ixL2, isD_nn, isD_in, isD_sn, isD_tn, isN_nn, isN_in, isN_sn, isN_tn, Int.cast_ofNat_Int, Int.reduceEq, Int.reduceLT, Int.reduceLE, Bool.and_false, Bool.and_true, Bool.true_and, Bool.false_and, Bool.or_false, Bool.or_true, Bool.true_or, Bool.false_or, h1, h2] <;> rfl)) ?_
  exact ex_rt (by (simp only [mSeq, mSet, mVar, mC, mOp, seqE, optE, mTru, mAnd, mOr, mNot, mIf, mBl, mNil, mCons, mCall, mTup, argsD, dsOf, tupD, mFz, mLst, mRet, mDrop, mNx, mBk, mCt, mFail, mItems, itemsD, mRng, mgName, mgNil, mgCons, mgTup, mAsg, mFor, mNo, mPart, mSl, mB, mSetO, mAppend, mPop, mPkOp, mPkIx, mPkLen, mScrLen, mYes, mPar, mPar3, mParO, mAug, mMtS, mIs, mStar, mFmt, mJs, mAndV, mOrV, mListO, mCatO, mgUnl, truD, pk, List.getElem?_cons_zero, List.getElem?_cons_succ, List.set_cons_zero, List.set_cons_succ, List.length_cons, List.length_nil, Option.map_some, Option.map_none, List.map_cons, List.map_nil, List.cons_append, List.nil_append, List.replicate, Nat.zero_add, Nat.reduceAdd, Nat.reduceSub, Nat.reduceLeDiff, if_true, if_false, Bool.not_true, Bool.not_false, reduceCtorEq, reduceIte, decide_true, decide_false, Bool.false_eq_true, List.isEmpty_cons, List.isEmpty_nil, ixT0, ixT1, ixT2, ixL0, ixL1, ixL2, isD_nn, isD_in, isD_sn, isD_tn, isN_nn, isN_in, isN_sn, isN_tn, Int.cast_ofNat_Int, Int.reduceEq, Int.reduceLT, Int.reduceLE, Bool.and_false, Bool.and_true, Bool.true_and, Bool.false_and, Bool.or_false, Bool.or_true, Bool.true_or, Bool.false_or, h3] <;> rfl))
theorem nsS_mono : ∀ {a b : List Nat}, a ≠ [] → a <+: b → (nsS a).length ≤ (nsS b).length
  | [], _, h, _ => absurd rfl h
  | [x], b, _, h => by
    obtain ⟨t, rfl⟩ := h
    cases t with
    | nil => exact Nat.le_refl _
    | cons y t =>
      rw [List.singleton_append, nsS_cons, nsS_one, List.length_append]
      omega
  | x :: y :: a, b, _, h => by
    obtain ⟨t, rfl⟩ := h
    have ih := nsS_mono (a := y :: a) (b := y :: a ++ t) (by simp) ⟨t, rfl⟩
    rw [List.cons_append, List.cons_append, nsS_cons, nsS_cons, List.length_append, List.length_append, List.length_cons, List.length_cons]
    rw [List.cons_append] at ih
    omega
theorem due_len {p : Pt} (h : p.Wf) (hl : p.ns.length ≤ 8) (b : Bool) (k : Nat) : (prB false (nrm p)).length ≤ (prB b (dress p k)).length := by
  obtain ⟨j, e, _⟩ := dress_ns hl k
  have h1 : (nsS (nrm p).ns).length ≤ (nsS (dress p k).ns).length := by
    rw [e]
    unfold nrm
    dsimp only
    split
    · obtain ⟨x, xs, hx⟩ := List.exists_cons_of_ne_nil h.ne
      rw [hx, List.cons_append]
      obtain ⟨c, r, hc, _⟩ := nsS_head x (xs ++ List.replicate j 0)
      rw [hc, nsS_one, TL.numL_lt (n := 0) (by decide)]
      simp
    · rename_i hb
      exact nsS_mono hb ((bas_pre p.ns).trans (List.prefix_append _ _))
  have h2 : (epS false p.ep).length ≤ (epS b p.ep).length := by
    unfold epS
    by_cases c : p.ep = 0
    · rw [if_pos ⟨c, rfl⟩]
      exact Nat.zero_le _
    · rw [if_neg (fun z => c z.1), if_neg (fun z => c z.1)]
      exact Nat.le_refl _
  show (epS false p.ep ++ (nsS (nrm p).ns ++ (foS p.fo ++ (poS p.po ++ dvS p.dv)))).length ≤ (epS b p.ep ++ (nsS (dress p k).ns ++ (foS p.fo ++ (poS p.po ++ dvS p.dv)))).length
  simp only [List.length_append]
  omega
end Dn

set_option maxHeartbeats 4000000
namespace Dn
open PySem PySem.Spec PyProof.Rows L2 SX
open TL (numL pre joinL)

/-! ### _law_right -/
theorem right_step {mdr mpl mor : Fx} {t D O : List Nat} {s s1 : DS} (h1 : mdr [.st, .d (.str (S t))] (some s) = some (.d (.str (S O)), some s1)) (h2 : mpl [.d (.str (S O))] (some s1) = some (.d (.str (S D)), some s1))
    (h3 : mor [.d (.str (S O)), .d (.str (S D))] (some s1) = some (.d (.int 0), some s1)) (hO : Sh O) (hD : Sh D) (hl : D.length ≤ O.length) (x y : Option SD) :
    mSeq (mSet 4 (mCall mdr (mCons (mVar 0) (mCons (mVar 1) mNil))))
      (mIf (mOr (mTru (mOp neD (mCall mpl (mCons (mVar 4) mNil)) (mVar 2))) (mOr (mTru (mOp neD (mCall mor (mCons (mVar 4) (mCons (mVar 2) mNil))) (mC (.int 0)))) (mTru (mOp gtI (mB lenD (mCons (mVar 2) mNil)) (mB lenD (mCons (mVar 4) mNil)))))) (mRet (mC (.bool false))) mNx)
      [some .st, some (.d (.str (S t))), some (.d (.str (S D))), x, y] (some s) = some (.nx, [some .st, some (.d (.str (S t))), some (.d (.str (S D))), x, some (.d (.str (S O)))], some s1) := by
  have hl' : ¬ ((O.length : Int) < (D.length : Int)) := by omega
  rw [seq_nx (e1 := [some .st, some (.d (.str (S t))), some (.d (.str (S D))), x, some (.d (.str (S O)))]) (w1 := some s1) (by (simp only [mSeq, mSet, mVar, mC, mOp, seqE, optE, mTru, mAnd, mOr, mNot, mIf, mBl, mNil, mCons, mCall, mTup, argsD, dsOf, tupD, mFz, mLst, mRet, mDrop, mNx, mBk, mCt, mFail, mItems, itemsD, mRng, mgName, mgNil, mgCons, mgTup, mAsg, mFor, mNo, mPart, mSl, mB, mSetO, mAppend, mPop, mPkOp, mPkIx, mPkLen, mScrLen, mYes, mPar, mPar3, mParO, mAug, mMtS, mIs, mStar, mFmt, mJs, mAndV, mOrV, mListO, mCatO, mgUnl, truD, pk, List.getElem?_cons_zero, List.getElem?_cons_succ, List.set_cons_zero, List.set_cons_succ, List.length_cons, List.length_nil, Option.map_some, Option.map_none, List.map_cons, List.map_nil, List.cons_append, List.nil_append, List.replicate, Nat.zero_add, Nat.reduceAdd, Nat.reduceSub, Nat.reduceLeDiff, if_true, if_false, Bool.not_true, Bool.not_false, reduceCtorEq, reduceIte, decide_true, decide_false, Bool.false_eq_true, List.isEmpty_cons, List.isEmpty_nil, ixT0, ixT1, ixT2, ixL0, ixL1, ixL2, isD_nn, isD_in, isD_sn, isD_tn, isN_nn, isN_in, isN_sn, isN_tn, Int.cast_ofNat_Int, Int.reduceEq, Int.reduceLT, Int.reduceLE, Bool.and_false, Bool.and_true, Bool.true_and, Bool.false_and, Bool.or_false, Bool.or_true, Bool.true_or, Bool.false_or, h1] <;> rfl))]
  (simp only [mSeq, mSet, mVar, mC, mOp, seqE, optE, mTru, mAnd, mOr, mNot, mIf, mBl, mNil, mCons, mCall, mTup, argsD, dsOf, tupD, mFz, mLst, mRet, mDrop, mNx, mBk, mCt, mFail, mItems, itemsD, mRng, mgName, mgNil, mgCons, mgTup, mAsg, mFor, mNo, mPart, mSl, mB, mSetO, mAppend, mPop, mPkOp, mPkIx, mPkLen, mScrLen, mYes, mPar, mPar3, mParO, mAug, mMtS, mIs, mStar, mFmt, mJs, mAndV, mOrV, mListO, mCatO, mgUnl, truD, pk, List.getElem?_cons_zero, List.getElem?_cons_succ, List.set_cons_zero, List.set_cons_succ, List.length_cons, List.length_nil, Option.map_some, Option.map_none, List.map_cons, List.map_nil, List.cons_append, List.nil_append, List.replicate, Nat.zero_add, Nat.reduceAdd, Nat.reduceSub, Nat.reduceLeDiff, if_true, if_false, Bool.not_true, Bool.not_false, reduceCtorEq, reduceIte, decide_true, decide_false, Bool.false_eq_true, List.isEmpty_cons, List.isEmpty_nil, ixT0, ixT1, ixT2, ixL0, ixL1, ixL2, isD_nn, isD_in, isD_sn, isD_tn, isN_nn, isN_in, isN_sn, isN_tn, Int.cast_ofNat_Int, Int.reduceEq, Int.reduceLT, Int.reduceLE, Bool.and_false, Bool.and_true, Bool.true_and, Bool.false_and, Bool.or_false, Bool.or_true, Bool.true_or, Bool.false_or, h2, h3, neD_S, neD_int, lenD_S hD, lenD_S hO, gtI_int, hl'] <;> rfl)
theorem rng3 : rng1D [.int 3] = some [.int 0, .int 1, .int 2] := rfl
theorem run_right {p : Pt} (h : p.Wf) (hl : p.ns.length ≤ 8) {n : Nat} {s : DS} (hs : Gd (n + 6) s) : ∃ s', m__law_right [.st, .d (.str (S (prB false p)))] (some s) = some (.d (.bool true), some s') ∧ Gd n s' := by
  have hN := nrm_wf h
  have hdue : ∀ w, m__law_due [.d (.str (S (prB false p)))] w = some (.d (.str (S (prB false (nrm p)))), w) := fun w => run_ldue false h w
  have hdr : ∀ (n : Nat) (s : DS), Gd (n + 2) s → ∃ O s', m__law_dressed [.st, .d (.str (S (prB false p)))] (some s) = some (.d (.str (S O)), some s') ∧ Gd n s' ∧ Sh O ∧ (prB false (nrm p)).length ≤ O.length ∧
      (∀ w, m_plainest [.d (.str (S O))] w = some (.d (.str (S (prB false (nrm p)))), w)) ∧ (∀ w, m_order [.d (.str (S O)), .d (.str (S (prB false (nrm p))))] w = some (.d (.int 0), w)) := fun n s g => by
    obtain ⟨b, k, s', e, g'⟩ := run_dressed false h hl g
    have hd := dress_wf h hl k
    refine ⟨_, s', e, g', prB_sh hd, due_len h hl b k, fun w => ?_, fun w => ?_⟩
    · rw [run_plain (prB_sh hd) hd (parts_print b hd) w, dress_nrm hl]
    · refine run_order0 (prB_sh hd) (prB_sh hN) hd hN (parts_print b hd) (parts_print false hN) ?_ w
      rw [← key_nrm (dress p k), dress_nrm hl, key_nrm]
  have hp1 : ∀ w, m_plainest [.d (.str (S (prB false (nrm p))))] w = some (.d (.str (S (prB false (nrm p)))), w) := fun w => by
    rw [run_plain (prB_sh hN) hN (parts_print false hN) w, nrm_nrm]
  have hp2 : ∀ w, m_plainest [.d (.str (S (prB false p)))] w = some (.d (.str (S (prB false (nrm p)))), w) := fun w => run_plain (prB_sh h) h (parts_print false h) w
  have hiv : ∀ w, m_is_version [.d (.str (S (prB false (nrm p))))] w = some (.d (.bool true), w) := fun w => run_isv (prB_sh hN) (parts_print false hN) w
  have hD : Sh (prB false (nrm p)) := prB_sh hN
  suffices hb : ∃ s', Gd n s' ∧ ∃ e, b__law_right [some .st, some (.d (.str (S (prB false p)))), none, none, none] (some s) = some (.rt (.d (.bool true)), e, some s') by
    obtain ⟨s', g, e⟩ := hb
    exact ⟨s', fn_ex rfl e, g⟩
  generalize prB false (nrm p) = D at hdue hdr hp1 hp2 hiv hD
  generalize prB false p = t at hdue hdr hp2 ⊢
  unfold b__law_right bF1__law_right
  generalize m__law_due = mdu at hdue ⊢
  generalize m__law_dressed = mdr at hdr ⊢
  generalize m_plainest = mpl at hdr hp1 hp2 ⊢
  generalize m_order = mor at hdr ⊢
  generalize m_is_version = miv at hiv ⊢
  obtain ⟨O1, s1, a1, a2, a3, a4, a5, a6⟩ := hdr (n + 4) s (hs.mono (by omega))
  obtain ⟨O2, s2, b1, b2, b3, b4, b5, b6⟩ := hdr (n + 2) s1 (a2.mono (by omega))
  obtain ⟨O3, s3, c1, c2, c3, c4, c5, c6⟩ := hdr n s2 b2
  refine ⟨s3, c2, ?_⟩
  refine ex_nx (e1 := [some .st, some (.d (.str (S t))), some (.d (.str (S D))), none, none]) (w1 := some s) (by (simp only [mSeq, mSet, mVar, mC, mOp, seqE, optE, mTru, mAnd, mOr, mNot, mIf, mBl, mNil, mCons, mCall, mTup, argsD, dsOf, tupD, mFz, mLst, mRet, mDrop, mNx, mBk, mCt, mFail, mItems, itemsD, mRng, mgName, mgNil, mgCons, mgTup, mAsg, mFor, mNo, mPart, mSl, mB, mSetO, mAppend, mPop, mPkOp, mPkIx, mPkLen, mScrLen, mYes, mPar, mPar3, mParO, mAug, mMtS, mIs, mStar, mFmt, mJs, mAndV, mOrV, mListO, mCatO, mgUnl, truD, pk, List.getElem?_cons_zero, List.getElem?_cons_succ, List.set_cons_zero, List.set_cons_succ, List.length_cons, List.length_nil, Option.map_some, Option.map_none, List.map_cons, List.map_nil, List.cons_append, List.nil_append, List.replicate, Nat.zero_add, Nat.reduceAdd, Nat.reduceSub, Nat.reduceLeDiff, if_true, if_false, Bool.not_true, Bool.not_false, reduceCtorEq, reduceIte, decide_true, decide_false, Bool.false_eq_true, List.isEmpty_cons, List.isEmpty_nil, ixT0, ixT1, ixT2, ixL0, ixL1, ixL2, isD_nn, isD_in, isD_sn, isD_tn, isN_nn, isN_in, isN_sn, isN_tn, Int.cast_ofNat_Int, Int.reduceEq, Int.reduceLT, Int.reduceLE, Bool.and_false, Bool.and_true, Bool.true_and, Bool.false_and, Bool.or_false, Bool.or_true, Bool.true_or, Bool.false_or, hdue (some s)] <;> rfl)) ?_
  have hfor : ∀ (b : Sx) (env : Ev) (w : W), mFor (mRng rng1D (mCons (mC (.int 3)) mNil)) (mgName 3) b env w = mLoop (mgName 3) b [.int 0, .int 1, .int 2] env w := fun b env w => by
    unfold mFor
    have : mRng rng1D (mCons (mC (.int 3)) mNil) env w = some ([.int 0, .int 1, .int 2], env, w) := by
      simp only [mRng, argsD, mCons, mC, mNil, dsOf, Option.map_some, rng3]
    rw [this]
  refine ex_nx ((hfor _ _ _).trans ((loop_go (e1 := [some .st, some (.d (.str (S t))), some (.d (.str (S D))), some (.d (.int 0)), none]) rfl (right_step a1 (a5 _) (a6 _) a3 hD a4 _ _)).trans
    ((loop_go (e1 := [some .st, some (.d (.str (S t))), some (.d (.str (S D))), some (.d (.int 1)), some (.d (.str (S O1)))]) rfl (right_step b1 (b5 _) (b6 _) b3 hD b4 _ _)).trans
    ((loop_go (e1 := [some .st, some (.d (.str (S t))), some (.d (.str (S D))), some (.d (.int 2)), some (.d (.str (S O2)))]) rfl (right_step c1 (c5 _) (c6 _) c3 hD c4 _ _)).trans loop_nil)))) ?_
  have e1 := hp1 (some s3)
  have e2 := hp2 (some s3)
  have e3 := hiv (some s3)
  have e4 : isD (.bool true) (.bool true) = some (.bool true) := rfl
  exact ⟨_, by (simp only [mSeq, mSet, mVar, mC, mOp, seqE, optE, mTru, mAnd, mOr, mNot, mIf, mBl, mNil, mCons, mCall, mTup, argsD, dsOf, tupD, mFz, mLst, mRet, mDrop, mNx, mBk, mCt, mFail, mItems, itemsD, mRng, mgName, mgNil, mgCons, mgTup, mAsg, mFor, mNo, mPart, mSl, mB, mSetO, mAppend, mPop, mPkOp, mPkIx, mPkLen, mScrLen, mYes, mPar, mPar3, mParO, mAug, mMtS, mIs, mStar, mFmt, mJs, mAndV, mOrV, mListO, mCatO, mgUnl, truD, pk, List.getElem?_cons_zero, List.getElem?_cons_succ, List.set_cons_zero, List.set_cons_succ, List.length_cons, List.length_nil, Option.map_some, Option.map_none, List.map_cons, List.map_nil, List.cons_append, List.nil_append, List.replicate, Nat.zero_add, Nat.reduceAdd, Nat.reduceSub, Nat.reduceLeDiff, if_true, if_false, Bool.not_true, Bool.not_false, reduceCtorEq, reduceIte, decide_true, decide_false, Bool.false_eq_true, List.isEmpty_cons, List.isEmpty_nil, ixT0, ixT1, ixT2, ixL0, ixL1, ixL2, isD_nn, isD_in, isD_sn, isD_tn, isN_nn, isN_in, isN_sn, isN_tn, Int.cast_ofNat_Int, Int.reduceEq, Int.reduceLT, Int.reduceLE, Bool.and_false, Bool.and_true, Bool.true_and, Bool.false_and, Bool.or_false, Bool.or_true, Bool.true_or, Bool.false_or, e1, e2, e3, eqD_S, e4] <;> rfl)⟩
end Dn

set_option maxHeartbeats 4000000
namespace Dn
open PySem PySem.Spec PyProof.Rows L2 SX
open TL (numL pre joinL)

/-! ### _law_small -/
/-- a version's text -/
def GT (d : PyData) : Prop := ∃ p : Pt, p.Wf ∧ p.ns.length ≤ 8 ∧ d = .str (S (prB false p))
def GTs (xs : List PyData) : Prop := ∀ x ∈ xs, GT x
theorem GTs.snoc {xs : List PyData} {x : PyData} (h : GTs xs) (hx : GT x) : GTs (xs ++ [x]) := fun y hy => by
  rcases List.mem_append.mp hy with hy | hy
  · exact h y hy
  · rw [List.mem_singleton.mp hy]; exact hx
theorem GTs.app {xs ys : List PyData} (h : GTs xs) (hy : GTs ys) : GTs (xs ++ ys) := fun y hm => (List.mem_append.mp hm).elim (h y) (hy y)
def NsOk (ns : List Nat) : Prop := ns ≠ [] ∧ ns.length ≤ 8 ∧ ∀ n ∈ ns, Sm n
def FoOk (fo : Option (List Nat × Nat)) : Prop := ∀ x n, fo = some (x, n) → x ∈ WS ∧ Sm n
def OnOk (o : Option Nat) : Prop := ∀ n, o = some n → Sm n
def TxOk (mt : Fx) : Prop := ∀ (p : Pt) (w : W), p.Wf → mt [.d (.int (p.ep : Int)), .d (.list (intsD p.ns)), .d (foL p.fo), .d (onL p.po), .d (onL p.dv)] w = some (.d (.str (S (prB false p))), w)
theorem sm_one {mt : Fx} (hT : TxOk mt) {ns : List Nat} {fo : Option (List Nat × Nat)} {po dv : Option Nat} (h1 : NsOk ns) (h2 : FoOk fo) (h3 : OnOk po) (h4 : OnOk dv) {acc : List PyData} (ha : GTs acc) (hl : acc.length ≤ 1000) (w : W) : ∃ x, GT x ∧
    mAppend 0 (mCall mt (mCons (mC (.int 0)) (mCons (mVar 1) (mCons (mVar 2) (mCons (mVar 3) (mCons (mVar 4) mNil)))))) [some (.own acc), some (.d (.list (intsD ns))), some (.d (foL fo)), some (.d (onL po)), some (.d (onL dv))] w
      = some (.nx, [some (.own (acc ++ [x])), some (.d (.list (intsD ns))), some (.d (foL fo)), some (.d (onL po)), some (.d (onL dv))], w) := by
  have hw : (⟨0, ns, fo, po, dv⟩ : Pt).Wf := ⟨h1.1, Nat.le_trans h1.2.1 (by decide), h1.2.2, by show (0 : Nat) < 10 ^ 24; decide, h2, h3, h4⟩
  have e := hT ⟨0, ns, fo, po, dv⟩ w hw
  refine ⟨_, ⟨_, hw, h1.2.1, rfl⟩, ?_⟩
  have hs : acc.length < sizeLine := by rw [sizeLine_eq]; omega
  have e' : mCall mt (mCons (mC (.int 0)) (mCons (mVar 1) (mCons (mVar 2) (mCons (mVar 3) (mCons (mVar 4) mNil))))) [some (.own acc), some (.d (.list (intsD ns))), some (.d (foL fo)), some (.d (onL po)), some (.d (onL dv))] w = some (.d (.str (S (prB false ⟨0, ns, fo, po, dv⟩))), [some (.own acc), some (.d (.list (intsD ns))), some (.d (foL fo)), some (.d (onL po)), some (.d (onL dv))], w) :=
    call5 (a := mC (.int 0)) rfl (var_d rfl) (var_d rfl) (var_d rfl) (var_d rfl) e
  simp only [mAppend, List.getElem?_cons_zero, seqE, e', hs, if_true, List.set_cons_zero]
theorem sm_in {mt : Fx} (hT : TxOk mt) {ns : List Nat} {fo : Option (List Nat × Nat)} (h1 : NsOk ns) (h2 : FoOk fo) (w : W) : ∀ (its : List (Option Nat × Option Nat)) (acc : List PyData) (x y : Option SD), (∀ q ∈ its, OnOk q.1 ∧ OnOk q.2) → GTs acc → acc.length + its.length ≤ 1000 → ∃ acc' x' y', GTs acc' ∧ acc'.length = acc.length + its.length ∧
    mLoop (mgTup 2 (mgCons (mgName 3) (mgCons (mgName 4) mgNil))) (mAppend 0 (mCall mt (mCons (mC (.int 0)) (mCons (mVar 1) (mCons (mVar 2) (mCons (mVar 3) (mCons (mVar 4) mNil))))))) (its.map fun q => .tuple [onL q.1, onL q.2]) [some (.own acc), some (.d (.list (intsD ns))), some (.d (foL fo)), x, y] w
      = some (.nx, [some (.own acc'), some (.d (.list (intsD ns))), some (.d (foL fo)), x', y'], w)
  | [], acc, x, y, _, ha, _ => ⟨acc, x, y, ha, rfl, rfl⟩
  | q :: its, acc, x, y, hq, ha, hl => by
    rw [List.length_cons] at hl
    obtain ⟨z, hz, e⟩ := sm_one hT h1 h2 (hq q (by simp)).1 (hq q (by simp)).2 ha (by omega) w
    obtain ⟨acc', x', y', g1, g2, g3⟩ := sm_in hT h1 h2 w its (acc ++ [z]) (some (.d (onL q.1))) (some (.d (onL q.2))) (fun r hr => hq r (by simp [hr])) (ha.snoc hz) (by simp; omega)
    refine ⟨acc', x', y', g1, by rw [g2]; simp; omega, ?_⟩
    rw [List.map_cons, loop_go (e1 := [some (.own acc), some (.d (.list (intsD ns))), some (.d (foL fo)), some (.d (onL q.1)), some (.d (onL q.2))]) rfl e]
    exact g3
def fourPD : List (Option Nat × Option Nat) := [(none, none), (none, some 0), (some 0, none), (some 1, some 0)]
theorem four_ok : ∀ q ∈ fourPD, OnOk q.1 ∧ OnOk q.2 := by
  intro q hq
  unfold fourPD at hq
  simp only [List.mem_cons, List.not_mem_nil, or_false] at hq
  rcases hq with rfl | rfl | rfl | rfl
  all_goals
    refine ⟨fun n h => ?_, fun n h => ?_⟩
    all_goals
      cases h
      try decide
theorem four_it (env : Ev) (w : W) : mItems (mTup (mCons (mTup (mCons (mFz (mLst mNil)) (mCons (mFz (mLst mNil)) mNil))) (mCons (mTup (mCons (mFz (mLst mNil)) (mCons (mFz (mLst (mCons (mC (.int 0)) mNil))) mNil))) (mCons (mTup (mCons (mFz (mLst (mCons (mC (.int 0)) mNil))) (mCons (mFz (mLst mNil)) mNil))) (mCons (mTup (mCons (mFz (mLst (mCons (mC (.int 1)) mNil))) (mCons (mFz (mLst (mCons (mC (.int 0)) mNil))) mNil))) mNil))))) env w = some (fourPD.map fun q => .tuple [onL q.1, onL q.2], env, w) := by
  simp only [mSeq, mSet, mVar, mC, mOp, seqE, optE, mTru, mAnd, mOr, mNot, mIf, mBl, mNil, mCons, mCall, mTup, argsD, dsOf, tupD, mFz, mLst, mRet, mDrop, mNx, mBk, mCt, mFail, mItems, itemsD, mRng, mgName, mgNil, mgCons, mgTup, mAsg, mFor, mNo, mPart, mSl, mB, mSetO, mAppend, mPop, mPkOp, mPkIx, mPkLen, mScrLen, mYes, mPar, mPar3, mParO, mAug, mMtS, mIs, mStar, mFmt, mJs, mAndV, mOrV, mListO, mCatO, mgUnl, truD, pk, List.getElem?_cons_zero, List.getElem?_cons_succ, List.set_cons_zero, List.set_cons_succ, List.length_cons, List.length_nil, Option.map_some, Option.map_none, List.map_cons, List.map_nil, List.cons_append, List.nil_append, List.replicate, Nat.zero_add, Nat.reduceAdd, Nat.reduceSub, Nat.reduceLeDiff, if_true, if_false, Bool.not_true, Bool.not_false, reduceCtorEq, reduceIte, decide_true, decide_false, Bool.false_eq_true, List.isEmpty_cons, List.isEmpty_nil, ixT0, ixT1, ixT2, ixL0, ixL1, ixL2, isD_nn, isD_in, isD_sn, isD_tn, isN_nn, isN_in, isN_sn, isN_tn, Int.cast_ofNat_Int, Int.reduceEq, Int.reduceLT, Int.reduceLE, Bool.and_false, Bool.and_true, Bool.true_and, Bool.false_and, Bool.or_false, Bool.or_true, Bool.true_or, Bool.false_or]
  rfl
def fourF : List (Option (List Nat × Nat)) := [none, some ([97], 0), some ([97], 1), some ([114, 99], 0)]
theorem fourF_ok : ∀ q ∈ fourF, FoOk q := by
  intro q hq
  unfold fourF at hq
  simp only [List.mem_cons, List.not_mem_nil, or_false] at hq
  rcases hq with rfl | rfl | rfl | rfl
  all_goals
    intro x n h
    cases h
    try exact ⟨by decide, by decide⟩
theorem fourF_it (env : Ev) (w : W) : mItems (mTup (mCons (mFz (mLst mNil)) (mCons (mFz (mLst (mCons (mC (.str "a")) (mCons (mC (.int 0)) mNil)))) (mCons (mFz (mLst (mCons (mC (.str "a")) (mCons (mC (.int 1)) mNil)))) (mCons (mFz (mLst (mCons (mC (.str "rc")) (mCons (mC (.int 0)) mNil)))) mNil))))) env w = some (fourF.map foL, env, w) := by
  simp only [mSeq, mSet, mVar, mC, mOp, seqE, optE, mTru, mAnd, mOr, mNot, mIf, mBl, mNil, mCons, mCall, mTup, argsD, dsOf, tupD, mFz, mLst, mRet, mDrop, mNx, mBk, mCt, mFail, mItems, itemsD, mRng, mgName, mgNil, mgCons, mgTup, mAsg, mFor, mNo, mPart, mSl, mB, mSetO, mAppend, mPop, mPkOp, mPkIx, mPkLen, mScrLen, mYes, mPar, mPar3, mParO, mAug, mMtS, mIs, mStar, mFmt, mJs, mAndV, mOrV, mListO, mCatO, mgUnl, truD, pk, List.getElem?_cons_zero, List.getElem?_cons_succ, List.set_cons_zero, List.set_cons_succ, List.length_cons, List.length_nil, Option.map_some, Option.map_none, List.map_cons, List.map_nil, List.cons_append, List.nil_append, List.replicate, Nat.zero_add, Nat.reduceAdd, Nat.reduceSub, Nat.reduceLeDiff, if_true, if_false, Bool.not_true, Bool.not_false, reduceCtorEq, reduceIte, decide_true, decide_false, Bool.false_eq_true, List.isEmpty_cons, List.isEmpty_nil, ixT0, ixT1, ixT2, ixL0, ixL1, ixL2, isD_nn, isD_in, isD_sn, isD_tn, isN_nn, isN_in, isN_sn, isN_tn, Int.cast_ofNat_Int, Int.reduceEq, Int.reduceLT, Int.reduceLE, Bool.and_false, Bool.and_true, Bool.true_and, Bool.false_and, Bool.or_false, Bool.or_true, Bool.true_or, Bool.false_or]
  rfl
def sevenN : List (List Nat) := [[0], [0, 1], [1], [1, 0, 1], [1, 1], [1, 2], [2]]
theorem seven_ok : ∀ q ∈ sevenN, NsOk q := by
  intro q hq
  unfold sevenN at hq
  simp only [List.mem_cons, List.not_mem_nil, or_false] at hq
  rcases hq with rfl | rfl | rfl | rfl | rfl | rfl | rfl
  all_goals
    refine ⟨by simp, by simp, fun n h => ?_⟩
    simp only [List.mem_cons, List.not_mem_nil, or_false] at h
    show n < 10 ^ 24
    omega
theorem seven_it (env : Ev) (w : W) : mItems (mTup (mCons (mFz (mLst (mCons (mC (.int 0)) mNil))) (mCons (mFz (mLst (mCons (mC (.int 0)) (mCons (mC (.int 1)) mNil)))) (mCons (mFz (mLst (mCons (mC (.int 1)) mNil))) (mCons (mFz (mLst (mCons (mC (.int 1)) (mCons (mC (.int 0)) (mCons (mC (.int 1)) mNil))))) (mCons (mFz (mLst (mCons (mC (.int 1)) (mCons (mC (.int 1)) mNil)))) (mCons (mFz (mLst (mCons (mC (.int 1)) (mCons (mC (.int 2)) mNil)))) (mCons (mFz (mLst (mCons (mC (.int 2)) mNil))) mNil)))))))) env w = some (sevenN.map fun q => .list (intsD q), env, w) := by
  simp only [mSeq, mSet, mVar, mC, mOp, seqE, optE, mTru, mAnd, mOr, mNot, mIf, mBl, mNil, mCons, mCall, mTup, argsD, dsOf, tupD, mFz, mLst, mRet, mDrop, mNx, mBk, mCt, mFail, mItems, itemsD, mRng, mgName, mgNil, mgCons, mgTup, mAsg, mFor, mNo, mPart, mSl, mB, mSetO, mAppend, mPop, mPkOp, mPkIx, mPkLen, mScrLen, mYes, mPar, mPar3, mParO, mAug, mMtS, mIs, mStar, mFmt, mJs, mAndV, mOrV, mListO, mCatO, mgUnl, truD, pk, List.getElem?_cons_zero, List.getElem?_cons_succ, List.set_cons_zero, List.set_cons_succ, List.length_cons, List.length_nil, Option.map_some, Option.map_none, List.map_cons, List.map_nil, List.cons_append, List.nil_append, List.replicate, Nat.zero_add, Nat.reduceAdd, Nat.reduceSub, Nat.reduceLeDiff, if_true, if_false, Bool.not_true, Bool.not_false, reduceCtorEq, reduceIte, decide_true, decide_false, Bool.false_eq_true, List.isEmpty_cons, List.isEmpty_nil, ixT0, ixT1, ixT2, ixL0, ixL1, ixL2, isD_nn, isD_in, isD_sn, isD_tn, isN_nn, isN_in, isN_sn, isN_tn, Int.cast_ofNat_Int, Int.reduceEq, Int.reduceLT, Int.reduceLE, Bool.and_false, Bool.and_true, Bool.true_and, Bool.false_and, Bool.or_false, Bool.or_true, Bool.true_or, Bool.false_or]
  rfl
theorem for_ok {m : Lx} {g : Gx} {b : Sx} {env e1 : Ev} {w w1 : W} {ds : List PyData} (h : m env w = some (ds, e1, w1)) : mFor m g b env w = mLoop g b ds e1 w1 := by
  simp only [mFor, h]
/-- the loop over the fores -/
theorem sm_mid {b2 : Sx} (w : W) {ns : List Nat} (h1 : NsOk ns)
    (hb : ∀ (fo : Option (List Nat × Nat)) (acc : List PyData) (x y : Option SD), FoOk fo → GTs acc → acc.length ≤ 900 → ∃ acc' x' y', GTs acc' ∧ acc'.length = acc.length + 4 ∧ b2 [some (.own acc), some (.d (.list (intsD ns))), some (.d (foL fo)), x, y] w = some (.nx, [some (.own acc'), some (.d (.list (intsD ns))), some (.d (foL fo)), x', y'], w)) :
    ∀ (its : List (Option (List Nat × Nat))) (acc : List PyData) (f x y : Option SD), (∀ q ∈ its, FoOk q) → GTs acc → acc.length + 4 * its.length ≤ 900 → ∃ acc' f' x' y', GTs acc' ∧ acc'.length = acc.length + 4 * its.length ∧
      mLoop (mgName 2) b2 (its.map foL) [some (.own acc), some (.d (.list (intsD ns))), f, x, y] w = some (.nx, [some (.own acc'), some (.d (.list (intsD ns))), f', x', y'], w)
  | [], acc, f, x, y, _, ha, _ => ⟨acc, f, x, y, ha, rfl, rfl⟩
  | q :: its, acc, f, x, y, hq, ha, hl => by
    rw [List.length_cons] at hl
    obtain ⟨acc1, x1, y1, g1, g2, g3⟩ := hb q acc x y (hq q (by simp)) ha (by omega)
    obtain ⟨acc', f', x', y', k1, k2, k3⟩ := sm_mid w h1 hb its acc1 (some (.d (foL q))) x1 y1 (fun r hr => hq r (by simp [hr])) g1 (by omega)
    refine ⟨acc', f', x', y', k1, by rw [k2, g2, List.length_cons]; omega, ?_⟩
    rw [List.map_cons, loop_go (e1 := [some (.own acc), some (.d (.list (intsD ns))), some (.d (foL q)), x, y]) rfl g3]
    exact k3
theorem sm_out {b3 : Sx} (w : W)
    (hb : ∀ (ns : List Nat) (acc : List PyData) (f x y : Option SD), NsOk ns → GTs acc → acc.length ≤ 800 → ∃ acc' f' x' y', GTs acc' ∧ acc'.length = acc.length + 16 ∧ b3 [some (.own acc), some (.d (.list (intsD ns))), f, x, y] w = some (.nx, [some (.own acc'), some (.d (.list (intsD ns))), f', x', y'], w)) :
    ∀ (its : List (List Nat)) (acc : List PyData) (n f x y : Option SD), (∀ q ∈ its, NsOk q) → GTs acc → acc.length + 16 * its.length ≤ 800 → ∃ acc' n' f' x' y', GTs acc' ∧ acc'.length = acc.length + 16 * its.length ∧
      mLoop (mgName 1) b3 (its.map fun q => .list (intsD q)) [some (.own acc), n, f, x, y] w = some (.nx, [some (.own acc'), n', f', x', y'], w)
  | [], acc, n, f, x, y, _, ha, _ => ⟨acc, n, f, x, y, ha, rfl, rfl⟩
  | q :: its, acc, n, f, x, y, hq, ha, hl => by
    rw [List.length_cons] at hl
    obtain ⟨acc1, f1, x1, y1, g1, g2, g3⟩ := hb q acc f x y (hq q (by simp)) ha (by omega)
    obtain ⟨acc', n', f', x', y', k1, k2, k3⟩ := sm_out w hb its acc1 (some (.d (.list (intsD q)))) f1 x1 y1 (fun r hr => hq r (by simp [hr])) g1 (by omega)
    refine ⟨acc', n', f', x', y', k1, by rw [k2, g2, List.length_cons]; omega, ?_⟩
    rw [List.map_cons, loop_go (e1 := [some (.own acc), some (.d (.list (intsD q))), f, x, y]) rfl g3]
    exact k3

/-! ### sorted by _law_key -/
theorem alike_ints : ∀ a b : List Nat, PySem.W.alikeAll (intsD a) (intsD b) = true
  | [], b => by
    cases b <;> simp [intsD, PySem.W.alikeAll]
  | _ :: _, [] => by simp [intsD, PySem.W.alikeAll]
  | x :: a, y :: b => by
    have ih := alike_ints a b
    unfold intsD at ih ⊢
    simp [PySem.W.alikeAll, PySem.W.alike]
    simpa using ih
theorem alike_lk (p q : Pt) : PySem.W.alike (lkD p) (lkD q) = true := by
  have h := alike_ints (bas p.ns) (bas q.ns)
  have hst : PySem.W.alike (stageD p) (stageD q) = true := by
    unfold stageD
    cases p.fo with
    | none => cases q.fo with
      | none => cases p.po <;> cases p.dv <;> cases q.po <;> cases q.dv <;> simp [PySem.W.alike, PySem.W.alikeAll]
      | some z => obtain ⟨x, n⟩ := z; cases p.po <;> cases p.dv <;> simp [PySem.W.alike, PySem.W.alikeAll]
    | some z =>
      obtain ⟨x, n⟩ := z
      cases q.fo with
      | none => cases q.po <;> cases q.dv <;> simp [PySem.W.alike, PySem.W.alikeAll]
      | some z2 => obtain ⟨y, m⟩ := z2; simp [PySem.W.alike, PySem.W.alikeAll]
  unfold lkD
  simp only [PySem.W.alike, PySem.W.alikeAll, h, hst, Bool.and_true, Bool.true_and]
  cases p.po <;> cases q.po <;> cases p.dv <;> cases q.dv <;> simp [PySem.W.alike, PySem.W.alikeAll]
def IsLk (d : PyData) : Prop := ∃ p, d = lkD p
theorem keys_lk {mk : Fx} (hk : ∀ (p : Pt), p.Wf → mk [.d (.str (S (prB false p)))] none = some (.d (lkD p), none)) : ∀ {xs : List PyData}, GTs xs → ∃ ks, keysD mk xs = some ks ∧ ∀ k ∈ ks, IsLk k
  | [], _ => ⟨[], rfl, fun k h => by simp at h⟩
  | x :: xs, h => by
    obtain ⟨p, hp, _, rfl⟩ := h x (by simp)
    obtain ⟨ks, e, hks⟩ := keys_lk hk (xs := xs) fun y hy => h y (by simp [hy])
    refine ⟨lkD p :: ks, by simp only [keysD, hk p hp, e, Option.map_some], fun k hm => ?_⟩
    rcases List.mem_cons.mp hm with rfl | hm
    · exact ⟨p, rfl⟩
    · exact hks k hm
theorem keysOk_lk {ks : List PyData} (h : ∀ k ∈ ks, IsLk k) : keysOk ks = true := by
  unfold keysOk
  rw [Bool.and_eq_true, Bool.and_eq_true, Bool.or_eq_true, List.all_eq_true]
  refine ⟨⟨fun k hk => List.all_eq_true.mpr fun k' hk' => ?_, .inl (List.all_eq_true.mpr fun k hk => ?_)⟩, List.all_eq_true.mpr fun k hk => ?_⟩
  · obtain ⟨p, rfl⟩ := h k hk
    obtain ⟨q, rfl⟩ := h k' hk'
    exact alike_lk p q
  · obtain ⟨p, rfl⟩ := h k hk
    rfl
  · obtain ⟨p, rfl⟩ := h k hk
    exact dOk_lk p
theorem sort_lk {mk : Fx} (hk : ∀ (p : Pt), p.Wf → mk [.d (.str (S (prB false p)))] none = some (.d (lkD p), none)) {xs : List PyData} (hx : GTs xs) (hl : xs.length ≤ 1000) : ∃ ys, sortKD mk xs = some ys ∧ GTs ys ∧ ys.length = xs.length := by
  obtain ⟨ks, e, hks⟩ := keys_lk hk hx
  have hkl := keysD_len e
  refine ⟨sortBy false ks xs, ?_, fun y hy => ?_, ?_⟩
  · simp only [sortKD, e, keysOk_lk hks, decide_eq_true hl, Bool.and_self, if_true]
  · unfold sortBy at hy
    obtain ⟨q, hq, rfl⟩ := List.mem_map.mp hy
    have := (List.mergeSort_perm _ _).mem_iff.mp hq
    exact hx q.2 (List.of_mem_zip this).2
  · unfold sortBy
    rw [List.length_map, List.length_mergeSort, List.length_zip]
    omega
theorem gt3 : GTs [.str "1!0", .str "1!0.dev0", .str "1!1a0"] := by
  intro x hx
  simp only [List.mem_cons, List.not_mem_nil, or_false] at hx
  rcases hx with rfl | rfl | rfl
  · refine ⟨⟨1, [0], none, none, none⟩, ⟨by simp, by simp, by simp, by decide, by simp, by simp, by simp⟩, by simp, ?_⟩
    rfl
  · refine ⟨⟨1, [0], none, none, some 0⟩, ⟨by simp, by simp, by simp, by decide, by simp, by simp, by simp⟩, by simp, ?_⟩
    rfl
  · refine ⟨⟨1, [1], some ([97], 0), none, none⟩, ⟨by simp, by simp, by simp, by decide, ?_, by simp, by simp⟩, by simp, ?_⟩
    · intro x n h
      cases h
      exact ⟨by decide, by decide⟩
    · rfl
theorem run_small (w : W) : ∃ xs, m__law_small [] w = some (.d (.list xs), w) ∧ GTs xs ∧ xs.length = 115 := by
  have hT : TxOk m__law_text := fun p w h => run_ltext h w
  have hk : ∀ (p : Pt), p.Wf → m__law_key [.d (.str (S (prB false p)))] none = some (.d (lkD p), none) := fun p h => run_lkey false h none
  suffices hb : ∃ xs, GTs xs ∧ xs.length = 115 ∧ ∃ e, b__law_small [none, none, none, none, none] w = some (.rt (.d (.list xs)), e, w) by
    obtain ⟨xs, h1, h2, h3⟩ := hb
    exact ⟨xs, fn_ex rfl h3, h1, h2⟩
  unfold b__law_small bF3__law_small bF2__law_small bF1__law_small
  generalize m__law_text = mt at hT ⊢
  generalize m__law_key = mk at hk ⊢
  obtain ⟨acc, n', f', x', y', g1, g2, g3⟩ := sm_out (b3 := mFor (mItems (mTup (mCons (mFz (mLst mNil)) (mCons (mFz (mLst (mCons (mC (.str "a")) (mCons (mC (.int 0)) mNil)))) (mCons (mFz (mLst (mCons (mC (.str "a")) (mCons (mC (.int 1)) mNil)))) (mCons (mFz (mLst (mCons (mC (.str "rc")) (mCons (mC (.int 0)) mNil)))) mNil)))))) (mgName 2) (mFor (mItems (mTup (mCons (mTup (mCons (mFz (mLst mNil)) (mCons (mFz (mLst mNil)) mNil))) (mCons (mTup (mCons (mFz (mLst mNil)) (mCons (mFz (mLst (mCons (mC (.int 0)) mNil))) mNil))) (mCons (mTup (mCons (mFz (mLst (mCons (mC (.int 0)) mNil))) (mCons (mFz (mLst mNil)) mNil))) (mCons (mTup (mCons (mFz (mLst (mCons (mC (.int 1)) mNil))) (mCons (mFz (mLst (mCons (mC (.int 0)) mNil))) mNil))) mNil)))))) (mgTup 2 (mgCons (mgName 3) (mgCons (mgName 4) mgNil))) (mAppend 0 (mCall mt (mCons (mC (.int 0)) (mCons (mVar 1) (mCons (mVar 2) (mCons (mVar 3) (mCons (mVar 4) mNil))))))))) w (fun ns acc f x y h1 ha hl => by
    rw [for_ok (fourF_it _ _)]
    exact sm_mid w h1 (fun fo acc x y h2 ha hl => by
      rw [for_ok (four_it _ _)]
      exact sm_in hT h1 h2 w fourPD acc x y four_ok ha (by show acc.length + 4 ≤ 1000; omega)) fourF acc f x y fourF_ok ha (by show acc.length + 4 * 4 ≤ 900; omega)) sevenN [] none none none none seven_ok (fun x h => by simp at h) (by decide)
  have g2' : acc.length = 112 := g2
  obtain ⟨ys, s1, s2, s3⟩ := sort_lk hk (xs := acc ++ [.str "1!0", .str "1!0.dev0", .str "1!1a0"]) (g1.app gt3) (by simp; omega)
  refine ⟨ys, s2, by rw [s3, List.length_append, g2']; rfl, ?_⟩
  refine ex_nx (e1 := [some (.own []), none, none, none, none]) (w1 := w) (by (simp only [mSeq, mSet, mVar, mC, mOp, seqE, optE, mTru, mAnd, mOr, mNot, mIf, mBl, mNil, mCons, mCall, mTup, argsD, dsOf, tupD, mFz, mLst, mRet, mDrop, mNx, mBk, mCt, mFail, mItems, itemsD, mRng, mgName, mgNil, mgCons, mgTup, mAsg, mFor, mNo, mPart, mSl, mB, mSetO, mAppend, mPop, mPkOp, mPkIx, mPkLen, mScrLen, mYes, mPar, mPar3, mParO, mAug, mMtS, mIs, mStar, mFmt, mJs, mAndV, mOrV, mListO, mCatO, mgUnl, truD, pk, List.getElem?_cons_zero, List.getElem?_cons_succ, List.set_cons_zero, List.set_cons_succ, List.length_cons, List.length_nil, Option.map_some, Option.map_none, List.map_cons, List.map_nil, List.cons_append, List.nil_append, List.replicate, Nat.zero_add, Nat.reduceAdd, Nat.reduceSub, Nat.reduceLeDiff, if_true, if_false, Bool.not_true, Bool.not_false, reduceCtorEq, reduceIte, decide_true, decide_false, Bool.false_eq_true, List.isEmpty_cons, List.isEmpty_nil, ixT0, ixT1, ixT2, ixL0, ixL1, ixL2, isD_nn, isD_in, isD_sn, isD_tn, isN_nn, isN_in, isN_sn, isN_tn, Int.cast_ofNat_Int, Int.reduceEq, Int.reduceLT, Int.reduceLE, Bool.and_false, Bool.and_true, Bool.true_and, Bool.false_and, Bool.or_false, Bool.or_true, Bool.true_or, Bool.false_or] <;> rfl)) ?_
  refine ex_nx ((for_ok (seven_it _ _)).trans g3) ?_
  have hadd : addD (.list acc) (.list [.str "1!0", .str "1!0.dev0", .str "1!1a0"]) = some (.list (acc ++ [.str "1!0", .str "1!0.dev0", .str "1!1a0"])) := by
    unfold addD addL
    dsimp only
    rw [if_pos (by rw [g2', sizeLine_eq]; decide)]
  have hop : mOp addD (mVar 0) (mFz (mLst (mCons (mC (.str "1!0")) (mCons (mC (.str "1!0.dev0")) (mCons (mC (.str "1!1a0")) mNil))))) [some (.own acc), n', f', x', y'] w = some (.d (.list (acc ++ [.str "1!0", .str "1!0.dev0", .str "1!1a0"])), [some (.d (.list acc)), n', f', x', y'], w) :=
    op_ok (x := .list acc) (e1 := [some (.d (.list acc)), n', f', x', y']) (w1 := w) rfl (lst_ok (ds := [.str "1!0", .str "1!0.dev0", .str "1!1a0"]) (cons_ok rfl (cons_ok rfl (cons_ok rfl nil_ok))) rfl (by simp)) hadd
  refine ⟨_, ret_ok (e1 := [some (.d (.list acc)), n', f', x', y']) (w1 := w) ?_⟩
  generalize acc ++ [PyData.str "1!0", .str "1!0.dev0", .str "1!1a0"] = A at s1 hop
  simp only [mFz, mSortK, argsD, mCons, mNil, hop, dsOf, Option.map_some, s1]
end Dn

set_option maxHeartbeats 4000000
namespace Dn
open PySem PySem.Spec PyProof.Rows L2 SX
open TL (numL pre joinL)

/-! ### the law -/
theorem run_of {n : Nat} {s : DS} (hs : Gd (n + 1) s) {xs : List PyData} (hx : GTs xs) (hl : xs.length = 115) : ∃ x s', GT x ∧ m__law_of [.st, .d (.list xs)] (some s) = some (.d x, some s') ∧ Gd n s' := by
  have hD := drawOk
  suffices hb : ∃ x s', GT x ∧ Gd n s' ∧ ∃ e, b__law_of [some .st, some (.d (.list xs))] (some s) = some (.rt (.d x), e, some s') by
    obtain ⟨x, s', h1, h2, h3⟩ := hb
    exact ⟨x, s', h1, fn_ex rfl h3, h2⟩
  unfold b__law_of
  generalize m__law_draw = md at hD ⊢
  obtain ⟨k, s1, d1, hk, g1⟩ := hD n s hs 115 (by decide) (by decide)
  obtain ⟨x, hxk⟩ : ∃ x, xs[k]? = some x := ⟨_, List.getElem?_eq_getElem (by omega)⟩
  have hix : ixD (.list xs) (.int (k : Int)) = some x := by
    show atI xs (k : Int) = some x
    rw [atI_nat, hxk]
  have hlen : lenD [.list xs] = some (.int ((115 : Nat) : Int)) := by
    unfold lenD
    dsimp only
    rw [hl]
  refine ⟨x, s1, hx x (List.mem_of_getElem? hxk), g1, _, ret_ok (op_ok (var_d rfl) (call2 (x := .st) (y := .d (.int ((115 : Nat) : Int))) (e1 := [some .st, some (.d (.list xs))]) (w1 := some s) (e2 := [some .st, some (.d (.list xs))]) (w2 := some s) rfl ?_ d1) hix)⟩
  simp only [mB, argsD, mCons, mNil, mVar, List.getElem?_cons_zero, List.getElem?_cons_succ, dsOf, Option.map_some, hlen, optE]
/-- a comprehension that keeps nothing -/
theorem lc_none {g : Gx} {tt : Tx} {me : Ex} {vs : List Nat} {env : Ev} {K : Nat} {P : PyData → Prop}
    (hstep : ∀ (n : Nat) (s : DS) (d : PyData), P d → Gd (n + K) s → ∃ e1 e3 s', g d env = some e1 ∧ tt e1 (some s) = some (false, e3, some s') ∧ wipeE e3 vs = env ∧ Gd n s') :
    ∀ (ds acc : List PyData) (n : Nat) (s : DS), (∀ d ∈ ds, P d) → Gd (n + K * ds.length) s → ∃ s', lcLoop g tt me vs ds acc env (some s) = some (acc, env, some s') ∧ Gd n s'
  | [], acc, n, s, _, h => ⟨s, lc_nil, by simpa using h⟩
  | d :: ds, acc, n, s, hP, h => by
    obtain ⟨e1, e3, s1, h1, h2, h3, h4⟩ := hstep (n + K * ds.length) s d (hP d (by simp)) (h.mono (by rw [List.length_cons, Nat.mul_succ]; omega))
    obtain ⟨s2, q1, q2⟩ := lc_none hstep ds acc n s1 (fun x hx => hP x (by simp [hx])) h4
    exact ⟨s2, by rw [lc_skip h1 h2, h3, q1], q2⟩
/-- a loop that changes one slot alone -/
theorem loop_same {i : Nat} {b : Sx} {P : PyData → Prop} {E : Option SD → Ev} {w : W} (hE : ∀ x d, (E x).set i (some (.d d)) = E (some (.d d))) (hb : ∀ d, P d → b (E (some (.d d))) w = some (.nx, E (some (.d d)), w)) : ∀ (ds : List PyData) (x : Option SD), (∀ d ∈ ds, P d) → ∃ x', mLoop (mgName i) b ds (E x) w = some (.nx, E x', w)
  | [], x, _ => ⟨x, rfl⟩
  | d :: ds, x, h => by
    obtain ⟨x', e⟩ := loop_same hE hb ds (some (.d d)) fun y hy => h y (by simp [hy])
    exact ⟨x', by rw [loop_go (e1 := E (some (.d d))) (by rw [← hE x d]; rfl) (hb d (h d (by simp))), e]⟩
theorem two_eq {x y : PyData} (hx : GT x) (hy : GT y) (w : W) : ∃ p1 p2 k1 k2 r, m_plainest [.d x] w = some (.d p1, w) ∧ m_plainest [.d y] w = some (.d p2, w) ∧ m__law_key [.d x] w = some (.d k1, w) ∧ m__law_key [.d y] w = some (.d k2, w) ∧ eqD p1 p2 = some (.bool r) ∧ eqD k1 k2 = some (.bool r) := by
  obtain ⟨p, hp, _, rfl⟩ := hx
  obtain ⟨q, hq, _, rfl⟩ := hy
  have e : decide (prB false (nrm p) = prB false (nrm q)) = PyData.eqv (lkD p) (lkD q) := by
    classical
    rw [eqv_dec (nb_lk p) (nb_lk q), decide_eq_decide, lk_inj]
    exact ⟨fun h => print_inj (nrm_wf hp) (nrm_wf hq) h, fun h => by rw [h]⟩
  refine ⟨_, _, _, _, decide (prB false (nrm p) = prB false (nrm q)), run_plain (prB_sh hp) hp (parts_print false hp) w, run_plain (prB_sh hq) hq (parts_print false hq) w, run_lkey false hp w, run_lkey false hq w, eqD_S _ _, ?_⟩
  unfold eqD
  rw [dOk_lk, Bool.true_or, if_pos rfl, e]
theorem neD_b (r : Bool) : neD (.bool r) (.bool r) = some (.bool false) := by cases r <;> rfl
section
variable {mof mver mri mpl mlk : Fx}
/-- the functions of the loop -/
structure LawFs (mof mver mri mpl mlk : Fx) : Prop where
  hof : ∀ (n : Nat) (s : DS) (xs : List PyData), GTs xs → xs.length = 115 → Gd (n + 1) s → ∃ x s', GT x ∧ mof [.st, .d (.list xs)] (some s) = some (.d x, some s') ∧ Gd n s'
  hver : ∀ (n : Nat) (s : DS), Gd (n + 30) s → ∃ x s', GT x ∧ mver [.st] (some s) = some (.d x, some s') ∧ Gd n s'
  hri : ∀ (n : Nat) (s : DS) (x : PyData), GT x → Gd (n + 6) s → ∃ s', mri [.st, .d x] (some s) = some (.d (.bool true), some s') ∧ Gd n s'
  heq : ∀ (x y : PyData) (w : W), GT x → GT y → ∃ p1 p2 k1 k2 r, mpl [.d x] w = some (.d p1, w) ∧ mpl [.d y] w = some (.d p2, w) ∧ mlk [.d x] w = some (.d k1, w) ∧ mlk [.d y] w = some (.d k2, w) ∧ eqD p1 p2 = some (.bool r) ∧ eqD k1 k2 = some (.bool r)
theorem rng8 : rng1D [.int 8] = some [.int 0, .int 1, .int 2, .int 3, .int 4, .int 5, .int 6, .int 7] := rfl
theorem rng8_it (env : Ev) (w : W) : mRng rng1D (mCons (mC (.int 8)) mNil) env w = some ([.int 0, .int 1, .int 2, .int 3, .int 4, .int 5, .int 6, .int 7], env, w) := by
  simp only [mRng, argsD, mCons, mC, mNil, dsOf, Option.map_some, rng8]
theorem law_turn (F : LawFs mof mver mri mpl mlk) {c : SD} {xs : List PyData} (hx : GTs xs) (hl : xs.length = 115) (t a b d e : Option SD) {n : Nat} {s : DS} (hs : Gd (n + 400) s) : ∃ a' b' d' s', Gd n s' ∧
    mSeq (mSet 4 (mOp addD (mFz (mLc (mRng rng1D (mCons (mC (.int 8)) mNil)) (mgName 9) mYes (mCall mof (mCons (mVar 1) (mCons (mVar 2) mNil))) [9])) (mFz (mLc (mRng rng1D (mCons (mC (.int 8)) mNil)) (mgName 9) mYes (mCall mver (mCons (mVar 1) mNil)) [9]))))
     (mSeq (mIf (mTru (mOp neD (mFz (mLc (mItems (mVar 4)) (mgName 8) (mNot (mTru (mCall mri (mCons (mVar 1) (mCons (mVar 8) mNil))))) (mVar 8) [8])) (mFz (mLst mNil)))) (mRet (mC (.bool false))) mNx)
     (mFor (mItems (mVar 4)) (mgName 5) (mFor (mItems (mVar 4)) (mgName 6) (mIf (mTru (mOp neD (mOp eqD (mCall mpl (mCons (mVar 5) mNil)) (mCall mpl (mCons (mVar 6) mNil))) (mOp eqD (mCall mlk (mCons (mVar 5) mNil)) (mCall mlk (mCons (mVar 6) mNil))))) (mRet (mC (.bool false))) mNx))))
      [some c, some .st, some (.d (.list xs)), t, a, b, d, e, none, none] (some s) = some (.nx, [some c, some .st, some (.d (.list xs)), t, a', b', d', e, none, none], some s') := by
  obtain ⟨ys, s1, l1, l2, l3, g1⟩ := lc_any (g := mgName 9) (me := mCall mof (mCons (mVar 1) (mCons (mVar 2) mNil))) (vs := [9]) (env := [some c, some .st, some (.d (.list xs)), t, a, b, d, e, none, none]) (K := 1) (P := GT) (fun n s q hs => by
    obtain ⟨x, s', h1, h2, h3⟩ := F.hof n s xs hx hl hs
    exact ⟨[some c, some .st, some (.d (.list xs)), t, a, b, d, e, none, some (.d q)], x, _, s', rfl, call2 (x := .st) (y := .d (.list xs)) rfl rfl h2, rfl, h1, h3⟩) [.int 0, .int 1, .int 2, .int 3, .int 4, .int 5, .int 6, .int 7] [] (n + 392) s (hs.mono (by simp))
  obtain ⟨zs, s2, m1, m2, m3, g2⟩ := lc_any (g := mgName 9) (me := mCall mver (mCons (mVar 1) mNil)) (vs := [9]) (env := [some c, some .st, some (.d (.list xs)), t, a, b, d, e, none, none]) (K := 30) (P := GT) (fun n s q hs => by
    obtain ⟨x, s', h1, h2, h3⟩ := F.hver n s hs
    exact ⟨[some c, some .st, some (.d (.list xs)), t, a, b, d, e, none, some (.d q)], x, _, s', rfl, call1 (x := .st) rfl h2, rfl, h1, h3⟩) [.int 0, .int 1, .int 2, .int 3, .int 4, .int 5, .int 6, .int 7] [] (n + 152) s1 (g1.mono (by simp))
  have hG : GTs (ys ++ zs) := GTs.app l3 m3
  have hlen : (ys ++ zs).length = 16 := by rw [List.length_append, l2, m2]; rfl
  obtain ⟨s3, k1, g3⟩ := lc_none (g := mgName 8) (tt := mNot (mTru (mCall mri (mCons (mVar 1) (mCons (mVar 8) mNil))))) (me := mVar 8) (vs := [8]) (env := [some c, some .st, some (.d (.list xs)), t, some (.d (.list (ys ++ zs))), b, d, e, none, none]) (K := 6) (P := GT) (fun n s q hq hs => by
    obtain ⟨s', h1, h2⟩ := F.hri n s q hq hs
    have h3 : mTru (mCall mri (mCons (mVar 1) (mCons (mVar 8) mNil))) [some c, some .st, some (.d (.list xs)), t, some (.d (.list (ys ++ zs))), b, d, e, some (.d q), none] (some s) = some (true, [some c, some .st, some (.d (.list xs)), t, some (.d (.list (ys ++ zs))), b, d, e, some (.d q), none], some s') := tru_ok (call2 (x := .st) (y := .d q) rfl rfl h1)
    exact ⟨[some c, some .st, some (.d (.list xs)), t, some (.d (.list (ys ++ zs))), b, d, e, some (.d q), none], [some c, some .st, some (.d (.list xs)), t, some (.d (.list (ys ++ zs))), b, d, e, some (.d q), none], s', rfl, by simp only [mNot, h3, Bool.not_true], rfl, h2⟩) (ys ++ zs) [] n s2 hG (g2.mono (by rw [hlen]; omega))
  -- each pair
  have hpair : ∀ (u v : PyData), GT u → GT v → mIf (mTru (mOp neD (mOp eqD (mCall mpl (mCons (mVar 5) mNil)) (mCall mpl (mCons (mVar 6) mNil))) (mOp eqD (mCall mlk (mCons (mVar 5) mNil)) (mCall mlk (mCons (mVar 6) mNil))))) (mRet (mC (.bool false))) mNx
      [some c, some .st, some (.d (.list xs)), t, some (.d (.list (ys ++ zs))), some (.d u), some (.d v), e, none, none] (some s3) = some (.nx, [some c, some .st, some (.d (.list xs)), t, some (.d (.list (ys ++ zs))), some (.d u), some (.d v), e, none, none], some s3) := fun u v hu hv => by
    obtain ⟨p1, p2, q1, q2, r, h1, h2, h3, h4, h5, h6⟩ := F.heq u v (some s3) hu hv
    rw [if_f (tru_ok (op_ok (op_ok (call1 (x := .d u) (e1 := [some c, some .st, some (.d (.list xs)), t, some (.d (.list (ys ++ zs))), some (.d u), some (.d v), e, none, none]) (w1 := some s3) rfl h1) (call1 (x := .d v) (e1 := [some c, some .st, some (.d (.list xs)), t, some (.d (.list (ys ++ zs))), some (.d u), some (.d v), e, none, none]) (w1 := some s3) rfl h2) h5) (op_ok (call1 (x := .d u) (e1 := [some c, some .st, some (.d (.list xs)), t, some (.d (.list (ys ++ zs))), some (.d u), some (.d v), e, none, none]) (w1 := some s3) rfl h3) (call1 (x := .d v) (e1 := [some c, some .st, some (.d (.list xs)), t, some (.d (.list (ys ++ zs))), some (.d u), some (.d v), e, none, none]) (w1 := some s3) rfl h4) h6) (neD_b r)))]
    rfl
  have hit : ∀ (x y : Option SD), mItems (mVar 4) [some c, some .st, some (.d (.list xs)), t, some (.d (.list (ys ++ zs))), x, y, e, none, none] (some s3) = some (ys ++ zs, [some c, some .st, some (.d (.list xs)), t, some (.d (.list (ys ++ zs))), x, y, e, none, none], some s3) := fun x y => rfl
  have hin : ∀ (u : PyData) (y : Option SD), GT u → ∃ y', mFor (mItems (mVar 4)) (mgName 6) (mIf (mTru (mOp neD (mOp eqD (mCall mpl (mCons (mVar 5) mNil)) (mCall mpl (mCons (mVar 6) mNil))) (mOp eqD (mCall mlk (mCons (mVar 5) mNil)) (mCall mlk (mCons (mVar 6) mNil))))) (mRet (mC (.bool false))) mNx) [some c, some .st, some (.d (.list xs)), t, some (.d (.list (ys ++ zs))), some (.d u), y, e, none, none] (some s3) = some (.nx, [some c, some .st, some (.d (.list xs)), t, some (.d (.list (ys ++ zs))), some (.d u), y', e, none, none], some s3) := fun u y hu => by
    rw [for_ok (hit _ _)]
    exact loop_same (i := 6) (E := fun z => [some c, some .st, some (.d (.list xs)), t, some (.d (.list (ys ++ zs))), some (.d u), z, e, none, none]) (fun _ _ => rfl) (fun v hv => hpair u v hu hv) (ys ++ zs) y hG
  have hout : ∀ (ds : List PyData) (x y : Option SD), GTs ds → ∃ x' y', mLoop (mgName 5) (mFor (mItems (mVar 4)) (mgName 6) (mIf (mTru (mOp neD (mOp eqD (mCall mpl (mCons (mVar 5) mNil)) (mCall mpl (mCons (mVar 6) mNil))) (mOp eqD (mCall mlk (mCons (mVar 5) mNil)) (mCall mlk (mCons (mVar 6) mNil))))) (mRet (mC (.bool false))) mNx)) ds [some c, some .st, some (.d (.list xs)), t, some (.d (.list (ys ++ zs))), x, y, e, none, none] (some s3) = some (.nx, [some c, some .st, some (.d (.list xs)), t, some (.d (.list (ys ++ zs))), x', y', e, none, none], some s3) := by
    intro ds
    induction ds with
    | nil => exact fun x y _ => ⟨x, y, rfl⟩
    | cons u ds ih =>
      intro x y h
      obtain ⟨y1, e1⟩ := hin u y (h u (by simp))
      obtain ⟨x', y', e2⟩ := ih (some (.d u)) y1 fun v hv => h v (by simp [hv])
      exact ⟨x', y', (loop_go rfl e1).trans e2⟩
  obtain ⟨b', d', ho⟩ := hout (ys ++ zs) b d hG
  refine ⟨some (.d (.list (ys ++ zs))), b', d', s3, g3, ?_⟩
  rw [List.nil_append] at l1 m1
  have hadd : addD (.list ys) (.list zs) = some (.list (ys ++ zs)) := by
    unfold addD addL
    dsimp only
    rw [if_pos (by rw [l2, m2, sizeLine_eq]; decide)]
  have c1 : mFz (mLc (mRng rng1D (mCons (mC (.int 8)) mNil)) (mgName 9) mYes (mCall mof (mCons (mVar 1) (mCons (mVar 2) mNil))) [9]) [some c, some .st, some (.d (.list xs)), t, a, b, d, e, none, none] (some s) = some (.d (.list ys), [some c, some .st, some (.d (.list xs)), t, a, b, d, e, none, none], some s1) := by
    have hw : wipeE [some c, some .st, some (.d (.list xs)), t, a, b, d, e, none, none] [9] = [some c, some .st, some (.d (.list xs)), t, a, b, d, e, none, none] := rfl
    have hr : rst [some c, some .st, some (.d (.list xs)), t, a, b, d, e, none, none] [some c, some .st, some (.d (.list xs)), t, a, b, d, e, none, none] [9] = [some c, some .st, some (.d (.list xs)), t, a, b, d, e, none, none] := rfl
    simp only [mFz, mLc, rng8_it, hw, l1, hr]
  have c2 : mFz (mLc (mRng rng1D (mCons (mC (.int 8)) mNil)) (mgName 9) mYes (mCall mver (mCons (mVar 1) mNil)) [9]) [some c, some .st, some (.d (.list xs)), t, a, b, d, e, none, none] (some s1) = some (.d (.list zs), [some c, some .st, some (.d (.list xs)), t, a, b, d, e, none, none], some s2) := by
    have hw : wipeE [some c, some .st, some (.d (.list xs)), t, a, b, d, e, none, none] [9] = [some c, some .st, some (.d (.list xs)), t, a, b, d, e, none, none] := rfl
    have hr : rst [some c, some .st, some (.d (.list xs)), t, a, b, d, e, none, none] [some c, some .st, some (.d (.list xs)), t, a, b, d, e, none, none] [9] = [some c, some .st, some (.d (.list xs)), t, a, b, d, e, none, none] := rfl
    simp only [mFz, mLc, rng8_it, hw, m1, hr]
  rw [seq_nx (set_ok (op_ok c1 c2 hadd))]
  have c3 : mFz (mLc (mItems (mVar 4)) (mgName 8) (mNot (mTru (mCall mri (mCons (mVar 1) (mCons (mVar 8) mNil))))) (mVar 8) [8]) [some c, some .st, some (.d (.list xs)), t, some (.d (.list (ys ++ zs))), b, d, e, none, none] (some s2) = some (.d (.list []), [some c, some .st, some (.d (.list xs)), t, some (.d (.list (ys ++ zs))), b, d, e, none, none], some s3) := by
    have hi : mItems (mVar 4) [some c, some .st, some (.d (.list xs)), t, some (.d (.list (ys ++ zs))), b, d, e, none, none] (some s2) = some (ys ++ zs, [some c, some .st, some (.d (.list xs)), t, some (.d (.list (ys ++ zs))), b, d, e, none, none], some s2) := rfl
    have hw : wipeE [some c, some .st, some (.d (.list xs)), t, some (.d (.list (ys ++ zs))), b, d, e, none, none] [8] = [some c, some .st, some (.d (.list xs)), t, some (.d (.list (ys ++ zs))), b, d, e, none, none] := rfl
    have hr : rst [some c, some .st, some (.d (.list xs)), t, some (.d (.list (ys ++ zs))), b, d, e, none, none] [some c, some .st, some (.d (.list xs)), t, some (.d (.list (ys ++ zs))), b, d, e, none, none] [8] = [some c, some .st, some (.d (.list xs)), t, some (.d (.list (ys ++ zs))), b, d, e, none, none] := rfl
    simp only [mFz, mLc, hi, hw, k1, hr]
  have c4 : mIf (mTru (mOp neD (mFz (mLc (mItems (mVar 4)) (mgName 8) (mNot (mTru (mCall mri (mCons (mVar 1) (mCons (mVar 8) mNil))))) (mVar 8) [8])) (mFz (mLst mNil)))) (mRet (mC (.bool false))) mNx [some c, some .st, some (.d (.list xs)), t, some (.d (.list (ys ++ zs))), b, d, e, none, none] (some s2) = some (.nx, [some c, some .st, some (.d (.list xs)), t, some (.d (.list (ys ++ zs))), b, d, e, none, none], some s3) :=
    (if_f (tru_ok (op_ok c3 (lst_ok nil_ok rfl (by decide)) neD_nil0))).trans rfl
  refine (seq_nx c4).trans ((for_ok (hit _ _)).trans ho)
end

theorem law_turns {b6 : Sx} {c : SD} {xs : List PyData}
    (hb : ∀ (t a b d e : Option SD) (n : Nat) (s : DS), Gd (n + 400) s → ∃ a' b' d' s', Gd n s' ∧ b6 [some c, some .st, some (.d (.list xs)), t, a, b, d, e, none, none] (some s) = some (.nx, [some c, some .st, some (.d (.list xs)), t, a', b', d', e, none, none], some s')) :
    ∀ (ds : List PyData) (t a b d e : Option SD) (n : Nat) (s : DS), Gd (n + 400 * ds.length) s → ∃ t' a' b' d' s', Gd n s' ∧ mLoop (mgName 3) b6 ds [some c, some .st, some (.d (.list xs)), t, a, b, d, e, none, none] (some s) = some (.nx, [some c, some .st, some (.d (.list xs)), t', a', b', d', e, none, none], some s')
  | [], t, a, b, d, e, n, s, h => ⟨t, a, b, d, s, by simpa using h, rfl⟩
  | q :: ds, t, a, b, d, e, n, s, h => by
    obtain ⟨a1, b1, d1, s1, g1, e1⟩ := hb (some (.d q)) a b d e (n + 400 * ds.length) s (h.mono (by rw [List.length_cons]; omega))
    obtain ⟨t', a', b', d', s2, g2, e2⟩ := law_turns hb ds (some (.d q)) a1 b1 d1 e n s1 g1
    exact ⟨t', a', b', d', s2, g2, (loop_go rfl e1).trans e2⟩
/-- the texts at the end -/
def lastQ : List (Bool × Pt) := [(false, ⟨0, [0], none, none, none⟩), (false, ⟨0, [0, 0], none, none, none⟩), (true, ⟨0, [0, 0, 0], none, none, none⟩), (false, ⟨1, [0], none, none, none⟩), (false, ⟨1, [0, 0], none, none, none⟩), (false, ⟨0, [0, 0, 1], none, none, none⟩), (false, ⟨0, [10, 0], none, none, none⟩), (false, ⟨0, [1, 0], some ([97], 0), none, none⟩), (true, ⟨0, [1, 0], none, some 0, some 0⟩)]
theorem lastQ_ok : ∀ q ∈ lastQ, q.2.Wf := by
  intro q hq
  unfold lastQ at hq
  simp only [List.mem_cons, List.not_mem_nil, or_false] at hq
  rcases hq with rfl | rfl | rfl | rfl | rfl | rfl | rfl | rfl | rfl
  all_goals
    refine ⟨by simp, by simp, fun n h => ?_, by show _ < 10 ^ 24; decide, fun x n h => ?_, fun n h => ?_, fun n h => ?_⟩
    · simp only [List.mem_cons, List.not_mem_nil, or_false] at h
      show n < 10 ^ 24
      omega
    · cases h
      try exact ⟨by decide, by decide⟩
    · cases h
      try decide
    · cases h
      try decide
theorem last_in : ([.str "0", .str "0.0", .str "0!0.0.0", .str "1!0", .str "1!0.0", .str "0.0.1", .str "10.0", .str "1.0a0", .str "0!1.0.post0.dev0"] : List PyData) = lastQ.map fun q => .str (S (prB q.1 q.2)) := by
  have h : ([("0" : Str), "0.0", "0!0.0.0", "1!0", "1!0.0", "0.0.1", "10.0", "1.0a0", "0!1.0.post0.dev0"] : List Str) = lastQ.map fun q => S (prB q.1 q.2) := by decide +kernel
  have h2 := congrArg (List.map PyData.str) h
  rw [List.map_map] at h2
  exact h2
theorem last_out : ([.str "0", .str "0", .str "0", .str "1!0", .str "1!0", .str "0.0.1", .str "10", .str "1a0", .str "1.post0.dev0"] : List PyData) = lastQ.map fun q => .str (S (prB false (nrm q.2))) := by
  have h : ([("0" : Str), "0", "0", "1!0", "1!0", "0.0.1", "10", "1a0", "1.post0.dev0"] : List Str) = lastQ.map fun q => S (prB false (nrm q.2)) := by decide +kernel
  have h2 := congrArg (List.map PyData.str) h
  rw [List.map_map] at h2
  exact h2
theorem lc_plain {mpl : Fx} {w : W} (hp : ∀ (q : Bool × Pt), q.2.Wf → mpl [.d (.str (S (prB q.1 q.2)))] w = some (.d (.str (S (prB false (nrm q.2)))), w)) (a b c d e f g h' j : Option SD) : ∀ (qs : List (Bool × Pt)) (acc : List PyData), (∀ q ∈ qs, q.2.Wf) →
    lcLoop (mgName 8) mYes (mCall mpl (mCons (mVar 8) mNil)) [8] (qs.map fun q => .str (S (prB q.1 q.2))) acc [a, b, c, d, e, f, g, h', none, j] w = some (acc ++ qs.map (fun q => .str (S (prB false (nrm q.2)))), [a, b, c, d, e, f, g, h', none, j], w)
  | [], acc, _ => by rw [List.map_nil, lc_nil, List.map_nil, List.append_nil]
  | q :: qs, acc, hq => by
    rw [List.map_cons, lc_go (e1 := [a, b, c, d, e, f, g, h', some (.d (.str (S (prB q.1 q.2)))), j]) (e2 := [a, b, c, d, e, f, g, h', some (.d (.str (S (prB q.1 q.2)))), j]) (w2 := w) (e3 := [a, b, c, d, e, f, g, h', some (.d (.str (S (prB q.1 q.2)))), j]) (w3 := w) rfl rfl (call1 (x := .d (.str (S (prB q.1 q.2)))) rfl (hp q (hq q (by simp))))]
    refine (lc_plain hp a b c d e f g h' j qs _ fun r hr => hq r (by simp [hr])).trans ?_
    rw [List.append_assoc, List.map_cons]
    rfl
theorem nb_strs (xs : List Str) : nbA (xs.map .str) = true := by
  induction xs with
  | nil => rfl
  | cons x xs ih => rw [List.map_cons, nbA, ih]; rfl
theorem law_math : ∀ ns : List Int, ns.length ≤ 63 → ∃ env' w', b_law (env0 ns.length 10 1) (some (beginDS ns)) = some (.rt (.d (.bool true)), env', w') := by
  intro ns hns
  have hg := gd_begin ns hns
  have F : LawFs m__law_of m__law_version m__law_right m_plainest m__law_key := by
    refine ⟨fun n s xs h1 h2 h3 => run_of h3 h1 h2, fun n s h => ?_, fun n s x h hs => ?_, fun x y w hx hy => two_eq hx hy w⟩
    · obtain ⟨p, s', h1, h2, h3, h4⟩ := run_version h
      exact ⟨_, s', ⟨p, h1, h2, rfl⟩, h3, h4⟩
    · obtain ⟨p, h1, h2, rfl⟩ := h
      exact run_right h1 h2 hs
  obtain ⟨xs, hsm, hx, hl⟩ := run_small (some (beginDS ns))
  have hpl : ∀ (w : W) (q : Bool × Pt), q.2.Wf → m_plainest [.d (.str (S (prB q.1 q.2)))] w = some (.d (.str (S (prB false (nrm q.2)))), w) := fun w q h => run_plain (prB_sh h) h (parts_print q.1 h) w
  have he0 : env0 ns.length 10 1 = [some (.scr ns.length), some .st, none, none, none, none, none, none, none, none] := rfl
  rw [he0]
  generalize beginDS ns = s0 at hg hsm ⊢
  unfold b_law bF6_law bF5_law bF4_law eC1_law eC2_law tC3_law eC7_law
  generalize m__law_of = mof at F ⊢
  generalize m__law_version = mver at F ⊢
  generalize m__law_right = mri at F ⊢
  generalize m__law_key = mlk at F ⊢
  generalize m__law_small = msm at hsm ⊢
  generalize m_plainest = mpl at F hpl ⊢
  -- the turns
  obtain ⟨k, hk, hkm⟩ : ∃ k : Nat, k ≤ 5 ∧ ∀ (env : Ev) (w : W), env[0]? = some (some (.scr ns.length)) → mOp addD (mC (.int 2)) (mB min2D (mCons (mC (.int 3)) (mCons (mScrLen 0) mNil))) env w = some (.d (.int (k : Int)), env, w) := by
    refine ⟨2 + min 3 ns.length, by omega, fun env w h => ?_⟩
    have h1 : mB min2D (mCons (mC (.int 3)) (mCons (mScrLen 0) mNil)) env w = some (.d (.int ((min 3 ns.length : Nat) : Int)), env, w) := by
      have : min2D [.int 3, .int (ns.length : Int)] = some (.int ((min 3 ns.length : Nat) : Int)) := by
        unfold min2D
        dsimp only
        refine congrArg some (congrArg PyData.int ?_)
        split <;> omega
      simp only [mB, argsD, mCons, mC, mScrLen, h, mNil, dsOf, Option.map_some, this, optE]
    exact op_ok rfl h1 (add_nat 2 (min 3 ns.length))
  obtain ⟨ds, hds, hdl⟩ := rng1 k (by omega)
  obtain ⟨t', a', b', d', s1, g1, hloop⟩ := law_turns (c := .scr ns.length) (xs := xs) (fun t a b d e n s g => law_turn F hx hl t a b d e g) ds none none none none none 0 s0 (hg.mono (by rw [hdl]; omega))
  suffices hfin : ∃ e, mSeq (mSet 4 (mFz (mLst (mCons (mC (.str "0")) (mCons (mC (.str "0.0")) (mCons (mC (.str "0!0.0.0")) (mCons (mC (.str "1!0")) (mCons (mC (.str "1!0.0")) (mCons (mC (.str "0.0.1")) (mCons (mC (.str "10.0")) (mCons (mC (.str "1.0a0")) (mCons (mC (.str "0!1.0.post0.dev0")) mNil))))))))))))
      (mSeq (mSet 7 (mFz (mLst (mCons (mC (.str "0")) (mCons (mC (.str "0")) (mCons (mC (.str "0")) (mCons (mC (.str "1!0")) (mCons (mC (.str "1!0")) (mCons (mC (.str "0.0.1")) (mCons (mC (.str "10")) (mCons (mC (.str "1a0")) (mCons (mC (.str "1.post0.dev0")) mNil))))))))))))
      (mRet (mOp eqD (mFz (mLc (mItems (mVar 4)) (mgName 8) mYes (mCall mpl (mCons (mVar 8) mNil)) [8])) (mVar 7)))) [some (.scr ns.length), some .st, some (.d (.list xs)), t', a', b', d', none, none, none] (some s1) = some (.rt (.d (.bool true)), e, some s1) by
    have hR : mRng rng1D (mCons (mOp addD (mC (.int 2)) (mB min2D (mCons (mC (.int 3)) (mCons (mScrLen 0) mNil)))) mNil) [some (.scr ns.length), some .st, some (.d (.list xs)), none, none, none, none, none, none, none] (some s0) = some (ds, [some (.scr ns.length), some .st, some (.d (.list xs)), none, none, none, none, none, none, none], some s0) := by
      have h1 := hkm [some (.scr ns.length), some .st, some (.d (.list xs)), none, none, none, none, none, none, none] (some s0) rfl
      simp only [mRng, argsD, mCons, mNil, h1, dsOf, Option.map_some, hds]
    have hcall : mCall msm mNil [some (.scr ns.length), some .st, none, none, none, none, none, none, none, none] (some s0) = some (.d (.list xs), [some (.scr ns.length), some .st, none, none, none, none, none, none, none, none], some s0) := by
      simp only [mCall, mNil, hsm]
    have st1 : mSet 2 (mCall msm mNil) [some (.scr ns.length), some .st, none, none, none, none, none, none, none, none] (some s0) = some (.nx, [some (.scr ns.length), some .st, some (.d (.list xs)), none, none, none, none, none, none, none], some s0) := set_ok hcall
    obtain ⟨e, h⟩ := ex_nx st1 (ex_nx ((for_ok hR).trans hloop) hfin)
    exact ⟨e, some s1, h⟩
  have hC1 : ∀ (env : Ev) (w : W), mFz (mLst (mCons (mC (.str "0")) (mCons (mC (.str "0.0")) (mCons (mC (.str "0!0.0.0")) (mCons (mC (.str "1!0")) (mCons (mC (.str "1!0.0")) (mCons (mC (.str "0.0.1")) (mCons (mC (.str "10.0")) (mCons (mC (.str "1.0a0")) (mCons (mC (.str "0!1.0.post0.dev0")) mNil)))))))))) env w = some (.d (.list (lastQ.map fun q => .str (S (prB q.1 q.2)))), env, w) := fun env w => by
    rw [← last_in]
    rfl
  have hC2 : ∀ (env : Ev) (w : W), mFz (mLst (mCons (mC (.str "0")) (mCons (mC (.str "0")) (mCons (mC (.str "0")) (mCons (mC (.str "1!0")) (mCons (mC (.str "1!0")) (mCons (mC (.str "0.0.1")) (mCons (mC (.str "10")) (mCons (mC (.str "1a0")) (mCons (mC (.str "1.post0.dev0")) mNil)))))))))) env w = some (.d (.list (lastQ.map fun q => .str (S (prB false (nrm q.2))))), env, w) := fun env w => by
    rw [← last_out]
    rfl
  have hlc := lc_plain (w := some s1) (hpl (some s1)) (some (.scr ns.length)) (some .st) (some (.d (.list xs))) t' (some (.d (.list (lastQ.map fun q => .str (S (prB q.1 q.2)))))) b' d' (some (.d (.list (lastQ.map fun q => .str (S (prB false (nrm q.2))))))) none lastQ [] lastQ_ok
  have heq : eqD (.list (lastQ.map fun q => PyData.str (S (prB false (nrm q.2))))) (.list (lastQ.map fun q => .str (S (prB false (nrm q.2))))) = some (.bool true) := by
    have e1 : (lastQ.map fun q => PyData.str (S (prB false (nrm q.2)))) = (lastQ.map fun q => S (prB false (nrm q.2))).map PyData.str := by rw [List.map_map]; rfl
    have hn : nb (.list (lastQ.map fun q => PyData.str (S (prB false (nrm q.2))))) = true := by
      show nbA _ = true
      rw [e1]
      exact nb_strs _
    unfold eqD
    rw [eqv_rf _ hn, if_pos]
    rw [← last_out]
    rfl
  generalize (lastQ.map fun q => PyData.str (S (prB q.1 q.2))) = Q1 at hC1 hlc
  generalize (lastQ.map fun q => PyData.str (S (prB false (nrm q.2)))) = Q2 at hC2 hlc heq
  refine ex_nx (set_ok (hC1 _ _)) ?_
  refine ex_nx (set_ok (hC2 _ _)) ?_
  rw [List.nil_append] at hlc
  have hfz : mFz (mLc (mItems (mVar 4)) (mgName 8) mYes (mCall mpl (mCons (mVar 8) mNil)) [8]) [some (.scr ns.length), some .st, some (.d (.list xs)), t', some (.d (.list Q1)), b', d', some (.d (.list Q2)), none, none] (some s1) = some (.d (.list Q2), [some (.scr ns.length), some .st, some (.d (.list xs)), t', some (.d (.list Q1)), b', d', some (.d (.list Q2)), none, none], some s1) := by
    have hi : mItems (mVar 4) [some (.scr ns.length), some .st, some (.d (.list xs)), t', some (.d (.list Q1)), b', d', some (.d (.list Q2)), none, none] (some s1) = some (Q1, [some (.scr ns.length), some .st, some (.d (.list xs)), t', some (.d (.list Q1)), b', d', some (.d (.list Q2)), none, none], some s1) := rfl
    have hw : wipeE [some (SD.scr ns.length), some .st, some (.d (.list xs)), t', some (.d (.list Q1)), b', d', some (.d (.list Q2)), none, none] [8] = [some (.scr ns.length), some .st, some (.d (.list xs)), t', some (.d (.list Q1)), b', d', some (.d (.list Q2)), none, none] := rfl
    have hr : rst [some (SD.scr ns.length), some .st, some (.d (.list xs)), t', some (.d (.list Q1)), b', d', some (.d (.list Q2)), none, none] [some (.scr ns.length), some .st, some (.d (.list xs)), t', some (.d (.list Q1)), b', d', some (.d (.list Q2)), none, none] [8] = [some (.scr ns.length), some .st, some (.d (.list xs)), t', some (.d (.list Q1)), b', d', some (.d (.list Q2)), none, none] := rfl
    simp only [mFz, mLc, hi, hw, hlc, hr]
  exact ⟨_, ret_ok (op_ok hfz (var_d rfl) heq)⟩
end Dn

set_option maxHeartbeats 4000000
namespace Dn
open PySem PySem.Spec PyProof.Rows L2
def top (i : Nat) : Stmt := PySem.Challenge.pw_pickedrelease_k04_whole_plainest_texts.main.body.getD i (.Pass ⟨0, 0, 0, 0⟩)
structure Facts (K : PySem.W.Frag) (mg : Str → Option Value) : Prop where
  b_int : mg "int" = none
  b_isinstance : mg "isinstance" = none
  b_len : mg "len" = none
  b_list : mg "list" = none
  b_min : mg "min" = none
  b_range : mg "range" = none
  b_sorted : mg "sorted" = none
  b_str : mg "str" = none
  b_tuple : mg "tuple" = none
  c_DEV : ∃ t, mg "DEV" = some (.str ".dev" t)
  c_FIGURES : ∃ t, mg "FIGURES" = some (.str "0123456789" t)
  c_MOST_FIGURES : ∃ t, mg "MOST_FIGURES" = some (.int 24 t)
  c_MOST_NUMBERS : ∃ t, mg "MOST_NUMBERS" = some (.int 60 t)
  c_POST : ∃ t, mg "POST" = some (.str ".post" t)
  c_WORDS : GTup K mg "WORDS" ["a", "b", "rc"]
  d_number_at : ∃ f fd, FunD K "number_at" "number_at" (defArgs (top 10)) (defBody (top 10)) (defScope (top 10)) [] [] f fd ∧ mg "number_at" = some (.ref f)
  d_numbers_at : ∃ f fd, FunD K "numbers_at" "numbers_at" (defArgs (top 11)) (defBody (top 11)) (defScope (top 11)) [] [] f fd ∧ mg "numbers_at" = some (.ref f)
  d_word_at : ∃ f fd, FunD K "word_at" "word_at" (defArgs (top 12)) (defBody (top 12)) (defScope (top 12)) [] [] f fd ∧ mg "word_at" = some (.ref f)
  d_tail_at : ∃ f fd, FunD K "tail_at" "tail_at" (defArgs (top 13)) (defBody (top 13)) (defScope (top 13)) [] [] f fd ∧ mg "tail_at" = some (.ref f)
  d_parts_of : ∃ f fd, FunD K "parts_of" "parts_of" (defArgs (top 14)) (defBody (top 14)) (defScope (top 14)) [] [] f fd ∧ mg "parts_of" = some (.ref f)
  d_based : ∃ f fd, FunD K "based" "based" (defArgs (top 15)) (defBody (top 15)) (defScope (top 15)) [] [] f fd ∧ mg "based" = some (.ref f)
  d_tail_of : ∃ f fd, FunD K "tail_of" "tail_of" (defArgs (top 16)) (defBody (top 16)) (defScope (top 16)) [] [] f fd ∧ mg "tail_of" = some (.ref f)
  d_split_tail : ∃ f fd, FunD K "split_tail" "split_tail" (defArgs (top 17)) (defBody (top 17)) (defScope (top 17)) [] [] f fd ∧ mg "split_tail" = some (.ref f)
  d_key_from : ∃ f fd, FunD K "key_from" "key_from" (defArgs (top 18)) (defBody (top 18)) (defScope (top 18)) [] [] f fd ∧ mg "key_from" = some (.ref f)
  d_text_of : ∃ f fd, FunD K "text_of" "text_of" (defArgs (top 19)) (defBody (top 19)) (defScope (top 19)) [] [] f fd ∧ mg "text_of" = some (.ref f)
  d_need_key : ∃ f fd, FunD K "need_key" "need_key" (defArgs (top 20)) (defBody (top 20)) (defScope (top 20)) [] [] f fd ∧ mg "need_key" = some (.ref f)
  d_is_version : ∃ f fd, FunD K "is_version" "is_version" (defArgs (top 21)) (defBody (top 21)) (defScope (top 21)) [] [] f fd ∧ mg "is_version" = some (.ref f)
  d_order : ∃ f fd, FunD K "order" "order" (defArgs (top 22)) (defBody (top 22)) (defScope (top 22)) [] [] f fd ∧ mg "order" = some (.ref f)
  d_plainest : ∃ f fd, FunD K "plainest" "plainest" (defArgs (top 23)) (defBody (top 23)) (defScope (top 23)) [] [] f fd ∧ mg "plainest" = some (.ref f)
  d__law_mixed : ∃ f fd, FunD K "_law_mixed" "_law_mixed" (defArgs (top 25)) (defBody (top 25)) (defScope (top 25)) [] [] f fd ∧ mg "_law_mixed" = some (.ref f)
  d__law_begin : ∃ f fd, FunD K "_law_begin" "_law_begin" (defArgs (top 26)) (defBody (top 26)) (defScope (top 26)) [] [] f fd ∧ mg "_law_begin" = some (.ref f)
  d__law_draw : ∃ f fd, FunD K "_law_draw" "_law_draw" (defArgs (top 27)) (defBody (top 27)) (defScope (top 27)) [] [] f fd ∧ mg "_law_draw" = some (.ref f)
  d__law_of : ∃ f fd, FunD K "_law_of" "_law_of" (defArgs (top 28)) (defBody (top 28)) (defScope (top 28)) [] [] f fd ∧ mg "_law_of" = some (.ref f)
  d__law_parts : ∃ f fd, FunD K "_law_parts" "_law_parts" (defArgs (top 29)) (defBody (top 29)) (defScope (top 29)) [] [] f fd ∧ mg "_law_parts" = some (.ref f)
  d__law_base : ∃ f fd, FunD K "_law_base" "_law_base" (defArgs (top 30)) (defBody (top 30)) (defScope (top 30)) [] [] f fd ∧ mg "_law_base" = some (.ref f)
  d__law_key : ∃ f fd, FunD K "_law_key" "_law_key" (defArgs (top 31)) (defBody (top 31)) (defScope (top 31)) [] [] f fd ∧ mg "_law_key" = some (.ref f)
  d__law_text : ∃ f fd, FunD K "_law_text" "_law_text" (defArgs (top 32)) (defBody (top 32)) (defScope (top 32)) [] [] f fd ∧ mg "_law_text" = some (.ref f)
  d__law_small : ∃ f fd, FunD K "_law_small" "_law_small" (defArgs (top 33)) (defBody (top 33)) (defScope (top 33)) [] [] f fd ∧ mg "_law_small" = some (.ref f)
  d__law_version : ∃ f fd, FunD K "_law_version" "_law_version" (defArgs (top 34)) (defBody (top 34)) (defScope (top 34)) [] [] f fd ∧ mg "_law_version" = some (.ref f)
  d__law_dressed : ∃ f fd, FunD K "_law_dressed" "_law_dressed" (defArgs (top 35)) (defBody (top 35)) (defScope (top 35)) [] [] f fd ∧ mg "_law_dressed" = some (.ref f)
  d__law_due : ∃ f fd, FunD K "_law_due" "_law_due" (defArgs (top 36)) (defBody (top 36)) (defScope (top 36)) [] [] f fd ∧ mg "_law_due" = some (.ref f)
  d__law_right : ∃ f fd, FunD K "_law_right" "_law_right" (defArgs (top 37)) (defBody (top 37)) (defScope (top 37)) [] [] f fd ∧ mg "_law_right" = some (.ref f)
  d_law : ∃ f fd, FunD K "law" "law" (defArgs (top 38)) (defBody (top 38)) (defScope (top 38)) [] [] f fd ∧ mg "law" = some (.ref f)
section
variable {P : Program} {w : World} {K : PySem.W.Frag} {mg : Str → Option Value} {base : Heap}
theorem sc__law_mixed0 : FnScope [("cell" : Str), ("k" : Str)] [("cell" : Str), ("k" : Str)] (defScope (top 25)) := ⟨rfl, rfl, rfl, by decide +kernel, rfl, by decide +kernel, by decide +kernel⟩
theorem mixed_ok (T : Facts K mg) : ∃ f fd, FnOk P w K mg base CX0 1 f fd [("cell" : Str), ("k" : Str)] spMixed ∧ mg "_law_mixed" = some (.ref f) ∧ PySem.W.keepIn K (.ref f) = true ∧ Binds K fd [("cell" : Str), ("k" : Str)] [] := by
  obtain ⟨f, fd, F, hf⟩ := T.d__law_mixed
  refine ⟨f, fd, ?_, hf, F.kp, F.bindsN fun _ _ _ _ _ _ us hl => match us, hl with | [_, _], _ => rfl⟩
  refine F.ok (k := 0) sc__law_mixed0 (fun vs H Q E h => ?_) (fun cdv A outer s H vs Q E hr h => ⟨_, PSs.nox (pss_cons (ps_set (i := 0) sc__law_mixed0.nd rfl (Or.inl rfl) (pe_op op_mod (pe_callTy call_int1 rfl T.b_int (by decide +kernel) (pa_cons (pv 0) pa_nil)) pe_int))
      (pss_one (ps_ret (pe_op op_mod (pe_op op_mul (pe_op op_mod (pe_op op_add (pe_op op_add (pe_op op_mul (pv 0) (pe_op op_add pe_int (pe_op op_mul (pe_op op_mul pe_int (pv 1)) (pv 1)))) (pe_op op_mul pe_int (pv 1))) pe_int) pe_int) pe_int) pe_int)))), ?_⟩)
  · obtain ⟨c, k, rfl, _⟩ := h
    rfl
  · obtain ⟨c, k, rfl, h0, h1, q⟩ := h
    have c0 : 0 ≤ c % 2147483647 := Int.emod_nonneg _ (by decide)
    have c1 : c % 2147483647 < 2147483647 := Int.emod_lt_of_pos _ (by decide)
    have e0 : 0 ≤ ((c % 2147483647) * (48271 + 2 * k * k) + 69621 * k + 11) % 2147483647 := Int.emod_nonneg _ (by decide)
    have e1 : ((c % 2147483647) * (48271 + 2 * k * k) + 69621 * k + 11) % 2147483647 < 2147483647 := Int.emod_lt_of_pos _ (by decide)
    refine ⟨_, rfl, .inl ⟨c, rfl, _, _, rfl, rfl, (by show (0 : Int) < 2147483647; decide), ?_⟩⟩
    refine ⟨_, rfl, _, rfl, _, _, rfl, rfl, .inl (by decide), _, rfl, _, _, rfl, rfl, .inr ⟨by omega, by omega⟩, _, _, rfl, rfl, _, _, rfl, rfl, .inl ⟨by omega, by omega⟩, _, rfl, _, _, rfl, rfl, .inl (by decide), _, _, rfl, rfl, _, _, rfl, rfl, _, _, rfl, rfl, (by show (0 : Int) < 2147483647; decide), _, _, rfl, rfl, .inr (by decide), _, _, rfl, rfl, (by show (0 : Int) < 2147483629; decide), q⟩
theorem sc__law_draw : FnScope [("state" : Str), ("many" : Str), ("at" : Str), ("place" : Str), ("left" : Str), ("number" : Str)] [("state" : Str), ("many" : Str)] (defScope (top 27)) := ⟨rfl, rfl, rfl, by decide +kernel, rfl, by decide +kernel, by decide +kernel⟩
theorem F__law_draw (T : Facts K mg) : Fn P w K mg base 2 "_law_draw" m__law_draw := by
  obtain ⟨fm, fdm, GM, hm, kpM, bM⟩ := mixed_ok (P := P) (w := w) (base := base) T
  obtain ⟨f, fd, F, hf⟩ := T.d__law_draw
  refine ⟨f, fd, [("state" : Str), ("many" : Str)], ?_, hf, F.kp, F.bindsN fun _ _ _ _ _ _ us hl => match us, hl with | [_, _], _ => rfl⟩
  refine F.ok (k := 1) sc__law_draw (fun vs H Q E h => ?_) (fun cdv A outer s H vs Q E hr h => ⟨_, PSs.nox (
      pss_cons (ps_set (i := 2) sc__law_draw.nd rfl (Or.inl rfl) (pe_dget (hu_of hr) (pv 0) pe_str (fun _ _ => rfl)))
      (pss_cons (ps_dput (hu_of hr) (pv 0) pe_str (pe_op op_add (pv 2) pe_int) rfl)
      (pss_cons (ps_set (i := 3) sc__law_draw.nd rfl (Or.inl rfl) (pe_op op_mod (pe_callTy call_int1 rfl T.b_int (by decide +kernel) (pa_cons (pv 2) pa_nil)) (pe_callB call_len_seq rfl T.b_len PySem.boot_len (pa_cons (pe_dget (hu_of hr) (pv 0) pe_str (fun _ _ => rfl)) pa_nil))))
      (pss_cons (ps_set (i := 4) sc__law_draw.nd rfl (Or.inl rfl) (pe_ix ix_list (pe_dget (hu_of hr) (pv 0) pe_str (fun _ _ => rfl)) (pv 3) (fun _ _ => rfl)))
      (pss_cons (ps_if (pt_cmpR op_gt (pv 4) pe_int (nomark _)) (pss_cons (ps_asg (pe_op op_fdiv (pv 4) (pv 1)) (pg_sub (pe_dget (hu_of hr) (pv 0) pe_str (fun _ _ => rfl)) (pv 3) set_list)) (pss_one (ps_ret (pe_op op_mod (pe_callTy call_int1 rfl T.b_int (by decide +kernel) (pa_cons (pv 4) pa_nil)) (pv 1))))) pss_nil)
      (pss_cons (ps_set (i := 5) sc__law_draw.nd rfl (Or.inl rfl) (pe_call GM hr rfl hm kpM bM .nil pass0 (pa_cons (pe_call GM hr rfl hm kpM bM .nil pass0 (pa_cons (pe_ix ix_list (pe_dget (hu_of hr) (pv 0) pe_str (fun _ _ => rfl)) (pv 3) (fun _ _ => rfl)) (pa_cons (pv 2) pa_nil))) (pa_cons (pe_op op_add pe_int (pv 2)) pa_nil))))
      (pss_one (ps_ret (pe_op op_mod (pe_op op_fdiv (pe_callTy call_int1 rfl T.b_int (by decide +kernel) (pa_cons (pe_op op_add (pe_op op_mul (pv 5) pe_int) (pe_call GM hr rfl hm kpM bM .nil pass0 (pa_cons (pv 5) (pa_cons (pe_op op_add pe_int (pv 2)) pa_nil)))) pa_nil)) pe_int) (pv 1)))))))))), ?_⟩)
  · obtain ⟨G, ad, w, as, r, w', _, _, a, hm, _⟩ := h
    have hl : as.length = 2 := by
      unfold m__law_draw at hm
      split at hm
      · rfl
      · cases hm
    rw [← a.length]; exact hl
  · obtain ⟨G, ad, w, as, r, w', sg, st, a, hm, k⟩ := h
    unfold m__law_draw at hm
    split at hm
    · rename_i many sd
      split at hm
      · rename_i hc
        cases hm
        obtain ⟨ok, m1, m2⟩ := hc
        have S := st sd rfl
        cases a with
        | cons a1 ar =>
        cases ar with
        | cons a2 ar =>
        cases ar
        obtain ⟨_, rfl⟩ := a1
        cases a2
        have hlt := DS.at_lt ok
        have hl : (0 : Int) < sd.cells.length := by have := List.length_pos_iff.mpr ok.ne; omega
        have p0 := ok.p0
        have p1 := ok.p1
        have nsl : ad.sa ≠ ad.la := ne_of S.sa S.la (by intro z; cases z)
        have nsc : ad.sa ≠ ad.ca := ne_of S.sa S.ca (by intro z; cases z)
        have pe : sd.pos % ((sd.cells.length : Nat) : Int) = ((sd.at_ : Nat) : Int) := by
          have h1 := Int.emod_nonneg sd.pos (show (sd.cells.length : Int) ≠ 0 by omega)
          unfold DS.at_
          omega
        -- at = state['at']; state['at'] = at + 1
        refine ⟨_, rfl, ad.sa, .int sd.pos, rfl, (by have := DGet.k (k := kAt) S.sa; rw [valAt] at this; exact this), ?_⟩
        refine ⟨_, rfl, _, _, rfl, rfl, _, rfl, ad.sa, _, rfl, DPut.k (k := kAt) S.sa (by show 4 < sizeLine; decide), ?_⟩
        rw [putAt]
        have hsa : (upd H ad.sa (.dK [(kCells, .ref ad.ca), (kLefts, .ref ad.la), (kAt, .int (sd.pos + 1)), (kRoom, .int sd.room)])) ad.sa = some (.dK [(kCells, .ref ad.ca), (kLefts, .ref ad.la), (kAt, .int (sd.pos + 1)), (kRoom, .int sd.room)]) := upd_same
        have hla : (upd H ad.sa (.dK [(kCells, .ref ad.ca), (kLefts, .ref ad.la), (kAt, .int (sd.pos + 1)), (kRoom, .int sd.room)])) ad.la = some (.lst (sd.lefts.map V.int)) := by rw [upd_ne nsl.symm]; exact S.la
        have hca : (upd H ad.sa (.dK [(kCells, .ref ad.ca), (kLefts, .ref ad.la), (kAt, .int (sd.pos + 1)), (kRoom, .int sd.room)])) ad.ca = some (.lst (sd.cells.map V.int)) := by rw [upd_ne nsc.symm]; exact S.ca
        -- place, left
        refine ⟨_, rfl, .inl ⟨sd.pos, rfl, _, rfl, ad.sa, .ref ad.ca, rfl, (by have := DGet.k (k := kCells) hsa; rw [valCells] at this; exact this), ad.ca, _, rfl, .inl (SqL.of hca), _, _, rfl, rfl, (by rw [List.length_map]; exact hl), ?_⟩⟩
        have pe' : sd.pos % (((sd.cells.map V.int).length : Nat) : Int) = ((sd.at_ : Nat) : Int) := by rw [List.length_map]; exact pe
        have hll : sd.at_ < sd.lefts.length := by rw [ok.ln]; exact hlt
        refine ⟨_, rfl, ad.sa, .ref ad.la, rfl, (by have := DGet.k (k := kLefts) hsa; rw [valLefts] at this; exact this), _, rfl, ad.la, _, _, .int sd.left, rfl, rfl, SqL.of hla, atI_int hll pe', ?_⟩
        refine ⟨_, rfl, _, _, rfl, rfl, _, rfl, ?_⟩
        have gh' : ∀ (H1 : Hp), (∀ b o, H b = some o → b ≠ ad.sa → b ≠ ad.la → H1 b = some o) → Same G H1 := fun H1 kp b o e =>
          kp b o (sg b o e) (fun z => by rw [z, S.gs] at e; cases e) (fun z => by rw [z, S.gl] at e; cases e)
        refine ite2 (fun hpos => ?_) (fun hneg => ?_)
        · -- the digits of a great cell
          have hp : 0 < sd.left := of_decide_eq_true hpos
          refine ⟨_, rfl, _, rfl, _, _, rfl, rfl, ⟨m1, m2⟩, _, rfl, ad.sa, .ref ad.la, rfl, (by have := DGet.k (k := kLefts) hsa; rw [valLefts] at this; exact this), _, rfl, ad.la, _, _, sd.at_, rfl, rfl, hla, (by rw [pe', List.length_map]; unfold ixN; rw [if_pos (by omega), if_pos (by omega)]; rfl), ?_⟩
          refine ⟨_, rfl, .inl ⟨sd.left, rfl, _, rfl, _, _, rfl, rfl, m1, ?_⟩⟩
          have ev : sd.val many = sd.left % many := by unfold DS.val; rw [if_pos hp]
          have en : sd.next many = { sd with lefts := sd.lefts.set sd.at_ (sd.left / many), pos := sd.pos + 1 } := by unfold DS.next; rw [if_pos hp]
          rw [ev, en] at k
          refine k _ G _ (Same.refl G) (gh' _ fun b o e h1 h2 => by rw [upd_ne h2, upd_ne h1]; exact e) (fun b o e nm => ?_) (fun _ _ _ => rfl) rfl (fun s e => ?_) (.int _)
          · rw [upd_ne (fun z => nm ⟨rfl, .inr z⟩), upd_ne (fun z => nm ⟨rfl, .inl z⟩)]; exact e
          · cases e
            refine ⟨by rw [upd_ne nsl]; exact hsa, by rw [upd_same, List.map_set], by rw [upd_ne S.ne]; exact hca, S.gs, S.gl, S.gc, S.ne⟩
        · have hp : ¬ 0 < sd.left := fun z => hneg (decide_eq_true z)
          have n0 := mixed_nn (mixed sd.cell sd.pos) (40 + sd.pos)
          have n1 := mixed_lt (mixed sd.cell sd.pos) (40 + sd.pos)
          refine ⟨_, rfl, ad.sa, .ref ad.ca, rfl, (by have := DGet.k (k := kCells) hsa; rw [valCells] at this; exact this), _, rfl, ad.ca, _, _, .int sd.cell, rfl, rfl, SqL.of hca, atI_int hlt pe', _, rfl, sd.cell, sd.pos, rfl, p0, by omega, _, rfl, _, _, rfl, rfl, mixed sd.cell sd.pos, 40 + sd.pos, rfl, by omega, by omega, ?_⟩
          refine ⟨_, rfl, _, _, rfl, rfl, .inr (by decide), _, rfl, _, rfl, _, _, rfl, rfl, mixed (mixed sd.cell sd.pos) (40 + sd.pos), 7 + sd.pos, rfl, by omega, by omega, _, _, rfl, rfl, .inl ⟨_, rfl, _, _, rfl, rfl, ⟨by decide, by decide⟩, _, rfl, _, _, rfl, rfl, m1, ?_⟩⟩
          have ev : sd.val many = (sd.num * 2147483647 + mixed sd.num (7 + sd.pos)) / 64 % many := by unfold DS.val; rw [if_neg hp]
          have en : sd.next many = { sd with pos := sd.pos + 1 } := by unfold DS.next; rw [if_neg hp]
          rw [ev, en] at k
          refine k _ G _ (Same.refl G) (gh' _ fun b o e h1 h2 => by rw [upd_ne h1]; exact e) (fun b o e nm => ?_) (fun _ _ _ => rfl) rfl (fun s e => ?_) (.int _)
          · rw [upd_ne (fun z => nm ⟨rfl, .inl z⟩)]; exact e
          · cases e
            exact ⟨hsa, hla, hca, S.gs, S.gl, S.gc, S.ne⟩
      · cases hm
    · cases hm
theorem sc__law_begin : FnScope [("script" : Str), ("cells" : Str), ("cell" : Str)] [("script" : Str)] (defScope (top 26)) := ⟨rfl, rfl, rfl, by decide +kernel, rfl, by decide +kernel, by decide +kernel⟩
theorem begin_row (T : Facts K mg) : ∃ f fd, FnOk P w K mg base CX0 1 f fd [("script" : Str)] (spBegin K) ∧ mg "_law_begin" = some (.ref f) ∧ PySem.W.keepIn K (.ref f) = true ∧ Binds K fd [("script" : Str)] [] := by
  obtain ⟨f, fd, F, hf⟩ := T.d__law_begin
  refine ⟨f, fd, ?_, hf, F.kp, F.bindsN fun _ _ _ _ _ _ us hl => match us, hl with | [_], _ => rfl⟩
  refine F.ok (k := 0) sc__law_begin (fun vs H Q E h => ?_) (fun cdv A outer s H vs Q E hr h => ⟨_, PSs.nox (
      pss_cons (ps_set (i := 1) sc__law_begin.nd rfl (Or.inl rfl) (pe_ifExp (pt_cmpR (op_neP hr.units) (pv 0) (pe_lst pa_nil) (nomark _)) (pe_callTy call_list_of rfl T.b_list (by decide +kernel) (pa_cons (pv 0) pa_nil)) (pe_lst (pa_cons pe_int pa_nil))))
      (pss_one (ps_ret (pe_disp (pps_cons pe_str (pv 1) (pps_cons pe_str (pe_lc (own := [("cell", 2)]) (g := gName 2) (tt := tYes) rfl sc__law_begin.nd (pi_list (pv 1)) (blkOk_by (N := [("script" : Str), ("cells" : Str), ("cell" : Str)]) (sc := defScope (top 26)) (own := [("cell", 2)]) (by decide +kernel)) (fun _ _ _ _ _ => pg_name (i := 2) sc__law_begin.nd rfl (Or.inl rfl)) (fun _ _ _ _ _ => pts_nil)
          (fun _ _ _ _ _ => pe_ifExp (pt_cmpR op_ge (pv 2) (pe_op op_pow pe_int pe_int) (nomark _)) (pv 2) pe_int)) (pps_cons pe_str pe_int (pps_cons pe_str pe_int pps_nil)))) (by rfl) (by rfl) (fun z => by cases z) (by decide))))), ?_⟩)
  · obtain ⟨a, ns, rfl, _⟩ := h
    rfl
  · obtain ⟨a, ns, rfl, hS, hlen, k⟩ := h
    -- the rest, once the cells stand at c
    have rest : ∀ (c : Addr) (H1 : Hp), Same H H1 → H c = none → H1 c = some (.lst ((beginCells ns).map V.int)) →
        tRet (tDisp [(tC (.str "cells"), tVar 1), (tC (.str "lefts"), tLc (iList K (tVar 1)) (gName 2) tYes (tIf (tTest (tOp (rI0 fun i j => .bl (decide (j ≤ i))) (tVar 2) (tOp (rI CPow fun i j => .int (i ^ j.toNat)) (tC (.int 10)) (tC (.int 18))))) (tVar 2) (tC (.int 0))) [2]), (tC (.str "at"), tC (.int 0)), (tC (.str "room"), tC (.int 0))])
          { nx := fun _ H' => Q .non H', rt := Q } [some (.ref a), some (.ref c), none] H1 := by
      intro c H1 s1 hc0 hc
      intro p hp
      have npc : p ≠ c := fun z => by rw [z, hc] at hp; cases hp
      have hc2 : (upd H1 p (.dK [])) c = some (.lst ((beginCells ns).map V.int)) := by rw [upd_ne npc.symm]; exact hc
      refine ⟨_, rfl, _, rfl, c, rfl, ⟨_, SqL.of hc2⟩, fun D hD => ?_⟩
      have nDp : D ≠ p := fun z => by rw [z, upd_same] at hD; cases hD
      have nDc : D ≠ c := fun z => by rw [z, hc2] at hD; cases hD
      have hD1 : H1 D = none := by rw [upd_ne nDp] at hD; exact hD
      refine lc_list (K := K) (a := c) (xs := (beginCells ns).map V.int) (fun i H2 => H2 = upd (upd H1 p (.dK [])) D (.lst ((((beginCells ns).take i).map fun c => if 1000000000000000000 ≤ c then c else 0).map V.int))) ?_ ?_ ?_ ?_
      · simp
      · rintro i H2 _ rfl
        exact SqL.of (by rw [upd_ne nDc.symm]; exact hc2)
      · rintro i x H2 hx rfl
        have hi : i < (beginCells ns).length := by
          have := (List.getElem?_eq_some_iff.mp hx).1
          rwa [List.length_map] at this
        rw [List.getElem?_map, List.getElem?_eq_getElem hi] at hx
        cases hx
        refine ⟨rfl, ?_⟩
        dsimp only [tYes]
        rw [if_pos rfl]
        refine ⟨_, rfl, _, _, rfl, rfl, ⟨by decide, by decide, by decide⟩, _, _, rfl, rfl, _, rfl, ?_⟩
        have hz : (((beginCells ns).take i).map fun c => if 1000000000000000000 ≤ c then c else 0).length < sizeLine := by
          have e : (beginCells ns).length ≤ 64 := by
            unfold beginCells
            split
            · simp
            · omega
          rw [List.length_map, List.length_take, sizeLine_eq]
          omega
        have fin : ∀ y : Int, y = (if 1000000000000000000 ≤ (beginCells ns)[i] then (beginCells ns)[i] else 0) → upd (upd (upd H1 p (.dK [])) D (.lst ((((beginCells ns).take i).map fun c => if 1000000000000000000 ≤ c then c else 0).map V.int))) D (.lst ((((beginCells ns).take i).map fun c => if 1000000000000000000 ≤ c then c else 0).map V.int ++ [.int y])) = upd (upd H1 p (.dK [])) D (.lst ((((beginCells ns).take (i + 1)).map fun c => if 1000000000000000000 ≤ c then c else 0).map V.int)) := fun y e => by
          rw [upd_upd, List.take_succ_eq_append_getElem hi, e, List.map_append, List.map_append]
          rfl
        refine ite2 (fun hb => ?_) (fun hb => ?_)
        · have hb' : (10 : Int) ^ (18 : Int).toNat ≤ (beginCells ns)[i] := of_decide_eq_true hb
          have e18 : (10 : Int) ^ (18 : Int).toNat = 1000000000000000000 := by decide
          rw [e18] at hb'
          exact ⟨_, rfl, _, upd_same, by rw [List.length_map]; exact hz, fin _ (by rw [if_pos hb'])⟩
        · have hb' : ¬ (10 : Int) ^ (18 : Int).toNat ≤ (beginCells ns)[i] := fun z => hb (decide_eq_true z)
          have e18 : (10 : Int) ^ (18 : Int).toNat = 1000000000000000000 := by decide
          rw [e18] at hb'
          exact ⟨_, upd_same, by rw [List.length_map]; exact hz, fin _ (by rw [if_neg hb'])⟩
      · rintro H2 rfl
        refine ⟨?_, [(kCells, .ref c), (kLefts, .ref D), (kAt, .int 0), (kRoom, .int 0)], rfl, by show 4 ≤ 15; decide, ?_⟩
        · rw [upd_ne nDp.symm, upd_same]
        · rw [merge4]
          refine k ⟨p, c, D⟩ _ (fun b o e => ?_) (s1.free hp) hc0 (s1.free hD1) nDc.symm upd_same ?_ ?_
          · rw [upd_ne (ne_of_none e (s1.free hp)), upd_ne (ne_of_none e (s1.free hD1)), upd_ne (ne_of_none e (s1.free hp))]
            exact s1 b o e
          · show upd (upd _ D _) p _ D = _
            rw [upd_ne nDp, upd_same, List.length_map, List.take_length]
            rfl
          · show upd (upd _ D _) p _ c = _
            rw [upd_ne npc.symm, upd_ne nDc.symm, upd_ne npc.symm]
            exact hc
    refine ⟨_, rfl, (by show 0 ≤ sizeLine; decide), fun e he => ?_⟩
    have se : Same H (upd H e (.lst [])) := same_upd he
    refine ⟨.list (ns.map .int), .list [], .lst (se.seq hS) (dpAll_ints ns), .lst (SqL.of upd_same) .nil, by simpa [PyData.plain] using plain_ints ns, by simp [PyData.plain, PyData.plainAll], by rfl, _, rfl, ?_⟩
    by_cases hns : ns = []
    · subst hns
      refine iteF ?_
      refine ⟨(by show 1 ≤ sizeLine; decide), fun c hc => ?_⟩
      have hce : c ≠ e := fun z => by rw [z, upd_same] at hc; cases hc
      exact rest c _ (se.trans (same_upd hc)) (se.free hc) (by rw [upd_same]; rfl)
    · have ev : (!PyData.eqv (.list (ns.map .int)) (.list [])) = true := by
        cases ns with
        | nil => exact absurd rfl hns
        | cons n r => simp [PyData.eqv, PyData.eqvAll]
      rw [ev]
      refine iteT ?_
      refine ⟨_, rfl, a, _, rfl, .inl (se.seq hS), fun c hc => ?_⟩
      exact rest c _ (se.trans (same_upd hc)) (se.free hc) (by rw [upd_same]; unfold beginCells; rw [if_neg hns])
theorem sc_number_at : FnScope [("text" : Str), ("at" : Str), ("behind" : Str), ("figures" : Str)] [("text" : Str), ("at" : Str)] (defScope (top 10)) := ⟨rfl, rfl, rfl, by decide +kernel, rfl, by decide +kernel, by decide +kernel⟩
theorem F_number_at (T : Facts K mg) : Fn P w K mg base 1 "number_at" m_number_at := by
  obtain ⟨f, fd, F, hf⟩ := T.d_number_at
  show Fn P w K mg base 1 "number_at" (mFn 2 4 b_number_at)
  refine ⟨f, fd, [("text" : Str), ("at" : Str)], fn_ok (k := 0) (m := b_number_at) rfl rfl F sc_number_at fun cdv A outer s H E hr => ?_, hf, F.kp, F.bindsN fun _ _ _ _ _ _ us hl => match us, hl with | [_, _], _ => rfl⟩
  have hu := hr.units
  exact (dss_cons (ds_set (ps_set (i := 2) sc_number_at.nd rfl (by first | exact Or.inl rfl | exact Or.inr rfl) (de_var (pv 1))))
 (dss_cons (ds_while (n := fuel) (ps_while PassesOwn.never (DW.dt (dw_and (dt_cmp (od_ne hu) (de_sl (de_var (pv 0)) (dpo_some (de_var (pv 2))) (dpo_some (de_op od_add (de_var (pv 2)) de_int))) de_str (nomark _)) (dw_and1 (dt_cmp (od_in hu) (de_ix (de_var (pv 0)) (de_var (pv 2))) (de_gstr T.c_FIGURES) rfl)))) (dss_one (ds_aug oi_addI (ps_aug (i := 2) sc_number_at.nd rfl (by first | exact Or.inl rfl | exact Or.inr rfl) de_int op_sem)))))
 (dss_cons (ds_set (ps_set (i := 3) sc_number_at.nd rfl (by first | exact Or.inl rfl | exact Or.inr rfl) (de_sl (de_var (pv 0)) (dpo_some (de_var (pv 1))) (dpo_some (de_var (pv 2))))))
 (dss_cons (ds_if (ps_if (DW.dt (dw_or (dt_cmp (od_eq hu) (de_var (pv 3)) de_str (nomark _)) (dw_or (dt_cmp od_gtI (de_callB cd_len T.b_len (by decide +kernel) (da_cons (de_var (pv 3)) da_nil)) (de_gint T.c_MOST_FIGURES) (nomark _)) (dw_or1 (DW.dt (dw_and (dt_cmp (od_eq hu) (de_ix (de_var (pv 3)) de_int) de_str (nomark _)) (dw_and1 (dt_cmp (od_ne hu) (de_var (pv 3)) de_str (nomark _))))))))) (dss_one (ds_ret (ps_ret de_non))) dss_nil))
 (dss_one (ds_ret (ps_ret (de_tup (pe_tup (da_cons (de_callTy cd_int T.b_int (by decide +kernel) (da_cons (de_var (pv 3)) da_nil)) (da_cons (de_var (pv 2)) da_nil)))))))))))
theorem sc_numbers_at : FnScope [("text" : Str), ("at" : Str), ("found" : Str), ("place" : Str), ("told" : Str)] [("text" : Str), ("at" : Str)] (defScope (top 11)) := ⟨rfl, rfl, rfl, by decide +kernel, rfl, by decide +kernel, by decide +kernel⟩
theorem F_numbers_at (T : Facts K mg) : Fn P w K mg base 2 "numbers_at" m_numbers_at := by
  have F_number_at := F_number_at (P := P) (w := w) (base := base) T
  obtain ⟨f, fd, F, hf⟩ := T.d_numbers_at
  show Fn P w K mg base 2 "numbers_at" (mFn 2 5 b_numbers_at)
  refine ⟨f, fd, [("text" : Str), ("at" : Str)], fn_ok (k := 1) (m := b_numbers_at) rfl rfl F sc_numbers_at fun cdv A outer s H E hr => ?_, hf, F.kp, F.bindsN fun _ _ _ _ _ _ us hl => match us, hl with | [_, _], _ => rfl⟩
  have hu := hr.units
  exact (dss_cons (ds_parO (ps_par (i := 2) (j := 3) rfl sc_numbers_at.nd rfl rfl (by decide) rfl rfl (pa_cons (do_lst (pe_lst da_nil)) (pa_cons (de_var (pv 1)) pa_nil)) rfl))
 (dss_one (ds_while (n := fuel) (ps_while PassesOwn.never (dt_val de_bl) (dss_cons (ds_set (ps_set (i := 4) sc_numbers_at.nd rfl (by first | exact Or.inl rfl | exact Or.inr rfl) (de_call F_number_at hr (by decide) (da_cons (de_var (pv 0)) (da_cons (de_var (pv 3)) da_nil)))))
 (dss_cons (ds_if (ps_if (dt_cmp od_is (de_var (pv 4)) de_non (nomark _)) (dss_one (ds_ret (ps_ret de_non))) dss_nil))
 (dss_cons (ds_append (ps_expr (pe_bm PySem.F.plainAttrs_list PySem.F.slot_list_append PySem.F.type_list_append mt_append (pv 2) (pa_cons (de_ix (de_var (pv 4)) de_int) pa_nil))))
 (dss_cons (ds_set (ps_set (i := 3) sc_numbers_at.nd rfl (by first | exact Or.inl rfl | exact Or.inr rfl) (de_ix (de_var (pv 4)) de_int)))
 (dss_cons (ds_if (ps_if (DW.dt (dw_or (dt_cmp (od_ne hu) (de_sl (de_var (pv 0)) (dpo_some (de_var (pv 3))) (dpo_some (de_op od_add (de_var (pv 3)) de_int))) de_str (nomark _)) (dw_or1 (dt_cmp (od_notIn hu) (de_sl (de_var (pv 0)) (dpo_some (de_op od_add (de_var (pv 3)) de_int)) (dpo_some (de_op od_add (de_var (pv 3)) de_int))) (de_callTy (cd_tupStr rfl) T.b_tuple (by decide +kernel) (da_cons (de_gstr T.c_FIGURES) da_nil)) rfl)))) (dss_one (ds_ret (ps_ret (de_if (dt_cmp od_leI (de_pklen T.b_len (pv 2)) (de_gint T.c_MOST_NUMBERS) (nomark _)) (de_tup (pe_tup (da_cons (de_callTy cd_tuple T.b_tuple (by decide +kernel) (da_cons (de_var (pv 2)) da_nil)) (da_cons (de_var (pv 3)) da_nil)))) de_non)))) dss_nil))
 (dss_one (ds_aug oi_addI (ps_aug (i := 3) sc_numbers_at.nd rfl (by first | exact Or.inl rfl | exact Or.inr rfl) de_int op_sem))))))))))))
theorem sc_word_at : FnScope [("text" : Str), ("at" : Str), ("words" : Str), ("word" : Str), ("told" : Str)] [("text" : Str), ("at" : Str), ("words" : Str)] (defScope (top 12)) := ⟨rfl, rfl, rfl, by decide +kernel, rfl, by decide +kernel, by decide +kernel⟩
theorem F_word_at (T : Facts K mg) : Fn P w K mg base 2 "word_at" m_word_at := by
  have F_number_at := F_number_at (P := P) (w := w) (base := base) T
  obtain ⟨f, fd, F, hf⟩ := T.d_word_at
  show Fn P w K mg base 2 "word_at" (mFn 3 5 b_word_at)
  refine ⟨f, fd, [("text" : Str), ("at" : Str), ("words" : Str)], fn_ok (k := 1) (m := b_word_at) rfl rfl F sc_word_at fun cdv A outer s H E hr => ?_, hf, F.kp, F.bindsN fun _ _ _ _ _ _ us hl => match us, hl with | [_, _, _], _ => rfl⟩
  have hu := hr.units
  exact (dss_cons (ds_for (vs := [3]) (ps_for PassesOwn.never rfl (di_seq (de_var (pv 2))) (dg_name (pg_name (i := 3) sc_word_at.nd rfl (by first | exact Or.inl rfl | exact Or.inr rfl))) (dss_one (ds_if (ps_if (dt_val (de_mtS PySem.F.slot_str_startswith PySem.F.type_str_startswith md_starts2 (de_var (pv 0)) (da_cons (de_var (pv 3)) (da_cons (de_var (pv 1)) da_nil)))) (dss_cons (ds_set (ps_set (i := 4) sc_word_at.nd rfl (by first | exact Or.inl rfl | exact Or.inr rfl) (de_call F_number_at hr (by decide) (da_cons (de_var (pv 0)) (da_cons (de_op od_add (de_var (pv 1)) (de_callB cd_len T.b_len (by decide +kernel) (da_cons (de_var (pv 3)) da_nil))) da_nil)))))
 (dss_one (ds_ret (ps_ret (de_if (dt_cmp od_is (de_var (pv 4)) de_non (nomark _)) de_non (de_tup (pe_tup (da_cons (de_tup (pe_tup (da_cons (de_var (pv 3)) (da_cons (de_ix (de_var (pv 4)) de_int) da_nil)))) (da_cons (de_ix (de_var (pv 4)) de_int) da_nil))))))))) dss_nil)))))
 (dss_one (ds_ret (ps_ret (de_tup (pe_tup (da_cons de_non (da_cons (de_var (pv 1)) da_nil))))))))
theorem sc_tail_at : FnScope [("text" : Str), ("at" : Str), ("found" : Str), ("place" : Str), ("words" : Str), ("told" : Str), ("ahead" : Str), ("post" : Str), ("dev" : Str)] [("text" : Str), ("at" : Str)] (defScope (top 13)) := ⟨rfl, rfl, rfl, by decide +kernel, rfl, by decide +kernel, by decide +kernel⟩
theorem F_tail_at (T : Facts K mg) : Fn P w K mg base 3 "tail_at" m_tail_at := by
  have F_word_at := F_word_at (P := P) (w := w) (base := base) T
  obtain ⟨f, fd, F, hf⟩ := T.d_tail_at
  show Fn P w K mg base 3 "tail_at" (mFn 2 9 b_tail_at)
  refine ⟨f, fd, [("text" : Str), ("at" : Str)], fn_ok (k := 2) (m := b_tail_at) rfl rfl F sc_tail_at fun cdv A outer s H E hr => ?_, hf, F.kp, F.bindsN fun _ _ _ _ _ _ us hl => match us, hl with | [_, _], _ => rfl⟩
  have hu := hr.units
  exact (dss_cons (ds_parO (ps_par (i := 2) (j := 3) rfl sc_tail_at.nd rfl rfl (by decide) rfl rfl (pa_cons (do_lst (pe_lst da_nil)) (pa_cons (de_var (pv 1)) pa_nil)) rfl))
 (dss_cons (ds_for (vs := [4]) (ps_for PassesOwn.never rfl (di_seq (de_tup (pe_tup (da_cons (de_gtup T.c_WORDS) (da_cons (de_tup (pe_tup (da_cons (de_gstr T.c_POST) da_nil))) (da_cons (de_tup (pe_tup (da_cons (de_gstr T.c_DEV) da_nil))) da_nil)))))) (dg_name (pg_name (i := 4) sc_tail_at.nd rfl (by first | exact Or.inl rfl | exact Or.inr rfl))) (dss_cons (ds_set (ps_set (i := 5) sc_tail_at.nd rfl (by first | exact Or.inl rfl | exact Or.inr rfl) (de_call F_word_at hr (by decide) (da_cons (de_var (pv 0)) (da_cons (de_var (pv 3)) (da_cons (de_var (pv 4)) da_nil))))))
 (dss_cons (ds_if (ps_if (dt_cmp od_is (de_var (pv 5)) de_non (nomark _)) (dss_one (ds_ret (ps_ret de_non))) dss_nil))
 (dss_cons (ds_append (ps_expr (pe_bm PySem.F.plainAttrs_list PySem.F.slot_list_append PySem.F.type_list_append mt_append (pv 2) (pa_cons (de_ix (de_var (pv 5)) de_int) pa_nil))))
 (dss_one (ds_set (ps_set (i := 3) sc_tail_at.nd rfl (by first | exact Or.inl rfl | exact Or.inr rfl) (de_ix (de_var (pv 5)) de_int)))))))))
 (dss_cons (ds_if (ps_if (dt_cmp (od_ne hu) (de_var (pv 3)) (de_callB cd_len T.b_len (by decide +kernel) (da_cons (de_var (pv 0)) da_nil)) (nomark _)) (dss_one (ds_ret (ps_ret de_non))) dss_nil))
 (dss_cons (ds_asg (vs := [6, 7, 8]) (ps_asg (de_var (pv 2)) (dg_unl (pg_unl rfl (dgs_cons (dg_name (pg_name (i := 6) sc_tail_at.nd rfl (by first | exact Or.inl rfl | exact Or.inr rfl))) (dgs_cons (dg_name (pg_name (i := 7) sc_tail_at.nd rfl (by first | exact Or.inl rfl | exact Or.inr rfl))) (dgs_cons (dg_name (pg_name (i := 8) sc_tail_at.nd rfl (by first | exact Or.inl rfl | exact Or.inr rfl))) dgs_nil)))))))
 (dss_one (ds_ret (ps_ret (de_tup (pe_tup (da_cons (de_var (pv 6)) (da_cons (de_if (dt_cmp od_is (de_var (pv 7)) de_non (nomark _)) de_non (de_ix (de_var (pv 7)) de_int)) (da_cons (de_if (dt_cmp od_is (de_var (pv 8)) de_non (nomark _)) de_non (de_ix (de_var (pv 8)) de_int)) da_nil))))))))))))
theorem sc_parts_of : FnScope [("thing" : Str), ("epoch" : Str), ("at" : Str), ("told" : Str), ("found" : Str), ("tail" : Str)] [("thing" : Str)] (defScope (top 14)) := ⟨rfl, rfl, rfl, by decide +kernel, rfl, by decide +kernel, by decide +kernel⟩
theorem F_parts_of (T : Facts K mg) : Fn P w K mg base 4 "parts_of" m_parts_of := by
  have F_number_at := F_number_at (P := P) (w := w) (base := base) T
  have F_numbers_at := F_numbers_at (P := P) (w := w) (base := base) T
  have F_tail_at := F_tail_at (P := P) (w := w) (base := base) T
  obtain ⟨f, fd, F, hf⟩ := T.d_parts_of
  show Fn P w K mg base 4 "parts_of" (mFn 1 6 b_parts_of)
  refine ⟨f, fd, [("thing" : Str)], fn_ok (k := 3) (m := b_parts_of) rfl rfl F sc_parts_of fun cdv A outer s H E hr => ?_, hf, F.kp, F.bindsN fun _ _ _ _ _ _ us hl => match us, hl with | [_], _ => rfl⟩
  have hu := hr.units
  exact (dss_cons (ds_if (ps_if (dt_not (dt_val (de_is (de_var (pv 0)) kit_str T.b_isinstance T.b_str (by decide +kernel)))) (dss_one (ds_ret (ps_ret de_non))) dss_nil))
 (dss_cons (ds_asg (vs := [1, 2]) (ps_asg (de_tup (pe_tup (da_cons de_int (da_cons de_int da_nil)))) (dg_tup (pg_tup rfl (dgs_cons (dg_name (pg_name (i := 1) sc_parts_of.nd rfl (by first | exact Or.inl rfl | exact Or.inr rfl))) (dgs_cons (dg_name (pg_name (i := 2) sc_parts_of.nd rfl (by first | exact Or.inl rfl | exact Or.inr rfl))) dgs_nil))))))
 (dss_cons (ds_if (ps_if (dt_cmp (od_in hu) de_str (de_var (pv 0)) rfl) (dss_cons (ds_set (ps_set (i := 3) sc_parts_of.nd rfl (by first | exact Or.inl rfl | exact Or.inr rfl) (de_call F_number_at hr (by decide) (da_cons (de_var (pv 0)) (da_cons de_int da_nil)))))
 (dss_cons (ds_if (ps_if (DW.dt (dw_or (dt_cmp od_is (de_var (pv 3)) de_non (nomark _)) (dw_or1 (dt_cmp (od_ne hu) (de_ix (de_var (pv 0)) (de_ix (de_var (pv 3)) de_int)) de_str (nomark _))))) (dss_one (ds_ret (ps_ret de_non))) dss_nil))
 (dss_one (ds_par (ps_par (i := 1) (j := 2) rfl sc_parts_of.nd rfl rfl (by decide) rfl rfl (da_cons (de_ix (de_var (pv 3)) de_int) (da_cons (de_op od_add (de_ix (de_var (pv 3)) de_int) de_int) da_nil)) rfl))))) dss_nil))
 (dss_cons (ds_set (ps_set (i := 4) sc_parts_of.nd rfl (by first | exact Or.inl rfl | exact Or.inr rfl) (de_call F_numbers_at hr (by decide) (da_cons (de_var (pv 0)) (da_cons (de_var (pv 2)) da_nil)))))
 (dss_cons (ds_if (ps_if (dt_cmp od_is (de_var (pv 4)) de_non (nomark _)) (dss_one (ds_ret (ps_ret de_non))) dss_nil))
 (dss_cons (ds_set (ps_set (i := 5) sc_parts_of.nd rfl (by first | exact Or.inl rfl | exact Or.inr rfl) (de_call F_tail_at hr (by decide) (da_cons (de_var (pv 0)) (da_cons (de_ix (de_var (pv 4)) de_int) da_nil)))))
 (dss_one (ds_ret (ps_ret (de_if (dt_cmp od_is (de_var (pv 5)) de_non (nomark _)) de_non (de_tup (pe_tup (da_cons (de_var (pv 1)) (da_cons (de_ix (de_var (pv 4)) de_int) (da_star (de_var (pv 5)) da_nil)))))))))))))))
theorem sc_based : FnScope [("numbers" : Str), ("many" : Str)] [("numbers" : Str)] (defScope (top 15)) := ⟨rfl, rfl, rfl, by decide +kernel, rfl, by decide +kernel, by decide +kernel⟩
theorem F_based (T : Facts K mg) : Fn P w K mg base 1 "based" m_based := by
  obtain ⟨f, fd, F, hf⟩ := T.d_based
  show Fn P w K mg base 1 "based" (mFn 1 2 b_based)
  refine ⟨f, fd, [("numbers" : Str)], fn_ok (k := 0) (m := b_based) rfl rfl F sc_based fun cdv A outer s H E hr => ?_, hf, F.kp, F.bindsN fun _ _ _ _ _ _ us hl => match us, hl with | [_], _ => rfl⟩
  have hu := hr.units
  exact (dss_cons (ds_set (ps_set (i := 1) sc_based.nd rfl (by first | exact Or.inl rfl | exact Or.inr rfl) (de_callB cd_len T.b_len (by decide +kernel) (da_cons (de_var (pv 0)) da_nil))))
 (dss_cons (ds_while (n := fuel) (ps_while PassesOwn.never (DW.dt (dw_and (dt_cmp od_gtI (de_var (pv 1)) de_int (nomark _)) (dw_and1 (dt_cmp (od_eq hu) (de_ix (de_var (pv 0)) (de_op od_sub (de_var (pv 1)) de_int)) de_int (nomark _))))) (dss_one (ds_aug oi_sub (ps_aug (i := 1) sc_based.nd rfl (by first | exact Or.inl rfl | exact Or.inr rfl) de_int op_sem)))))
 (dss_one (ds_ret (ps_ret (de_sl (de_var (pv 0)) dpo_none (dpo_some (de_var (pv 1)))))))))
theorem sc_tail_of : FnScope [("ahead" : Str), ("post" : Str), ("dev" : Str), ("own" : Str), ("head" : Str)] [("ahead" : Str), ("post" : Str), ("dev" : Str)] (defScope (top 16)) := ⟨rfl, rfl, rfl, by decide +kernel, rfl, by decide +kernel, by decide +kernel⟩
theorem F_tail_of (T : Facts K mg) : Fn P w K mg base 1 "tail_of" m_tail_of := by
  obtain ⟨f, fd, F, hf⟩ := T.d_tail_of
  show Fn P w K mg base 1 "tail_of" (mFn 3 5 b_tail_of)
  refine ⟨f, fd, [("ahead" : Str), ("post" : Str), ("dev" : Str)], fn_ok (k := 0) (m := b_tail_of) rfl rfl F sc_tail_of fun cdv A outer s H E hr => ?_, hf, F.kp, F.bindsN fun _ _ _ _ _ _ us hl => match us, hl with | [_, _, _], _ => rfl⟩
  have hu := hr.units
  exact (dss_cons (ds_set (ps_set (i := 3) sc_tail_of.nd rfl (by first | exact Or.inl rfl | exact Or.inr rfl) (de_if (dt_cmp od_is (de_var (pv 2)) de_non (nomark _)) (de_tup (pe_tup (da_cons de_int da_nil))) (de_tup (pe_tup (da_cons de_int (da_cons (de_var (pv 2)) da_nil)))))))
 (dss_cons (ds_if (ps_if (dt_cmp od_isNot (de_var (pv 0)) de_non (nomark _)) (dss_cons (ds_set (ps_set (i := 4) sc_tail_of.nd rfl (by first | exact Or.inl rfl | exact Or.inr rfl) (de_tup (pe_tup (da_cons de_int (da_cons (de_gidx T.c_WORDS (da_cons (de_ix (de_var (pv 0)) de_int) da_nil)) (da_cons (de_ix (de_var (pv 0)) de_int) da_nil)))))))
 (dss_one (ds_ret (ps_ret (de_if (dt_cmp od_is (de_var (pv 1)) de_non (nomark _)) (de_op od_add (de_var (pv 4)) (de_var (pv 3))) (de_op od_add (de_op od_add (de_var (pv 4)) (de_tup (pe_tup (da_cons de_int (da_cons (de_var (pv 1)) da_nil))))) (de_var (pv 3)))))))) dss_nil))
 (dss_cons (ds_if (ps_if (dt_cmp od_isNot (de_var (pv 1)) de_non (nomark _)) (dss_one (ds_ret (ps_ret (de_op od_add (de_tup (pe_tup (da_cons de_int (da_cons (de_var (pv 1)) da_nil)))) (de_var (pv 3)))))) dss_nil))
 (dss_one (ds_ret (ps_ret (de_if (dt_cmp od_is (de_var (pv 2)) de_non (nomark _)) (de_tup (pe_tup (da_cons de_int da_nil))) (de_var (pv 3)))))))))
theorem sc_split_tail : FnScope [("tail" : Str), ("ahead" : Str), ("post" : Str), ("rest" : Str)] [("tail" : Str)] (defScope (top 17)) := ⟨rfl, rfl, rfl, by decide +kernel, rfl, by decide +kernel, by decide +kernel⟩
theorem F_split_tail (T : Facts K mg) : Fn P w K mg base 1 "split_tail" m_split_tail := by
  obtain ⟨f, fd, F, hf⟩ := T.d_split_tail
  show Fn P w K mg base 1 "split_tail" (mFn 1 4 b_split_tail)
  refine ⟨f, fd, [("tail" : Str)], fn_ok (k := 0) (m := b_split_tail) rfl rfl F sc_split_tail fun cdv A outer s H E hr => ?_, hf, F.kp, F.bindsN fun _ _ _ _ _ _ us hl => match us, hl with | [_], _ => rfl⟩
  have hu := hr.units
  exact (dss_cons (ds_par3 (ps_par3 (i := 1) (j := 2) (l := 3) rfl sc_split_tail.nd rfl rfl rfl (by decide) (by decide) (by decide) rfl rfl rfl (da_cons de_non (da_cons de_non (da_cons (de_var (pv 0)) da_nil))) rfl))
 (dss_cons (ds_if (ps_if (dt_cmp (od_eq hu) (de_var (pv 0)) (de_tup (pe_tup (da_cons de_int da_nil))) (nomark _)) (dss_one (ds_ret (ps_ret (de_tup (pe_tup (da_cons de_non (da_cons de_non (da_cons de_non da_nil)))))))) dss_nil))
 (dss_cons (ds_if (ps_if (dt_cmp (od_eq hu) (de_ix (de_var (pv 0)) de_int) de_int (nomark _)) (dss_one (ds_par (ps_par (i := 1) (j := 3) rfl sc_split_tail.nd rfl rfl (by decide) rfl rfl (da_cons (de_tup (pe_tup (da_cons (de_ix (de_gtup T.c_WORDS) (de_ix (de_var (pv 0)) de_int)) (da_cons (de_ix (de_var (pv 0)) de_int) da_nil)))) (da_cons (de_sl (de_var (pv 0)) (dpo_some de_int) dpo_none) da_nil)) rfl))) dss_nil))
 (dss_cons (ds_if (ps_if (dt_cmp (od_in hu) (de_ix (de_var (pv 3)) de_int) (de_tup (pe_tup (da_cons de_int (da_cons de_int da_nil)))) rfl) (dss_one (ds_par (ps_par (i := 2) (j := 3) rfl sc_split_tail.nd rfl rfl (by decide) rfl rfl (da_cons (de_ix (de_var (pv 3)) de_int) (da_cons (de_sl (de_var (pv 3)) (dpo_some de_int) dpo_none) da_nil)) rfl))) dss_nil))
 (dss_one (ds_ret (ps_ret (de_tup (pe_tup (da_cons (de_var (pv 1)) (da_cons (de_var (pv 2)) (da_cons (de_if (dt_cmp (od_eq hu) (de_ix (de_var (pv 3)) de_int) de_int (nomark _)) de_non (de_ix (de_var (pv 3)) de_int)) da_nil))))))))))))
theorem sc_key_from : FnScope [("parts" : Str), ("epoch" : Str), ("numbers" : Str), ("ahead" : Str), ("post" : Str), ("dev" : Str)] [("parts" : Str)] (defScope (top 18)) := ⟨rfl, rfl, rfl, by decide +kernel, rfl, by decide +kernel, by decide +kernel⟩
theorem F_key_from (T : Facts K mg) : Fn P w K mg base 2 "key_from" m_key_from := by
  have F_based := F_based (P := P) (w := w) (base := base) T
  have F_tail_of := F_tail_of (P := P) (w := w) (base := base) T
  obtain ⟨f, fd, F, hf⟩ := T.d_key_from
  show Fn P w K mg base 2 "key_from" (mFn 1 6 b_key_from)
  refine ⟨f, fd, [("parts" : Str)], fn_ok (k := 1) (m := b_key_from) rfl rfl F sc_key_from fun cdv A outer s H E hr => ?_, hf, F.kp, F.bindsN fun _ _ _ _ _ _ us hl => match us, hl with | [_], _ => rfl⟩
  have hu := hr.units
  exact (dss_cons (ds_asg (vs := [1, 2, 3, 4, 5]) (ps_asg (de_var (pv 0)) (dg_tup (pg_tup rfl (dgs_cons (dg_name (pg_name (i := 1) sc_key_from.nd rfl (by first | exact Or.inl rfl | exact Or.inr rfl))) (dgs_cons (dg_name (pg_name (i := 2) sc_key_from.nd rfl (by first | exact Or.inl rfl | exact Or.inr rfl))) (dgs_cons (dg_name (pg_name (i := 3) sc_key_from.nd rfl (by first | exact Or.inl rfl | exact Or.inr rfl))) (dgs_cons (dg_name (pg_name (i := 4) sc_key_from.nd rfl (by first | exact Or.inl rfl | exact Or.inr rfl))) (dgs_cons (dg_name (pg_name (i := 5) sc_key_from.nd rfl (by first | exact Or.inl rfl | exact Or.inr rfl))) dgs_nil)))))))))
 (dss_one (ds_ret (ps_ret (de_tup (pe_tup (da_cons (de_var (pv 1)) (da_cons (de_call F_based hr (by decide) (da_cons (de_var (pv 2)) da_nil)) (da_cons (de_call F_tail_of hr (by decide) (da_cons (de_var (pv 3)) (da_cons (de_var (pv 4)) (da_cons (de_var (pv 5)) da_nil)))) da_nil)))))))))
theorem sc_text_of : FnScope [("key" : Str), ("epoch" : Str), ("base" : Str), ("tail" : Str), ("ahead" : Str), ("post" : Str), ("dev" : Str), ("found" : Str), ("number" : Str)] [("key" : Str)] (defScope (top 19)) := ⟨rfl, rfl, rfl, by decide +kernel, rfl, by decide +kernel, by decide +kernel⟩
theorem F_text_of (T : Facts K mg) : Fn P w K mg base 2 "text_of" m_text_of := by
  have F_split_tail := F_split_tail (P := P) (w := w) (base := base) T
  obtain ⟨f, fd, F, hf⟩ := T.d_text_of
  show Fn P w K mg base 2 "text_of" (mFn 1 9 b_text_of)
  refine ⟨f, fd, [("key" : Str)], fn_ok (k := 1) (m := b_text_of) rfl rfl F sc_text_of fun cdv A outer s H E hr => ?_, hf, F.kp, F.bindsN fun _ _ _ _ _ _ us hl => match us, hl with | [_], _ => rfl⟩
  have hu := hr.units
  exact (dss_cons (ds_asg (vs := [1, 2, 3]) (ps_asg (de_var (pv 0)) (dg_tup (pg_tup rfl (dgs_cons (dg_name (pg_name (i := 1) sc_text_of.nd rfl (by first | exact Or.inl rfl | exact Or.inr rfl))) (dgs_cons (dg_name (pg_name (i := 2) sc_text_of.nd rfl (by first | exact Or.inl rfl | exact Or.inr rfl))) (dgs_cons (dg_name (pg_name (i := 3) sc_text_of.nd rfl (by first | exact Or.inl rfl | exact Or.inr rfl))) dgs_nil)))))))
 (dss_cons (ds_asg (vs := [4, 5, 6]) (ps_asg (de_call F_split_tail hr (by decide) (da_cons (de_var (pv 3)) da_nil)) (dg_tup (pg_tup rfl (dgs_cons (dg_name (pg_name (i := 4) sc_text_of.nd rfl (by first | exact Or.inl rfl | exact Or.inr rfl))) (dgs_cons (dg_name (pg_name (i := 5) sc_text_of.nd rfl (by first | exact Or.inl rfl | exact Or.inr rfl))) (dgs_cons (dg_name (pg_name (i := 6) sc_text_of.nd rfl (by first | exact Or.inl rfl | exact Or.inr rfl))) dgs_nil)))))))
 (dss_cons (ds_set (ps_set (i := 7) sc_text_of.nd rfl (by first | exact Or.inl rfl | exact Or.inr rfl) (de_if (dt_cmp (od_eq hu) (de_var (pv 1)) de_int (nomark _)) de_str (de_js (.cons (de_fmt (de_var (pv 1))) (.cons de_str .nil))))))
 (dss_cons (ds_aug oi_addS (ps_aug (i := 7) sc_text_of.nd rfl (by first | exact Or.inl rfl | exact Or.inr rfl) (de_if (dt_cmp (od_ne hu) (de_var (pv 2)) (de_tup (pe_tup da_nil)) (nomark _)) (de_mtS PySem.F.slot_str_join PySem.F.type_str_join md_join de_str (da_cons (DO.de (do_lc (pe_lc (own := [("number", 8)]) rfl sc_text_of.nd (di_seq (de_var (pv 2))) (blkOk_by (N := ["key", "epoch", "base", "tail", "ahead", "post", "dev", "found", "number"]) (sc := defScope (top 19)) (own := [("number", 8)]) (by decide +kernel)) (fun _ _ _ _ _ => (dg_name (pg_name (i := 8) sc_text_of.nd rfl (by first | exact Or.inl rfl | exact Or.inr rfl)))) (fun _ _ _ _ _ => dts_nil) (fun _ _ _ _ _ => (de_callTy cd_str T.b_str (by decide +kernel) (da_cons (de_var (pv 8)) da_nil)))))) da_nil)) de_str) op_sem))
 (dss_cons (ds_if (ps_if (dt_cmp od_isNot (de_var (pv 4)) de_non (nomark _)) (dss_one (ds_aug oi_addS (ps_aug (i := 7) sc_text_of.nd rfl (by first | exact Or.inl rfl | exact Or.inr rfl) (de_js (.cons (de_fmt (de_ix (de_var (pv 4)) de_int)) (.cons (de_fmt (de_ix (de_var (pv 4)) de_int)) .nil))) op_sem))) dss_nil))
 (dss_cons (ds_if (ps_if (dt_cmp od_isNot (de_var (pv 5)) de_non (nomark _)) (dss_one (ds_aug oi_addS (ps_aug (i := 7) sc_text_of.nd rfl (by first | exact Or.inl rfl | exact Or.inr rfl) (de_js (.cons (de_fmt (de_gstr T.c_POST)) (.cons (de_fmt (de_var (pv 5))) .nil))) op_sem))) dss_nil))
 (dss_one (ds_ret (ps_ret (de_if (dt_cmp od_is (de_var (pv 6)) de_non (nomark _)) (de_var (pv 7)) (de_js (.cons (de_fmt (de_var (pv 7))) (.cons (de_fmt (de_gstr T.c_DEV)) (.cons (de_fmt (de_var (pv 6))) .nil))))))))))))))
theorem sc_need_key : FnScope [("thing" : Str), ("parts" : Str)] [("thing" : Str)] (defScope (top 20)) := ⟨rfl, rfl, rfl, by decide +kernel, rfl, by decide +kernel, by decide +kernel⟩
theorem F_need_key (T : Facts K mg) : Fn P w K mg base 5 "need_key" m_need_key := by
  have F_key_from := F_key_from (P := P) (w := w) (base := base) T
  have F_parts_of := F_parts_of (P := P) (w := w) (base := base) T
  obtain ⟨f, fd, F, hf⟩ := T.d_need_key
  show Fn P w K mg base 5 "need_key" (mFn 1 2 b_need_key)
  refine ⟨f, fd, [("thing" : Str)], fn_ok (k := 4) (m := b_need_key) rfl rfl F sc_need_key fun cdv A outer s H E hr => ?_, hf, F.kp, F.bindsN fun _ _ _ _ _ _ us hl => match us, hl with | [_], _ => rfl⟩
  have hu := hr.units
  exact (dss_cons (ds_set (ps_set (i := 1) sc_need_key.nd rfl (by first | exact Or.inl rfl | exact Or.inr rfl) (de_call F_parts_of hr (by decide) (da_cons (de_var (pv 0)) da_nil))))
 (dss_cons (ds_if (ps_if (dt_cmp od_is (de_var (pv 1)) de_non (nomark _)) (dss_one ds_fail) dss_nil))
 (dss_one (ds_ret (ps_ret (de_call F_key_from hr (by decide) (da_cons (de_var (pv 1)) da_nil)))))))
theorem sc_is_version : FnScope [("thing" : Str)] [("thing" : Str)] (defScope (top 21)) := ⟨rfl, rfl, rfl, by decide +kernel, rfl, by decide +kernel, by decide +kernel⟩
theorem F_is_version (T : Facts K mg) : Fn P w K mg base 5 "is_version" m_is_version := by
  have F_parts_of := F_parts_of (P := P) (w := w) (base := base) T
  obtain ⟨f, fd, F, hf⟩ := T.d_is_version
  show Fn P w K mg base 5 "is_version" (mFn 1 1 b_is_version)
  refine ⟨f, fd, [("thing" : Str)], fn_ok (k := 4) (m := b_is_version) rfl rfl F sc_is_version fun cdv A outer s H E hr => ?_, hf, F.kp, F.bindsN fun _ _ _ _ _ _ us hl => match us, hl with | [_], _ => rfl⟩
  have hu := hr.units
  exact (dss_one (ds_ret (ps_ret (de_cmp od_isNot (de_call F_parts_of hr (by decide) (da_cons (de_var (pv 0)) da_nil)) de_non (nomark _)))))
theorem sc_order : FnScope [("one" : Str), ("other" : Str), ("mine" : Str), ("theirs" : Str)] [("one" : Str), ("other" : Str)] (defScope (top 22)) := ⟨rfl, rfl, rfl, by decide +kernel, rfl, by decide +kernel, by decide +kernel⟩
theorem F_order (T : Facts K mg) : Fn P w K mg base 6 "order" m_order := by
  have F_need_key := F_need_key (P := P) (w := w) (base := base) T
  obtain ⟨f, fd, F, hf⟩ := T.d_order
  show Fn P w K mg base 6 "order" (mFn 2 4 b_order)
  refine ⟨f, fd, [("one" : Str), ("other" : Str)], fn_ok (k := 5) (m := b_order) rfl rfl F sc_order fun cdv A outer s H E hr => ?_, hf, F.kp, F.bindsN fun _ _ _ _ _ _ us hl => match us, hl with | [_, _], _ => rfl⟩
  have hu := hr.units
  exact (dss_cons (ds_par (ps_par (i := 2) (j := 3) rfl sc_order.nd rfl rfl (by decide) rfl rfl (da_cons (de_call F_need_key hr (by decide) (da_cons (de_var (pv 0)) da_nil)) (da_cons (de_call F_need_key hr (by decide) (da_cons (de_var (pv 1)) da_nil)) da_nil)) rfl))
 (dss_cons (ds_if (ps_if (dt_cmp (od_eq hu) (de_var (pv 2)) (de_var (pv 3)) (nomark _)) (dss_one (ds_ret (ps_ret de_int))) dss_nil))
 (dss_one (ds_ret (ps_ret (de_if (dt_cmp (od_lt hu) (de_var (pv 2)) (de_var (pv 3)) (nomark _)) (de_neg de_int) de_int))))))
theorem sc_plainest : FnScope [("version" : Str)] [("version" : Str)] (defScope (top 23)) := ⟨rfl, rfl, rfl, by decide +kernel, rfl, by decide +kernel, by decide +kernel⟩
theorem F_plainest (T : Facts K mg) : Fn P w K mg base 6 "plainest" m_plainest := by
  have F_need_key := F_need_key (P := P) (w := w) (base := base) T
  have F_text_of := F_text_of (P := P) (w := w) (base := base) T
  obtain ⟨f, fd, F, hf⟩ := T.d_plainest
  show Fn P w K mg base 6 "plainest" (mFn 1 1 b_plainest)
  refine ⟨f, fd, [("version" : Str)], fn_ok (k := 5) (m := b_plainest) rfl rfl F sc_plainest fun cdv A outer s H E hr => ?_, hf, F.kp, F.bindsN fun _ _ _ _ _ _ us hl => match us, hl with | [_], _ => rfl⟩
  have hu := hr.units
  exact (dss_one (ds_ret (ps_ret (de_call F_text_of hr (by decide) (da_cons (de_call F_need_key hr (by decide) (da_cons (de_var (pv 0)) da_nil)) da_nil)))))
theorem sc__law_of : FnScope [("state" : Str), ("some" : Str)] [("state" : Str), ("some" : Str)] (defScope (top 28)) := ⟨rfl, rfl, rfl, by decide +kernel, rfl, by decide +kernel, by decide +kernel⟩
theorem F__law_of (T : Facts K mg) : Fn P w K mg base 3 "_law_of" m__law_of := by
  have F__law_draw := F__law_draw (P := P) (w := w) (base := base) T
  obtain ⟨f, fd, F, hf⟩ := T.d__law_of
  show Fn P w K mg base 3 "_law_of" (mFn 2 2 b__law_of)
  refine ⟨f, fd, [("state" : Str), ("some" : Str)], fn_ok (k := 2) (m := b__law_of) rfl rfl F sc__law_of fun cdv A outer s H E hr => ?_, hf, F.kp, F.bindsN fun _ _ _ _ _ _ us hl => match us, hl with | [_, _], _ => rfl⟩
  have hu := hr.units
  exact (dss_one (ds_ret (ps_ret (de_ix (de_var (pv 1)) (de_call F__law_draw hr (by decide) (da_cons (de_var (pv 0)) (da_cons (de_callB cd_len T.b_len (by decide +kernel) (da_cons (de_var (pv 1)) da_nil)) da_nil)))))))
theorem sc__law_parts : FnScope [("text" : Str), ("epoch" : Str), ("mark" : Str), ("rest" : Str), ("dev" : Str), ("post" : Str), ("fore" : Str), ("sign" : Str), ("number" : Str), ("numbers" : Str)] [("text" : Str)] (defScope (top 29)) := ⟨rfl, rfl, rfl, by decide +kernel, rfl, by decide +kernel, by decide +kernel⟩
theorem F__law_parts (T : Facts K mg) : Fn P w K mg base 1 "_law_parts" m__law_parts := by
  obtain ⟨f, fd, F, hf⟩ := T.d__law_parts
  show Fn P w K mg base 1 "_law_parts" (mFn 1 10 b__law_parts)
  refine ⟨f, fd, [("text" : Str)], fn_ok (k := 0) (m := b__law_parts) rfl rfl F sc__law_parts fun cdv A outer s H E hr => ?_, hf, F.kp, F.bindsN fun _ _ _ _ _ _ us hl => match us, hl with | [_], _ => rfl⟩
  have hu := hr.units
  exact (dss_cons (ds_asg (vs := [1, 2, 3]) (ps_asg (de_mtS PySem.F.slot_str_rpartition PySem.F.type_str_rpartition md_rpart (de_var (pv 0)) (da_cons de_str da_nil)) (dg_tup (pg_tup rfl (dgs_cons (dg_name (pg_name (i := 1) sc__law_parts.nd rfl (by first | exact Or.inl rfl | exact Or.inr rfl))) (dgs_cons (dg_name (pg_name (i := 2) sc__law_parts.nd rfl (by first | exact Or.inl rfl | exact Or.inr rfl))) (dgs_cons (dg_name (pg_name (i := 3) sc__law_parts.nd rfl (by first | exact Or.inl rfl | exact Or.inr rfl))) dgs_nil)))))))
 (dss_cons (ds_asg (vs := [3, 2, 4]) (ps_asg (de_mtS PySem.F.slot_str_partition PySem.F.type_str_partition md_part (de_var (pv 3)) (da_cons de_str da_nil)) (dg_tup (pg_tup rfl (dgs_cons (dg_name (pg_name (i := 3) sc__law_parts.nd rfl (by first | exact Or.inl rfl | exact Or.inr rfl))) (dgs_cons (dg_name (pg_name (i := 2) sc__law_parts.nd rfl (by first | exact Or.inl rfl | exact Or.inr rfl))) (dgs_cons (dg_name (pg_name (i := 4) sc__law_parts.nd rfl (by first | exact Or.inl rfl | exact Or.inr rfl))) dgs_nil)))))))
 (dss_cons (ds_asg (vs := [3, 2, 5]) (ps_asg (de_mtS PySem.F.slot_str_partition PySem.F.type_str_partition md_part (de_var (pv 3)) (da_cons de_str da_nil)) (dg_tup (pg_tup rfl (dgs_cons (dg_name (pg_name (i := 3) sc__law_parts.nd rfl (by first | exact Or.inl rfl | exact Or.inr rfl))) (dgs_cons (dg_name (pg_name (i := 2) sc__law_parts.nd rfl (by first | exact Or.inl rfl | exact Or.inr rfl))) (dgs_cons (dg_name (pg_name (i := 5) sc__law_parts.nd rfl (by first | exact Or.inl rfl | exact Or.inr rfl))) dgs_nil)))))))
 (dss_cons (ds_set (ps_set (i := 6) sc__law_parts.nd rfl (by first | exact Or.inl rfl | exact Or.inr rfl) (DO.de (do_lst (pe_lst da_nil)))))
 (dss_cons (ds_for (vs := [7]) (ps_for PassesOwn.never rfl (di_seq (de_tup (pe_tup (da_cons de_str (da_cons de_str (da_cons de_str da_nil)))))) (dg_name (pg_name (i := 7) sc__law_parts.nd rfl (by first | exact Or.inl rfl | exact Or.inr rfl))) (dss_one (ds_if (ps_if (DW.dt (dw_and (dt_cmp (od_eq hu) (de_var (pv 6)) (DO.de (do_lst (pe_lst da_nil))) (nomark _)) (dw_and1 (dt_cmp (od_in hu) (de_var (pv 7)) (de_var (pv 3)) rfl)))) (dss_cons (ds_asg (vs := [3, 2, 8]) (ps_asg (de_mtS PySem.F.slot_str_partition PySem.F.type_str_partition md_part (de_var (pv 3)) (da_cons (de_var (pv 7)) da_nil)) (dg_tup (pg_tup rfl (dgs_cons (dg_name (pg_name (i := 3) sc__law_parts.nd rfl (by first | exact Or.inl rfl | exact Or.inr rfl))) (dgs_cons (dg_name (pg_name (i := 2) sc__law_parts.nd rfl (by first | exact Or.inl rfl | exact Or.inr rfl))) (dgs_cons (dg_name (pg_name (i := 8) sc__law_parts.nd rfl (by first | exact Or.inl rfl | exact Or.inr rfl))) dgs_nil)))))))
 (dss_one (ds_set (ps_set (i := 6) sc__law_parts.nd rfl (by first | exact Or.inl rfl | exact Or.inr rfl) (DO.de (do_lst (pe_lst (da_cons (de_var (pv 7)) (da_cons (de_callTy cd_int T.b_int (by decide +kernel) (da_cons (de_var (pv 8)) da_nil)) da_nil))))))))) dss_nil)))))
 (dss_cons (ds_setLc (ps_setLc (i := 9) (own := [("number", 8)]) rfl sc__law_parts.nd rfl rfl (sw_true rfl rfl rfl (by decide +kernel)) (di_seq (de_mtS PySem.F.slot_str_split PySem.F.type_str_split md_split (de_var (pv 3)) (da_cons de_str da_nil))) (blkOk_by (N := ["text", "epoch", "mark", "rest", "dev", "post", "fore", "sign", "number", "numbers"]) (sc := defScope (top 29)) (own := [("number", 8)]) (by decide +kernel)) (fun _ _ _ _ _ => (dg_name (pg_name (i := 8) sc__law_parts.nd rfl (by first | exact Or.inl rfl | exact Or.inr rfl)))) (fun _ _ _ _ _ => dts_nil) (fun _ _ _ _ _ => (de_callTy cd_int T.b_int (by decide +kernel) (da_cons (de_var (pv 8)) da_nil)))))
 (dss_one (ds_ret (ps_ret (de_tup (pe_tup (da_cons (de_callTy cd_int T.b_int (by decide +kernel) (da_cons (de_op od_add de_str (de_var (pv 1))) da_nil)) (da_cons (de_var (pv 9)) (da_cons (de_var (pv 6)) (da_cons (de_if (dt_cmp (od_ne hu) (de_var (pv 5)) de_str (nomark _)) (DO.de (do_lst (pe_lst (da_cons (de_callTy cd_int T.b_int (by decide +kernel) (da_cons (de_var (pv 5)) da_nil)) da_nil)))) (DO.de (do_lst (pe_lst da_nil)))) (da_cons (de_if (dt_cmp (od_ne hu) (de_var (pv 4)) de_str (nomark _)) (DO.de (do_lst (pe_lst (da_cons (de_callTy cd_int T.b_int (by decide +kernel) (da_cons (de_var (pv 4)) da_nil)) da_nil)))) (DO.de (do_lst (pe_lst da_nil)))) da_nil))))))))))))))))
theorem sc__law_base : FnScope [("parts" : Str), ("numbers" : Str)] [("parts" : Str)] (defScope (top 30)) := ⟨rfl, rfl, rfl, by decide +kernel, rfl, by decide +kernel, by decide +kernel⟩
theorem F__law_base (T : Facts K mg) : Fn P w K mg base 1 "_law_base" m__law_base := by
  obtain ⟨f, fd, F, hf⟩ := T.d__law_base
  show Fn P w K mg base 1 "_law_base" (mFn 1 2 b__law_base)
  refine ⟨f, fd, [("parts" : Str)], fn_ok (k := 0) (m := b__law_base) rfl rfl F sc__law_base fun cdv A outer s H E hr => ?_, hf, F.kp, F.bindsN fun _ _ _ _ _ _ us hl => match us, hl with | [_], _ => rfl⟩
  have hu := hr.units
  exact (dss_cons (ds_setO (ps_set (i := 1) sc__law_base.nd rfl (by first | exact Or.inl rfl | exact Or.inr rfl) (do_list T.b_list (da_cons (de_ix (de_var (pv 0)) de_int) da_nil))))
 (dss_cons (ds_while (n := fuel) (ps_while PassesOwn.never (DW.dt (dw_and (dt_pkcmp (od_ne hu) (pv 1) (DO.de (do_lst (pe_lst da_nil))) (nomark _)) (dw_and1 (dt_cmp (od_eq hu) (de_pkix (pv 1) (de_neg de_int)) de_int (nomark _))))) (dss_one (ds_pop (ps_expr (pe_bm0 PySem.F.plainAttrs_list PySem.F.slot_list_pop PySem.F.type_list_pop mt_pop (pv 1)))))))
 (dss_one (ds_ret (ps_ret (de_tup (pe_tup (da_cons (de_ix (de_var (pv 0)) de_int) (da_cons (de_var (pv 1)) da_nil)))))))))
theorem sc__law_key : FnScope [("text" : Str), ("parts" : Str), ("epoch" : Str), ("numbers" : Str), ("fore" : Str), ("post" : Str), ("dev" : Str), ("stage" : Str)] [("text" : Str)] (defScope (top 31)) := ⟨rfl, rfl, rfl, by decide +kernel, rfl, by decide +kernel, by decide +kernel⟩
theorem F__law_key (T : Facts K mg) : Fn P w K mg base 2 "_law_key" m__law_key := by
  have F__law_base := F__law_base (P := P) (w := w) (base := base) T
  have F__law_parts := F__law_parts (P := P) (w := w) (base := base) T
  obtain ⟨f, fd, F, hf⟩ := T.d__law_key
  show Fn P w K mg base 2 "_law_key" (mFn 1 8 b__law_key)
  refine ⟨f, fd, [("text" : Str)], fn_ok (k := 1) (m := b__law_key) rfl rfl F sc__law_key fun cdv A outer s H E hr => ?_, hf, F.kp, F.bindsN fun _ _ _ _ _ _ us hl => match us, hl with | [_], _ => rfl⟩
  have hu := hr.units
  exact (dss_cons (ds_set (ps_set (i := 1) sc__law_key.nd rfl (by first | exact Or.inl rfl | exact Or.inr rfl) (de_call F__law_parts hr (by decide) (da_cons (de_var (pv 0)) da_nil))))
 (dss_cons (ds_asg (vs := [2, 3, 4, 5, 6]) (ps_asg (de_var (pv 1)) (dg_tup (pg_tup rfl (dgs_cons (dg_name (pg_name (i := 2) sc__law_key.nd rfl (by first | exact Or.inl rfl | exact Or.inr rfl))) (dgs_cons (dg_name (pg_name (i := 3) sc__law_key.nd rfl (by first | exact Or.inl rfl | exact Or.inr rfl))) (dgs_cons (dg_name (pg_name (i := 4) sc__law_key.nd rfl (by first | exact Or.inl rfl | exact Or.inr rfl))) (dgs_cons (dg_name (pg_name (i := 5) sc__law_key.nd rfl (by first | exact Or.inl rfl | exact Or.inr rfl))) (dgs_cons (dg_name (pg_name (i := 6) sc__law_key.nd rfl (by first | exact Or.inl rfl | exact Or.inr rfl))) dgs_nil)))))))))
 (dss_cons (ds_set (ps_set (i := 7) sc__law_key.nd rfl (by first | exact Or.inl rfl | exact Or.inr rfl) (de_if (dt_cmp (od_ne hu) (de_var (pv 4)) (DO.de (do_lst (pe_lst da_nil))) (nomark _)) (de_op od_add (DO.de (do_lst (pe_lst (da_cons de_int da_nil)))) (de_var (pv 4))) (DO.de (do_lst (pe_lst (da_cons (de_if (DW.dt (dw_and (dt_cmp (od_eq hu) (de_var (pv 5)) (DO.de (do_lst (pe_lst da_nil))) (nomark _)) (dw_and1 (dt_cmp (od_ne hu) (de_var (pv 6)) (DO.de (do_lst (pe_lst da_nil))) (nomark _))))) de_int de_int) da_nil)))))))
 (dss_one (ds_ret (ps_ret (de_tup (pe_tup (da_cons (de_call F__law_base hr (by decide) (da_cons (de_var (pv 1)) da_nil)) (da_cons (de_var (pv 7)) (da_cons (de_if (dt_cmp (od_ne hu) (de_var (pv 5)) (DO.de (do_lst (pe_lst da_nil))) (nomark _)) (de_var (pv 5)) (DO.de (do_lst (pe_lst (da_cons (de_neg de_int) da_nil))))) (da_cons (de_if (dt_cmp (od_ne hu) (de_var (pv 6)) (DO.de (do_lst (pe_lst da_nil))) (nomark _)) (de_op od_add (DO.de (do_lst (pe_lst (da_cons de_int da_nil)))) (de_var (pv 6))) (DO.de (do_lst (pe_lst (da_cons de_int da_nil))))) da_nil))))))))))))
theorem sc__law_text : FnScope [("epoch" : Str), ("numbers" : Str), ("fore" : Str), ("post" : Str), ("dev" : Str), ("found" : Str), ("number" : Str)] [("epoch" : Str), ("numbers" : Str), ("fore" : Str), ("post" : Str), ("dev" : Str)] (defScope (top 32)) := ⟨rfl, rfl, rfl, by decide +kernel, rfl, by decide +kernel, by decide +kernel⟩
theorem F__law_text (T : Facts K mg) : Fn P w K mg base 1 "_law_text" m__law_text := by
  obtain ⟨f, fd, F, hf⟩ := T.d__law_text
  show Fn P w K mg base 1 "_law_text" (mFn 5 7 b__law_text)
  refine ⟨f, fd, [("epoch" : Str), ("numbers" : Str), ("fore" : Str), ("post" : Str), ("dev" : Str)], fn_ok (k := 0) (m := b__law_text) rfl rfl F sc__law_text fun cdv A outer s H E hr => ?_, hf, F.kp, F.bindsN fun _ _ _ _ _ _ us hl => match us, hl with | [_, _, _, _, _], _ => rfl⟩
  have hu := hr.units
  exact (dss_cons (ds_set (ps_set (i := 5) sc__law_text.nd rfl (by first | exact Or.inl rfl | exact Or.inr rfl) (de_op od_add (de_if (dt_cmp od_gtI (de_var (pv 0)) de_int (nomark _)) (de_op od_add (de_callTy cd_str T.b_str (by decide +kernel) (da_cons (de_var (pv 0)) da_nil)) de_str) de_str) (de_mtS PySem.F.slot_str_join PySem.F.type_str_join md_join de_str (da_cons (DO.de (do_lc (pe_lc (own := [("number", 6)]) rfl sc__law_text.nd (di_seq (de_var (pv 1))) (blkOk_by (N := ["epoch", "numbers", "fore", "post", "dev", "found", "number"]) (sc := defScope (top 32)) (own := [("number", 6)]) (by decide +kernel)) (fun _ _ _ _ _ => (dg_name (pg_name (i := 6) sc__law_text.nd rfl (by first | exact Or.inl rfl | exact Or.inr rfl)))) (fun _ _ _ _ _ => dts_nil) (fun _ _ _ _ _ => (de_callTy cd_str T.b_str (by decide +kernel) (da_cons (de_var (pv 6)) da_nil)))))) da_nil)))))
 (dss_cons (ds_set (ps_set (i := 5) sc__law_text.nd rfl (by first | exact Or.inl rfl | exact Or.inr rfl) (de_op od_add (de_var (pv 5)) (de_if (dt_cmp (od_ne hu) (de_var (pv 2)) (DO.de (do_lst (pe_lst da_nil))) (nomark _)) (de_op od_add (de_ix (de_var (pv 2)) de_int) (de_callTy cd_str T.b_str (by decide +kernel) (da_cons (de_ix (de_var (pv 2)) de_int) da_nil))) de_str))))
 (dss_cons (ds_set (ps_set (i := 5) sc__law_text.nd rfl (by first | exact Or.inl rfl | exact Or.inr rfl) (de_op od_add (de_var (pv 5)) (de_if (dt_cmp (od_ne hu) (de_var (pv 3)) (DO.de (do_lst (pe_lst da_nil))) (nomark _)) (de_op od_add de_str (de_callTy cd_str T.b_str (by decide +kernel) (da_cons (de_ix (de_var (pv 3)) de_int) da_nil))) de_str))))
 (dss_one (ds_ret (ps_ret (de_op od_add (de_var (pv 5)) (de_if (dt_cmp (od_ne hu) (de_var (pv 4)) (DO.de (do_lst (pe_lst da_nil))) (nomark _)) (de_op od_add de_str (de_callTy cd_str T.b_str (by decide +kernel) (da_cons (de_ix (de_var (pv 4)) de_int) da_nil))) de_str))))))))
theorem sc__law_small : FnScope [("found" : Str), ("numbers" : Str), ("fore" : Str), ("post" : Str), ("dev" : Str)] [] (defScope (top 33)) := ⟨rfl, rfl, rfl, by decide +kernel, rfl, by decide +kernel, by decide +kernel⟩
theorem F__law_small (T : Facts K mg) : Fn P w K mg base 4 "_law_small" m__law_small := by
  have F__law_key := F__law_key (P := P) (w := w) (base := base) T
  have F__law_text := F__law_text (P := P) (w := w) (base := base) T
  obtain ⟨f, fd, F, hf⟩ := T.d__law_small
  show Fn P w K mg base 4 "_law_small" (mFn 0 5 b__law_small)
  refine ⟨f, fd, [], fn_ok (k := 3) (m := b__law_small) rfl rfl F sc__law_small fun cdv A outer s H E hr => ?_, hf, F.kp, F.bindsN fun _ _ _ _ _ _ us hl => match us, hl with | [], _ => rfl⟩
  have hu := hr.units
  exact (dss_cons (ds_setO (ps_set (i := 0) sc__law_small.nd rfl (by first | exact Or.inl rfl | exact Or.inr rfl) (do_lst (pe_lst da_nil))))
 (dss_cons (ds_for (vs := [1]) (ps_for PassesOwn.never rfl (di_seq (de_tup (pe_tup (da_cons (DO.de (do_lst (pe_lst (da_cons de_int da_nil)))) (da_cons (DO.de (do_lst (pe_lst (da_cons de_int (da_cons de_int da_nil))))) (da_cons (DO.de (do_lst (pe_lst (da_cons de_int da_nil)))) (da_cons (DO.de (do_lst (pe_lst (da_cons de_int (da_cons de_int (da_cons de_int da_nil)))))) (da_cons (DO.de (do_lst (pe_lst (da_cons de_int (da_cons de_int da_nil))))) (da_cons (DO.de (do_lst (pe_lst (da_cons de_int (da_cons de_int da_nil))))) (da_cons (DO.de (do_lst (pe_lst (da_cons de_int da_nil)))) da_nil)))))))))) (dg_name (pg_name (i := 1) sc__law_small.nd rfl (by first | exact Or.inl rfl | exact Or.inr rfl))) (dss_one (ds_for (vs := [2]) (ps_for PassesOwn.never rfl (di_seq (de_tup (pe_tup (da_cons (DO.de (do_lst (pe_lst da_nil))) (da_cons (DO.de (do_lst (pe_lst (da_cons de_str (da_cons de_int da_nil))))) (da_cons (DO.de (do_lst (pe_lst (da_cons de_str (da_cons de_int da_nil))))) (da_cons (DO.de (do_lst (pe_lst (da_cons de_str (da_cons de_int da_nil))))) da_nil))))))) (dg_name (pg_name (i := 2) sc__law_small.nd rfl (by first | exact Or.inl rfl | exact Or.inr rfl))) (dss_one (ds_for (vs := [3, 4]) (ps_for PassesOwn.never rfl (di_seq (de_tup (pe_tup (da_cons (de_tup (pe_tup (da_cons (DO.de (do_lst (pe_lst da_nil))) (da_cons (DO.de (do_lst (pe_lst da_nil))) da_nil)))) (da_cons (de_tup (pe_tup (da_cons (DO.de (do_lst (pe_lst da_nil))) (da_cons (DO.de (do_lst (pe_lst (da_cons de_int da_nil)))) da_nil)))) (da_cons (de_tup (pe_tup (da_cons (DO.de (do_lst (pe_lst (da_cons de_int da_nil)))) (da_cons (DO.de (do_lst (pe_lst da_nil))) da_nil)))) (da_cons (de_tup (pe_tup (da_cons (DO.de (do_lst (pe_lst (da_cons de_int da_nil)))) (da_cons (DO.de (do_lst (pe_lst (da_cons de_int da_nil)))) da_nil)))) da_nil))))))) (dg_tup (pg_tup rfl (dgs_cons (dg_name (pg_name (i := 3) sc__law_small.nd rfl (by first | exact Or.inl rfl | exact Or.inr rfl))) (dgs_cons (dg_name (pg_name (i := 4) sc__law_small.nd rfl (by first | exact Or.inl rfl | exact Or.inr rfl))) dgs_nil)))) (dss_one (ds_append (ps_expr (pe_bm PySem.F.plainAttrs_list PySem.F.slot_list_append PySem.F.type_list_append mt_append (pv 0) (pa_cons (de_call F__law_text hr (by decide) (da_cons de_int (da_cons (de_var (pv 1)) (da_cons (de_var (pv 2)) (da_cons (de_var (pv 3)) (da_cons (de_var (pv 4)) da_nil)))))) pa_nil)))))))))))))
 (dss_one (ds_ret (ps_ret (DO.de (do_sortK F__law_key hr (by decide) hu T.b_sorted (by decide +kernel) (da_cons (de_op od_add (de_var (pv 0)) (DO.de (do_lst (pe_lst (da_cons de_str (da_cons de_str (da_cons de_str da_nil))))))) da_nil))))))))
theorem sc__law_version : FnScope [("state" : Str), ("numbers" : Str), ("way" : Str), ("small" : Str), ("fore" : Str), ("post" : Str), ("dev" : Str), ("k" : Str)] [("state" : Str)] (defScope (top 34)) := ⟨rfl, rfl, rfl, by decide +kernel, rfl, by decide +kernel, by decide +kernel⟩
theorem F__law_version (T : Facts K mg) : Fn P w K mg base 3 "_law_version" m__law_version := by
  have F__law_draw := F__law_draw (P := P) (w := w) (base := base) T
  have F__law_text := F__law_text (P := P) (w := w) (base := base) T
  obtain ⟨f, fd, F, hf⟩ := T.d__law_version
  show Fn P w K mg base 3 "_law_version" (mFn 1 8 b__law_version)
  refine ⟨f, fd, [("state" : Str)], fn_ok (k := 2) (m := b__law_version) rfl rfl F sc__law_version fun cdv A outer s H E hr => ?_, hf, F.kp, F.bindsN fun _ _ _ _ _ _ us hl => match us, hl with | [_], _ => rfl⟩
  have hu := hr.units
  exact (dss_cons (ds_setLc (ps_setLc (i := 1) (own := [("k", 7)]) rfl sc__law_version.nd rfl rfl (sw_true rfl rfl rfl (by decide +kernel)) (di_range1 (pi_range1 rfl T.b_range (da_cons (de_op od_add de_int (de_call F__law_draw hr (by decide) (da_cons (de_var (pv 0)) (da_cons de_int da_nil)))) da_nil))) (blkOk_by (N := ["state", "numbers", "way", "small", "fore", "post", "dev", "k"]) (sc := defScope (top 34)) (own := [("k", 7)]) (by decide +kernel)) (fun _ _ _ _ _ => (dg_name (pg_name (i := 7) sc__law_version.nd rfl (by first | exact Or.inl rfl | exact Or.inr rfl)))) (fun _ _ _ _ _ => dts_nil) (fun _ _ _ _ _ => (de_call F__law_draw hr (by decide) (da_cons (de_var (pv 0)) (da_cons (de_ix (DO.de (do_lst (pe_lst (da_cons de_int (da_cons de_int (da_cons de_int (da_cons de_int da_nil))))))) (de_call F__law_draw hr (by decide) (da_cons (de_var (pv 0)) (da_cons de_int da_nil)))) da_nil))))))
 (dss_cons (ds_if (ps_if (dt_cmp (od_eq hu) (de_call F__law_draw hr (by decide) (da_cons (de_var (pv 0)) (da_cons de_int da_nil))) de_int (nomark _)) (dss_one (ds_set (ps_set (i := 1) sc__law_version.nd rfl (by first | exact Or.inl rfl | exact Or.inr rfl) (de_op od_add (de_var (pv 1)) (DO.de (do_lst (pe_lst (da_cons de_int (da_cons (de_call F__law_draw hr (by decide) (da_cons (de_var (pv 0)) (da_cons (de_op od_pow de_int de_int) da_nil))) da_nil))))))))) dss_nil))
 (dss_cons (ds_par (ps_par (i := 2) (j := 3) rfl sc__law_version.nd rfl rfl (by decide) rfl rfl (da_cons (de_call F__law_draw hr (by decide) (da_cons (de_var (pv 0)) (da_cons de_int da_nil))) (da_cons (DO.de (do_lst (pe_lst (da_cons de_int (da_cons de_int (da_cons de_int (da_cons de_int (da_cons (de_call F__law_draw hr (by decide) (da_cons (de_var (pv 0)) (da_cons de_int da_nil))) da_nil)))))))) da_nil)) rfl))
 (dss_cons (ds_set (ps_set (i := 4) sc__law_version.nd rfl (by first | exact Or.inl rfl | exact Or.inr rfl) (de_if (dt_cmp (od_in hu) (de_var (pv 2)) (de_tup (pe_tup (da_cons de_int (da_cons de_int (da_cons de_int da_nil))))) rfl) (DO.de (do_lst (pe_lst (da_cons (de_ix (DO.de (do_lst (pe_lst (da_cons de_str (da_cons de_str (da_cons de_str da_nil)))))) (de_call F__law_draw hr (by decide) (da_cons (de_var (pv 0)) (da_cons de_int da_nil)))) (da_cons (de_ix (de_var (pv 3)) (de_call F__law_draw hr (by decide) (da_cons (de_var (pv 0)) (da_cons de_int da_nil)))) da_nil))))) (DO.de (do_lst (pe_lst da_nil))))))
 (dss_cons (ds_set (ps_set (i := 5) sc__law_version.nd rfl (by first | exact Or.inl rfl | exact Or.inr rfl) (de_if (dt_cmp (od_in hu) (de_var (pv 2)) (de_tup (pe_tup (da_cons de_int (da_cons de_int (da_cons de_int da_nil))))) rfl) (DO.de (do_lst (pe_lst (da_cons (de_ix (de_var (pv 3)) (de_call F__law_draw hr (by decide) (da_cons (de_var (pv 0)) (da_cons de_int da_nil)))) da_nil)))) (DO.de (do_lst (pe_lst da_nil))))))
 (dss_cons (ds_set (ps_set (i := 6) sc__law_version.nd rfl (by first | exact Or.inl rfl | exact Or.inr rfl) (de_if (dt_cmp (od_in hu) (de_var (pv 2)) (de_tup (pe_tup (da_cons de_int (da_cons de_int (da_cons de_int da_nil))))) rfl) (DO.de (do_lst (pe_lst (da_cons (de_ix (de_var (pv 3)) (de_call F__law_draw hr (by decide) (da_cons (de_var (pv 0)) (da_cons de_int da_nil)))) da_nil)))) (DO.de (do_lst (pe_lst da_nil))))))
 (dss_one (ds_ret (ps_ret (de_call F__law_text hr (by decide) (da_cons (de_ix (DO.de (do_lst (pe_lst (da_cons de_int (da_cons de_int (da_cons de_int (da_cons de_int (da_cons de_int (da_cons de_int (da_cons de_int (da_cons de_int da_nil))))))))))) (de_call F__law_draw hr (by decide) (da_cons (de_var (pv 0)) (da_cons de_int da_nil)))) (da_cons (de_var (pv 1)) (da_cons (de_var (pv 4)) (da_cons (de_var (pv 5)) (da_cons (de_var (pv 6)) da_nil)))))))))))))))
theorem sc__law_dressed : FnScope [("state" : Str), ("text" : Str), ("epoch" : Str), ("numbers" : Str), ("fore" : Str), ("post" : Str), ("dev" : Str), ("found" : Str)] [("state" : Str), ("text" : Str)] (defScope (top 35)) := ⟨rfl, rfl, rfl, by decide +kernel, rfl, by decide +kernel, by decide +kernel⟩
theorem F__law_dressed (T : Facts K mg) : Fn P w K mg base 3 "_law_dressed" m__law_dressed := by
  have F__law_draw := F__law_draw (P := P) (w := w) (base := base) T
  have F__law_parts := F__law_parts (P := P) (w := w) (base := base) T
  have F__law_text := F__law_text (P := P) (w := w) (base := base) T
  obtain ⟨f, fd, F, hf⟩ := T.d__law_dressed
  show Fn P w K mg base 3 "_law_dressed" (mFn 2 8 b__law_dressed)
  refine ⟨f, fd, [("state" : Str), ("text" : Str)], fn_ok (k := 2) (m := b__law_dressed) rfl rfl F sc__law_dressed fun cdv A outer s H E hr => ?_, hf, F.kp, F.bindsN fun _ _ _ _ _ _ us hl => match us, hl with | [_, _], _ => rfl⟩
  have hu := hr.units
  exact (dss_cons (ds_asg (vs := [2, 3, 4, 5, 6]) (ps_asg (de_call F__law_parts hr (by decide) (da_cons (de_var (pv 1)) da_nil)) (dg_tup (pg_tup rfl (dgs_cons (dg_name (pg_name (i := 2) sc__law_dressed.nd rfl (by first | exact Or.inl rfl | exact Or.inr rfl))) (dgs_cons (dg_name (pg_name (i := 3) sc__law_dressed.nd rfl (by first | exact Or.inl rfl | exact Or.inr rfl))) (dgs_cons (dg_name (pg_name (i := 4) sc__law_dressed.nd rfl (by first | exact Or.inl rfl | exact Or.inr rfl))) (dgs_cons (dg_name (pg_name (i := 5) sc__law_dressed.nd rfl (by first | exact Or.inl rfl | exact Or.inr rfl))) (dgs_cons (dg_name (pg_name (i := 6) sc__law_dressed.nd rfl (by first | exact Or.inl rfl | exact Or.inr rfl))) dgs_nil)))))))))
 (dss_cons (ds_set (ps_set (i := 7) sc__law_dressed.nd rfl (by first | exact Or.inl rfl | exact Or.inr rfl) (de_call F__law_text hr (by decide) (da_cons (de_var (pv 2)) (da_cons (de_sl (de_op od_add (de_var (pv 3)) (de_op od_mul (DO.de (do_lst (pe_lst (da_cons de_int da_nil)))) (de_call F__law_draw hr (by decide) (da_cons (de_var (pv 0)) (da_cons de_int da_nil))))) dpo_none (dpo_some de_int)) (da_cons (de_var (pv 4)) (da_cons (de_var (pv 5)) (da_cons (de_var (pv 6)) da_nil))))))))
 (dss_one (ds_ret (ps_ret (de_if (DW.dt (dw_and (dt_cmp (od_eq hu) (de_var (pv 2)) de_int (nomark _)) (dw_and1 (dt_cmp (od_eq hu) (de_call F__law_draw hr (by decide) (da_cons (de_var (pv 0)) (da_cons de_int da_nil))) de_int (nomark _))))) (de_op od_add de_str (de_var (pv 7))) (de_var (pv 7))))))))
theorem sc__law_due : FnScope [("text" : Str), ("epoch" : Str), ("numbers" : Str), ("fore" : Str), ("post" : Str), ("dev" : Str), ("own" : Str)] [("text" : Str)] (defScope (top 36)) := ⟨rfl, rfl, rfl, by decide +kernel, rfl, by decide +kernel, by decide +kernel⟩
theorem F__law_due (T : Facts K mg) : Fn P w K mg base 2 "_law_due" m__law_due := by
  have F__law_base := F__law_base (P := P) (w := w) (base := base) T
  have F__law_parts := F__law_parts (P := P) (w := w) (base := base) T
  have F__law_text := F__law_text (P := P) (w := w) (base := base) T
  obtain ⟨f, fd, F, hf⟩ := T.d__law_due
  show Fn P w K mg base 2 "_law_due" (mFn 1 7 b__law_due)
  refine ⟨f, fd, [("text" : Str)], fn_ok (k := 1) (m := b__law_due) rfl rfl F sc__law_due fun cdv A outer s H E hr => ?_, hf, F.kp, F.bindsN fun _ _ _ _ _ _ us hl => match us, hl with | [_], _ => rfl⟩
  have hu := hr.units
  exact (dss_cons (ds_asg (vs := [1, 2, 3, 4, 5]) (ps_asg (de_call F__law_parts hr (by decide) (da_cons (de_var (pv 0)) da_nil)) (dg_tup (pg_tup rfl (dgs_cons (dg_name (pg_name (i := 1) sc__law_due.nd rfl (by first | exact Or.inl rfl | exact Or.inr rfl))) (dgs_cons (dg_name (pg_name (i := 2) sc__law_due.nd rfl (by first | exact Or.inl rfl | exact Or.inr rfl))) (dgs_cons (dg_name (pg_name (i := 3) sc__law_due.nd rfl (by first | exact Or.inl rfl | exact Or.inr rfl))) (dgs_cons (dg_name (pg_name (i := 4) sc__law_due.nd rfl (by first | exact Or.inl rfl | exact Or.inr rfl))) (dgs_cons (dg_name (pg_name (i := 5) sc__law_due.nd rfl (by first | exact Or.inl rfl | exact Or.inr rfl))) dgs_nil)))))))))
 (dss_cons (ds_set (ps_set (i := 6) sc__law_due.nd rfl (by first | exact Or.inl rfl | exact Or.inr rfl) (de_ix (de_call F__law_base hr (by decide) (da_cons (de_tup (pe_tup (da_cons (de_var (pv 1)) (da_cons (de_var (pv 2)) da_nil)))) da_nil)) de_int)))
 (dss_one (ds_ret (ps_ret (de_call F__law_text hr (by decide) (da_cons (de_var (pv 1)) (da_cons (de_if (dt_cmp (od_ne hu) (de_var (pv 6)) (DO.de (do_lst (pe_lst da_nil))) (nomark _)) (de_var (pv 6)) (DO.de (do_lst (pe_lst (da_cons de_int da_nil))))) (da_cons (de_var (pv 3)) (da_cons (de_var (pv 4)) (da_cons (de_var (pv 5)) da_nil)))))))))))
theorem sc__law_right : FnScope [("state" : Str), ("text" : Str), ("due" : Str), ("turn" : Str), ("other" : Str)] [("state" : Str), ("text" : Str)] (defScope (top 37)) := ⟨rfl, rfl, rfl, by decide +kernel, rfl, by decide +kernel, by decide +kernel⟩
theorem F__law_right (T : Facts K mg) : Fn P w K mg base 7 "_law_right" m__law_right := by
  have F__law_dressed := F__law_dressed (P := P) (w := w) (base := base) T
  have F__law_due := F__law_due (P := P) (w := w) (base := base) T
  have F_is_version := F_is_version (P := P) (w := w) (base := base) T
  have F_order := F_order (P := P) (w := w) (base := base) T
  have F_plainest := F_plainest (P := P) (w := w) (base := base) T
  obtain ⟨f, fd, F, hf⟩ := T.d__law_right
  show Fn P w K mg base 7 "_law_right" (mFn 2 5 b__law_right)
  refine ⟨f, fd, [("state" : Str), ("text" : Str)], fn_ok (k := 6) (m := b__law_right) rfl rfl F sc__law_right fun cdv A outer s H E hr => ?_, hf, F.kp, F.bindsN fun _ _ _ _ _ _ us hl => match us, hl with | [_, _], _ => rfl⟩
  have hu := hr.units
  exact (dss_cons (ds_set (ps_set (i := 2) sc__law_right.nd rfl (by first | exact Or.inl rfl | exact Or.inr rfl) (de_call F__law_due hr (by decide) (da_cons (de_var (pv 1)) da_nil))))
 (dss_cons (ds_for (vs := [3]) (ps_for PassesOwn.never rfl (di_range1 (pi_range1 rfl T.b_range (da_cons de_int da_nil))) (dg_name (pg_name (i := 3) sc__law_right.nd rfl (by first | exact Or.inl rfl | exact Or.inr rfl))) (dss_cons (ds_set (ps_set (i := 4) sc__law_right.nd rfl (by first | exact Or.inl rfl | exact Or.inr rfl) (de_call F__law_dressed hr (by decide) (da_cons (de_var (pv 0)) (da_cons (de_var (pv 1)) da_nil)))))
 (dss_one (ds_if (ps_if (DW.dt (dw_or (dt_cmp (od_ne hu) (de_call F_plainest hr (by decide) (da_cons (de_var (pv 4)) da_nil)) (de_var (pv 2)) (nomark _)) (dw_or (dt_cmp (od_ne hu) (de_call F_order hr (by decide) (da_cons (de_var (pv 4)) (da_cons (de_var (pv 2)) da_nil))) de_int (nomark _)) (dw_or1 (dt_cmp od_gtI (de_callB cd_len T.b_len (by decide +kernel) (da_cons (de_var (pv 2)) da_nil)) (de_callB cd_len T.b_len (by decide +kernel) (da_cons (de_var (pv 4)) da_nil)) (nomark _)))))) (dss_one (ds_ret (ps_ret de_bl))) dss_nil))))))
 (dss_one (ds_ret (ps_ret (de_and (de_cmp (od_eq hu) (de_call F_plainest hr (by decide) (da_cons (de_var (pv 2)) da_nil)) (de_var (pv 2)) (nomark _)) (de_and (de_cmp (od_eq hu) (de_call F_plainest hr (by decide) (da_cons (de_var (pv 1)) da_nil)) (de_var (pv 2)) (nomark _)) (de_one (de_cmp od_is (de_call F_is_version hr (by decide) (da_cons (de_var (pv 2)) da_nil)) de_bl (nomark _))))))))))
theorem sc_law : FnScope [("script" : Str), ("state" : Str), ("small" : Str), ("turn" : Str), ("some" : Str), ("one" : Str), ("other" : Str), ("due" : Str), ("text" : Str), ("k" : Str)] [("script" : Str)] (defScope (top 38)) := ⟨rfl, rfl, rfl, by decide +kernel, rfl, by decide +kernel, by decide +kernel⟩
def LawMath : Prop := ∀ ns : List Int, ns.length ≤ 63 → ∃ env' w', b_law (env0 ns.length 10 1) (some (beginDS ns)) = some (.rt (.d (.bool true)), env', w')
theorem F_law (T : Facts K mg) (hM : LawMath) {f : Addr} {fd : FuncData} (F : FunD K "law" "law" (defArgs (top 38)) (defBody (top 38)) (defScope (top 38)) [] [] f fd) : FnOk P w K mg base CX0 8 f fd [("script" : Str)] (spLaw K) := by
  have F__law_key := F__law_key (P := P) (w := w) (base := base) T
  have F__law_of := F__law_of (P := P) (w := w) (base := base) T
  have F__law_right := F__law_right (P := P) (w := w) (base := base) T
  have F__law_small := F__law_small (P := P) (w := w) (base := base) T
  have F__law_version := F__law_version (P := P) (w := w) (base := base) T
  have F_plainest := F_plainest (P := P) (w := w) (base := base) T
  obtain ⟨fB, fdB, GB, gB, kB, bB⟩ := begin_row (P := P) (w := w) (base := base) T
  refine F.ok (k := 7) sc_law (fun vs H Q E h => ?_) (fun cdv A outer s H vs Q E hr h => ⟨_, PSs.nox (pss_cons (ps_set (i := 1) sc_law.nd rfl (by first | exact Or.inl rfl | exact Or.inr rfl) (pe_call GB (hr.mono (by decide)) rfl gB kB bB .nil pass0 (pa_cons (pv 0) pa_nil))) (show DSs _ _ b_law from ?body)), ?_⟩)
  case body =>
    have hu := hr.units
    exact (dss_cons (ds_set (ps_set (i := 2) sc_law.nd rfl (by first | exact Or.inl rfl | exact Or.inr rfl) (de_call0 F__law_small hr (by decide))))
 (dss_cons (ds_for (vs := [3]) (ps_for PassesOwn.never rfl (di_range1 (pi_range1 rfl T.b_range (da_cons (de_op od_add de_int (de_callB (cd_min2 rfl) T.b_min (by decide +kernel) (da_cons de_int (da_cons (de_scrlen T.b_len (pv 0)) da_nil)))) da_nil))) (dg_name (pg_name (i := 3) sc_law.nd rfl (by first | exact Or.inl rfl | exact Or.inr rfl))) (dss_cons (ds_set (ps_set (i := 4) sc_law.nd rfl (by first | exact Or.inl rfl | exact Or.inr rfl) (de_op od_add (DO.de (do_lc (pe_lc (own := [("k", 9)]) rfl sc_law.nd (di_range1 (pi_range1 rfl T.b_range (da_cons de_int da_nil))) (blkOk_by (N := ["script", "state", "small", "turn", "some", "one", "other", "due", "text", "k"]) (sc := defScope (top 38)) (own := [("k", 9)]) (by decide +kernel)) (fun _ _ _ _ _ => (dg_name (pg_name (i := 9) sc_law.nd rfl (by first | exact Or.inl rfl | exact Or.inr rfl)))) (fun _ _ _ _ _ => dts_nil) (fun _ _ _ _ _ => (de_call F__law_of hr (by decide) (da_cons (de_var (pv 1)) (da_cons (de_var (pv 2)) da_nil))))))) (DO.de (do_lc (pe_lc (own := [("k", 9)]) rfl sc_law.nd (di_range1 (pi_range1 rfl T.b_range (da_cons de_int da_nil))) (blkOk_by (N := ["script", "state", "small", "turn", "some", "one", "other", "due", "text", "k"]) (sc := defScope (top 38)) (own := [("k", 9)]) (by decide +kernel)) (fun _ _ _ _ _ => (dg_name (pg_name (i := 9) sc_law.nd rfl (by first | exact Or.inl rfl | exact Or.inr rfl)))) (fun _ _ _ _ _ => dts_nil) (fun _ _ _ _ _ => (de_call F__law_version hr (by decide) (da_cons (de_var (pv 1)) da_nil)))))))))
 (dss_cons (ds_if (ps_if (dt_cmp (od_ne hu) (DO.de (do_lc (pe_lc (own := [("text", 8)]) rfl sc_law.nd (di_seq (de_var (pv 4))) (blkOk_by (N := ["script", "state", "small", "turn", "some", "one", "other", "due", "text", "k"]) (sc := defScope (top 38)) (own := [("text", 8)]) (by decide +kernel)) (fun _ _ _ _ _ => (dg_name (pg_name (i := 8) sc_law.nd rfl (by first | exact Or.inl rfl | exact Or.inr rfl)))) (fun _ _ _ _ _ => (dts_one (dt_not (dt_val (de_call F__law_right hr (by decide) (da_cons (de_var (pv 1)) (da_cons (de_var (pv 8)) da_nil))))))) (fun _ _ _ _ _ => (de_var (pv 8)))))) (DO.de (do_lst (pe_lst da_nil))) (nomark _)) (dss_one (ds_ret (ps_ret de_bl))) dss_nil))
 (dss_one (ds_for (vs := [5]) (ps_for PassesOwn.never rfl (di_seq (de_var (pv 4))) (dg_name (pg_name (i := 5) sc_law.nd rfl (by first | exact Or.inl rfl | exact Or.inr rfl))) (dss_one (ds_for (vs := [6]) (ps_for PassesOwn.never rfl (di_seq (de_var (pv 4))) (dg_name (pg_name (i := 6) sc_law.nd rfl (by first | exact Or.inl rfl | exact Or.inr rfl))) (dss_one (ds_if (ps_if (dt_cmp (od_ne hu) (de_cmp (od_eq hu) (de_call F_plainest hr (by decide) (da_cons (de_var (pv 5)) da_nil)) (de_call F_plainest hr (by decide) (da_cons (de_var (pv 6)) da_nil)) (nomark _)) (de_cmp (od_eq hu) (de_call F__law_key hr (by decide) (da_cons (de_var (pv 5)) da_nil)) (de_call F__law_key hr (by decide) (da_cons (de_var (pv 6)) da_nil)) (nomark _)) (nomark _)) (dss_one (ds_ret (ps_ret de_bl))) dss_nil)))))))))))))
 (dss_cons (ds_set (ps_set (i := 4) sc_law.nd rfl (by first | exact Or.inl rfl | exact Or.inr rfl) (DO.de (do_lst (pe_lst (da_cons de_str (da_cons de_str (da_cons de_str (da_cons de_str (da_cons de_str (da_cons de_str (da_cons de_str (da_cons de_str (da_cons de_str da_nil))))))))))))))
 (dss_cons (ds_set (ps_set (i := 7) sc_law.nd rfl (by first | exact Or.inl rfl | exact Or.inr rfl) (DO.de (do_lst (pe_lst (da_cons de_str (da_cons de_str (da_cons de_str (da_cons de_str (da_cons de_str (da_cons de_str (da_cons de_str (da_cons de_str (da_cons de_str da_nil))))))))))))))
 (dss_one (ds_ret (ps_ret (de_cmp (od_eq hu) (DO.de (do_lc (pe_lc (own := [("text", 8)]) rfl sc_law.nd (di_seq (de_var (pv 4))) (blkOk_by (N := ["script", "state", "small", "turn", "some", "one", "other", "due", "text", "k"]) (sc := defScope (top 38)) (own := [("text", 8)]) (by decide +kernel)) (fun _ _ _ _ _ => (dg_name (pg_name (i := 8) sc_law.nd rfl (by first | exact Or.inl rfl | exact Or.inr rfl)))) (fun _ _ _ _ _ => dts_nil) (fun _ _ _ _ _ => (de_call F_plainest hr (by decide) (da_cons (de_var (pv 8)) da_nil)))))) (de_var (pv 7)) (nomark _)))))))))
  · obtain ⟨a, ns, rfl, _⟩ := h
    rfl
  · obtain ⟨a, ns, rfl, hl, hO, hS, hQ⟩ := h
    obtain ⟨env', w', hm⟩ := hM ns hl
    refine ⟨_, rfl, a, ns, rfl, hS, hl, fun ad H1 sm n1 n2 n3 ne e1 e2 e3 => ?_⟩
    exact law_rest (N := [("script" : Str), ("state" : Str), ("small" : Str), ("turn" : Str), ("some" : Str), ("one" : Str), ("other" : Str), ("due" : Str), ("text" : Str), ("k" : Str)]) hO hS rfl (by decide) (by decide) sm n1 n2 n3 ne e1 e2 e3 hm hQ
end
end Dn

set_option maxHeartbeats 4000000
set_option maxHeartbeats 0
namespace Dn
open PySem PySem.Spec PyProof.Rows L2
def hfn : List He.DefD := [mkD "number_at" (top 10), mkD "numbers_at" (top 11), mkD "word_at" (top 12), mkD "tail_at" (top 13), mkD "parts_of" (top 14), mkD "based" (top 15), mkD "tail_of" (top 16), mkD "split_tail" (top 17), mkD "key_from" (top 18), mkD "text_of" (top 19), mkD "need_key" (top 20), mkD "is_version" (top 21), mkD "order" (top 22), mkD "plainest" (top 23), mkD "_law_mixed" (top 25), mkD "_law_begin" (top 26), mkD "_law_draw" (top 27), mkD "_law_of" (top 28), mkD "_law_parts" (top 29), mkD "_law_base" (top 30), mkD "_law_key" (top 31), mkD "_law_text" (top 32), mkD "_law_small" (top 33), mkD "_law_version" (top 34), mkD "_law_dressed" (top 35), mkD "_law_due" (top 36), mkD "_law_right" (top 37), mkD "law" (top 38)]
def hfa : List He.Fa := [.glo ("number_at" : Str), .glo ("numbers_at" : Str), .glo ("word_at" : Str), .glo ("tail_at" : Str), .glo ("parts_of" : Str), .glo ("based" : Str), .glo ("tail_of" : Str), .glo ("split_tail" : Str), .glo ("key_from" : Str), .glo ("text_of" : Str), .glo ("need_key" : Str), .glo ("is_version" : Str), .glo ("order" : Str), .glo ("plainest" : Str), .glo ("_law_mixed" : Str), .glo ("_law_begin" : Str), .glo ("_law_draw" : Str), .glo ("_law_of" : Str), .glo ("_law_parts" : Str), .glo ("_law_base" : Str), .glo ("_law_key" : Str), .glo ("_law_text" : Str), .glo ("_law_small" : Str), .glo ("_law_version" : Str), .glo ("_law_dressed" : Str), .glo ("_law_due" : Str), .glo ("_law_right" : Str), .glo ("law" : Str), .free ("int" : Str), .free ("isinstance" : Str), .free ("len" : Str), .free ("list" : Str), .free ("min" : Str), .free ("range" : Str), .free ("sorted" : Str), .free ("str" : Str), .free ("tuple" : Str)]
def hex (K : PySem.W.Frag) : Bool := conB K "DEV" (.str ".dev") && (conB K "FIGURES" (.str "0123456789") && (conB K "MOST_FIGURES" (.int 24) && (conB K "MOST_NUMBERS" (.int 60) && (conB K "POST" (.str ".post") && (gtB K "WORDS" ["a", "b", "rc"] && (true))))))
abbrev hR : PySem.W.OpenRow := PySem.W.OpenLaw.row PySem.Challenge.rw_pickedrelease_k04_whole_plainest_texts
abbrev hk : PySem.W.Hook := He.hookX 4 hfa hfn [] [] hex
def hob (s : PySem.W.SharedT) : He.AlX := He.obsX 4 hfa hfn [] [] hex (HandSHeadRun.getT s)
theorem hob_eq (s : PySem.W.SharedT) : hob s = hk.obs s.abs := He.obsX_eq (HandSHeadRun.getT_eq s)
def hloose : List Str := [("PickError" : Str), ("BadVersion" : Str), ("FIGURES" : Str), ("MOST_FIGURES" : Str), ("MOST_NUMBERS" : Str), ("WORDS" : Str), ("POST" : Str), ("DEV" : Str), ("number_at" : Str), ("numbers_at" : Str), ("word_at" : Str), ("tail_at" : Str), ("parts_of" : Str), ("based" : Str), ("tail_of" : Str), ("split_tail" : Str), ("key_from" : Str), ("text_of" : Str), ("need_key" : Str), ("is_version" : Str), ("order" : Str), ("plainest" : Str), ("_law_mixed" : Str), ("_law_begin" : Str), ("_law_draw" : Str), ("_law_of" : Str), ("_law_parts" : Str), ("_law_base" : Str), ("_law_key" : Str), ("_law_text" : Str), ("_law_small" : Str), ("_law_version" : Str), ("_law_dressed" : Str), ("_law_due" : Str), ("_law_right" : Str)]
theorem hrun (w : World) : HandSHeadRun.RunEq hR (PySem.W.view hR.prog [38]) hk hob 40000 hloose w := by
  intro os
  kernel_rfl
theorem facts {K : PySem.W.Frag} {h : Heap} {mg : Str → Option Value} (X : K.In h) (G : h.Ns mainGlobals mg) (c : He.SaysD hfa hfn K) (e : hex K = true) : Facts K mg := by
  simp only [hex, Bool.and_eq_true] at e
  obtain ⟨e_DEV, e_FIGURES, e_MOST_FIGURES, e_MOST_NUMBERS, e_POST, e_WORDS, _⟩ := e
  exact {
    b_int := He.free_ok X G (c.fact 28 rfl)
    b_isinstance := He.free_ok X G (c.fact 29 rfl)
    b_len := He.free_ok X G (c.fact 30 rfl)
    b_list := He.free_ok X G (c.fact 31 rfl)
    b_min := He.free_ok X G (c.fact 32 rfl)
    b_range := He.free_ok X G (c.fact 33 rfl)
    b_sorted := He.free_ok X G (c.fact 34 rfl)
    b_str := He.free_ok X G (c.fact 35 rfl)
    b_tuple := He.free_ok X G (c.fact 36 rfl)
    c_DEV := con_str X G e_DEV
    c_FIGURES := con_str X G e_FIGURES
    c_MOST_FIGURES := con_int X G e_MOST_FIGURES
    c_MOST_NUMBERS := con_int X G e_MOST_NUMBERS
    c_POST := con_str X G e_POST
    c_WORDS := gtB_ok X G e_WORDS
    d_number_at := def_ok X G c 0 0 rfl rfl
    d_numbers_at := def_ok X G c 1 1 rfl rfl
    d_word_at := def_ok X G c 2 2 rfl rfl
    d_tail_at := def_ok X G c 3 3 rfl rfl
    d_parts_of := def_ok X G c 4 4 rfl rfl
    d_based := def_ok X G c 5 5 rfl rfl
    d_tail_of := def_ok X G c 6 6 rfl rfl
    d_split_tail := def_ok X G c 7 7 rfl rfl
    d_key_from := def_ok X G c 8 8 rfl rfl
    d_text_of := def_ok X G c 9 9 rfl rfl
    d_need_key := def_ok X G c 10 10 rfl rfl
    d_is_version := def_ok X G c 11 11 rfl rfl
    d_order := def_ok X G c 12 12 rfl rfl
    d_plainest := def_ok X G c 13 13 rfl rfl
    d__law_mixed := def_ok X G c 14 14 rfl rfl
    d__law_begin := def_ok X G c 15 15 rfl rfl
    d__law_draw := def_ok X G c 16 16 rfl rfl
    d__law_of := def_ok X G c 17 17 rfl rfl
    d__law_parts := def_ok X G c 18 18 rfl rfl
    d__law_base := def_ok X G c 19 19 rfl rfl
    d__law_key := def_ok X G c 20 20 rfl rfl
    d__law_text := def_ok X G c 21 21 rfl rfl
    d__law_small := def_ok X G c 22 22 rfl rfl
    d__law_version := def_ok X G c 23 23 rfl rfl
    d__law_dressed := def_ok X G c 24 24 rfl rfl
    d__law_due := def_ok X G c 25 25 rfl rfl
    d__law_right := def_ok X G c 26 26 rfl rfl
    d_law := def_ok X G c 27 27 rfl rfl
  }
end Dn
open PySem PySem.W PySem.Calls PyProof.Rows
theorem law_holds (hM : Dn.LawMath) : PySem.Challenge.rw_pickedrelease_k04_whole_plainest_texts.Holds := by
  w_on; o_law
  refine HandSHeadRun.head_any (r := OpenLaw.row PySem.Challenge.rw_pickedrelease_k04_whole_plainest_texts) (q := view (OpenLaw.row PySem.Challenge.rw_pickedrelease_k04_whole_plainest_texts).prog [38]) (H := Dn.hk) (ob := Dn.hob) (M := 40000) (loose := Dn.hloose) (d := HandSHeadRun.topDef (OpenLaw.row PySem.Challenge.rw_pickedrelease_k04_whole_plainest_texts).prog 38) (kwd := []) Dn.hob_eq
    (by kernel_rfl) (fun s => by kernel_rfl) Dn.hrun (by kernel_rfl) (by kernel_rfl) (by kernel_rfl) (by rfl) (by first | assumption | decide +kernel) (by decide +kernel) ⟨rfl, rfl, rfl, rfl, rfl, by decide +kernel⟩ ?hw ?hc
  case hw => w_witness2
  case hc =>
    refine L2.walk_ofE (l := PySem.Challenge.rw_pickedrelease_k04_whole_plainest_texts) (n := 63) (k := 8) (x := "script") (CX := L2.CX0) rfl (by decide) (by kernel_rfl) ⟨rfl, by decide, by decide⟩ ?F (fun _ _ _ _ z => z)
    intro w mg fa h Y G hmg0
    obtain ⟨K, KX, c⟩ := Y
    have hmg : mg ("law" : PySem.Str) = some (.ref fa) := by
      have e : (HandSHeadRun.topDef (OpenLaw.row PySem.Challenge.rw_pickedrelease_k04_whole_plainest_texts).prog 38).name = ("law" : PySem.Str) := by kernel_rfl
      rw [← e]
      exact hmg0
    have T := Dn.facts KX G (He.SaysT.d c.t) c.more
    obtain ⟨f, fd, F, hf⟩ := T.d_law
    have e0 := hmg.symm.trans hf
    cases e0
    have bnd := L2.FunD.bindsA (ps := [("script" : PySem.Str)]) F fun _ _ _ _ _ _ us hl => match us, hl with | [_], _ => rfl
    exact ⟨K, fd, Dn.spLaw K, KX, fun s v => bnd s [v] rfl, fun H a ns hl hO hS => ⟨a, ns, rfl, hl, hO, hS, fun _ => rfl⟩, fun base _ _ => Dn.F_law T hM F⟩

theorem PySem.Challenge.cw_pickedrelease_k04_whole_plainest_texts_holds : PySem.Challenge.rw_pickedrelease_k04_whole_plainest_texts.Holds := by
  exact law_holds Dn.law_math
