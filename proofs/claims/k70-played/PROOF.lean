import PyProof.Rows.All
import Wide.All
import OpenK.AllK
import Wide.FinOn
import KE.KStateDown
import Lean
import HandS.ForMost
import HandS.Exc
import HandS.TryOnly
import HandS.ExcOwn
import HandS.WordsExc
import HandS.More
import HandS.Flow
import HandS.Style
import HandS.IsInst
import HandS.Deep
import KE.DataFind
import KE.GoesEnum
import HandS.WideBits
import HandS.TupAny
import HandS.TupLe
import HandS.Wide
import HandS.FStr
import HandS.Zip
import HandS.Conv
import HandS.Codes
import HandS.OwnEq
import HandS.SortOrd
import HandS.DictTup
import HandS.Defaults
import HandS.SetFor
import HandS.Head0
import HandS.Head1
import HandS.Head2
import HandS.HeadEnd
import HandS.HeadHook1
import HandS.HeadHook2
import HandS.HeadHook3
import HandS.HeadHook4
import PySem.Challenge.RW_turnedleaves_k70_whole_played
set_option Elab.async false
set_option linter.all false
set_option maxRecDepth 100000
set_option maxHeartbeats 4000000
namespace TL
open PySem PySem.Spec PyProof.Rows L2
/-! ### defs by name -/
def fdOf (K : PySem.W.Frag) (p : Str × Option Str) : FuncData := match K.lookup (He.fAd K p) with
  | some ⟨_, _, .func fd, _⟩ => fd
  | _ => PySem.W.fnOf "" "" { posonlyargs := [], args := [], vararg := none, kwonlyargs := [], kw_defaults := [], kwarg := none, defaults := [] } [] { kind := .function, names := [], isGenerator := false, isCoroutine := false } .none .none .none .none none .none .none
abbrev Df (K : PySem.W.Frag) (p : Str × Option Str) (x q : Str) (st : Stmt) (dv : List V) : Prop := FunD K x q (defArgs st) (defBody st) (defScope st) dv [] (He.fAd K p) (fdOf K p)
theorem df_of {K : PySem.W.Frag} {p : Str × Option Str} {x q : Str} {pa : Arguments} {bd : List Stmt} {sc : Scope} {dv : List V} {kw : List (Str × V)} (h : ∃ fd, FunD K x q pa bd sc dv kw (He.fAd K p) fd) : FunD K x q pa bd sc dv kw (He.fAd K p) (fdOf K p) := by
  obtain ⟨fd, F⟩ := h
  obtain ⟨oc, od, dV, kV, doc, pm, an, cdv, ct, osl, e, lk, _⟩ := id F.ex
  have e2 : fdOf K p = fd := by
    unfold fdOf
    rw [lk]
  rw [e2]
  exact F
abbrev OkF (P : Program) (w : World) (K : PySem.W.Frag) (mg : Str → Option Value) (base : Heap) (CX : CXT) (k : Nat) (p : Str × Option Str) (ps : List Str) (sp : Sp) : Prop := FnOk P w K mg base CX k (He.fAd K p) (fdOf K p) ps sp
section
variable {P : Program} {w : World} {K : PySem.W.Frag} {mg : Str → Option Value} {base : Heap} {x qual : Str} {params : Arguments} {body : List Stmt} {scope : Scope} {dvs : List V} {kws : List (Str × V)} {f : Addr} {fd : FuncData}
theorem okN {N ps : List Str} {k : Nat} {sp : Sp} (F : FunD K x qual params body scope dvs kws f fd) (S : FnScope N ps scope) (len : ∀ vs H Q E, sp vs H Q E → vs.length = ps.length)
    (hbody : ∀ (cdv : Value) (A : Around) (outer : List Env) (s : Shared) (H : Hp) (vs : List V) (Q : VK) (E : XK), Room k (A.deeper (envOfC qual scope s.heap.objs.size f cdv)) → sp vs H Q E →
      ∃ t, PSs (cxOf CX0 P w K mg base N qual scope f cdv A outer s H E).nox body t ∧ t { nx := fun _ H' => Q .non H', rt := Q } (start N vs) H) : FnOk P w K mg base CX0 (k + 1) f fd ps sp := by
  refine F.ok S len fun cdv A outer s H vs Q E hr hsp => ?_
  obtain ⟨t, h, q⟩ := hbody cdv A outer s H vs Q E hr hsp
  exact ⟨t, h.nox, q⟩
end
/-! ### heaps -/
theorem same_upd {H : Hp} {p : Addr} {o : HO} (h : H p = none) : Same H (upd H p o) := fun b x e => by
  rw [upd_ne (ne_of_none e h)]
  exact e
theorem same_updR {H H1 : Hp} {p : Addr} {o : HO} (s : Same H H1) (h : H p = none) : Same H (upd H1 p o) := fun b x e => by
  rw [upd_ne (ne_of_none e h)]
  exact s b x e
theorem same_sqt {K : PySem.W.Frag} {H H' : Hp} {a : Addr} {xs : List V} (e : Same H H') (h : SqT K H a xs) : SqT K H' a xs := by
  rcases h with (h | ⟨o, h⟩) | h
  · exact .inl (.inl (e _ _ h))
  · exact .inl (.inr ⟨o, e _ _ h⟩)
  · exact .inr h
/-- all that was tracked is as it was but at ds; tuples and what is locked stay -/
structure Fr (ds : List Addr) (H H' : Hp) : Prop where
  keep : ∀ b o, b ∉ ds → H b = some o → H' b = some o
  tu : ∀ b xs, H b = some (.tup xs) → H' b = some (.tup xs)
  fz : ∀ b o u, H b = some (.frz o u) → H' b = some (.frz o u)
theorem Fr.of {H H' : Hp} (s : Same H H') (ds : List Addr) : Fr ds H H' := ⟨fun b o _ e => s b o e, fun b xs e => s b _ e, fun b o u e => s b _ e⟩
theorem Fr.refl (ds : List Addr) (H : Hp) : Fr ds H H := Fr.of (Same.refl H) ds
theorem Fr.trans {ds : List Addr} {H H1 H2 : Hp} (a : Fr ds H H1) (b : Fr ds H1 H2) : Fr ds H H2 := ⟨fun c o n e => b.keep c o n (a.keep c o n e), fun c xs e => b.tu c xs (a.tu c xs e), fun c o u e => b.fz c o u (a.fz c o u e)⟩
theorem Fr.mono {ds es : List Addr} {H H1 : Hp} (a : Fr ds H H1) (h : ∀ d ∈ ds, d ∈ es) : Fr es H H1 := ⟨fun c o n e => a.keep c o (fun z => n (h c z)) e, a.tu, a.fz⟩
theorem Fr.same {H H' : Hp} (a : Fr [] H H') : Same H H' := fun b o e => a.keep b o (by simp) e
theorem Fr.upd {d : Addr} {ds : List Addr} {H : Hp} {o u : HO} (h : H d = some o) (m : Mut (some o)) (hd : d ∈ ds) : Fr ds H (L2.upd H d u) := by
  have ne : ∀ b v, H b = some v → ¬ Mut (some v) → b ≠ d := fun b v e nm z => by
    subst z
    rw [h] at e
    cases e
    exact nm m
  refine ⟨fun b v n e => ?_, fun b xs e => ?_, fun b ob w e => ?_⟩
  · rw [upd_ne (show b ≠ d from fun z => n (by rw [z]; exact hd))]
    exact e
  · rw [upd_ne (ne b _ e fun z => z)]
    exact e
  · rw [upd_ne (ne b _ e fun z => z)]
    exact e
theorem Fr.sqt {K : PySem.W.Frag} {ds : List Addr} {H H' : Hp} {a : Addr} {xs : List V} (e : Fr ds H H') (h : SqT K H a xs) : SqT K H' a xs := by
  rcases h with (h | ⟨o, h⟩) | h
  · exact .inl (.inl (e.tu _ _ h))
  · exact .inl (.inr ⟨o, e.fz _ _ _ h⟩)
  · exact .inr h
/-! ### data -/
mutual
/-- no list in it -/
def isT : PyData → Bool
  | .none => true
  | .bool _ => true
  | .int _ => true
  | .str _ => true
  | .list _ => false
  | .tuple xs => isTs xs
  | .dict _ => false
def isTs : List PyData → Bool
  | [] => true
  | x :: xs => isT x && isTs xs
end
section
variable {K : PySem.W.Frag} {H H' : Hp}
mutual
theorem dp_tu (e : ∀ a xs, SqT K H a xs → SqT K H' a xs) : ∀ {v : V} {d : PyData}, Dp K H v d → isT d = true → Dp K H' v d
  | _, _, .non, _ => .non
  | _, _, .bl b, _ => .bl b
  | _, _, .int i, _ => .int i
  | _, _, .str x, _ => .str x
  | _, _, .lst _ _, h => by cases h
  | _, _, .tup s a, h => .tup (e _ _ s) (dpa_tu e a h)
theorem dpa_tu (e : ∀ a xs, SqT K H a xs → SqT K H' a xs) : ∀ {vs : List V} {ds : List PyData}, DpAll K H vs ds → isTs ds = true → DpAll K H' vs ds
  | _, _, .nil, _ => .nil
  | _, _, .cons d r, h => by
    obtain ⟨h1, h2⟩ := Bool.and_eq_true_iff.mp h
    exact .cons (dp_tu e d h1) (dpa_tu e r h2)
end
mutual
theorem dp_same (e : Same H H') : ∀ {v : V} {d : PyData}, Dp K H v d → Dp K H' v d
  | _, _, .non => .non
  | _, _, .bl b => .bl b
  | _, _, .int i => .int i
  | _, _, .str x => .str x
  | _, _, .lst s a => .lst (e.seq s) (dpa_same e a)
  | _, _, .tup s a => .tup (same_sqt e s) (dpa_same e a)
theorem dpa_same (e : Same H H') : ∀ {vs : List V} {ds : List PyData}, DpAll K H vs ds → DpAll K H' vs ds
  | _, _, .nil => .nil
  | _, _, .cons d r => .cons (dp_same e d) (dpa_same e r)
end
theorem Fr.dp {ds : List Addr} (e : Fr ds H H') {v : V} {d : PyData} (h : Dp K H v d) (t : isT d = true) : Dp K H' v d := dp_tu (fun _ _ z => e.sqt z) h t
theorem Fr.dpa {ds : List Addr} (e : Fr ds H H') {vs : List V} {xs : List PyData} (h : DpAll K H vs xs) (t : isTs xs = true) : DpAll K H' vs xs := dpa_tu (fun _ _ z => e.sqt z) h t
theorem dpa_len : ∀ {vs : List V} {ds : List PyData}, DpAll K H vs ds → vs.length = ds.length
  | _, _, .nil => rfl
  | _, _, .cons _ r => congrArg Nat.succ (dpa_len r)
theorem dpa_at : ∀ {vs : List V} {ds : List PyData} {i : Nat} {v : V}, DpAll K H vs ds → vs[i]? = some v → ∃ d, ds[i]? = some d ∧ Dp K H v d
  | _, _, _, _, .nil, e => by simp at e
  | _, _, 0, _, .cons d r, e => by simp at e; subst e; exact ⟨_, rfl, d⟩
  | _, _, i + 1, v, .cons d r, e => by
    obtain ⟨d', h1, h2⟩ := dpa_at (i := i) (v := v) r (by simpa using e)
    exact ⟨d', by simpa using h1, h2⟩
theorem dpa_atD : ∀ {vs : List V} {ds : List PyData} {i : Nat} {d : PyData}, DpAll K H vs ds → ds[i]? = some d → ∃ v, vs[i]? = some v ∧ Dp K H v d
  | _, _, _, _, .nil, e => by simp at e
  | _, _, 0, _, .cons d r, e => by simp at e; subst e; exact ⟨_, rfl, d⟩
  | _, _, i + 1, v, .cons d r, e => by
    obtain ⟨d', h1, h2⟩ := dpa_atD (i := i) (d := v) r (by simpa using e)
    exact ⟨d', by simpa using h1, h2⟩
theorem dpa_app : ∀ {vs ws : List V} {ds es : List PyData}, DpAll K H vs ds → DpAll K H ws es → DpAll K H (vs ++ ws) (ds ++ es)
  | _, _, _, _, .nil, h => h
  | _, _, _, _, .cons d r, h => .cons d (dpa_app r h)
theorem dpa_snoc {vs : List V} {ds : List PyData} {v : V} {d : PyData} (h : DpAll K H vs ds) (e : Dp K H v d) : DpAll K H (vs ++ [v]) (ds ++ [d]) := dpa_app h (.cons e .nil)
theorem dpa_take : ∀ {vs : List V} {ds : List PyData} (n : Nat), DpAll K H vs ds → DpAll K H (vs.take n) (ds.take n)
  | _, _, 0, _ => .nil
  | _, _, _ + 1, .nil => .nil
  | _, _, n + 1, .cons d r => .cons d (dpa_take n r)
theorem dpa_drop : ∀ {vs : List V} {ds : List PyData} (n : Nat), DpAll K H vs ds → DpAll K H (vs.drop n) (ds.drop n)
  | _, _, 0, h => h
  | _, _, _ + 1, .nil => .nil
  | _, _, n + 1, .cons d r => dpa_drop n r
theorem dpa_rev : ∀ {vs : List V} {ds : List PyData}, DpAll K H vs ds → DpAll K H vs.reverse ds.reverse
  | _, _, .nil => .nil
  | _, _, .cons d r => by
    rw [List.reverse_cons, List.reverse_cons]
    exact dpa_snoc (dpa_rev r) d
theorem dpa1 {xs : List V} {d0 : PyData} (h : DpAll K H xs [d0]) : ∃ v0, xs = [v0] ∧ Dp K H v0 d0 := by
  cases h with
  | cons h0 r =>
    cases r
    exact ⟨_, rfl, h0⟩
theorem dpa2 {xs : List V} {d0 d1 : PyData} (h : DpAll K H xs [d0, d1]) : ∃ v0 v1, xs = [v0, v1] ∧ Dp K H v0 d0 ∧ Dp K H v1 d1 := by
  cases h with
  | cons h0 r =>
    cases r with
    | cons h1 r =>
      cases r
      exact ⟨_, _, rfl, h0, h1⟩
theorem dpa3 {xs : List V} {d0 d1 d2 : PyData} (h : DpAll K H xs [d0, d1, d2]) : ∃ v0 v1 v2, xs = [v0, v1, v2] ∧ Dp K H v0 d0 ∧ Dp K H v1 d1 ∧ Dp K H v2 d2 := by
  cases h with
  | cons h0 r =>
    cases r with
    | cons h1 r =>
      cases r with
      | cons h2 r =>
        cases r
        exact ⟨_, _, _, rfl, h0, h1, h2⟩
theorem dpa4 {xs : List V} {d0 d1 d2 d3 : PyData} (h : DpAll K H xs [d0, d1, d2, d3]) : ∃ v0 v1 v2 v3, xs = [v0, v1, v2, v3] ∧ Dp K H v0 d0 ∧ Dp K H v1 d1 ∧ Dp K H v2 d2 ∧ Dp K H v3 d3 := by
  cases h with
  | cons h0 r =>
    cases r with
    | cons h1 r =>
      cases r with
      | cons h2 r =>
        cases r with
        | cons h3 r =>
          cases r
          exact ⟨_, _, _, _, rfl, h0, h1, h2, h3⟩
theorem len3 {α : Type} {l : List α} (h : l.length = 3) : ∃ a b c, l = [a, b, c] := by
  match l, h with
  | [a, b, c], _ => exact ⟨a, b, c, rfl⟩
theorem len2 {α : Type} {l : List α} (h : l.length = 2) : ∃ a b, l = [a, b] := by
  match l, h with
  | [a, b], _ => exact ⟨a, b, rfl⟩
theorem len4 {α : Type} {l : List α} (h : l.length = 4) : ∃ a b c d, l = [a, b, c, d] := by
  match l, h with
  | [a, b, c, d], _ => exact ⟨a, b, c, d, rfl⟩
/-- the type's name -/
def tyD : PyData → String
  | .none => "NoneType"
  | .bool _ => "bool"
  | .int _ => "int"
  | .str _ => "str"
  | .list _ => "list"
  | .tuple _ => "tuple"
  | .dict _ => "dict"
theorem dp_ty {v : V} {d : PyData} (h : Dp K H v d) : TyX K H v (.type (tyD d)) := by
  cases h with
  | non => exact .base .non
  | bl b => exact .base (.bl b)
  | int i => exact .base (.int i)
  | str x => exact .base (.str x)
  | lst s a =>
    rcases s with (s | ⟨o, s⟩) | ⟨o, its, n, k, c, _⟩
    · exact .base (.lst s)
    · exact .base (.frz s)
    · exact .kList k c
  | tup s a =>
    rcases s with (s | ⟨o, s⟩) | ⟨o, its, n, k, c, _⟩
    · exact .base (.tup s)
    · exact .fTuple s
    · exact .kTuple k c
end
/-! ### tests of numbers -/
section
variable {A B : Prop} {i j : Int}
theorem iteEQ (h : i = j) (x : A) : if decide (V.int i = V.int j) = true then A else B := by
  rw [decide_eq_true (congrArg V.int h)]
  exact iteT x
theorem iteNQ (h : i ≠ j) (x : B) : if decide (V.int i = V.int j) = true then A else B := by
  rw [decide_eq_false (fun e => h (V.int.inj e))]
  exact iteF x
theorem iteNEQ (h : i ≠ j) (x : A) : if (!decide (V.int i = V.int j)) = true then A else B := by
  rw [decide_eq_false (fun e => h (V.int.inj e))]
  exact iteT x
theorem iteNNQ (h : i = j) (x : B) : if (!decide (V.int i = V.int j)) = true then A else B := by
  rw [decide_eq_true (congrArg V.int h)]
  exact iteF x
theorem ite2Q (h1 : i = j → A) (h2 : i ≠ j → B) : if decide (V.int i = V.int j) = true then A else B := by
  by_cases h : i = j
  · exact iteEQ h (h1 h)
  · exact iteNQ h (h2 h)
theorem ite2NQ (h1 : i ≠ j → A) (h2 : i = j → B) : if (!decide (V.int i = V.int j)) = true then A else B := by
  by_cases h : i = j
  · exact iteNNQ h (h2 h)
  · exact iteNEQ h (h1 h)
theorem iteP {c : Prop} [Decidable c] (h : c) (x : A) : if decide c = true then A else B := by
  rw [decide_eq_true h]
  exact iteT x
theorem iteN {c : Prop} [Decidable c] (h : ¬ c) (x : B) : if decide c = true then A else B := by
  rw [decide_eq_false h]
  exact iteF x
theorem ite2P {c : Prop} [Decidable c] (h1 : c → A) (h2 : ¬ c → B) : if decide c = true then A else B := by
  by_cases h : c
  · exact iteP h (h1 h)
  · exact iteN h (h2 h)
theorem iteNP {c : Prop} [Decidable c] (h : ¬ c) (x : A) : if (!decide c) = true then A else B := by
  rw [decide_eq_false h]
  exact iteT x
theorem iteNN {c : Prop} [Decidable c] (h : c) (x : B) : if (!decide c) = true then A else B := by
  rw [decide_eq_true h]
  exact iteF x
end
/-! ### isinstance -/
def isIntB : PyData → Bool
  | .int _ => true
  | .bool _ => true
  | _ => false
def isBoolB : PyData → Bool
  | .bool _ => true
  | _ => false
def isTupB : PyData → Bool
  | .tuple _ => true
  | _ => false
def isLstB : PyData → Bool
  | .list _ => true
  | _ => false
def isStrB : PyData → Bool
  | .str _ => true
  | _ => false
section
variable {K : PySem.W.Frag}
theorem kit_int : ∀ d : PyData, PySem.W.kitOne K (.type (tyD d)) (.type "int") = some (isIntB d)
  | .none => kit_ty (a := "NoneType") (b := "int") (r := false) (by decide +kernel)
  | .bool _ => kit_ty (a := "bool") (b := "int") (r := true) (by decide +kernel)
  | .int _ => kit_ty (a := "int") (b := "int") (r := true) (by decide +kernel)
  | .str _ => kit_ty (a := "str") (b := "int") (r := false) (by decide +kernel)
  | .list _ => kit_ty (a := "list") (b := "int") (r := false) (by decide +kernel)
  | .tuple _ => kit_ty (a := "tuple") (b := "int") (r := false) (by decide +kernel)
  | .dict _ => kit_ty (a := "dict") (b := "int") (r := false) (by decide +kernel)
theorem kit_bool : ∀ d : PyData, PySem.W.kitOne K (.type (tyD d)) (.type "bool") = some (isBoolB d)
  | .none => kit_ty (a := "NoneType") (b := "bool") (r := false) (by decide +kernel)
  | .bool _ => kit_ty (a := "bool") (b := "bool") (r := true) (by decide +kernel)
  | .int _ => kit_ty (a := "int") (b := "bool") (r := false) (by decide +kernel)
  | .str _ => kit_ty (a := "str") (b := "bool") (r := false) (by decide +kernel)
  | .list _ => kit_ty (a := "list") (b := "bool") (r := false) (by decide +kernel)
  | .tuple _ => kit_ty (a := "tuple") (b := "bool") (r := false) (by decide +kernel)
  | .dict _ => kit_ty (a := "dict") (b := "bool") (r := false) (by decide +kernel)
theorem kit_tup : ∀ d : PyData, PySem.W.kitOne K (.type (tyD d)) (.type "tuple") = some (isTupB d)
  | .none => kit_ty (a := "NoneType") (b := "tuple") (r := false) (by decide +kernel)
  | .bool _ => kit_ty (a := "bool") (b := "tuple") (r := false) (by decide +kernel)
  | .int _ => kit_ty (a := "int") (b := "tuple") (r := false) (by decide +kernel)
  | .str _ => kit_ty (a := "str") (b := "tuple") (r := false) (by decide +kernel)
  | .list _ => kit_ty (a := "list") (b := "tuple") (r := false) (by decide +kernel)
  | .tuple _ => kit_ty (a := "tuple") (b := "tuple") (r := true) (by decide +kernel)
  | .dict _ => kit_ty (a := "dict") (b := "tuple") (r := false) (by decide +kernel)
theorem kit_lst : ∀ d : PyData, PySem.W.kitOne K (.type (tyD d)) (.type "list") = some (isLstB d)
  | .none => kit_ty (a := "NoneType") (b := "list") (r := false) (by decide +kernel)
  | .bool _ => kit_ty (a := "bool") (b := "list") (r := false) (by decide +kernel)
  | .int _ => kit_ty (a := "int") (b := "list") (r := false) (by decide +kernel)
  | .str _ => kit_ty (a := "str") (b := "list") (r := false) (by decide +kernel)
  | .list _ => kit_ty (a := "list") (b := "list") (r := true) (by decide +kernel)
  | .tuple _ => kit_ty (a := "tuple") (b := "list") (r := false) (by decide +kernel)
  | .dict _ => kit_ty (a := "dict") (b := "list") (r := false) (by decide +kernel)
theorem kit_str : ∀ d : PyData, PySem.W.kitOne K (.type (tyD d)) (.type "str") = some (isStrB d)
  | .none => kit_ty (a := "NoneType") (b := "str") (r := false) (by decide +kernel)
  | .bool _ => kit_ty (a := "bool") (b := "str") (r := false) (by decide +kernel)
  | .int _ => kit_ty (a := "int") (b := "str") (r := false) (by decide +kernel)
  | .str _ => kit_ty (a := "str") (b := "str") (r := true) (by decide +kernel)
  | .list _ => kit_ty (a := "list") (b := "str") (r := false) (by decide +kernel)
  | .tuple _ => kit_ty (a := "tuple") (b := "str") (r := false) (by decide +kernel)
  | .dict _ => kit_ty (a := "dict") (b := "str") (r := false) (by decide +kernel)
theorem isi {H : Hp} {x : V} {d : PyData} {n : String} {b : Bool} {Q : VK} (hd : Dp K H x d) (hk : PySem.W.kitOne K (.type (tyD d)) (.type n) = some b) (q : Q (.bl b) H) : rIsi K [x, .ty n] H Q := ⟨x, .ty n, _, _, b, rfl, .ty _, dp_ty hd, hk, q⟩
end
/-- a tuple of the written part -/
def tupIs (K : PySem.W.Frag) (a : Addr) (vs : List V) : Bool := match K.lookup a with
  | some ⟨.type c, _, .seq its _, _⟩ => decide (c = "tuple") && (decide (its.size ≤ sizeLine) && He.relAll vs its.toList)
  | _ => false
theorem tupIs_ok {K : PySem.W.Frag} {a : Addr} {vs : List V} (h : tupIs K a vs = true) (H : Hp) : SqT K H a vs := by
  unfold tupIs at h
  cases q : K.lookup a with
  | none =>
    rw [q] at h
    cases h
  | some o =>
    obtain ⟨oc, od, dt, osl⟩ := o
    rw [q] at h
    cases oc with
    | type c =>
      cases dt with
      | seq its n =>
        obtain ⟨h1, h2⟩ := He.ba h
        obtain ⟨h3, h4⟩ := He.ba h2
        exact .inr ⟨_, its, n, q, congrArg Value.type (of_decide_eq_true h1), rfl, of_decide_eq_true h3, He.relAll_ok h4⟩
      | _ => cases h
    | _ => cases dt <;> cases h
def topS (i : Nat) : Stmt := PySem.Challenge.pw_turnedleaves_k70_whole_played.main.body.getD i (.Pass ⟨0, 0, 0, 0⟩)
abbrev s__wall : Stmt := topS 0
abbrev s_is_number : Stmt := topS 9
abbrev s_is_bar : Stmt := topS 10
abbrev s_beats_of : Stmt := topS 11
abbrev s_Part_init : Stmt := inClass (topS 12) 0
abbrev s_Part_len : Stmt := inClass (topS 12) 1
abbrev s_Part_eq : Stmt := inClass (topS 12) 2
abbrev s_Part_str : Stmt := inClass (topS 12) 3
abbrev s_Part_bars : Stmt := inClass (topS 12) 4
abbrev s_Part_becomes : Stmt := inClass (topS 12) 5
abbrev s_Part_put : Stmt := inClass (topS 12) 6
abbrev s_Part_drop : Stmt := inClass (topS 12) 7
abbrev s_Part_take_back : Stmt := inClass (topS 12) 8
abbrev s_Part_ahead : Stmt := inClass (topS 12) 9
abbrev s_Part_behind : Stmt := inClass (topS 12) 10
abbrev s_Part_rest : Stmt := inClass (topS 12) 11
abbrev s_Part_wide : Stmt := inClass (topS 12) 12
abbrev s_need_repeats : Stmt := topS 14
abbrev s_order_of : Stmt := topS 15
abbrev s_played : Stmt := topS 16
abbrev s__law_cell : Stmt := topS 18
abbrev s__law_drawn : Stmt := topS 19
abbrev s__law_roll : Stmt := topS 20
abbrev s__law_rounds : Stmt := topS 21
abbrev s__law_bar : Stmt := topS 22
abbrev s__law_row : Stmt := topS 23
abbrev s__law_repeats : Stmt := topS 24
abbrev s__law_order : Stmt := topS 25
abbrev s_law : Stmt := topS 26
def dd_is_number : He.DefD := ⟨("is_number", none), "is_number", "is_number", defArgs s_is_number, defBody s_is_number, defScope s_is_number, [], []⟩
def dd_is_bar : He.DefD := ⟨("is_bar", none), "is_bar", "is_bar", defArgs s_is_bar, defBody s_is_bar, defScope s_is_bar, [], []⟩
def dd_beats_of : He.DefD := ⟨("beats_of", none), "beats_of", "beats_of", defArgs s_beats_of, defBody s_beats_of, defScope s_beats_of, [], []⟩
def dd_Part_init : He.DefD := ⟨("Part", some "__init__"), "__init__", "Part.__init__", defArgs s_Part_init, defBody s_Part_init, defScope s_Part_init, [.non], []⟩
def dd_Part_len : He.DefD := ⟨("Part", some "__len__"), "__len__", "Part.__len__", defArgs s_Part_len, defBody s_Part_len, defScope s_Part_len, [], []⟩
def dd_Part_eq : He.DefD := ⟨("Part", some "__eq__"), "__eq__", "Part.__eq__", defArgs s_Part_eq, defBody s_Part_eq, defScope s_Part_eq, [], []⟩
def dd_Part_str : He.DefD := ⟨("Part", some "__str__"), "__str__", "Part.__str__", defArgs s_Part_str, defBody s_Part_str, defScope s_Part_str, [], []⟩
def dd_Part_bars : He.DefD := ⟨("Part", some "bars"), "bars", "Part.bars", defArgs s_Part_bars, defBody s_Part_bars, defScope s_Part_bars, [], []⟩
def dd_Part_ahead : He.DefD := ⟨("Part", some "ahead"), "ahead", "Part.ahead", defArgs s_Part_ahead, defBody s_Part_ahead, defScope s_Part_ahead, [], []⟩
def dd_Part_behind : He.DefD := ⟨("Part", some "behind"), "behind", "Part.behind", defArgs s_Part_behind, defBody s_Part_behind, defScope s_Part_behind, [], []⟩
def dd_Part_rest : He.DefD := ⟨("Part", some "rest"), "rest", "Part.rest", defArgs s_Part_rest, defBody s_Part_rest, defScope s_Part_rest, [], []⟩
def dd_need_repeats : He.DefD := ⟨("need_repeats", none), "need_repeats", "need_repeats", defArgs s_need_repeats, defBody s_need_repeats, defScope s_need_repeats, [], []⟩
def dd_order_of : He.DefD := ⟨("order_of", none), "order_of", "order_of", defArgs s_order_of, defBody s_order_of, defScope s_order_of, [], []⟩
def dd_played : He.DefD := ⟨("played", none), "played", "played", defArgs s_played, defBody s_played, defScope s_played, [], []⟩
def dd__law_cell : He.DefD := ⟨("_law_cell", none), "_law_cell", "_law_cell", defArgs s__law_cell, defBody s__law_cell, defScope s__law_cell, [], []⟩
def dd__law_drawn : He.DefD := ⟨("_law_drawn", none), "_law_drawn", "_law_drawn", defArgs s__law_drawn, defBody s__law_drawn, defScope s__law_drawn, [], []⟩
def dd__law_roll : He.DefD := ⟨("_law_roll", none), "_law_roll", "_law_roll", defArgs s__law_roll, defBody s__law_roll, defScope s__law_roll, [], []⟩
def dd__law_rounds : He.DefD := ⟨("_law_rounds", none), "_law_rounds", "_law_rounds", defArgs s__law_rounds, defBody s__law_rounds, defScope s__law_rounds, [], []⟩
def dd__law_bar : He.DefD := ⟨("_law_bar", none), "_law_bar", "_law_bar", defArgs s__law_bar, defBody s__law_bar, defScope s__law_bar, [], []⟩
def dd__law_row : He.DefD := ⟨("_law_row", none), "_law_row", "_law_row", defArgs s__law_row, defBody s__law_row, defScope s__law_row, [], []⟩
def dd__law_repeats : He.DefD := ⟨("_law_repeats", none), "_law_repeats", "_law_repeats", defArgs s__law_repeats, defBody s__law_repeats, defScope s__law_repeats, [], []⟩
def dd__law_order : He.DefD := ⟨("_law_order", none), "_law_order", "_law_order", defArgs s__law_order, defBody s__law_order, defScope s__law_order, [], []⟩
def dd_law : He.DefD := ⟨("law", none), "law", "law", defArgs s_law, defBody s_law, defScope s_law, [], []⟩
def fn_0 : List He.DefD := [dd_is_number, dd_is_bar, dd_beats_of, dd_Part_init, dd_Part_len, dd_Part_eq, dd_Part_str, dd_Part_bars, dd_Part_ahead, dd_Part_behind, dd_Part_rest, dd_need_repeats, dd_order_of, dd_played, dd__law_cell, dd__law_drawn, dd__law_roll, dd__law_rounds, dd__law_bar, dd__law_row, dd__law_repeats, dd__law_order, dd_law]
def fn : List He.DefD := fn_0
def fa_0 : List He.Fa := [.glo "is_number", .glo "is_bar", .glo "beats_of", .glo "need_repeats", .glo "order_of", .glo "played", .glo "_law_cell", .glo "_law_drawn", .glo "_law_roll", .glo "_law_rounds", .glo "_law_bar", .glo "_law_row", .glo "_law_repeats", .glo "_law_order", .glo "law", .free "len", .free "isinstance", .free "range", .free "list", .free "all", .free "int", .free "bool", .free "tuple", .free "max", .free "min"]
def fa_1 : List He.Fa := [.free "ValueError", .int "MOST" 40, .glo "LeafError", .glo "BadBar", .glo "BadPlace", .glo "BadRepeats", .glo "Full", .cls "Part", .mkr "Part", .noat "Part" "row", .noat "Part" "past", .meth "Part" "__init__", .meth "Part" "__len__", .meth "Part" "__eq__", .meth "Part" "__str__", .meth "Part" "bars", .meth "Part" "ahead", .meth "Part" "behind", .meth "Part" "rest", .glo "Part"]
def fa : List He.Fa := fa_0 ++ fa_1
def exs_0 : List (PySem.W.Frag → Bool) := [(fun K => He.eqO (PySem.W.findIn K (.ref (He.ga K "Part")) "__class__") (some (some (.builtin "object.__class__")))), (fun K => He.eqO (PySem.W.specialIn K (.builtin "object.__class__") "__get__") (some (some (.builtin "getset_descriptor.__get__")))), (fun K => decide (PySem.W.takesIn K (.builtin "object.__class__") = some true)), (fun K => decide (PySem.W.mroIn K (He.ga K "Part") (.type "object") = some true)), (fun K => decide (PySem.W.kitOne K (.ref (He.ga K "Part")) (.ref (He.ga K "Part")) = some true)), (fun K => decide (PySem.W.kitOne K (.type "NoneType") (.ref (He.ga K "Part")) = some false)), (fun K => decide (PySem.W.kitOne K (.type "bool") (.ref (He.ga K "Part")) = some false)), (fun K => decide (PySem.W.kitOne K (.type "int") (.ref (He.ga K "Part")) = some false)), (fun K => decide (PySem.W.kitOne K (.type "str") (.ref (He.ga K "Part")) = some false)), (fun K => decide (PySem.W.kitOne K (.type "list") (.ref (He.ga K "Part")) = some false)), (fun K => decide (PySem.W.kitOne K (.type "tuple") (.ref (He.ga K "Part")) = some false)), (fun K => decide (PySem.W.kitOne K (.ref (He.ga K "Part")) (.type "list") = some false)), (fun K => decide (PySem.W.kitOne K (.ref (He.ga K "Part")) (.type "tuple") = some false)), (fun K => decide (PySem.W.kitOne K (.ref (He.ga K "Part")) (.type "int") = some false)), (fun K => decide (PySem.W.kitOne K (.ref (He.ga K "Part")) (.type "bool") = some false)), (fun K => decide (PySem.W.kitOne K (.ref (He.ga K "Part")) (.type "str") = some false)), (fun K => He.eqO (PySem.W.findIn K (.ref (He.ga K "Part")) "__ne__") (some (some (.builtin "object.__ne__")))), (fun K => PySem.W.notFirst K (He.ga K "Part") (.type "NoneType")), (fun K => PySem.W.notFirst K (He.ga K "Part") (.type "bool")), (fun K => PySem.W.notFirst K (He.ga K "Part") (.type "int")), (fun K => PySem.W.notFirst K (He.ga K "Part") (.type "str")), (fun K => PySem.W.notFirst K (He.ga K "Part") (.type "list")), (fun K => PySem.W.notFirst K (He.ga K "Part") (.type "tuple"))]
def exs : List (PySem.W.Frag → Bool) := exs_0
def loose_0 : List PySem.Str := ["_wall", "LeafError", "BadBar", "BadPlace", "BadRepeats", "Full", "MOST", "is_number", "is_bar", "beats_of", "Part", "need_repeats", "order_of", "played", "_law_cell", "_law_drawn", "_law_roll", "_law_rounds", "_law_bar", "_law_row", "_law_repeats", "_law_order"]
def loose : List PySem.Str := loose_0
structure Txt (K : PySem.W.Frag) (mg : Str → Option Value) : Prop where
  is_number : Df K ("is_number", none) "is_number" "is_number" s_is_number []
  is_bar : Df K ("is_bar", none) "is_bar" "is_bar" s_is_bar []
  beats_of : Df K ("beats_of", none) "beats_of" "beats_of" s_beats_of []
  Part_init : Df K ("Part", some "__init__") "__init__" "Part.__init__" s_Part_init [.non]
  Part_len : Df K ("Part", some "__len__") "__len__" "Part.__len__" s_Part_len []
  Part_eq : Df K ("Part", some "__eq__") "__eq__" "Part.__eq__" s_Part_eq []
  Part_str : Df K ("Part", some "__str__") "__str__" "Part.__str__" s_Part_str []
  Part_bars : Df K ("Part", some "bars") "bars" "Part.bars" s_Part_bars []
  Part_ahead : Df K ("Part", some "ahead") "ahead" "Part.ahead" s_Part_ahead []
  Part_behind : Df K ("Part", some "behind") "behind" "Part.behind" s_Part_behind []
  Part_rest : Df K ("Part", some "rest") "rest" "Part.rest" s_Part_rest []
  need_repeats : Df K ("need_repeats", none) "need_repeats" "need_repeats" s_need_repeats []
  order_of : Df K ("order_of", none) "order_of" "order_of" s_order_of []
  played : Df K ("played", none) "played" "played" s_played []
  _law_cell : Df K ("_law_cell", none) "_law_cell" "_law_cell" s__law_cell []
  _law_drawn : Df K ("_law_drawn", none) "_law_drawn" "_law_drawn" s__law_drawn []
  _law_roll : Df K ("_law_roll", none) "_law_roll" "_law_roll" s__law_roll []
  _law_rounds : Df K ("_law_rounds", none) "_law_rounds" "_law_rounds" s__law_rounds []
  _law_bar : Df K ("_law_bar", none) "_law_bar" "_law_bar" s__law_bar []
  _law_row : Df K ("_law_row", none) "_law_row" "_law_row" s__law_row []
  _law_repeats : Df K ("_law_repeats", none) "_law_repeats" "_law_repeats" s__law_repeats []
  _law_order : Df K ("_law_order", none) "_law_order" "_law_order" s__law_order []
  law : Df K ("law", none) "law" "law" s_law []
  g_is_number : mg "is_number" = some (.ref (He.fAd K ("is_number", none)))
  g_is_bar : mg "is_bar" = some (.ref (He.fAd K ("is_bar", none)))
  g_beats_of : mg "beats_of" = some (.ref (He.fAd K ("beats_of", none)))
  g_need_repeats : mg "need_repeats" = some (.ref (He.fAd K ("need_repeats", none)))
  g_order_of : mg "order_of" = some (.ref (He.fAd K ("order_of", none)))
  g_played : mg "played" = some (.ref (He.fAd K ("played", none)))
  g__law_cell : mg "_law_cell" = some (.ref (He.fAd K ("_law_cell", none)))
  g__law_drawn : mg "_law_drawn" = some (.ref (He.fAd K ("_law_drawn", none)))
  g__law_roll : mg "_law_roll" = some (.ref (He.fAd K ("_law_roll", none)))
  g__law_rounds : mg "_law_rounds" = some (.ref (He.fAd K ("_law_rounds", none)))
  g__law_bar : mg "_law_bar" = some (.ref (He.fAd K ("_law_bar", none)))
  g__law_row : mg "_law_row" = some (.ref (He.fAd K ("_law_row", none)))
  g__law_repeats : mg "_law_repeats" = some (.ref (He.fAd K ("_law_repeats", none)))
  g__law_order : mg "_law_order" = some (.ref (He.fAd K ("_law_order", none)))
  g_law : mg "law" = some (.ref (He.fAd K ("law", none)))
  b_len : mg "len" = none
  b_isinstance : mg "isinstance" = none
  b_range : mg "range" = none
  b_list : mg "list" = none
  b_all : mg "all" = none
  b_int : mg "int" = none
  b_bool : mg "bool" = none
  b_tuple : mg "tuple" = none
  b_max : mg "max" = none
  b_min : mg "min" = none
  b_ValueError : mg "ValueError" = none
  c_MOST : ∃ t, mg "MOST" = some (.int 40 t)
  g_LeafError : mg "LeafError" = some (.ref (He.ga K "LeafError"))
  g_BadBar : mg "BadBar" = some (.ref (He.ga K "BadBar"))
  g_BadPlace : mg "BadPlace" = some (.ref (He.ga K "BadPlace"))
  g_BadRepeats : mg "BadRepeats" = some (.ref (He.ga K "BadRepeats"))
  g_Full : mg "Full" = some (.ref (He.ga K "Full"))
  cl_Part : Cls K (He.ga K "Part")
  mk_Part : Mk K (He.ga K "Part") (He.fAd K ("Part", some "__init__"))
  n_row : NoAttr K (He.ga K "Part") "row"
  n_past : NoAttr K (He.ga K "Part") "past"
  m_Part_init : Meth K (He.ga K "Part") "__init__" (He.fAd K ("Part", some "__init__"))
  m_Part_len : Meth K (He.ga K "Part") "__len__" (He.fAd K ("Part", some "__len__"))
  m_Part_eq : Meth K (He.ga K "Part") "__eq__" (He.fAd K ("Part", some "__eq__"))
  m_Part_str : Meth K (He.ga K "Part") "__str__" (He.fAd K ("Part", some "__str__"))
  m_Part_bars : Meth K (He.ga K "Part") "bars" (He.fAd K ("Part", some "bars"))
  m_Part_ahead : Meth K (He.ga K "Part") "ahead" (He.fAd K ("Part", some "ahead"))
  m_Part_behind : Meth K (He.ga K "Part") "behind" (He.fAd K ("Part", some "behind"))
  m_Part_rest : Meth K (He.ga K "Part") "rest" (He.fAd K ("Part", some "rest"))
  k_class : PySem.W.findIn K (.ref (He.ga K "Part")) "__class__" = some (some (.builtin "object.__class__"))
  k_get : PySem.W.specialIn K (.builtin "object.__class__") "__get__" = some (some (.builtin "getset_descriptor.__get__"))
  k_takes : PySem.W.takesIn K (.builtin "object.__class__") = some true
  k_mro : PySem.W.mroIn K (He.ga K "Part") (.type "object") = some true
  k_self : PySem.W.kitOne K (.ref (He.ga K "Part")) (.ref (He.ga K "Part")) = some true
  k_NoneType : PySem.W.kitOne K (.type "NoneType") (.ref (He.ga K "Part")) = some false
  k_bool : PySem.W.kitOne K (.type "bool") (.ref (He.ga K "Part")) = some false
  k_int : PySem.W.kitOne K (.type "int") (.ref (He.ga K "Part")) = some false
  k_str : PySem.W.kitOne K (.type "str") (.ref (He.ga K "Part")) = some false
  k_list : PySem.W.kitOne K (.type "list") (.ref (He.ga K "Part")) = some false
  k_tuple : PySem.W.kitOne K (.type "tuple") (.ref (He.ga K "Part")) = some false
  k_nolist : PySem.W.kitOne K (.ref (He.ga K "Part")) (.type "list") = some false
  k_notuple : PySem.W.kitOne K (.ref (He.ga K "Part")) (.type "tuple") = some false
  k_noint : PySem.W.kitOne K (.ref (He.ga K "Part")) (.type "int") = some false
  k_nobool : PySem.W.kitOne K (.ref (He.ga K "Part")) (.type "bool") = some false
  k_nostr : PySem.W.kitOne K (.ref (He.ga K "Part")) (.type "str") = some false
  k_ne : PySem.W.findIn K (.ref (He.ga K "Part")) "__ne__" = some (some (.builtin "object.__ne__"))
  k_first_NoneType : PySem.W.notFirst K (He.ga K "Part") (.type "NoneType") = true
  k_first_bool : PySem.W.notFirst K (He.ga K "Part") (.type "bool") = true
  k_first_int : PySem.W.notFirst K (He.ga K "Part") (.type "int") = true
  k_first_str : PySem.W.notFirst K (He.ga K "Part") (.type "str") = true
  k_first_list : PySem.W.notFirst K (He.ga K "Part") (.type "list") = true
  k_first_tuple : PySem.W.notFirst K (He.ga K "Part") (.type "tuple") = true
  g_Part : mg "Part" = some (.ref (He.ga K "Part"))
def ex (K : PySem.W.Frag) : Bool := exs.all fun f => f K
theorem exAt {K : PySem.W.Frag} (h : ex K = true) (i : Nat) {f : PySem.W.Frag → Bool} (e : exs[i]? = some f) : f K = true := List.all_eq_true.mp h f (List.mem_of_getElem? e)
theorem txt_of {tf : List He.Defn} {w : World} {h h0 : Heap} {K : PySem.W.Frag} {mg : Str → Option Value} (X : K.In h) (G : h.Ns mainGlobals mg) (c : He.SaysX fa fn [] tf ex w h0 K) : Txt K mg := ⟨df_of (c.t.d.defs (d := dd_is_number) (by simp [fn, fn_0])),
  df_of (c.t.d.defs (d := dd_is_bar) (by simp [fn, fn_0])),
  df_of (c.t.d.defs (d := dd_beats_of) (by simp [fn, fn_0])),
  df_of (c.t.d.defs (d := dd_Part_init) (by simp [fn, fn_0])),
  df_of (c.t.d.defs (d := dd_Part_len) (by simp [fn, fn_0])),
  df_of (c.t.d.defs (d := dd_Part_eq) (by simp [fn, fn_0])),
  df_of (c.t.d.defs (d := dd_Part_str) (by simp [fn, fn_0])),
  df_of (c.t.d.defs (d := dd_Part_bars) (by simp [fn, fn_0])),
  df_of (c.t.d.defs (d := dd_Part_ahead) (by simp [fn, fn_0])),
  df_of (c.t.d.defs (d := dd_Part_behind) (by simp [fn, fn_0])),
  df_of (c.t.d.defs (d := dd_Part_rest) (by simp [fn, fn_0])),
  df_of (c.t.d.defs (d := dd_need_repeats) (by simp [fn, fn_0])),
  df_of (c.t.d.defs (d := dd_order_of) (by simp [fn, fn_0])),
  df_of (c.t.d.defs (d := dd_played) (by simp [fn, fn_0])),
  df_of (c.t.d.defs (d := dd__law_cell) (by simp [fn, fn_0])),
  df_of (c.t.d.defs (d := dd__law_drawn) (by simp [fn, fn_0])),
  df_of (c.t.d.defs (d := dd__law_roll) (by simp [fn, fn_0])),
  df_of (c.t.d.defs (d := dd__law_rounds) (by simp [fn, fn_0])),
  df_of (c.t.d.defs (d := dd__law_bar) (by simp [fn, fn_0])),
  df_of (c.t.d.defs (d := dd__law_row) (by simp [fn, fn_0])),
  df_of (c.t.d.defs (d := dd__law_repeats) (by simp [fn, fn_0])),
  df_of (c.t.d.defs (d := dd__law_order) (by simp [fn, fn_0])),
  df_of (c.t.d.defs (d := dd_law) (by simp [fn, fn_0])),
  He.glo_ok X G (c.t.d.facts (f := .glo "is_number") (by simp [fa, fa_0])),
  He.glo_ok X G (c.t.d.facts (f := .glo "is_bar") (by simp [fa, fa_0])),
  He.glo_ok X G (c.t.d.facts (f := .glo "beats_of") (by simp [fa, fa_0])),
  He.glo_ok X G (c.t.d.facts (f := .glo "need_repeats") (by simp [fa, fa_0])),
  He.glo_ok X G (c.t.d.facts (f := .glo "order_of") (by simp [fa, fa_0])),
  He.glo_ok X G (c.t.d.facts (f := .glo "played") (by simp [fa, fa_0])),
  He.glo_ok X G (c.t.d.facts (f := .glo "_law_cell") (by simp [fa, fa_0])),
  He.glo_ok X G (c.t.d.facts (f := .glo "_law_drawn") (by simp [fa, fa_0])),
  He.glo_ok X G (c.t.d.facts (f := .glo "_law_roll") (by simp [fa, fa_0])),
  He.glo_ok X G (c.t.d.facts (f := .glo "_law_rounds") (by simp [fa, fa_0])),
  He.glo_ok X G (c.t.d.facts (f := .glo "_law_bar") (by simp [fa, fa_0])),
  He.glo_ok X G (c.t.d.facts (f := .glo "_law_row") (by simp [fa, fa_0])),
  He.glo_ok X G (c.t.d.facts (f := .glo "_law_repeats") (by simp [fa, fa_0])),
  He.glo_ok X G (c.t.d.facts (f := .glo "_law_order") (by simp [fa, fa_0])),
  He.glo_ok X G (c.t.d.facts (f := .glo "law") (by simp [fa, fa_0])),
  He.free_ok X G (c.t.d.facts (f := .free "len") (by simp [fa, fa_0])),
  He.free_ok X G (c.t.d.facts (f := .free "isinstance") (by simp [fa, fa_0])),
  He.free_ok X G (c.t.d.facts (f := .free "range") (by simp [fa, fa_0])),
  He.free_ok X G (c.t.d.facts (f := .free "list") (by simp [fa, fa_0])),
  He.free_ok X G (c.t.d.facts (f := .free "all") (by simp [fa, fa_0])),
  He.free_ok X G (c.t.d.facts (f := .free "int") (by simp [fa, fa_0])),
  He.free_ok X G (c.t.d.facts (f := .free "bool") (by simp [fa, fa_0])),
  He.free_ok X G (c.t.d.facts (f := .free "tuple") (by simp [fa, fa_0])),
  He.free_ok X G (c.t.d.facts (f := .free "max") (by simp [fa, fa_0])),
  He.free_ok X G (c.t.d.facts (f := .free "min") (by simp [fa, fa_0])),
  He.free_ok X G (c.t.d.facts (f := .free "ValueError") (by simp [fa, fa_1])),
  He.int_ok X G (c.t.d.facts (f := .int "MOST" 40) (by simp [fa, fa_1])),
  He.glo_ok X G (c.t.d.facts (f := .glo "LeafError") (by simp [fa, fa_1])),
  He.glo_ok X G (c.t.d.facts (f := .glo "BadBar") (by simp [fa, fa_1])),
  He.glo_ok X G (c.t.d.facts (f := .glo "BadPlace") (by simp [fa, fa_1])),
  He.glo_ok X G (c.t.d.facts (f := .glo "BadRepeats") (by simp [fa, fa_1])),
  He.glo_ok X G (c.t.d.facts (f := .glo "Full") (by simp [fa, fa_1])),
  He.cls_ok (c.t.d.facts (f := .cls "Part") (by simp [fa, fa_1])),
  He.mkr_ok (c.t.d.facts (f := .mkr "Part") (by simp [fa, fa_1])),
  He.noat_ok (c.t.d.facts (f := .noat "Part" "row") (by simp [fa, fa_1])),
  He.noat_ok (c.t.d.facts (f := .noat "Part" "past") (by simp [fa, fa_1])),
  He.meth_ok (c.t.d.facts (f := .meth "Part" "__init__") (by simp [fa, fa_1])),
  He.meth_ok (c.t.d.facts (f := .meth "Part" "__len__") (by simp [fa, fa_1])),
  He.meth_ok (c.t.d.facts (f := .meth "Part" "__eq__") (by simp [fa, fa_1])),
  He.meth_ok (c.t.d.facts (f := .meth "Part" "__str__") (by simp [fa, fa_1])),
  He.meth_ok (c.t.d.facts (f := .meth "Part" "bars") (by simp [fa, fa_1])),
  He.meth_ok (c.t.d.facts (f := .meth "Part" "ahead") (by simp [fa, fa_1])),
  He.meth_ok (c.t.d.facts (f := .meth "Part" "behind") (by simp [fa, fa_1])),
  He.meth_ok (c.t.d.facts (f := .meth "Part" "rest") (by simp [fa, fa_1])),
  He.eqO_ok (exAt c.more 0 rfl),
  He.eqO_ok (exAt c.more 1 rfl),
  of_decide_eq_true (exAt c.more 2 rfl),
  of_decide_eq_true (exAt c.more 3 rfl),
  of_decide_eq_true (exAt c.more 4 rfl),
  of_decide_eq_true (exAt c.more 5 rfl),
  of_decide_eq_true (exAt c.more 6 rfl),
  of_decide_eq_true (exAt c.more 7 rfl),
  of_decide_eq_true (exAt c.more 8 rfl),
  of_decide_eq_true (exAt c.more 9 rfl),
  of_decide_eq_true (exAt c.more 10 rfl),
  of_decide_eq_true (exAt c.more 11 rfl),
  of_decide_eq_true (exAt c.more 12 rfl),
  of_decide_eq_true (exAt c.more 13 rfl),
  of_decide_eq_true (exAt c.more 14 rfl),
  of_decide_eq_true (exAt c.more 15 rfl),
  He.eqO_ok (exAt c.more 16 rfl),
  (exAt c.more 17 rfl),
  (exAt c.more 18 rfl),
  (exAt c.more 19 rfl),
  (exAt c.more 20 rfl),
  (exAt c.more 21 rfl),
  (exAt c.more 22 rfl),
  He.glo_ok X G (c.t.d.facts (f := .glo "Part") (by simp [fa, fa_1]))⟩
/-! ### bars -/
structure Bar where
  w : Int
  b : Int
  r : Bool
  deriving DecidableEq
def barD (x : Bar) : PyData := .tuple [.int x.w, .int x.b, .bool x.r]
def barV (x : Bar) : List V := [.int x.w, .int x.b, .bl x.r]
def BarOk (x : Bar) : Prop := 1 ≤ x.w ∧ x.w ≤ 40 ∧ 1 ≤ x.b ∧ x.b ≤ 16
abbrev barsD (bs : List Bar) : List PyData := bs.map barD
theorem isT_bar (x : Bar) : isT (barD x) = true := rfl
theorem isTs_bars : ∀ bs : List Bar, isTs (barsD bs) = true
  | [] => rfl
  | x :: r => by
    show (isT (barD x) && isTs (barsD r)) = true
    rw [isTs_bars r]
    rfl
section
variable {K : PySem.W.Frag} {H H' : Hp}
theorem dp_bar {v : V} {x : Bar} (h : Dp K H v (barD x)) : ∃ p, v = .ref p ∧ SqT K H p (barV x) := by
  cases h with
  | tup s a =>
    cases a with
    | cons d0 r =>
      cases r with
      | cons d1 r =>
        cases r with
        | cons d2 r =>
          cases r
          cases d0
          cases d1
          cases d2
          exact ⟨_, rfl, s⟩
theorem dp_bar_of {p : Addr} {x : Bar} (h : SqT K H p (barV x)) : Dp K H (.ref p) (barD x) := .tup h (.cons (.int _) (.cons (.int _) (.cons (.bl _) .nil)))
theorem bar_at {vs : List V} {bs : List Bar} {i : Nat} {v : V} (h : DpAll K H vs (barsD bs)) (e : vs[i]? = some v) : ∃ x p, bs[i]? = some x ∧ v = .ref p ∧ SqT K H p (barV x) := by
  obtain ⟨d, e1, hd⟩ := dpa_at h e
  rw [List.getElem?_map] at e1
  cases q : bs[i]? with
  | none =>
    rw [q] at e1
    cases e1
  | some x =>
    rw [q] at e1
    have e2 : barD x = d := Option.some.inj e1
    subst e2
    obtain ⟨p, rfl, s⟩ := dp_bar hd
    exact ⟨x, p, rfl, rfl, s⟩
/-- a list of bars at an address -/
def RowAt (K : PySem.W.Frag) (H : Hp) (r : Addr) (bs : List Bar) : Prop := ∃ vs, H r = some (.lst vs) ∧ DpAll K H vs (barsD bs)
theorem RowAt.dp {r : Addr} {bs : List Bar} (h : RowAt K H r bs) : Dp K H (.ref r) (.list (barsD bs)) := by
  obtain ⟨vs, e, a⟩ := h
  exact .lst (.of e) a
theorem RowAt.same {r : Addr} {bs : List Bar} (h : RowAt K H r bs) (s : Same H H') : RowAt K H' r bs := by
  obtain ⟨vs, e, a⟩ := h
  exact ⟨vs, s _ _ e, dpa_same s a⟩
theorem RowAt.fr {ds : List Addr} {r : Addr} {bs : List Bar} (h : RowAt K H r bs) (s : Fr ds H H') (n : r ∉ ds) : RowAt K H' r bs := by
  obtain ⟨vs, e, a⟩ := h
  exact ⟨vs, s.keep _ _ n e, s.dpa a (isTs_bars bs)⟩
theorem lst_bars {a : Addr} {bs : List Bar} (h : Dp K H (.ref a) (.list (barsD bs))) : ∃ vs, SqL K H a vs ∧ DpAll K H vs (barsD bs) := by
  cases h with
  | lst s d => exact ⟨_, s, d⟩
theorem bars_len {vs : List V} {bs : List Bar} (h : DpAll K H vs (barsD bs)) : vs.length = bs.length := by
  rw [dpa_len h, List.length_map]
end
/-- the beats of the first bars, as long as they rest -/
def beatsOf : List Bar → Int
  | [] => 0
  | x :: r => if x.r = true then x.b + beatsOf r else 0
def restOf (bs : List Bar) (k : Nat) : Int := beatsOf (bs.take k).reverse + beatsOf (bs.drop k)
theorem drop_at {α : Type} {l : List α} {i : Nat} {x : α} (h : l[i]? = some x) : l.drop i = x :: l.drop (i + 1) := by
  obtain ⟨hi, e⟩ := List.getElem?_eq_some_iff.mp h
  rw [List.drop_eq_getElem_cons hi, e]
theorem take_at {α : Type} {l : List α} {i : Nat} {x : α} (h : l[i]? = some x) : l.take (i + 1) = l.take i ++ [x] := by
  rw [List.take_add_one, h]
  rfl
/-! ### parts -/
abbrev pC (K : PySem.W.Frag) : Addr := He.ga K "Part"
def pf (r q : Addr) : List (Str × V) := [("row", .ref r), ("past", .ref q)]
theorem pf_row {r q : Addr} : (pf r q).lookup ("row" : Str) = some (.ref r) := rfl
theorem pf_past {r q : Addr} : (pf r q).lookup ("past" : Str) = some (.ref q) := by
  show (match (("past" : Str) == ("row" : Str)) with | true => some (V.ref r) | false => ([("past", .ref q)] : List (Str × V)).lookup ("past" : Str)) = some (.ref q)
  rw [show (("past" : Str) == ("row" : Str)) = false by decide +kernel]
  rfl
theorem pf_no {r q : Addr} {x : Str} (h1 : (x == ("row" : Str)) = false) (h2 : (x == ("past" : Str)) = false) : (pf r q).lookup x = none := by
  show (match (x == ("row" : Str)) with | true => some (V.ref r) | false => (match (x == ("past" : Str)) with | true => some (V.ref q) | false => none)) = none
  rw [h1, h2]
theorem pf_len {r q : Addr} : (pf r q).length < 1000 := by
  show (2 : Nat) < 1000
  decide
theorem put_row {r q r' : Addr} : putF ("row" : Str) (.ref r') (pf r q) = pf r' q := rfl
section
variable {K : PySem.W.Frag} {H H' : Hp}
def Rows (K : PySem.W.Frag) (H : Hp) (q : Addr) : List V → List (List Bar) → Prop := Paired fun v bs => ∃ r, v = .ref r ∧ r ≠ q ∧ RowAt K H r bs
/-- the part at p: its bars, what it was (its list at q) -/
def PartX (K : PySem.W.Frag) (H : Hp) (p q : Addr) (bs : List Bar) (past : List (List Bar)) : Prop :=
  ∃ dx r ws, H p = some (.ins (pC K) dx (pf r q)) ∧ r ≠ q ∧ RowAt K H r bs ∧ H q = some (.lst ws) ∧ Rows K H q ws past
theorem Rows.imp {q : Addr} {ws : List V} {past : List (List Bar)} (h : Rows K H q ws past) (f : ∀ r bs, r ≠ q → RowAt K H r bs → RowAt K H' r bs) : Rows K H' q ws past :=
  Paired.mapP h fun v bs ⟨r, e, n, z⟩ => ⟨r, e, n, f r bs n z⟩
theorem Rows.snoc {q : Addr} {r : Addr} {bs : List Bar} : ∀ {ws : List V} {past : List (List Bar)}, Rows K H q ws past → r ≠ q → RowAt K H r bs → Rows K H q (ws ++ [.ref r]) (past ++ [bs])
  | _, _, .nil, n, h => .cons ⟨r, rfl, n, h⟩ .nil
  | _, _, .cons a t, n, h => .cons a (Rows.snoc t n h)
theorem Rows.len {q : Addr} {ws : List V} {past : List (List Bar)} (h : Rows K H q ws past) : ws.length = past.length := Paired.length h
theorem PartX.same {p q : Addr} {bs : List Bar} {past : List (List Bar)} (h : PartX K H p q bs past) (s : Same H H') : PartX K H' p q bs past := by
  obtain ⟨dx, r, ws, h1, n, h2, h3, h4⟩ := h
  exact ⟨dx, r, ws, s _ _ h1, n, h2.same s, s _ _ h3, h4.imp fun _ _ _ z => z.same s⟩
/-- a die -/
def Dice (H : Hp) (d : Addr) : Prop := ∃ a b : Int, H d = some (.lst [.int a, .int b])
theorem RowAt.ne_dice {r d : Addr} {bs : List Bar} (h : RowAt K H r bs) (hd : Dice H d) : r ≠ d := by
  obtain ⟨vs, e, a⟩ := h
  obtain ⟨i, j, e2⟩ := hd
  intro z
  subst z
  rw [e] at e2
  injection e2 with e3
  injection e3 with e4
  subst e4
  cases bs with
  | nil => cases a
  | cons b r =>
    cases a with
    | cons d _ => cases d
theorem PartX.fr {p q d : Addr} {bs : List Bar} {past : List (List Bar)} (h : PartX K H p q bs past) (hd : Dice H d) (s : Fr [d] H H') : PartX K H' p q bs past := by
  obtain ⟨dx, r, ws, h1, n, h2, h3, h4⟩ := h
  obtain ⟨i, j, e2⟩ := id hd
  have np : p ≠ d := ne_of h1 e2 (by intro z; cases z)
  have nq : q ≠ d := by
    intro z
    subst z
    rw [h3] at e2
    injection e2 with e3
    injection e3 with e4
    subst e4
    cases h4 with
    | cons a _ =>
      obtain ⟨r, e, _⟩ := a
      cases e
  exact ⟨dx, r, ws, s.keep _ _ (by simp [np]) h1, n, h2.fr s (by simp [h2.ne_dice hd]), s.keep _ _ (by simp [nq]) h3, h4.imp fun r bs _ z => z.fr s (by simp [z.ne_dice hd])⟩
theorem Fr.step {ds es : List Addr} {H0 H1 H2 : Hp} (a : Fr ds H0 H1) (b : Fr es H1 H2) (h : ∀ e ∈ es, H0 e = none ∨ e ∈ ds) : Fr ds H0 H2 := by
  refine ⟨fun c o n e => b.keep c o (fun z => ?_) (a.keep c o n e), fun c xs e => b.tu c xs (a.tu c xs e), fun c o u e => b.fz c o u (a.fz c o u e)⟩
  rcases h c z with q | q
  · rw [q] at e
    cases e
  · exact n q
end
theorem cut_take {xs : List V} {k : Nat} : cutV xs none (some (k : Int)) = xs.take k := by
  unfold cutV
  rw [HT.sIx_none, HT.sIx_nat]
  show (xs.drop 0).take (min k xs.length - 0) = xs.take k
  rw [List.drop_zero, Nat.sub_zero, List.take_eq_take_min]
  all_goals simp
theorem cut_drop {xs : List V} {k : Nat} : cutV xs (some (k : Int)) none = xs.drop k := by
  unfold cutV
  rw [HT.sIx_none, HT.sIx_nat]
  by_cases h : k ≤ xs.length
  · rw [Nat.min_eq_left h, List.take_of_length_le (by rw [List.length_drop]; omega)]
  · rw [Nat.min_eq_right (by omega), List.drop_length, List.drop_eq_nil_of_le (by omega)]
    exact List.take_nil
theorem sc_is_number : FnScope ["thing", "low", "high"] ["thing", "low", "high"] (defScope s_is_number) := ⟨rfl, rfl, rfl, by decide +kernel, rfl, by decide +kernel, by decide +kernel⟩
section
variable {K : PySem.W.Frag} {mg : Str → Option Value}
theorem b_is_number (T : Txt K mg) : Binds K (fdOf K ("is_number", none)) ["thing", "low", "high"] [] := T.is_number.bindsN fun _ _ _ _ _ _ us hl => match us, hl with | [_, _, _], _ => rfl
end
/-- a whole number between -/
def isNum : PyData → Int → Int → Bool
  | .int i, lo, hi => decide (lo ≤ i) && decide (i ≤ hi)
  | _, _, _ => false
def sp_is_number (K : PySem.W.Frag) : Sp := fun vs H Q _ => ∃ (x : V) (d : PyData) (lo hi : Int), vs = [x, .int lo, .int hi] ∧ Dp K H x d ∧ Q (.bl (isNum d lo hi)) H
theorem ok_is_number {P : Program} {w : World} {K : PySem.W.Frag} {mg : Str → Option Value} {base : Heap} (T : Txt K mg) : OkF P w K mg base CX0 1 ("is_number", none) ["thing", "low", "high"] (sp_is_number K) := by
  refine okN T.is_number sc_is_number (fun vs H Q E h => ?_) (fun cdv A outer s H vs Q E hr h => ?_)
  · obtain ⟨x, d, lo, hi, rfl, _⟩ := h
    rfl
  · obtain ⟨x, d, lo, hi, rfl, hd, q⟩ := h
    refine ⟨_, (pss_one (ps_ret (pe_and (pe_callB call_isi (by rfl) T.b_isinstance (by decide +kernel) (pa_cons (pv 0) (pa_cons (pe_bltn (v := .ty "int") (by rfl) T.b_int (by decide +kernel) rfl) pa_nil))) (pe_and (pe_not (pe_callB call_isi (by rfl) T.b_isinstance (by decide +kernel) (pa_cons (pv 0) (pa_cons (pe_bltn (v := .ty "bool") (by rfl) T.b_bool (by decide +kernel) rfl) pa_nil)))) (pe_one (pe_chain op_le op_le (pv 1) (pv 0) (pv 2))))))), ?_⟩
    refine ⟨_, rfl, _, _, _, _, _, rfl, .ty _, dp_ty hd, kit_int d, _, rfl, ?_⟩
    cases d with
    | int i =>
      cases hd
      refine iteT ⟨_, rfl, _, _, _, _, _, rfl, .ty _, dp_ty (.int i), kit_bool (.int i), _, rfl, _, rfl, iteT ⟨_, rfl, _, rfl, _, _, rfl, rfl, _, rfl, ?_⟩⟩
      replace q : Q (.bl (decide (lo ≤ i) && decide (i ≤ hi))) H := q
      refine ite2 (fun h => ?_) (fun h => ?_)
      · rw [h] at q
        exact ⟨_, rfl, _, _, rfl, rfl, q⟩
      · rw [Bool.eq_false_iff.mpr h] at q
        exact q
    | bool b =>
      cases hd
      exact iteT ⟨_, rfl, _, _, _, _, _, rfl, .ty _, dp_ty (.bl b), kit_bool (.bool b), _, rfl, _, rfl, iteF q⟩
    | _ => exact iteF q
theorem sc_is_bar : FnScope ["thing"] ["thing"] (defScope s_is_bar) := ⟨rfl, rfl, rfl, by decide +kernel, rfl, by decide +kernel, by decide +kernel⟩
section
variable {K : PySem.W.Frag} {mg : Str → Option Value}
theorem b_is_bar (T : Txt K mg) : Binds K (fdOf K ("is_bar", none)) ["thing"] [] := T.is_bar.bindsN fun _ _ _ _ _ _ us hl => match us, hl with | [_], _ => rfl
end
def isBar : PyData → Bool
  | .tuple [a, b, .bool _] => isNum a 1 40 && isNum b 1 16
  | _ => false
theorem isBar_len {ds : List PyData} (h : ds.length ≠ 3) : isBar (.tuple ds) = false := by
  unfold isBar
  split
  · rename_i e
    injection e with e
    subst e
    exact absurd rfl h
  · rfl
theorem isBar_bar {x : Bar} (h : BarOk x) : isBar (barD x) = true := by
  obtain ⟨h1, h2, h3, h4⟩ := h
  show ((decide (1 ≤ x.w) && decide (x.w ≤ 40)) && (decide (1 ≤ x.b) && decide (x.b ≤ 16))) = true
  rw [decide_eq_true h1, decide_eq_true h2, decide_eq_true h3, decide_eq_true h4]
  rfl
def sp_is_bar (K : PySem.W.Frag) : Sp := fun vs H Q _ => ∃ (x : V) (d : PyData), vs = [x] ∧ Dp K H x d ∧ Q (.bl (isBar d)) H
theorem ok_is_bar {P : Program} {w : World} {K : PySem.W.Frag} {mg : Str → Option Value} {base : Heap} (T : Txt K mg) : OkF P w K mg base CX0 2 ("is_bar", none) ["thing"] (sp_is_bar K) := by
  refine okN T.is_bar sc_is_bar (fun vs H Q E h => ?_) (fun cdv A outer s H vs Q E hr h => ?_)
  · obtain ⟨x, d, rfl, _⟩ := h
    rfl
  · obtain ⟨x, d, rfl, hd, q⟩ := h
    refine ⟨_, (pss_cons (ps_if (PW.pt (pw_or (pt_not (pt_val (pe_callB call_isi (by rfl) T.b_isinstance (by decide +kernel) (pa_cons (pv 0) (pa_cons (pe_bltn (v := .ty "tuple") (by rfl) T.b_tuple (by decide +kernel) rfl) pa_nil))))) (pw_or (pt_cmpR op_ne (pe_callB call_len (by rfl) T.b_len PySem.boot_len (pa_cons (pv 0) pa_nil)) pe_int (nomark _)) (pw_or1 (pt_not (pt_val (pe_callB call_isi (by rfl) T.b_isinstance (by decide +kernel) (pa_cons (pe_ix ix_tup (pv 0) pe_int (fun _ _ => rfl)) (pa_cons (pe_bltn (v := .ty "bool") (by rfl) T.b_bool (by decide +kernel) rfl) pa_nil))))))))) (pss_one (ps_ret pe_bl)) pss_nil)
      (pss_one (ps_ret (pe_and (pe_call (ok_is_number T) (hr.mono (by decide)) (by rfl) T.g_is_number T.is_number.kp (b_is_number T) .nil pass0 (pa_cons (pe_ix ix_tup (pv 0) pe_int (fun _ _ => rfl)) (pa_cons pe_int (pa_cons pe_int pa_nil)))) (pe_one (pe_call (ok_is_number T) (hr.mono (by decide)) (by rfl) T.g_is_number T.is_number.kp (b_is_number T) .nil pass0 (pa_cons (pe_ix ix_tup (pv 0) pe_int (fun _ _ => rfl)) (pa_cons pe_int (pa_cons pe_int pa_nil))))))))), ?_⟩
    refine ⟨_, rfl, _, _, _, _, _, rfl, .ty _, dp_ty hd, kit_tup d, _, rfl, ?_⟩
    cases d with
    | tuple ds =>
      cases hd with
      | tup hs ha =>
        refine iteF ⟨_, rfl, _, _, rfl, .inr ⟨_, hs, rfl⟩, rfl, _, rfl, ?_⟩
        by_cases hl : ds.length = 3
        · obtain ⟨d0, d1, d2, rfl⟩ := len3 hl
          obtain ⟨v0, v1, v2, rfl, h0, h1, h2⟩ := dpa3 ha
          refine iteNNQ rfl ⟨_, rfl, _, _, _, _, rfl, rfl, hs, rfl, _, _, _, _, _, rfl, .ty _, dp_ty h2, kit_bool d2, _, rfl, ?_⟩
          cases d2 with
          | bool r =>
            refine iteF ⟨_, rfl, _, _, _, _, rfl, rfl, hs, rfl, _, d0, _, _, rfl, h0, _, rfl, ?_⟩
            replace q : Q (.bl (isNum d0 1 40 && isNum d1 1 16)) H := q
            refine ite2 (fun e => ?_) (fun e => ?_)
            · rw [e] at q
              exact ⟨_, rfl, _, _, _, _, rfl, rfl, hs, rfl, _, d1, _, _, rfl, h1, q⟩
            · rw [Bool.eq_false_iff.mpr e] at q
              exact q
          | _ => exact iteT q
        · rw [isBar_len hl] at q
          exact iteNEQ (by rw [dpa_len ha]; omega) q
    | _ => exact iteT q
theorem sc_Part_init : FnScope ["self", "bars", "one"] ["self", "bars"] (defScope s_Part_init) := ⟨rfl, rfl, rfl, by decide +kernel, rfl, by decide +kernel, by decide +kernel⟩
section
variable {K : PySem.W.Frag} {mg : Str → Option Value}
theorem b1_Part (T : Txt K mg) : Binds K (fdOf K ("Part", some "__init__")) ["self", "bars"] [] := by
  obtain ⟨ds, v, b⟩ := T.Part_init.binds1 (ps := ["self", "bars"]) 2 1 (by simp) rfl fun T kV doc pm an cdv ct us its h1 h2 => match us, its, h1, h2 with | [_, _], [_], _, _ => ⟨_, rfl, rfl⟩
  cases v
  exact b
theorem b0_Part (T : Txt K mg) : ∃ ds, Vals [.non] ds ∧ Binds K (fdOf K ("Part", some "__init__")) ["self", "bars"] ds :=
  T.Part_init.binds1 (ps := ["self", "bars"]) 1 0 (by simp) rfl fun T kV doc pm an cdv ct us its h1 h2 => match us, its, h1, h2 with | [_], [_], _, _ => ⟨_, rfl, rfl⟩
end
def sp_Part_init (K : PySem.W.Frag) : Sp := fun vs H Q _ => ∃ (x dx : Addr) (v : V) (bs : List Bar), vs = [.ref x, v] ∧ H x = some (.ins (pC K) dx []) ∧ (v = .non ∧ bs = [] ∨ ∃ a, v = .ref a ∧ Dp K H (.ref a) (.list (barsD bs))) ∧ (∀ b ∈ bs, BarOk b) ∧ bs.length ≤ 40 ∧
  ∀ H' q, Fr [x] H H' → H q = none → PartX K H' x q bs [] → Q .non H'
theorem isBars : ∀ {bs : List Bar}, (∀ b ∈ bs, BarOk b) → (bs.map fun b => isBar (barD b)).all id = true
  | [], _ => rfl
  | x :: r, h => by
    show (isBar (barD x) && ((r.map fun b => isBar (barD b)).all id)) = true
    rw [isBar_bar (h x List.mem_cons_self), isBars fun b hb => h b (List.mem_cons_of_mem _ hb)]
    rfl
theorem ok_Part_init {P : Program} {w : World} {K : PySem.W.Frag} {mg : Str → Option Value} {base : Heap} (T : Txt K mg) : OkF P w K mg base CX0 3 ("Part", some "__init__") ["self", "bars"] (sp_Part_init K) := by
  refine okN T.Part_init sc_Part_init (fun vs H Q E h => ?_) (fun cdv A outer s H vs Q E hr h => ?_)
  · obtain ⟨x, dx, v, bs, rfl, _⟩ := h
    rfl
  · obtain ⟨x, dx, v, bs, rfl, hx, hv, ok, hl, z⟩ := h
    refine ⟨_, (pss_cons (ps_if (PW.pt (pw_and (pt_cmp (pc_notN (pv 1))) (pw_and1 (PW.pt (pw_or (pt_not (pt_val (pe_callB call_isi (by rfl) T.b_isinstance (by decide +kernel) (pa_cons (pv 1) (pa_cons (pe_bltn (v := .ty "list") (by rfl) T.b_list (by decide +kernel) rfl) pa_nil))))) (pw_or1 (pt_not (pt_val (pe_callB (cr_all rfl) (by rfl) T.b_all (by decide +kernel) (pa_cons (pe_lc (own := [("one", 2)]) (g := (gName 2)) (tt := tYes) (by rfl) sc_Part_init.nd (pi_list (pv 1)) (blkOk_by (own := [("one", 2)]) (N := ["self", "bars", "one"]) (sc := defScope s_Part_init) (by decide +kernel)) (fun _ _ _ _ _ => (pg_name (i := 2) sc_Part_init.nd rfl (by first | exact Or.inl rfl | exact Or.inr rfl))) (fun _ _ _ _ _ => pts_nil) (fun _ _ _ _ _ => (pe_call (ok_is_bar T) (hr.mono (by decide)) (by rfl) T.g_is_bar T.is_bar.kp (b_is_bar T) .nil pass0 (pa_cons (pv 2) pa_nil)))) pa_nil)))))))))) pss_never pss_nil)
      (pss_cons (ps_fld (pv 0) (pe_ifExp (pt_cmp (pc_notN (pv 1))) (pe_callTy call_list_of (by rfl) T.b_list (by decide +kernel) (pa_cons (pv 1) pa_nil)) (pe_lst pa_nil)) rfl)
      (pss_cons (ps_if (pt_cmpR op_gt (pe_callB call_len (by rfl) T.b_len PySem.boot_len (pa_cons (pe_fld (pv 0) rfl) pa_nil)) (pe_glob (v := .int 40) (by rfl) T.c_MOST.choose_spec ⟨_, rfl⟩) (nomark _)) pss_never pss_nil)
      (pss_one (ps_fld (pv 0) (pe_lst pa_nil) rfl))))), ?_⟩
    -- what follows the row's store
    have tail : ∀ (H1 : Hp) (r : Addr) (vs : List V), Fr [x] H H1 → H1 x = some (.ins (pC K) dx []) → H r = none → H1 r = some (.lst vs) → DpAll K H1 vs (barsD bs) →
        ∀ (H2 : Hp), H2 = upd H1 x (.ins (pC K) dx [("row", .ref r)]) → (H2 x = some (.ins (pC K) dx [("row", .ref r)]) ∧ H2 r = some (.lst vs) ∧ Fr [x] H H2 ∧ DpAll K H2 vs (barsD bs)) := by
      intro H1 r vs f h1 nr h2 h3 H2 e
      subst e
      have f2 : Fr [x] H1 (upd H1 x (.ins (pC K) dx [("row", .ref r)])) := Fr.upd h1 trivial (by simp)
      refine ⟨upd_same, ?_, f.trans f2, f2.dpa h3 (isTs_bars bs)⟩
      rw [upd_ne (ne_of h2 h1 (by intro z; cases z))]
      exact h2
    have fin : ∀ (H2 : Hp) (r q : Addr) (vs : List V), H2 x = some (.ins (pC K) dx [("row", .ref r)]) → H2 r = some (.lst vs) → Fr [x] H H2 → DpAll K H2 vs (barsD bs) → H2 q = none →
        Q .non (upd (upd H2 q (.lst [])) x (.ins (pC K) dx (pf r q))) := by
      intro H2 r q vs h1 h2 f h3 nq
      have s : Same H2 (upd H2 q (.lst [])) := same_upd nq
      have nqx : x ≠ q := ne_of_none h1 nq
      have nqr : r ≠ q := ne_of_none h2 nq
      have h1' : (upd H2 q (.lst [])) x = some (.ins (pC K) dx [("row", .ref r)]) := s _ _ h1
      have f2 : Fr [x] (upd H2 q (.lst [])) (upd (upd H2 q (.lst [])) x (.ins (pC K) dx (pf r q))) := Fr.upd h1' trivial (by simp)
      have f3 := (f.trans (Fr.of s _)).trans f2
      have nq0 : H q = none := by
        cases e : H q with
        | none => rfl
        | some o =>
          have := f.keep q o (by simp [nqx.symm]) e
          rw [nq] at this
          cases this
      refine z _ q f3 nq0 ⟨dx, r, [], upd_same, nqr, ⟨vs, ?_, f2.dpa (dpa_same s h3) (isTs_bars bs)⟩, ?_, .nil⟩
      · rw [upd_ne (ne_of (s _ _ h2) h1' (by intro z; cases z))]
        exact s _ _ h2
      · rw [upd_ne nqx.symm, upd_same]
    rcases hv with ⟨rfl, rfl⟩ | ⟨a, rfl, hd⟩
    · refine ⟨_, rfl, _, rfl, ?_⟩
      refine iteF ⟨_, rfl, _, rfl, iteF ⟨by decide, fun r nr => ?_⟩⟩
      have s : Same H (upd H r (.lst [])) := same_upd nr
      refine ⟨_, rfl, x, _, dx, _, rfl, s _ _ hx, T.cl_Part, T.n_row, by decide, ?_⟩
      obtain ⟨h1, h2, h3, h4⟩ := tail _ r [] (Fr.of s _) (s _ _ hx) nr upd_same .nil _ rfl
      refine ⟨_, rfl, x, _, dx, _, _, rfl, h1, T.cl_Part, T.n_row, rfl, _, _, rfl, .inl ⟨_, .of h2, rfl⟩, _, _, rfl, rfl, _, rfl, iteN (by decide) ?_⟩
      exact ⟨by decide, fun q nq => ⟨_, rfl, x, _, dx, [("row", .ref r)], rfl, by rw [upd_ne (ne_of_none h1 nq)]; exact h1, T.cl_Part, T.n_past, by show (1 : Nat) < 1000; decide, fin _ r q [] h1 h2 h3 h4 nq⟩⟩
    · obtain ⟨vs, hs, ha⟩ := lst_bars hd
      refine ⟨_, rfl, _, rfl, ?_⟩
      refine iteT ⟨_, rfl, _, _, _, _, _, rfl, .ty _, dp_ty hd, kit_lst _, _, rfl, iteF ?_⟩
      refine ⟨_, rfl, a, rfl, ⟨_, hs⟩, fun D hD => lc_list (K := K) (a := a) (xs := vs) (fun i H' => Same H H' ∧ H' D = some (.lst (((bs.take i).map fun b => isBar (barD b)).map V.bl))) ⟨same_upd hD, ?_⟩ ?_ ?_ ?_⟩
      · rw [upd_same]
        rfl
      · rintro i H' _ ⟨s, _⟩
        exact s.seq hs
      · rintro i v H' hv ⟨s, e⟩
        obtain ⟨b, p, hb, rfl, hp⟩ := bar_at ha hv
        refine ⟨rfl, _, rfl, _, _, rfl, dp_bar_of (same_sqt s hp), _, e, ?_, ?_, ?_⟩
        · rw [List.length_map, List.length_map, List.length_take]
          exact small1000 (by omega)
        · exact same_updR s hD
        · rw [upd_same, take_at hb, List.map_append, List.map_append]
          rfl
      · rintro H1 ⟨s1, e1⟩
        rw [bars_len ha, List.take_length] at e1
        refine ⟨D, _, rfl, .of e1, _, rfl, ?_⟩
        rw [isBars ok]
        refine iteF ⟨_, rfl, _, rfl, iteT ⟨_, rfl, a, vs, rfl, .inl (s1.seq hs), fun r nr => ?_⟩⟩
        have s2 := s1.trans (same_upd (o := .lst vs) nr)
        refine ⟨_, rfl, x, _, dx, _, rfl, s2 _ _ hx, T.cl_Part, T.n_row, by decide, ?_⟩
        obtain ⟨h1, h2, h3, h4⟩ := tail _ r vs (Fr.of s2 _) (s2 _ _ hx) (s1.free nr) upd_same (dpa_same s2 ha) _ rfl
        refine ⟨_, rfl, x, _, dx, _, _, rfl, h1, T.cl_Part, T.n_row, rfl, _, _, rfl, .inl ⟨_, .of h2, rfl⟩, _, _, rfl, rfl, _, rfl, iteN (by rw [bars_len ha]; omega) ?_⟩
        exact ⟨by decide, fun q nq => ⟨_, rfl, x, _, dx, [("row", .ref r)], rfl, by rw [upd_ne (ne_of_none h1 nq)]; exact h1, T.cl_Part, T.n_past, by show (1 : Nat) < 1000; decide, fin _ r q vs h1 h2 h3 h4 nq⟩⟩
/-! ### the shape of data -/
def Shp (n : Nat) (d : PyData) : Prop := d.canLay0 = true ∧ d.depth ≤ n
def ShpA (n : Nat) (ds : List PyData) : Prop := PyData.canLayAll0 ds = true ∧ PyData.depthAll ds ≤ n
theorem shpA_nil {n : Nat} : ShpA n [] := ⟨by simp [PyData.canLayAll0], by simp [PyData.depthAll]⟩
theorem shpA_cons {n : Nat} {d : PyData} {ds : List PyData} (h : Shp n d) (t : ShpA n ds) : ShpA n (d :: ds) := by
  refine ⟨?_, ?_⟩
  · simp only [PyData.canLayAll0, h.1, t.1, Bool.and_self]
  · simp only [PyData.depthAll]
    exact Nat.max_le.mpr ⟨h.2, t.2⟩
theorem shpA_all {n : Nat} : ∀ {ds : List PyData}, (∀ d ∈ ds, Shp n d) → ShpA n ds
  | [], _ => shpA_nil
  | d :: ds, h => shpA_cons (h d List.mem_cons_self) (shpA_all fun e he => h e (List.mem_cons_of_mem _ he))
theorem shp_list {n : Nat} {ds : List PyData} (h : ShpA n ds) : Shp (n + 1) (.list ds) := ⟨by simp only [PyData.canLay0]; exact h.1, by simp only [PyData.depth]; exact Nat.succ_le_succ h.2⟩
theorem shp_tup {n : Nat} {ds : List PyData} (h : ShpA n ds) : Shp (n + 1) (.tuple ds) := ⟨by simp only [PyData.canLay0]; exact h.1, by simp only [PyData.depth]; exact Nat.succ_le_succ h.2⟩
theorem shp_int {n : Nat} (i : Int) : Shp n (.int i) := ⟨by simp [PyData.canLay0], by simp [PyData.depth]⟩
theorem shp_bool {n : Nat} (b : Bool) : Shp n (.bool b) := ⟨by simp [PyData.canLay0], by simp [PyData.depth]⟩
theorem shp_none {n : Nat} : Shp n .none := ⟨by simp [PyData.canLay0], by simp [PyData.depth]⟩
theorem shp_str {n : Nat} {x : Str} (h : PyData.strOk x = true) : Shp n (.str x) := ⟨by simp only [PyData.canLay0]; exact h, by simp [PyData.depth]⟩
theorem Shp.ok {n : Nat} {d : PyData} (h : Shp n d) (hn : n ≤ 64) : SeqAt.shaped d = true := by
  unfold SeqAt.shaped
  rw [h.1, decide_eq_true (Nat.le_trans h.2 hn)]
  rfl
theorem Shp.mono {n m : Nat} {d : PyData} (h : Shp n d) (hn : n ≤ m) : Shp m d := ⟨h.1, Nat.le_trans h.2 hn⟩
theorem ShpA.mono {n m : Nat} {ds : List PyData} (h : ShpA n ds) (hn : n ≤ m) : ShpA m ds := ⟨h.1, Nat.le_trans h.2 hn⟩
/-! ### == of lists by their items -/
theorem eqvAll_map {α : Type} {f : α → PyData} (hf : ∀ a b : α, PyData.eqv (f a) (f b) = true ↔ a = b) : ∀ xs ys : List α, PyData.eqvAll (xs.map f) (ys.map f) = true ↔ xs = ys
  | [], [] => by simp [PyData.eqvAll]
  | [], _ :: _ => by simp [PyData.eqvAll]
  | _ :: _, [] => by simp [PyData.eqvAll]
  | x :: xs, y :: ys => by
    simp only [List.map_cons, PyData.eqvAll, Bool.and_eq_true, hf x y, eqvAll_map hf xs ys, List.cons.injEq]
theorem eqv_listM {α : Type} {f : α → PyData} (hf : ∀ a b : α, PyData.eqv (f a) (f b) = true ↔ a = b) (xs ys : List α) : PyData.eqv (.list (xs.map f)) (.list (ys.map f)) = true ↔ xs = ys := by
  simp only [PyData.eqv]
  exact eqvAll_map hf xs ys
theorem eqv_tupM {α : Type} {f : α → PyData} (hf : ∀ a b : α, PyData.eqv (f a) (f b) = true ↔ a = b) (xs ys : List α) : PyData.eqv (.tuple (xs.map f)) (.tuple (ys.map f)) = true ↔ xs = ys := by
  simp only [PyData.eqv]
  exact eqvAll_map hf xs ys
theorem eqv_int (i j : Int) : PyData.eqv (.int i) (.int j) = true ↔ i = j := by simp [PyData.eqv]
theorem eqv_nil {xs : List PyData} : PyData.eqv (.list xs) (.list []) = true ↔ xs = [] := by
  cases xs <;> simp [PyData.eqv, PyData.eqvAll]
theorem dpa_ints {K : PySem.W.Frag} {H : Hp} : ∀ ns : List Int, DpAll K H (ns.map V.int) (ns.map PyData.int)
  | [] => .nil
  | n :: r => .cons (.int n) (dpa_ints r)
theorem shp_ints (ns : List Int) : Shp 1 (.list (ns.map PyData.int)) := shp_list (shpA_all fun d hd => by
  obtain ⟨i, _, rfl⟩ := List.mem_map.mp hd
  exact shp_int i)
theorem shp_nil {n : Nat} : Shp (n + 1) (.list []) := shp_list shpA_nil
theorem sc__law_cell : FnScope ["script", "k"] ["script", "k"] (defScope s__law_cell) := ⟨rfl, rfl, rfl, by decide +kernel, rfl, by decide +kernel, by decide +kernel⟩
section
variable {K : PySem.W.Frag} {mg : Str → Option Value}
theorem b__law_cell (T : Txt K mg) : Binds K (fdOf K ("_law_cell", none)) ["script", "k"] [] := T._law_cell.bindsN fun _ _ _ _ _ _ us hl => match us, hl with | [_, _], _ => rfl
end
def sp__law_cell (K : PySem.W.Frag) : Sp := fun vs H Q _ => ∃ (a : Addr) (ns : List Int) (k : Nat), vs = [.ref a, .int (k : Int)] ∧ SqL K H a (ns.map V.int) ∧ ns.length ≤ 63 ∧ k ≤ 1000 ∧ ∀ H' i, Same H H' → Q (.int i) H'
theorem ok__law_cell {P : Program} {w : World} {K : PySem.W.Frag} {mg : Str → Option Value} {base : Heap} (T : Txt K mg) : OkF P w K mg base CX0 1 ("_law_cell", none) ["script", "k"] (sp__law_cell K) := by
  refine okN T._law_cell sc__law_cell (fun vs H Q E h => ?_) (fun cdv A outer s H vs Q E hr h => ?_)
  · obtain ⟨a, ns, k, rfl, _⟩ := h
    rfl
  · obtain ⟨a, ns, k, rfl, hs, hl, hk, z⟩ := h
    refine ⟨_, (pss_cons (ps_if (pt_cmpR (op_eqD hr.units) (pv 0) (pe_lst pa_nil) (nomark _)) (pss_one (ps_ret (pe_op op_mul (pv 1) pe_int))) pss_nil)
      (pss_one (ps_ret (pe_op op_add (pe_ix ix_list (pv 0) (pe_op op_mod (pv 1) (pe_callB call_len (by rfl) T.b_len PySem.boot_len (pa_cons (pv 0) pa_nil))) (fun _ _ => rfl)) (pe_op op_mul (pe_op op_fdiv (pv 1) (pe_callB call_len (by rfl) T.b_len PySem.boot_len (pa_cons (pv 0) pa_nil))) pe_int))))), ?_⟩
    refine ⟨_, rfl, by decide, fun e ne => ?_⟩
    have s1 : Same H (upd H e (.lst [])) := same_upd ne
    refine ⟨_, _, .lst (s1.seq hs) (dpa_ints ns), .lst (.of upd_same) .nil, (shp_ints ns).ok (by decide), (shp_nil (n := 0)).ok (by decide), _, rfl, ?_⟩
    refine ite2 (fun h => ?_) (fun h => ?_)
    · exact ⟨_, rfl, _, _, rfl, rfl, .inr ⟨by decide, by decide⟩, z _ _ s1⟩
    · have hn : ns ≠ [] := fun e => h (eqv_nil.mpr (by rw [e]; rfl))
      have hpos : 0 < ns.length := List.length_pos_iff.mpr hn
      have hb := Int.emod_nonneg (k : Int) (b := (ns.length : Int)) (by omega)
      have hb2 := Int.emod_lt_of_pos (k : Int) (b := (ns.length : Int)) (by omega)
      have hi : ((k : Int) % (ns.length : Int)).toNat < ns.length := by omega
      refine ⟨_, rfl, _, rfl, _, rfl, _, _, rfl, .inl ⟨_, s1.seq hs, rfl⟩, _, _, rfl, rfl, by rw [List.length_map]; omega, ?_⟩
      rw [List.length_map]
      refine ⟨a, _, _, .int ns[((k : Int) % (ns.length : Int)).toNat], rfl, rfl, s1.seq hs, at_of (j := ((k : Int) % (ns.length : Int)).toNat) (by omega) (by rw [List.getElem?_map, List.getElem?_eq_getElem hi]; rfl), ?_⟩
      refine ⟨_, rfl, _, rfl, _, _, rfl, .inl ⟨_, s1.seq hs, rfl⟩, _, _, rfl, rfl, ⟨by rw [List.length_map]; omega, by rw [List.length_map]; omega⟩, ?_⟩
      exact ⟨_, _, rfl, rfl, .inr ⟨by decide, by decide⟩, _, _, rfl, rfl, z _ _ s1⟩
theorem sc__law_rounds : FnScope ["script", "most", "k"] ["script", "most"] (defScope s__law_rounds) := ⟨rfl, rfl, rfl, by decide +kernel, rfl, by decide +kernel, by decide +kernel⟩
section
variable {K : PySem.W.Frag} {mg : Str → Option Value}
theorem b__law_rounds (T : Txt K mg) : Binds K (fdOf K ("_law_rounds", none)) ["script", "most"] [] := T._law_rounds.bindsN fun _ _ _ _ _ _ us hl => match us, hl with | [_, _], _ => rfl
end
def sp__law_rounds (K : PySem.W.Frag) : Sp := fun vs H Q _ => ∃ (a : Addr) (ns : List Int) (most : Nat), vs = [.ref a, .int (most : Int)] ∧ SqL K H a (ns.map V.int) ∧ ns.length ≤ 63 ∧ most ≤ 1000 ∧
  ∀ H' (R : Addr) (ds : List Addr), Same H H' → H R = none → H' R = some (.lst (ds.map V.ref)) → (∀ d ∈ ds, Dice H' d ∧ d ≠ R) → ds.length ≤ 1000 → Q (.ref R) H'
theorem ok__law_rounds {P : Program} {w : World} {K : PySem.W.Frag} {mg : Str → Option Value} {base : Heap} (T : Txt K mg) : OkF P w K mg base CX0 2 ("_law_rounds", none) ["script", "most"] (sp__law_rounds K) := by
  refine okN T._law_rounds sc__law_rounds (fun vs H Q E h => ?_) (fun cdv A outer s H vs Q E hr h => ?_)
  · obtain ⟨a, ns, most, rfl, _⟩ := h
    rfl
  · obtain ⟨a, ns, most, rfl, hs, hl, hm, z⟩ := h
    refine ⟨_, (pss_one (ps_ret (pe_lc (own := [("k", 2)]) (g := (gName 2)) (tt := tYes) (by rfl) sc__law_rounds.nd (pi_range1 (by rfl) T.b_range (pa_cons (pe_callB (call_max2 rfl) (by rfl) T.b_max (by decide +kernel) (pa_cons pe_int (pa_cons (pe_callB (call_min2 rfl) (by rfl) T.b_min (by decide +kernel) (pa_cons (pv 1) (pa_cons (pe_callB call_len (by rfl) T.b_len PySem.boot_len (pa_cons (pv 0) pa_nil)) pa_nil))) pa_nil))) pa_nil)) (blkOk_by (own := [("k", 2)]) (N := ["script", "most", "k"]) (sc := defScope s__law_rounds) (by decide +kernel)) (fun _ _ _ _ _ => (pg_name (i := 2) sc__law_rounds.nd rfl (by first | exact Or.inl rfl | exact Or.inr rfl))) (fun _ _ _ _ _ => pts_nil) (fun _ _ _ _ _ => (pe_lst (pa_cons (pe_call (ok__law_cell T) (hr.mono (by decide)) (by rfl) T.g__law_cell T._law_cell.kp (b__law_cell T) .nil pass0 (pa_cons (pv 0) (pa_cons (pv 2) pa_nil))) (pa_cons pe_int pa_nil))))))), ?_⟩
    refine ⟨_, rfl, _, rfl, _, _, rfl, .inl ⟨_, hs, rfl⟩, _, _, rfl, _, _, rfl, _, rfl, ?_⟩
    rw [List.length_map]
    have hb : ∃ n : Nat, (if (if (ns.length : Int) < (most : Int) then (ns.length : Int) else (most : Int)) > 1 then (if (ns.length : Int) < (most : Int) then (ns.length : Int) else (most : Int)) else 1) = (n : Int) ∧ n ≤ 1000 := by
      by_cases h1 : (ns.length : Int) < (most : Int)
      · rw [if_pos h1]
        by_cases h2 : (ns.length : Int) > 1
        · exact ⟨ns.length, if_pos h2, by omega⟩
        · exact ⟨1, if_neg h2, by omega⟩
      · rw [if_neg h1]
        by_cases h2 : (most : Int) > 1
        · exact ⟨most, if_pos h2, by omega⟩
        · exact ⟨1, if_neg h2, by omega⟩
    obtain ⟨n, en, hn⟩ := hb
    rw [en]
    refine ⟨by omega, by omega, fun D hD => lc_range (lo := 0) (n := n) (fun i H' => Same H H' ∧ ∃ ds : List Addr, H' D = some (.lst (ds.map V.ref)) ∧ ds.length = i ∧ ∀ d ∈ ds, Dice H' d ∧ d ≠ D) ⟨same_upd hD, [], upd_same, rfl, fun _ h => nomatch h⟩ ?_ ?_⟩
    · rintro i H1 hi ⟨s1, ds, e1, hlen, hds⟩
      refine ⟨rfl, _, rfl, _, rfl, a, ns, i, ?_, s1.seq hs, hl, by omega, fun H2 c s2 => ⟨by show (2 : Nat) ≤ sizeLine; decide, fun d nd => ?_⟩⟩
      · show [V.ref a, V.int (0 + (i : Int))] = [V.ref a, V.int (i : Int)]
        rw [Int.zero_add]
      have s3 := s2.trans (same_upd (o := .lst [.int c, .int 0]) nd)
      have e3 := s3 _ _ e1
      refine ⟨_, e3, ?_, ?_, ds ++ [d], ?_, ?_, ?_⟩
      · rw [List.length_map]
        exact small1000 (by omega)
      · exact same_updR (s1.trans s3) hD
      · rw [upd_same, List.map_append]
        rfl
      · rw [List.length_append, hlen]
        rfl
      · intro x hx
        have nD : d ≠ D := fun e => by
          rw [e] at nd
          rw [s2 _ _ e1] at nd
          cases nd
        rcases List.mem_append.mp hx with hx | hx
        · obtain ⟨⟨p, q, hp⟩, nx⟩ := hds x hx
          exact ⟨⟨p, q, by rw [upd_ne nx]; exact s3 _ _ hp⟩, nx⟩
        · have ex : x = d := by simpa using hx
          subst ex
          exact ⟨⟨c, 0, by rw [upd_ne nD, upd_same]⟩, nD⟩
    · rintro H1 ⟨s1, ds, e1, hlen, hds⟩
      exact z H1 D ds s1 hD e1 hds (by omega)
theorem sc__law_drawn : FnScope ["cell", "k", "more"] ["cell", "k"] (defScope s__law_drawn) := ⟨rfl, rfl, rfl, by decide +kernel, rfl, by decide +kernel, by decide +kernel⟩
section
variable {K : PySem.W.Frag} {mg : Str → Option Value}
theorem b__law_drawn (T : Txt K mg) : Binds K (fdOf K ("_law_drawn", none)) ["cell", "k"] [] := T._law_drawn.bindsN fun _ _ _ _ _ _ us hl => match us, hl with | [_, _], _ => rfl
end
theorem mod_abs {x M : Int} {a : Nat} (h : 0 < M) (hM : M.natAbs < 2 ^ a) : (x % M).natAbs < 2 ^ a := by
  have h1 := Int.emod_nonneg x (b := M) (by omega)
  have h2 := Int.emod_lt_of_pos x h
  exact Nat.lt_of_le_of_lt (by omega) hM
theorem mod1_abs {x M : Int} {a : Nat} (h : 0 < M) (hM : M.natAbs < 2 ^ a) : (x % M + 1).natAbs < 2 ^ a := by
  have h1 := Int.emod_nonneg x (b := M) (by omega)
  have h2 := Int.emod_lt_of_pos x h
  exact Nat.lt_of_le_of_lt (by omega) hM
theorem div1_abs {x M P : Int} {a : Nat} (h : 0 < M) (hP : 0 < P) (hM : M.natAbs < 2 ^ a) : (x % M / P + 1).natAbs < 2 ^ a := by
  have h1 := Int.emod_nonneg x (b := M) (by omega)
  have h2 := Int.emod_lt_of_pos x h
  have h3 : 0 ≤ x % M / P := Int.ediv_nonneg h1 (by omega)
  have h4 : x % M / P ≤ x % M := Int.ediv_le_self P h1
  exact Nat.lt_of_le_of_lt (by omega) hM
def sp__law_drawn : Sp := fun vs H Q _ => ∃ c k : Int, vs = [.int c, .int k] ∧ ∀ r : Int, Q (.int r) H
theorem ok__law_drawn {P : Program} {w : World} {K : PySem.W.Frag} {mg : Str → Option Value} {base : Heap} (T : Txt K mg) : OkF P w K mg base CX0 1 ("_law_drawn", none) ["cell", "k"] sp__law_drawn := by
  refine okN T._law_drawn sc__law_drawn (fun vs H Q E h => ?_) (fun cdv A outer s H vs Q E hr h => ?_)
  · obtain ⟨c, k, rfl, _⟩ := h
    rfl
  · obtain ⟨c, k, rfl, z⟩ := h
    refine ⟨_, (pss_cons (ps_set (i := 2) sc__law_drawn.nd rfl (by first | exact Or.inl rfl | exact Or.inr rfl) (pe_op op_mod (pe_op op_add (pe_op op_mul (pv 0) pe_int) (pe_op op_mul (pe_op op_add (pv 1) pe_int) pe_int)) pe_int))
      (pss_cons (ps_set (i := 2) sc__law_drawn.nd rfl (by first | exact Or.inl rfl | exact Or.inr rfl) (pe_op op_mod (pe_op op_mulW (pv 2) (pv 2)) pe_int))
      (pss_cons (ps_set (i := 2) sc__law_drawn.nd rfl (by first | exact Or.inl rfl | exact Or.inr rfl) (pe_op op_mulW (pe_op op_mulW (pe_op op_add (pe_op op_mod (pv 2) pe_int) pe_int) (pe_op op_add (pe_op op_fdivW (pv 2) pe_int) pe_int)) (pv 2)))
      (pss_one (ps_ret (pe_op op_mod (pv 2) pe_int)))))), ?_⟩
    refine ⟨_, rfl, _, _, rfl, rfl, .inr ⟨by decide, by decide⟩, _, rfl, _, _, rfl, rfl, _, _, rfl, rfl, .inr ⟨by decide, by decide⟩, _, _, rfl, rfl, _, _, rfl, rfl, (by show (0 : Int) < 340282366920938463463374607431768211507; decide), ?_⟩
    refine ⟨_, rfl, _, rfl, _, _, rfl, rfl, wide_mul (a := 129) (b := 129) (mod_abs (by decide) (by decide)) (mod_abs (by decide) (by decide)) (by decide) (by decide) (by decide), _, _, rfl, rfl, (by show (0 : Int) < 340282366920938463463374607431768211297; decide), ?_⟩
    refine ⟨_, rfl, _, _, rfl, rfl, (by show (0 : Int) < 18446744073709551557; decide), _, _, rfl, rfl, _, rfl, _, _, rfl, rfl, ⟨by decide, by decide +kernel⟩, _, _, rfl, rfl, _, _, rfl, rfl, ?_, ?_⟩
    · exact wide_mul (a := 129) (b := 129) (mod1_abs (by decide) (by decide)) (div1_abs (by decide) (by decide) (by decide)) (by decide) (by decide) (by decide)
    · refine ⟨_, rfl, _, _, rfl, rfl, wide_mul (a := 258) (b := 129) (wide_lt (a := 129) (b := 129) (mod1_abs (by decide) (by decide)) (div1_abs (by decide) (by decide) (by decide))) (mod_abs (by decide) (by decide)) (by decide) (by decide) (by decide), ?_⟩
      exact ⟨_, rfl, _, _, rfl, rfl, (by show (0 : Int) < 340282366920938463463374607431768211507; decide), z _⟩
theorem sc__law_roll : FnScope ["dice", "many", "told"] ["dice", "many"] (defScope s__law_roll) := ⟨rfl, rfl, rfl, by decide +kernel, rfl, by decide +kernel, by decide +kernel⟩
section
variable {K : PySem.W.Frag} {mg : Str → Option Value}
theorem b__law_roll (T : Txt K mg) : Binds K (fdOf K ("_law_roll", none)) ["dice", "many"] [] := T._law_roll.bindsN fun _ _ _ _ _ _ us hl => match us, hl with | [_, _], _ => rfl
end
def sp__law_roll : Sp := fun vs H Q _ => ∃ (d : Addr) (many : Int), vs = [.ref d, .int many] ∧ Dice H d ∧ 0 < many ∧ many < 1073741824 ∧ ∀ H' (r : Int), Fr [d] H H' → Dice H' d → 0 ≤ r → r < many → Q (.int r) H'
theorem ok__law_roll {P : Program} {w : World} {K : PySem.W.Frag} {mg : Str → Option Value} {base : Heap} (T : Txt K mg) : OkF P w K mg base CX0 2 ("_law_roll", none) ["dice", "many"] sp__law_roll := by
  refine okN T._law_roll sc__law_roll (fun vs H Q E h => ?_) (fun cdv A outer s H vs Q E hr h => ?_)
  · obtain ⟨d, many, rfl, _⟩ := h
    rfl
  · obtain ⟨d, many, rfl, ⟨a, b, hd⟩, h1, h2, z⟩ := h
    refine ⟨_, (pss_cons (ps_if (pt_cmpR op_ge (pe_ix ix_list (pv 0) pe_int (fun _ _ => rfl)) (pe_op op_pow pe_int pe_int) (nomark _)) (pss_cons (ps_set (i := 2) sc__law_roll.nd rfl (by first | exact Or.inl rfl | exact Or.inr rfl) (pe_op op_mod (pe_ix ix_list (pv 0) pe_int (fun _ _ => rfl)) (pv 1)))
      (pss_cons (ps_asg (pe_op op_fdiv (pe_ix ix_list (pv 0) pe_int (fun _ _ => rfl)) (pv 1)) (pg_sub (pv 0) pe_int set_list))
      (pss_one (ps_ret (pv 2))))) pss_nil)
      (pss_cons (ps_asg (pe_op op_add (pe_ix ix_list (pv 0) pe_int (fun _ _ => rfl)) pe_int) (pg_sub (pv 0) pe_int set_list))
      (pss_one (ps_ret (pe_op op_mod (pe_op op_fdiv (pe_call (ok__law_drawn T) (hr.mono (by decide)) (by rfl) T.g__law_drawn T._law_drawn.kp (b__law_drawn T) .nil pass0 (pa_cons (pe_ix ix_list (pv 0) pe_int (fun _ _ => rfl)) (pa_cons (pe_ix ix_list (pv 0) pe_int (fun _ _ => rfl)) pa_nil))) pe_int) (pv 1)))))), ?_⟩
    refine ⟨_, rfl, d, _, _, _, rfl, rfl, .of hd, rfl, _, _, rfl, rfl, ⟨by decide, by decide, by decide⟩, _, _, rfl, rfl, _, rfl, ?_⟩
    refine ite2 (fun h => ?_) (fun h => ?_)
    · refine ⟨_, rfl, d, _, _, _, rfl, rfl, .of hd, rfl, _, rfl, _, _, rfl, rfl, h1, ?_⟩
      refine ⟨_, rfl, d, _, _, _, rfl, rfl, .of hd, rfl, _, rfl, _, _, rfl, rfl, ⟨h1, h2⟩, _, rfl, d, _, _, 0, rfl, rfl, hd, rfl, ?_⟩
      exact ⟨_, rfl, z _ _ (Fr.upd hd trivial (by simp)) ⟨_, _, upd_same⟩ (Int.emod_nonneg _ (by omega)) (Int.emod_lt_of_pos _ h1)⟩
    · refine ⟨_, rfl, d, _, _, _, rfl, rfl, .of hd, rfl, _, _, rfl, rfl, _, rfl, d, _, _, 1, rfl, rfl, hd, rfl, ?_⟩
      refine ⟨_, rfl, d, _, _, _, rfl, rfl, .of upd_same, rfl, _, rfl, d, _, _, _, rfl, rfl, .of upd_same, rfl, _, _, rfl, fun r => ?_⟩
      exact ⟨_, _, rfl, rfl, ⟨by decide, by decide⟩, _, rfl, _, _, rfl, rfl, h1, z _ _ (Fr.upd hd trivial (by simp)) ⟨_, _, upd_same⟩ (Int.emod_nonneg _ (by omega)) (Int.emod_lt_of_pos _ h1)⟩
def sp_law (K : PySem.W.Frag) : Sp := fun vs H Q _ => ∃ (a : Addr) (ns : List Int), vs = [.ref a] ∧ SqL K H a (ns.map V.int) ∧ ns.length ≤ 63 ∧ ∀ H', Q (.bl true) H'
/-- the dice of all rounds -/
def Rnd (H : Hp) (R : Addr) (ds : List Addr) : Prop := H R = some (.lst (ds.map V.ref)) ∧ ∀ d ∈ ds, Dice H d ∧ d ≠ R
theorem Rnd.turn {H0 H1 : Hp} {R d : Addr} {ds : List Addr} (h : Rnd H0 R ds) (hd : d ∈ ds) (f : Fr [d] H0 H1) (hd1 : Dice H1 d) : Rnd H1 R ds := by
  obtain ⟨h1, h2⟩ := h
  refine ⟨f.keep _ _ (by simp [(h2 d hd).2.symm]) h1, fun x hx => ⟨?_, (h2 x hx).2⟩⟩
  by_cases e : x = d
  · rw [e]
    exact hd1
  · obtain ⟨⟨a, b, z⟩, _⟩ := h2 x hx
    exact ⟨a, b, f.keep _ _ (by simp [e]) z⟩
theorem Rnd.at {H : Hp} {R : Addr} {ds : List Addr} (h : Rnd H R ds) {i : Nat} {v : V} (e : (ds.map V.ref)[i]? = some v) : ∃ d, v = .ref d ∧ d ∈ ds ∧ Dice H d := by
  rw [List.getElem?_map] at e
  cases q : ds[i]? with
  | none =>
    rw [q] at e
    cases e
  | some d =>
    rw [q] at e
    exact ⟨d, (Option.some.inj e).symm, List.mem_of_getElem? q, (h.2 d (List.mem_of_getElem? q)).1⟩
theorem Dice.fr {H H' : Hp} {d x : Addr} (h : Dice H x) (f : Fr [d] H H') (n : x ≠ d) : Dice H' x := by
  obtain ⟨a, b, z⟩ := h
  exact ⟨a, b, f.keep _ _ (by simp [n]) z⟩
theorem Dice.same {H H' : Hp} {d : Addr} (h : Dice H d) (s : Same H H') : Dice H' d := by
  obtain ⟨a, b, z⟩ := h
  exact ⟨a, b, s _ _ z⟩
theorem Fr.then {ds : List Addr} {H0 H1 H2 : Hp} (a : Fr ds H0 H1) (s : Same H1 H2) : Fr ds H0 H2 := a.trans (Fr.of s ds)
theorem Dice.keep {H H' : Hp} {d : Addr} {es : List Addr} (h : Dice H d) (f : Fr es H H') (n : d ∉ es) : Dice H' d := by
  obtain ⟨a, b, z⟩ := h
  exact ⟨a, b, f.keep _ _ n z⟩
/-- a new part -/
theorem make_part {K : PySem.W.Frag} {H : Hp} {v : V} {bs : List Bar} {Q : Addr → Hp → Prop} (hv : v = .non ∧ bs = [] ∨ ∃ a, v = .ref a ∧ Dp K H (.ref a) (.list (barsD bs))) (ok : ∀ b ∈ bs, BarOk b) (hl : bs.length ≤ 40)
    (k : ∀ H' p q, Same H H' → H p = none → H q = none → p ≠ q → PartX K H' p q bs [] → Q p H') :
    ∀ x dx, H x = none → H dx = none → dx ≠ x → sp_Part_init K [.ref x, v] (upd (upd H dx (.own x)) x (.ins (pC K) dx [])) (fun v H2 => v = .non ∧ Q x H2) E0 := by
  intro x dx nx nd ne
  have s : Same H (upd (upd H dx (.own x)) x (.ins (pC K) dx [])) := fun b o e => by
    rw [upd_ne (ne_of_none e nx), upd_ne (ne_of_none e nd)]
    exact e
  refine ⟨x, dx, v, bs, rfl, upd_same, ?_, ok, hl, fun H' q f nq hp => ?_⟩
  · rcases hv with h | ⟨a, e, h⟩
    · exact .inl h
    · exact .inr ⟨a, e, dp_same s h⟩
  · have nqx : x ≠ q := fun e => by
      rw [← e, upd_same] at nq
      cases nq
    have nq0 : H q = none := s.free nq
    exact ⟨rfl, k H' x q (fun b o e => f.keep b o (by simp [ne_of_none e nx]) (s b o e)) nx nq0 nqx hp⟩
/-- a bar appended -/
theorem row_app {K : PySem.W.Frag} {H : Hp} {B : Addr} {bs : List Bar} {v : V} {b : Bar} {vs : List V} (h1 : H B = some (.lst vs)) (h2 : DpAll K H vs (barsD bs)) (hv : Dp K H v (barD b)) : RowAt K (upd H B (.lst (vs ++ [v]))) B (bs ++ [b]) ∧ Fr [B] H (upd H B (.lst (vs ++ [v]))) := by
  have f : Fr [B] H (upd H B (.lst (vs ++ [v]))) := Fr.upd h1 trivial (by simp)
  refine ⟨⟨_, upd_same, ?_⟩, f⟩
  show DpAll K _ _ ((bs ++ [b]).map barD)
  rw [List.map_append]
  exact dpa_app (f.dpa h2 (isTs_bars bs)) (.cons (f.dp hv (isT_bar b)) .nil)
theorem new_ne {H : Hp} {d L : Addr} (hD : Dice H d) (nL : H L = none) : L ≠ d := fun e => by
  obtain ⟨i, j, q⟩ := hD
  rw [e, q] at nL
  cases nL
theorem sc__law_bar : FnScope ["dice", "width"] ["dice"] (defScope s__law_bar) := ⟨rfl, rfl, rfl, by decide +kernel, rfl, by decide +kernel, by decide +kernel⟩
section
variable {K : PySem.W.Frag} {mg : Str → Option Value}
theorem b__law_bar (T : Txt K mg) : Binds K (fdOf K ("_law_bar", none)) ["dice"] [] := T._law_bar.bindsN fun _ _ _ _ _ _ us hl => match us, hl with | [_], _ => rfl
end
def sp__law_bar (K : PySem.W.Frag) : Sp := fun vs H Q _ => ∃ (d : Addr), vs = [.ref d] ∧ Dice H d ∧ ∀ v H' b, Fr [d] H H' → Dice H' d → Dp K H' v (barD b) → BarOk b → Q v H'
theorem ok__law_bar {P : Program} {w : World} {K : PySem.W.Frag} {mg : Str → Option Value} {base : Heap} (T : Txt K mg) : OkF P w K mg base CX0 3 ("_law_bar", none) ["dice"] (sp__law_bar K) := by
  refine okN T._law_bar sc__law_bar (fun vs H Q E h => ?_) (fun cdv A outer s H vs Q E hr h => ?_)
  · obtain ⟨d, rfl, _⟩ := h
    rfl
  · obtain ⟨d, rfl, hD, z⟩ := h
    refine ⟨_, (pss_cons (ps_set (i := 1) sc__law_bar.nd rfl (by first | exact Or.inl rfl | exact Or.inr rfl) (pe_op op_add pe_int (pe_ix ix_list (pe_lst (pa_cons (pe_call (ok__law_roll T) (hr.mono (by decide)) (by rfl) T.g__law_roll T._law_roll.kp (b__law_roll T) .nil pass0 (pa_cons (pv 0) (pa_cons pe_int pa_nil))) (pa_cons (pe_call (ok__law_roll T) (hr.mono (by decide)) (by rfl) T.g__law_roll T._law_roll.kp (b__law_roll T) .nil pass0 (pa_cons (pv 0) (pa_cons pe_int pa_nil))) pa_nil))) (pe_op op_fdiv (pe_call (ok__law_roll T) (hr.mono (by decide)) (by rfl) T.g__law_roll T._law_roll.kp (b__law_roll T) .nil pass0 (pa_cons (pv 0) (pa_cons pe_int pa_nil))) pe_int) (fun _ _ => rfl))))
      (pss_one (ps_ret (pe_tup (pa_cons (pv 1) (pa_cons (pe_op op_add pe_int (pe_call (ok__law_roll T) (hr.mono (by decide)) (by rfl) T.g__law_roll T._law_roll.kp (b__law_roll T) .nil pass0 (pa_cons (pv 0) (pa_cons pe_int pa_nil)))) (pa_cons (pe_cmpR op_lt (pe_call (ok__law_roll T) (hr.mono (by decide)) (by rfl) T.g__law_roll T._law_roll.kp (b__law_roll T) .nil pass0 (pa_cons (pv 0) (pa_cons pe_int pa_nil))) pe_int (nomark _)) pa_nil))))))), ?_⟩
    refine ⟨_, rfl, d, 8, rfl, hD, by decide, by decide, fun H1 r1 f1 hD1 a1 b1 => ?_⟩
    refine ⟨_, rfl, d, 40, rfl, hD1, by decide, by decide, fun H2 r2 f2 hD2 a2 b2 => ⟨by show (2 : Nat) ≤ sizeLine; decide, fun L nL => ?_⟩⟩
    have sL := same_upd (o := .lst [.int r1, .int r2]) nL
    have ndL : L ≠ d := fun e => by
      obtain ⟨i, j, q⟩ := hD2
      rw [e, q] at nL
      cases nL
    refine ⟨_, rfl, d, 4, rfl, hD2.same sL, by decide, by decide, fun H3 r3 f3 hD3 a3 b3 => ?_⟩
    have hL3 := f3.keep L _ (by simp [ndL]) upd_same
    have key : ∀ width : Int, 1 ≤ width → width ≤ 40 → (tAsg (tC (.int width)) (gName 1)) { nx := (tRet (tTup (tCons (tVar 1) (tCons (tOp (rI0 fun i j => .int (i + j)) (tC (.int 1)) (tCall sp__law_roll [] E0 (tCons (tVar 0) (tCons (tC (.int 16)) tNil)))) (tCons (tOp (rI0 fun i j => .bl (decide (i < j))) (tCall sp__law_roll [] E0 (tCons (tVar 0) (tCons (tC (.int 5)) tNil))) (tC (.int 2))) tNil))))) { nx := fun _ H' => Q .non H', rt := Q }, rt := Q } [some (.ref d), none] H3 := by
      intro width w1 w2
      refine ⟨_, rfl, _, rfl, d, 16, rfl, hD3, by decide, by decide, fun H4 r4 f4 hD4 a4 b4 => ⟨_, _, rfl, rfl, ?_⟩⟩
      refine ⟨_, rfl, d, 5, rfl, hD4, by decide, by decide, fun H5 r5 f5 hD5 a5 b5 => ⟨_, _, rfl, rfl, by show (3 : Nat) ≤ sizeLine; decide, fun t nt => ?_⟩⟩
      have st := same_upd (o := .tup [.int width, .int (1 + r4), .bl (decide (r5 < 2))]) nt
      exact z _ _ ⟨width, 1 + r4, decide (r5 < 2)⟩ ((((((f1.trans f2).then sL).trans f3).trans f4).trans f5).then st) (hD5.same st) (dp_bar_of (.of upd_same)) ⟨w1, w2, by show 1 ≤ 1 + r4; omega, by show 1 + r4 ≤ 16; omega⟩
    refine ⟨_, _, rfl, rfl, ⟨by decide, by decide⟩, ?_⟩
    by_cases h3 : r3 < 3
    · refine ⟨L, _, _, .int r1, rfl, rfl, .of hL3, at_of (j := 0) (by omega) rfl, _, _, rfl, rfl, key _ (by omega) (by omega)⟩
    · refine ⟨L, _, _, .int r2, rfl, rfl, .of hL3, at_of (j := 1) (by omega) rfl, _, _, rfl, rfl, key _ (by omega) (by omega)⟩
theorem sc__law_row : FnScope ["dice", "most", "turn"] ["dice", "most"] (defScope s__law_row) := ⟨rfl, rfl, rfl, by decide +kernel, rfl, by decide +kernel, by decide +kernel⟩
section
variable {K : PySem.W.Frag} {mg : Str → Option Value}
theorem b__law_row (T : Txt K mg) : Binds K (fdOf K ("_law_row", none)) ["dice", "most"] [] := T._law_row.bindsN fun _ _ _ _ _ _ us hl => match us, hl with | [_, _], _ => rfl
end
def sp__law_row (K : PySem.W.Frag) : Sp := fun vs H Q _ => ∃ (d : Addr) (most : Nat), vs = [.ref d, .int (most : Int)] ∧ Dice H d ∧ most ≤ 1000 ∧ ∀ H' a bs, Fr [d] H H' → Dice H' d → H a = none → RowAt K H' a bs → (∀ b ∈ bs, BarOk b) → bs.length ≤ most → Q (.ref a) H'
theorem ok__law_row {P : Program} {w : World} {K : PySem.W.Frag} {mg : Str → Option Value} {base : Heap} (T : Txt K mg) : OkF P w K mg base CX0 4 ("_law_row", none) ["dice", "most"] (sp__law_row K) := by
  refine okN T._law_row sc__law_row (fun vs H Q E h => ?_) (fun cdv A outer s H vs Q E hr h => ?_)
  · obtain ⟨d, most, rfl, _⟩ := h
    rfl
  · obtain ⟨d, most, rfl, hD, hm, z⟩ := h
    refine ⟨_, (pss_one (ps_ret (pe_lc (own := [("turn", 2)]) (g := (gName 2)) (tt := tYes) (by rfl) sc__law_row.nd (pi_range1 (by rfl) T.b_range (pa_cons (pe_call (ok__law_roll T) (hr.mono (by decide)) (by rfl) T.g__law_roll T._law_roll.kp (b__law_roll T) .nil pass0 (pa_cons (pv 0) (pa_cons (pe_op op_add (pv 1) pe_int) pa_nil))) pa_nil)) (blkOk_by (own := [("turn", 2)]) (N := ["dice", "most", "turn"]) (sc := defScope s__law_row) (by decide +kernel)) (fun _ _ _ _ _ => (pg_name (i := 2) sc__law_row.nd rfl (by first | exact Or.inl rfl | exact Or.inr rfl))) (fun _ _ _ _ _ => pts_nil) (fun _ _ _ _ _ => (pe_call (ok__law_bar T) (hr.mono (by decide)) (by rfl) T.g__law_bar T._law_bar.kp (b__law_bar T) .nil pass0 (pa_cons (pv 0) pa_nil)))))), ?_⟩
    refine ⟨_, rfl, _, rfl, _, _, rfl, rfl, d, _, rfl, hD, by omega, by omega, fun H1 r f1 hD1 r0 r1 => ⟨r, rfl, by omega, by omega, fun D nD => ?_⟩⟩
    have nDd : D ≠ d := fun e => by
      obtain ⟨i, j, q⟩ := hD1
      rw [e, q] at nD
      cases nD
    have nD0 : H D = none := by
      cases e : H D with
      | none => rfl
      | some o =>
        have := f1.keep D o (by simp [nDd]) e
        rw [nD] at this
        cases this
    have sD := same_upd (o := .lst []) nD
    refine lc_range (lo := 0) (n := r.toNat) (fun i H' => Fr [d] H H' ∧ Dice H' d ∧ ∃ bs : List Bar, bs.length = i ∧ (∀ b ∈ bs, BarOk b) ∧ RowAt K H' D bs) ⟨f1.then sD, hD1.same sD, [], rfl, fun _ h => (nomatch h), [], upd_same, .nil⟩ ?_ ?_
    · rintro i H2 hi ⟨f2, hD2, bs, hl, ok, row⟩
      refine ⟨rfl, _, rfl, d, rfl, hD2, fun v H3 b f3 hD3 hv okb => ?_⟩
      obtain ⟨vs, q1, q2⟩ := row.fr f3 (by simp [nDd])
      obtain ⟨row4, f4⟩ := row_app q1 q2 hv
      refine ⟨vs, q1, ?_, (f2.trans f3).step f4 (by simp [nD0]), hD3.keep f4 (by simp [nDd.symm]), bs ++ [b], ?_, ?_, row4⟩
      · rw [bars_len q2]
        exact small1000 (by omega)
      · rw [List.length_append, hl]
        rfl
      · intro x hx
        rcases List.mem_append.mp hx with hx | hx
        · exact ok x hx
        · have e : x = b := by simpa using hx
          rw [e]
          exact okb
    · rintro H2 ⟨f2, hD2, bs, hl, ok, row⟩
      exact z _ _ bs f2 hD2 nD0 row ok (by omega)
theorem units65 {k : Nat} {A : Around} (h : Room k A) : A.units + 65 < cLine := by
  have := h.un
  omega
def rLenK (K : PySem.W.Frag) : List V → Hp → VK → Prop := fun xs H Q => ∃ x n, xs = [x] ∧ LenV K x H n ∧ Q (.int (n : Nat)) H
section
variable {X : Cx}
/-- sum of a tuple of ints -/
def rSumT (K : PySem.W.Frag) : List V → Hp → VK → Prop := fun vs H Q => ∃ (a : Addr) (ns : List Int), vs = [V.ref a] ∧ SqT K H a (ns.map V.int) ∧ Q (.int ns.sum) H
theorem cr_sumT (hc : X.calm = true) : CallR X (.builtin "sum") (rSumT X.K) := by
  intro pins s σ H vs us Q I r h
  obtain ⟨a, ns, rfl, hs, q⟩ := h
  obtain ⟨its, rv, hl, _⟩ := I.tuple hs
  rw [Vals.ref1 r]
  have hi : IntsAre its ns := rv.ints
  obtain ⟨xs, e⟩ := hi.allInts.items
  have hn : numsOf (intItems xs).toList = ns := by rw [← e]; exact hi.numsOf
  rw [nums_intItems] at hn
  have hT : s.heap.IsTuple a (intItems xs) := by rw [← e]; exact hl
  have hlt : a < s.heap.objs.size := hl.lt
  refine call_sum_walkG (wpAny_pyIter_tuple hT ?_)
  refine ⟨_, [s.heap.objs.size, a], [s.heap.objs.size], _, _, _, numAt xs, rfl, Walks.tuple (A := X.A.in1) (I.ok.hd hc) _ a (Nat.ne_of_lt hlt) (intItems xs),
    ⟨⟨_, Heap.get?_push_size _ rfl, rfl, rfl⟩, hT.push _⟩, fun c hcc => ?_, (fun _ _ => intItems_at), fun h' tk t' hk => ?_⟩
  · show c < (s.heap.push _).objs.size
    rw [Heap.size_push]
    rcases List.mem_cons.mp hcc with rfl | hcc
    · exact Nat.lt_succ_self _
    · have e : c = a := by simpa using hcc
      rw [e]
      exact Nat.lt_succ_of_lt hlt
  · have hk2 : ∀ b o, s.heap.get? b = some o → h'.get? b = some o := fun b o e => hk b o (by
      intro hb
      have e2 : b = s.heap.objs.size := by simpa using hb
      have lt := Heap.lt_size e
      rw [e2] at lt
      exact Nat.lt_irrefl _ lt) (Heap.get?_push_of_some _ e)
    refine ⟨.int ns.sum, H, I.kept hk2, ⟨t', ?_⟩, q⟩
    rw [preSum_eq, List.take_of_length_le (by simp [intItems]), hn]
/-- t.count(x) of data -/
def rCntD (K : PySem.W.Frag) : V → List V → Hp → VK → Prop := fun x xs H Q => ∃ (p : Addr) (y : V) (ds : List PyData) (d : PyData), x = .ref p ∧ xs = [y] ∧ Dp K H (.ref p) (.tuple ds) ∧ Dp K H y d ∧ SeqAt.shaped (.tuple ds) = true ∧ SeqAt.shaped d = true ∧ Q (.int ((ds.countP fun z => PyData.eqv z d : Nat) : Int)) H
theorem mt_tcount (hu : X.A.units + 65 < cLine) : MtR X "tuple.count" (rCntD X.K) := by
  intro pins s σ H x xs v us Q I rx rxs h
  obtain ⟨p, y, ds, d, rfl, rfl, hl, hy, sl, sd, q⟩ := h
  cases rx
  obtain ⟨u, rfl, ru⟩ := rxs.one
  obtain ⟨bs, r1⟩ := Dp.reads I d y u hy ru
  cases hl with
  | tup hs ha =>
    obtain ⟨its, rv, hT, _⟩ := I.tuple hs
    obtain ⟨as, h4⟩ := Dp.readsAll I ds _ its ha rv
    exact SeqAt.count_tuple_data (vs := its.toArray) hT (by simpa using h4) r1 (PyData.plain_of_canLay0 (.tuple ds) (SeqAt.canLay_of_shaped sl)) (PyData.plain_of_canLay0 _ (SeqAt.canLay_of_shaped sd)) (room_in_shaped sd hu) ⟨.int _, H, I.tok _, ⟨_, rfl⟩, q⟩
def rInDT (K : PySem.W.Frag) : R2 := fun x y H Q => ∃ d ds, Dp K H x d ∧ Dp K H y (.tuple ds) ∧ SeqAt.shaped d = true ∧ SeqAt.shaped (.tuple ds) = true ∧ Q (.bl (ds.any fun z => PyData.eqv z d)) H
def rNotInDT (K : PySem.W.Frag) : R2 := fun x y H Q => ∃ d ds, Dp K H x d ∧ Dp K H y (.tuple ds) ∧ SeqAt.shaped d = true ∧ SeqAt.shaped (.tuple ds) = true ∧ Q (.bl (!ds.any fun z => PyData.eqv z d)) H
theorem op_inDT (hu : X.A.units + 65 < cLine) : OpR X (compareOp .In) (rInDT X.K) := by
  intro pins s σ H x y v u Q I rx ry h
  obtain ⟨d, ds, hd, he, sd, se, q⟩ := h
  obtain ⟨as, r1⟩ := Dp.reads I d x v hd rx
  obtain ⟨bs, r2⟩ := Dp.reads I (.tuple ds) y u he ry
  exact SeqAt.in_tuple_reads r2 r1 (SeqAt.canLay_of_shaped se) (SeqAt.canLay_of_shaped sd) (room_in_shaped sd hu) ⟨.bl _, H, I, rfl, q⟩
theorem op_notInDT (hu : X.A.units + 65 < cLine) : OpR X (compareOp .NotIn) (rNotInDT X.K) := by
  intro pins s σ H x y v u Q I rx ry h
  obtain ⟨d, ds, hd, he, sd, se, q⟩ := h
  obtain ⟨as, r1⟩ := Dp.reads I d x v hd rx
  obtain ⟨bs, r2⟩ := Dp.reads I (.tuple ds) y u he ry
  exact SeqAt.notIn_tuple_reads r2 r1 (SeqAt.canLay_of_shaped se) (SeqAt.canLay_of_shaped sd) (room_in_shaped sd hu) ⟨.bl _, H, I, rfl, q⟩
end
section
variable {X : Cx}
/-- t[lo:hi] of a tuple, whether or not it is the same object -/
def rSlU (K : PySem.W.Frag) : V → Option Int → Option Int → Hp → VK → Prop := fun x lo hi H Q => ∃ a xs, x = .ref a ∧ SqT K H a xs ∧ ∀ c H', Same H H' → SqT K H' c (cutV xs lo hi) → Q (.ref c) H'
theorem cut_all {xs : List V} {lo hi : Option Int} (h : HT.sIx xs.length 0 lo = 0 ∧ HT.sIx xs.length xs.length hi = xs.length) : cutV xs lo hi = xs := by
  unfold cutV
  rw [h.1, h.2, List.drop_zero, Nat.sub_zero, List.take_length]
theorem sl_tupU : SlR X (rSlU X.K) := by
  intro pins s σ H x v vl vu lo hi sl Q I rx hsl pl pu q
  obtain ⟨a, xs, e, hs, k⟩ := q
  exact sl_tupA pins s σ H x v vl vu lo hi sl Q I rx hsl pl pu ⟨a, xs, e, hs, fun c => k a H (Same.refl H) (by rw [cut_all c]; exact hs), fun _ p np => k p _ (same_upd np) (.of upd_same)⟩
/-- t + u of tuples, whether or not it is one of them -/
def rCatU (K : PySem.W.Frag) : R2 := fun x y H Q => ∃ a b xs ys, x = .ref a ∧ y = .ref b ∧ SqT K H a xs ∧ SqT K H b ys ∧ xs.length + ys.length ≤ sizeLine ∧ ∀ c H', Same H H' → SqT K H' c (xs ++ ys) → Q (.ref c) H'
theorem op_catU : OpR X (binaryOp .Add) (rCatU X.K) := by
  intro pins s σ H x y v u Q I rx ry q
  obtain ⟨a, b, xs, ys, e1, e2, h1, h2, hl, k⟩ := q
  refine op_catA pins s σ H x y v u Q I rx ry ⟨a, b, xs, ys, e1, e2, h1, h2, hl, fun e => k b H (Same.refl H) (by rw [e]; exact h2), fun _ e => k a H (Same.refl H) (by rw [e, List.append_nil]; exact h1), fun _ _ p np => k p _ (same_upd np) (.of upd_same)⟩
end
/-! ### desks, rows of numbers -/
structure Desk where
  room : Int
  turn : Int
  side : Bool
  empty : Int
def sideS (b : Bool) : Str := if b = true then Str.ofString "right" else Str.ofString "left"
def deskD (k : Desk) : PyData := .tuple [.int k.room, .int k.turn, .str (sideS k.side), .int k.empty]
def deskV (k : Desk) : List V := [.int k.room, .int k.turn, .str (sideS k.side), .int k.empty]
structure DeskOk (k : Desk) : Prop where
  r0 : 1 ≤ k.room
  r1 : k.room ≤ 200
  t0 : 0 ≤ k.turn
  t1 : k.turn ≤ 99
  e0 : 0 ≤ k.empty
  e1 : k.empty ≤ 3
theorem isT_desk (k : Desk) : isT (deskD k) = true := rfl
abbrev numsD (ns : List Nat) : List PyData := ns.map fun (n : Nat) => PyData.int (n : Int)
abbrev numsV (ns : List Nat) : List V := ns.map fun (n : Nat) => V.int (n : Int)
section
variable {K : PySem.W.Frag} {H : Hp}
theorem dp_desk {v : V} {k : Desk} (h : Dp K H v (deskD k)) : ∃ p, v = .ref p ∧ SqT K H p (deskV k) := by
  cases h with
  | tup s a =>
    obtain ⟨v0, v1, v2, v3, rfl, h0, h1, h2, h3⟩ := dpa4 a
    cases h0
    cases h1
    cases h2
    cases h3
    exact ⟨_, rfl, s⟩
theorem dp_desk_of {p : Addr} {k : Desk} (h : SqT K H p (deskV k)) : Dp K H (.ref p) (deskD k) := .tup h (.cons (.int _) (.cons (.int _) (.cons (.str _) (.cons (.int _) .nil))))
theorem dpa_nums : ∀ {ns : List Nat} {vs : List V}, DpAll K H vs (numsD ns) → vs = numsV ns
  | [], _, .nil => rfl
  | n :: r, _, .cons d t => by
    cases d
    show V.int _ :: _ = V.int _ :: numsV r
    rw [dpa_nums t]
theorem dpa_nums_of : ∀ ns : List Nat, DpAll K H (numsV ns) (numsD ns)
  | [] => .nil
  | n :: r => .cons (.int _) (dpa_nums_of r)
theorem dp_nums {v : V} {ns : List Nat} (h : Dp K H v (.tuple (numsD ns))) : ∃ p, v = .ref p ∧ SqT K H p (numsV ns) := by
  cases h with
  | tup s a =>
    rw [dpa_nums a] at s
    exact ⟨_, rfl, s⟩
theorem dp_nums_of {p : Addr} {ns : List Nat} (h : SqT K H p (numsV ns)) : Dp K H (.ref p) (.tuple (numsD ns)) := .tup h (dpa_nums_of ns)
end
theorem isTs_nums : ∀ ns : List Nat, isTs (numsD ns) = true
  | [] => rfl
  | n :: r => by
    show (isT (.int (n : Int)) && isTs (numsD r)) = true
    rw [isTs_nums r]
    rfl
theorem shp_nums (ns : List Nat) : Shp 1 (.tuple (numsD ns)) := shp_tup (shpA_all fun d hd => by
  obtain ⟨n, _, rfl⟩ := List.mem_map.mp hd
  exact shp_int _)
theorem isNum_of {i lo hi : Int} (h1 : lo ≤ i) (h2 : i ≤ hi) : isNum (.int i) lo hi = true := by
  show (decide (lo ≤ i) && decide (i ≤ hi)) = true
  rw [decide_eq_true h1, decide_eq_true h2]
  rfl
/-- whether a page is a right one -/
def isRight (k : Desk) (page : Nat) : Bool := decide (page % 2 = 0) == k.side
def wideOf (bs : List Bar) (b e : Nat) : Int := (((bs.drop b).take (e - b)).map Bar.w).sum
theorem cut_both {xs : List V} {b e : Nat} (h : b ≤ e) : cutV xs (some (b : Int)) (some (e : Int)) = (xs.drop b).take (e - b) := by
  unfold cutV
  rw [HT.sIx_nat, HT.sIx_nat]
  by_cases h1 : b ≤ xs.length
  · rw [Nat.min_eq_left h1]
    by_cases h2 : e ≤ xs.length
    · rw [Nat.min_eq_left h2]
    · rw [Nat.min_eq_right (by omega), List.take_of_length_le (by rw [List.length_drop]; omega), List.take_of_length_le (by rw [List.length_drop]; omega)]
  · rw [Nat.min_eq_right (by omega), Nat.min_eq_right (by omega), List.drop_length, List.drop_eq_nil_of_le (by omega), List.take_nil, List.take_nil]
/-- what is wrong -/
inductive Wrong where
  | wide (p : Nat) | empty (p : Nat) | turn (p : Nat) | form
def wrongD : Wrong → PyData
  | .wide p => .tuple [.str (Str.ofString "wide"), .int (p : Int)]
  | .empty p => .tuple [.str (Str.ofString "empty"), .int (p : Int)]
  | .turn p => .tuple [.str (Str.ofString "turn"), .int (p : Int)]
  | .form => .tuple [.str (Str.ofString "form")]
def faultD : Option Wrong → PyData
  | none => .none
  | some x => wrongD x
def pageFault (bs : List Bar) (k : Desk) (ns : List Nat) (page : Nat) : Option Wrong :=
  let e := (ns.take (page + 1)).sum
  let n := ns.getD page 0
  if wideOf bs (e - n) e > k.room then some (.wide page)
  else if n = 0 ∧ (page + 1 = ns.length ∨ (((ns.take (page + 1)).count 0 : Nat) : Int) > k.empty) then some (.empty page)
  else if isRight k page = true ∧ ¬ page + 1 = ns.length ∧ restOf bs e < k.turn then some (.turn page)
  else none
/-- the first fault from a page on -/
def faultFrom (bs : List Bar) (k : Desk) (ns : List Nat) (page : Nat) : Nat → Option Wrong
  | 0 => none
  | m + 1 => match pageFault bs k ns page with
    | some x => some x
    | none => faultFrom bs k ns (page + 1) m
def faultN (bs : List Bar) (k : Desk) (ns : List Nat) : Option Wrong := if ns.sum = bs.length then faultFrom bs k ns 0 ns.length else some .form
theorem numsV_ints (ns : List Nat) : numsV ns = (ns.map fun (n : Nat) => (n : Int)).map V.int := by
  rw [List.map_map]
  rfl
/-! ### repeats and the order that is played -/
def repD (r : Nat × Nat) : PyData := .tuple [.int (r.1 : Int), .int (r.2 : Int)]
def repV (r : Nat × Nat) : List V := [.int (r.1 : Int), .int (r.2 : Int)]
abbrev repsD (rs : List (Nat × Nat)) : List PyData := rs.map repD
def RepOk (n : Nat) : Nat → List (Nat × Nat) → Prop
  | _, [] => True
  | a, x :: r => a ≤ x.1 ∧ x.1 ≤ x.2 ∧ x.2 < n ∧ RepOk n (x.2 + 1) r
def rng (a b : Nat) : List Nat := List.range' a (b - a)
def orderOf (n : Nat) : Nat → List (Nat × Nat) → List Nat
  | a, [] => rng a n
  | a, x :: r => rng a (x.2 + 1) ++ rng x.1 (x.2 + 1) ++ orderOf n (x.2 + 1) r
theorem rng_V (a b : Nat) : rgV (a : Int) (b : Int) = numsV (rng a b) := by
  unfold rgV rng
  rw [show ((b : Int) - (a : Int)).toNat = b - a by omega, List.range'_eq_map_range]
  show _ = List.map _ (List.map _ _)
  rw [List.map_map]
  refine List.map_congr_left fun i _ => ?_
  show V.int ((a : Int) + (i : Int)) = V.int ((a + i : Nat) : Int)
  rw [Int.natCast_add]
theorem rng_len (a b : Nat) : (rng a b).length = b - a := List.length_range'
theorem rng_cons {a b : Nat} (h : a < b) : rng a b = a :: rng (a + 1) b := by
  unfold rng
  rw [show b - a = (b - (a + 1)) + 1 by omega, List.range'_succ]
theorem rng_nil {a b : Nat} (h : b ≤ a) : rng a b = [] := by
  unfold rng
  rw [show b - a = 0 by omega]
  rfl
theorem rng_app {a b c : Nat} (h1 : a ≤ b) (h2 : b ≤ c) : rng a b ++ rng b c = rng a c := by
  unfold rng
  rw [show c - a = (b - a) + (c - b) by omega]
  have := @List.range'_append a (b - a) (c - b) 1
  rw [Nat.one_mul, show a + (b - a) = b by omega] at this
  exact this
theorem rng_count (a b k : Nat) : (rng a b).count k = if a ≤ k ∧ k < b then 1 else 0 := by
  induction h : b - a generalizing a with
  | zero =>
    rw [rng_nil (by omega), if_neg (by omega)]
    rfl
  | succ m ih =>
    rw [rng_cons (by omega), List.count_cons, ih (a + 1) (by omega)]
    by_cases e : a = k
    · subst e
      rw [if_neg (show ¬ (a + 1 ≤ a ∧ a < b) by omega), if_pos (show a ≤ a ∧ a < b by omega)]
      simp
    · rw [show (a == k) = false from beq_eq_false_iff_ne.mpr e]
      by_cases h2 : a ≤ k ∧ k < b
      · rw [if_pos (show a + 1 ≤ k ∧ k < b by omega), if_pos h2]
        rfl
      · rw [if_neg (show ¬ (a + 1 ≤ k ∧ k < b) by omega), if_neg h2]
        rfl
theorem order_len {n : Nat} : ∀ {rs : List (Nat × Nat)} {a : Nat}, RepOk n a rs → (orderOf n a rs).length ≤ 2 * (n - a)
  | [], a, _ => by
    show (rng a n).length ≤ _
    rw [rng_len]
    omega
  | x :: r, a, h => by
    obtain ⟨h1, h2, h3, h4⟩ := h
    have := order_len h4
    show (rng a (x.2 + 1) ++ rng x.1 (x.2 + 1) ++ orderOf n (x.2 + 1) r).length ≤ _
    rw [List.length_append, List.length_append, rng_len, rng_len]
    omega
theorem order_count {n k : Nat} (hk : k < n) : ∀ {rs : List (Nat × Nat)} {a : Nat}, RepOk n a rs → (orderOf n a rs).count k = (if a ≤ k then 1 else 0) + rs.countP fun x => decide (x.1 ≤ k) && decide (k ≤ x.2)
  | [], a, _ => by
    show (rng a n).count k = _ + 0
    rw [rng_count]
    by_cases h : a ≤ k
    · rw [if_pos ⟨h, hk⟩, if_pos h]
    · rw [if_neg (fun e => h e.1), if_neg h]
  | x :: r, a, h => by
    obtain ⟨h1, h2, h3, h4⟩ := h
    have ih := order_count hk h4
    show (rng a (x.2 + 1) ++ rng x.1 (x.2 + 1) ++ orderOf n (x.2 + 1) r).count k = _
    rw [List.count_append, List.count_append, ih, rng_count, rng_count, List.countP_cons]
    by_cases c1 : a ≤ k
    · by_cases c2 : k ≤ x.2
      · rw [if_pos (⟨c1, by omega⟩ : a ≤ k ∧ k < x.2 + 1), if_pos c1, if_neg (by omega : ¬ x.2 + 1 ≤ k)]
        by_cases c3 : x.1 ≤ k
        · rw [if_pos (⟨c3, by omega⟩ : x.1 ≤ k ∧ k < x.2 + 1), if_pos (by simp [c2, c3])]
          omega
        · rw [if_neg (fun e => c3 e.1), if_neg (by simp [c3])]
          omega
      · rw [if_neg (by omega : ¬ (a ≤ k ∧ k < x.2 + 1)), if_pos c1, if_neg (by omega : ¬ (x.1 ≤ k ∧ k < x.2 + 1)), if_pos (by omega : x.2 + 1 ≤ k), if_neg (by simp [c2])]
        omega
    · rw [if_neg (fun e => c1 e.1), if_neg c1, if_neg (by omega : ¬ (x.1 ≤ k ∧ k < x.2 + 1)), if_neg (by omega : ¬ x.2 + 1 ≤ k), if_neg (by simp; omega)]
      omega
theorem order_mem {n : Nat} : ∀ {rs : List (Nat × Nat)} {a : Nat}, RepOk n a rs → ∀ k ∈ orderOf n a rs, k < n
  | [], a, _, k, hk => by
    have h : k ∈ List.range' a (n - a) := hk
    rw [List.mem_range'_1] at h
    omega
  | x :: r, a, h, k, hk => by
    obtain ⟨h1, h2, h3, h4⟩ := h
    have hk2 : k ∈ List.range' a (x.2 + 1 - a) ++ List.range' x.1 (x.2 + 1 - x.1) ++ orderOf n (x.2 + 1) r := hk
    rw [List.mem_append, List.mem_append, List.mem_range'_1, List.mem_range'_1] at hk2
    rcases hk2 with (hk2 | hk2) | hk2
    · omega
    · omega
    · exact order_mem h4 k hk2
/-- on the way: at or ahead of the first repeat's end -/
def RepIn (n a : Nat) : List (Nat × Nat) → Prop
  | [] => True
  | x :: r => a ≤ x.2 ∧ x.1 ≤ x.2 ∧ x.2 < n ∧ RepOk n (x.2 + 1) r
theorem RepOk.in {n a : Nat} {rs : List (Nat × Nat)} (h : RepOk n a rs) : RepIn n a rs := by
  cases rs with
  | nil => trivial
  | cons x r =>
    obtain ⟨h1, h2, h3, h4⟩ := h
    exact ⟨by omega, h2, h3, h4⟩
theorem RepOk.down {n a b : Nat} {rs : List (Nat × Nat)} (h : RepOk n a rs) (hb : b ≤ a) : RepOk n b rs := by
  cases rs with
  | nil => trivial
  | cons x r =>
    obtain ⟨h1, h2, h3, h4⟩ := h
    exact ⟨by omega, h2, h3, h4⟩
theorem order_down {n a b : Nat} {rs : List (Nat × Nat)} (h : RepOk n a rs) (hb : b ≤ a) (ha : a ≤ n) : orderOf n b rs = rng b a ++ orderOf n a rs := by
  cases rs with
  | nil => exact (rng_app hb ha).symm
  | cons x r =>
    obtain ⟨h1, h2, h3, h4⟩ := h
    show rng b (x.2 + 1) ++ rng x.1 (x.2 + 1) ++ orderOf n (x.2 + 1) r = rng b a ++ (rng a (x.2 + 1) ++ rng x.1 (x.2 + 1) ++ orderOf n (x.2 + 1) r)
    rw [← rng_app hb (show a ≤ x.2 + 1 by omega)]
    simp only [List.append_assoc]
theorem order_end {n : Nat} {x : Nat × Nat} {r : List (Nat × Nat)} (h : RepIn n x.2 (x :: r)) : orderOf n x.2 (x :: r) = x.2 :: orderOf n x.1 r ∧ RepIn n x.1 r := by
  obtain ⟨h1, h2, h3, h4⟩ := h
  refine ⟨?_, (h4.down (by omega)).in⟩
  rw [order_down h4 (show x.1 ≤ x.2 + 1 by omega) (by omega)]
  show rng x.2 (x.2 + 1) ++ rng x.1 (x.2 + 1) ++ orderOf n (x.2 + 1) r = _
  rw [rng_cons (Nat.lt_succ_self _), rng_nil (Nat.le_refl _), List.append_assoc]
  rfl
theorem order_next {n a : Nat} {rs : List (Nat × Nat)} (ha : a < n) (h : RepIn n a rs) (hn : ∀ x ∈ rs.head?, x.2 ≠ a) : orderOf n a rs = a :: orderOf n (a + 1) rs ∧ RepIn n (a + 1) rs := by
  cases rs with
  | nil => exact ⟨rng_cons ha, trivial⟩
  | cons x r =>
    obtain ⟨h1, h2, h3, h4⟩ := h
    have := hn x rfl
    refine ⟨?_, by omega, h2, h3, h4⟩
    show rng a (x.2 + 1) ++ rng x.1 (x.2 + 1) ++ orderOf n (x.2 + 1) r = a :: (rng (a + 1) (x.2 + 1) ++ rng x.1 (x.2 + 1) ++ orderOf n (x.2 + 1) r)
    rw [rng_cons (by omega)]
    rfl
theorem RepOk.lt {n : Nat} : ∀ {rs : List (Nat × Nat)} {a : Nat}, RepOk n a rs → ∀ x ∈ rs, a ≤ x.2 ∧ x.2 < n ∧ x.1 ≤ x.2 ∧ a ≤ x.1
  | [], _, _, _, hx => nomatch hx
  | y :: r, a, h, x, hx => by
    obtain ⟨h1, h2, h3, h4⟩ := h
    rcases List.mem_cons.mp hx with e | hx
    · subst e
      exact ⟨by omega, h3, h2, h1⟩
    · have := RepOk.lt h4 x hx
      exact ⟨by omega, this.2.1, this.2.2.1, by omega⟩
theorem RepOk.split {n : Nat} : ∀ {rs1 rs2 : List (Nat × Nat)} {a : Nat}, RepOk n a (rs1 ++ rs2) → ∀ x ∈ rs1, ∀ y ∈ rs2, x.2 < y.2
  | [], _, _, _, _, hx, _, _ => nomatch hx
  | z :: r, rs2, a, h, x, hx, y, hy => by
    obtain ⟨h1, h2, h3, h4⟩ := h
    rcases List.mem_cons.mp hx with e | hx
    · subst e
      have := RepOk.lt h4 y (List.mem_append_right _ hy)
      omega
    · exact RepOk.split h4 x hx y hy
/-- what ends at a place and is not done -/
theorem back_of {n a b : Nat} {rs1 rs2 : List (Nat × Nat)} {dn : Nat × Nat → Bool} (h : RepOk n b (rs1 ++ rs2)) (hd : ∀ x, dn x = true ↔ x ∈ rs1) (hi : RepIn n a rs2) :
    ((rs1 ++ rs2).filter fun x => decide (x.2 = a) && !dn x) = rs2.head?.toList.filter fun x => decide (x.2 = a) := by
  rw [List.filter_append]
  have e1 : (rs1.filter fun x => decide (x.2 = a) && !dn x) = [] := by
    rw [List.filter_eq_nil_iff]
    intro x hx
    rw [(hd x).mpr hx]
    simp
  rw [e1, List.nil_append]
  cases rs2 with
  | nil => rfl
  | cons y r =>
    obtain ⟨h1, h2, h3, h4⟩ := hi
    have ny : dn y = false := by
      cases e : dn y with
      | false => rfl
      | true =>
        have := h.split y ((hd y).mp e) y List.mem_cons_self
        omega
    have e2 : (r.filter fun x => decide (x.2 = a) && !dn x) = [] := by
      rw [List.filter_eq_nil_iff]
      intro x hx
      have := h4.lt x hx
      rw [decide_eq_false (by omega)]
      simp
    show List.filter _ (y :: r) = List.filter _ [y]
    rw [List.filter_cons, List.filter_cons, e2, ny]
    simp
/-- the repeats that end there, all of them -/
theorem ends_at {n b : Nat} {rs1 r : List (Nat × Nat)} {x : Nat × Nat} (h : RepOk n b (rs1 ++ x :: r)) (y : Nat × Nat) : y ∈ (rs1 ++ x :: r).filter (fun z => decide (z.2 = x.2)) ↔ y = x := by
  rw [List.mem_filter]
  constructor
  · rintro ⟨hy, e⟩
    have e2 : y.2 = x.2 := of_decide_eq_true e
    rcases List.mem_append.mp hy with hy | hy
    · have := h.split y hy x List.mem_cons_self
      omega
    · rcases List.mem_cons.mp hy with hy | hy
      · exact hy
      · have := RepOk.split (rs1 := rs1 ++ [x]) (rs2 := r) (by rw [List.append_assoc]; exact h) x (by simp) y hy
        omega
  · rintro rfl
    exact ⟨by simp, decide_eq_true rfl⟩
section
variable {K : PySem.W.Frag} {H : Hp}
theorem dp_rep {v : V} {x : Nat × Nat} (h : Dp K H v (repD x)) : ∃ p, v = .ref p ∧ SqT K H p (repV x) := by
  cases h with
  | tup s a =>
    obtain ⟨v0, v1, rfl, h0, h1⟩ := dpa2 a
    cases h0
    cases h1
    exact ⟨_, rfl, s⟩
theorem dp_rep_of {p : Addr} {x : Nat × Nat} (h : SqT K H p (repV x)) : Dp K H (.ref p) (repD x) := .tup h (.cons (.int _) (.cons (.int _) .nil))
theorem rep_at {vs : List V} {rs : List (Nat × Nat)} {i : Nat} {v : V} (h : DpAll K H vs (repsD rs)) (e : vs[i]? = some v) : ∃ x, rs[i]? = some x ∧ Dp K H v (repD x) := by
  obtain ⟨d, e1, hd⟩ := dpa_at h e
  rw [List.getElem?_map] at e1
  cases q : rs[i]? with
  | none =>
    rw [q] at e1
    cases e1
  | some x =>
    rw [q] at e1
    have e2 : repD x = d := Option.some.inj e1
    subst e2
    exact ⟨x, rfl, hd⟩
end
theorem isTs_reps : ∀ rs : List (Nat × Nat), isTs (repsD rs) = true
  | [] => rfl
  | x :: r => by
    show (isT (repD x) && isTs (repsD r)) = true
    rw [isTs_reps r]
    rfl
theorem shp_rep (x : Nat × Nat) : Shp 1 (repD x) := shp_tup (shpA_cons (shp_int _) (shpA_cons (shp_int _) shpA_nil))
theorem eqv_rep (x y : Nat × Nat) : PyData.eqv (repD x) (repD y) = true ↔ x = y := by
  obtain ⟨a, b⟩ := x
  obtain ⟨c, d⟩ := y
  simp [repD, PyData.eqv, PyData.eqvAll]
  omega
theorem sc__law_repeats : FnScope ["dice", "bars", "found", "at", "turn", "begin", "end"] ["dice", "bars"] (defScope s__law_repeats) := ⟨rfl, rfl, rfl, by decide +kernel, rfl, by decide +kernel, by decide +kernel⟩
section
variable {K : PySem.W.Frag} {mg : Str → Option Value}
theorem b__law_repeats (T : Txt K mg) : Binds K (fdOf K ("_law_repeats", none)) ["dice", "bars"] [] := T._law_repeats.bindsN fun _ _ _ _ _ _ us hl => match us, hl with | [_, _], _ => rfl
end
def sp__law_repeats (K : PySem.W.Frag) : Sp := fun vs H Q _ => ∃ (d a : Addr) (bs : List Bar), vs = [.ref d, .ref a] ∧ Dice H d ∧ RowAt K H a bs ∧ a ≠ d ∧ bs.length ≤ 1000 ∧ ∀ v H' rs, Fr [d] H H' → Dice H' d → Dp K H' v (.tuple (repsD rs)) → RepOk bs.length 0 rs → rs.length ≤ 3 → Q v H'
theorem ok__law_repeats {P : Program} {w : World} {K : PySem.W.Frag} {mg : Str → Option Value} {base : Heap} (T : Txt K mg) : OkF P w K mg base CX0 3 ("_law_repeats", none) ["dice", "bars"] (sp__law_repeats K) := by
  refine okN T._law_repeats sc__law_repeats (fun vs H Q E h => ?_) (fun cdv A outer s H vs Q E hr h => ?_)
  · obtain ⟨d, a, bs, rfl, _⟩ := h
    rfl
  · obtain ⟨d, a, bs, rfl, hD, row, nad, hlen, z⟩ := h
    refine ⟨_, (pss_cons (ps_par (by rfl) sc__law_repeats.nd (i := 2) (j := 3) rfl rfl (by decide) rfl rfl (pa_cons (pe_lst pa_nil) (pa_cons pe_int pa_nil)) (by rfl))
      (pss_cons (ps_for PassesOwn.never rfl (pi_range1 (by rfl) T.b_range (pa_cons (pe_call (ok__law_roll T) (hr.mono (by decide)) (by rfl) T.g__law_roll T._law_roll.kp (b__law_roll T) .nil pass0 (pa_cons (pv 0) (pa_cons pe_int pa_nil))) pa_nil)) (pg_name (i := 4) sc__law_repeats.nd rfl (by first | exact Or.inl rfl | exact Or.inr rfl))
      (pss_cons (ps_set (i := 5) sc__law_repeats.nd rfl (by first | exact Or.inl rfl | exact Or.inr rfl) (pe_op op_add (pv 3) (pe_call (ok__law_roll T) (hr.mono (by decide)) (by rfl) T.g__law_roll T._law_roll.kp (b__law_roll T) .nil pass0 (pa_cons (pv 0) (pa_cons pe_int pa_nil)))))
      (pss_cons (ps_set (i := 6) sc__law_repeats.nd rfl (by first | exact Or.inl rfl | exact Or.inr rfl) (pe_op op_add (pv 5) (pe_call (ok__law_roll T) (hr.mono (by decide)) (by rfl) T.g__law_roll T._law_roll.kp (b__law_roll T) .nil pass0 (pa_cons (pv 0) (pa_cons pe_int pa_nil)))))
      (pss_one (ps_if (pt_cmpR op_lt (pv 6) (pe_callB call_len (by rfl) T.b_len PySem.boot_len (pa_cons (pv 1) pa_nil)) (nomark _)) (pss_cons (ps_expr (pe_bm PySem.F.plainAttrs_list PySem.F.slot_list_append PySem.F.type_list_append mt_append (pv 2) (pa_cons (pe_tup (pa_cons (pv 5) (pa_cons (pv 6) pa_nil))) pa_nil)))
      (pss_one (ps_set (i := 3) sc__law_repeats.nd rfl (by first | exact Or.inl rfl | exact Or.inr rfl) (pe_op op_add (pv 6) pe_int)))) pss_nil)))))
      (pss_one (ps_ret (pe_callTy call_tuple_of (by rfl) T.b_tuple (by decide +kernel) (pa_cons (pv 2) pa_nil)))))), ?_⟩
    refine ⟨by decide, fun F nF => ⟨_, _, rfl, ?_⟩⟩
    have sF := same_upd (o := .lst []) nF
    have nFd : F ≠ d := new_ne hD nF
    refine ⟨_, rfl, d, 4, rfl, hD.same sF, by decide, by decide, fun H1 r f1 hD1 r0 r1 => ⟨r, rfl, by omega, by omega, ?_⟩⟩
    have g1 := (Fr.of sF [d]).trans f1
    refine for_range (lo := 0) (n := r.toNat) (fun j σ H' => Fr [d] H H' ∧ Dice H' d ∧ ∃ (rs : List (Nat × Nat)) (at_ : Nat) (ws : List V) (y4 y5 y6 : Option V), rs.length ≤ j ∧ at_ ≤ bs.length ∧ (∀ more, RepOk bs.length at_ more → RepOk bs.length 0 (rs ++ more)) ∧ H' F = some (.lst ws) ∧ DpAll K H' ws (repsD rs) ∧ σ = [some (.ref d), some (.ref a), some (.ref F), some (.int (at_ : Int)), y4, y5, y6]) ⟨g1, hD1, [], 0, [], none, none, none, Nat.le_refl _, Nat.zero_le _, fun _ h => h, f1.keep _ _ (by simp [nFd]) upd_same, .nil, rfl⟩ ?_ ?_
    · rintro j σ H2 hj ⟨f2, hD2, rs, at_, ws, y4, y5, y6, hrl, hat, hrep, hF2, hds2, rfl⟩
      refine ⟨_, rfl, _, rfl, d, 4, rfl, hD2, by decide, by decide, fun H3 r3 f3 hD3 a3 b3 => ⟨_, _, rfl, rfl, ?_⟩⟩
      obtain ⟨n3, rfl⟩ : ∃ k : Nat, r3 = (k : Int) := ⟨r3.toNat, by omega⟩
      refine ⟨_, rfl, _, rfl, d, 5, rfl, hD3, by decide, by decide, fun H4 r4 f4 hD4 a4 b4 => ⟨_, _, rfl, rfl, ?_⟩⟩
      obtain ⟨n4, rfl⟩ : ∃ k : Nat, r4 = (k : Int) := ⟨r4.toNat, by omega⟩
      have g4 := (f2.trans f3).trans f4
      have row4 : RowAt K H4 a bs := row.fr g4 (by simp [nad])
      have hF4 := f4.keep _ _ (by simp [nFd]) (f3.keep _ _ (by simp [nFd]) hF2)
      have hds4 := f4.dpa (f3.dpa hds2 (isTs_reps rs)) (isTs_reps rs)
      obtain ⟨bv, v1, v2⟩ := id row4
      refine ⟨_, rfl, _, rfl, _, _, rfl, .inl ⟨_, .of v1, rfl⟩, _, _, rfl, rfl, _, rfl, ?_⟩
      rw [bars_len v2]
      have ee : (at_ : Int) + (n3 : Int) + (n4 : Int) = ((at_ + n3 + n4 : Nat) : Int) := by omega
      refine ite2P (fun hlt => ?_) (fun hlt => ?_)
      · have hlt2 : at_ + n3 + n4 < bs.length := by omega
        refine ⟨_, rfl, .inl ⟨rfl, _, .of hF4⟩, _, rfl, _, rfl, by show (2 : Nat) ≤ sizeLine; decide, fun t nt => ?_⟩
        have st := same_upd (o := .tup [.int ((at_ : Int) + (n3 : Int)), .int ((at_ : Int) + (n3 : Int) + (n4 : Int))]) nt
        refine ⟨F, ws, _, rfl, rfl, st _ _ hF4, ?_, ?_⟩
        · rw [dpa_len hds4, List.length_map]
          exact small1000 (by omega)
        have f5 : Fr [F] (upd H4 t (.tup [.int ((at_ : Int) + (n3 : Int)), .int ((at_ : Int) + (n3 : Int) + (n4 : Int))])) _ := Fr.upd (u := .lst (ws ++ [.ref t])) (st _ _ hF4) trivial (by simp)
        refine ⟨_, rfl, _, _, rfl, rfl, (g4.then st).step f5 (by simp [nF]), (hD4.same st).keep f5 (by simp [nFd.symm]), rs ++ [(at_ + n3, at_ + n3 + n4)], at_ + n3 + n4 + 1, ws ++ [.ref t], _, _, _, ?_, by omega, ?_, upd_same, ?_, rfl⟩
        · rw [List.length_append]
          show rs.length + 1 ≤ j + 1
          omega
        · intro more hm
          rw [List.append_assoc]
          refine hrep _ ⟨?_, ?_, hlt2, hm⟩
          · show at_ ≤ at_ + n3
            omega
          · show at_ + n3 ≤ at_ + n3 + n4
            omega
        · show DpAll K _ _ (List.map repD (rs ++ [(at_ + n3, at_ + n3 + n4)]))
          rw [List.map_append]
          refine dpa_snoc (f5.dpa (dpa_same st hds4) (isTs_reps rs)) (f5.dp (dp_rep_of (x := (at_ + n3, at_ + n3 + n4)) (.of upd_same)) rfl)
      · exact ⟨g4, hD4, rs, at_, ws, _, _, _, by omega, hat, hrep, hF4, hds4, rfl⟩
    · rintro σ H2 ⟨f2, hD2, rs, at_, ws, y4, y5, y6, hrl, hat, hrep, hF2, hds2, rfl⟩
      refine ⟨_, rfl, F, _, rfl, .inl ⟨.of hF2, fun t nt => ?_⟩⟩
      have st := same_upd (o := .tup ws) nt
      have okr := hrep [] trivial
      rw [List.append_nil] at okr
      exact z _ _ rs (f2.then st) (hD2.same st) (.tup (.of upd_same) (dpa_same st hds2)) okr (by omega)
section
variable {X : Cx}
/-- a def run within, around A' -/
theorem run_at {n : Nat} {f : Addr} {fd : FuncData} {ps : List Str} {sp : Sp} {pins : List (Addr × Obj)} {σ : L2.St} {H : Hp} {s : Shared} {A' : Around} {vs : List V} {us : List Value} {Q : VK} {E : XK} {E' : Value → Shared → Prop}
    (F : FnOk X.prog X.w X.K X.mg X.base CX0 n f fd ps sp) (hb : Binds X.K fd ps []) (I : Inv X pins σ H s) (hr : Room n A') (hf : A'.frames = X.A.frames) (rv : Vals vs us) (hsp : sp vs H Q E) :
    wpAny (model X.prog X.w) A' (call (.ref f) us) (EP X pins σ Q) E' s := by
  have e0 : Env0 X.prog X.w X.K X.mg X.base A' X.stack s H := by
    have e := I.env0
    exact ⟨by rw [hf]; exact e.frames, e.mod, e.bs, e.bsz, e.funs, e.frf, e.hok, e.bare⟩
  have hl := F.len _ _ _ _ hsp
  have hl2 := rv.length
  refine wpAny_call (codeAny_mono (F.run A' X.stack s H ⟨us, []⟩ us vs Q E hr e0 (by
    have := hb s us I.kIn (by simp; omega)
    simpa using this) rv hsp) fun r s' hq => ?_)
  cases r with
  | error e => exact hq.elim
  | ok fl =>
    cases fl with
    | ret w => exact I.after hq
    | next => exact False.elim hq
    | brk => exact False.elim hq
    | cont => exact False.elim hq
end
section
open PySem.W
variable {prog : Program} {w : World} {A : Around} {E : Value → Shared → Prop} {s : Shared} {K : Frag} {x C f : Addr} {ox : Obj} {od : Option Obj} {b tb : Value}
/-- a built-in slot of an object of a class of K, by its name, bound -/
theorem slot_bound {M : Model} {self : Value} {name : PySem.Str} {id : String} {args : List Value} {Q : Option Value → Shared → Prop} (sp : Looks M s.heap (specialOf self name) (some (.builtin id))) (hb : bindSpecial (.builtin id) self = pure (.builtin id, [self]))
    (hc : wpAny M A (call (.builtin id) ([self] ++ args)) (fun v => Q (some v)) E s) : wpAny M A (callSpecialIfBound? self name args) Q E s := by
  simp only [callSpecialIfBound?, bindSpecialIfBound?]
  refine wpAny_holding (wpAny_bind (wpAny_bind (sp.here ?_)))
  refine wpAny_bind (wpAny_askSetting (wpAny_ite ?_))
  have fin : wpAny M A (call (.builtin id) ([self] ++ args) >>= fun v => pure (some v)) Q E s := wpAny_bind (wpAny_mono hc (fun v s' h' => wpAny_pure h') fun _ _ h' => h')
  split
  · exact wpAny_bind (wpAny_of_eq hb (wpAny_pure (by exact fin)))
  · exact wpAny_tryCatch (wpAny_bind (wpAny_of_eq hb (wpAny_pure (by exact fin))))
/-- x != b where only == is one's own -/
theorem ne_K {Q : Value → Shared → Prop} (hu : A.units + 1 < cLine) (X : K.In s.heap) (I : InstAt s.heap x ox C od) (hb : Looks (model prog w) s.heap (typeOf b) tb) (hn : notFirst K C tb = true)
    (hs : findIn K (.ref C) "__ne__" = some (some (.builtin "object.__ne__"))) (hm : mroIn K C (.type "object") = some true) (he : findIn K (.ref C) "__eq__" = some (some (.ref f))) (hf : isFn K (.ref f) = true)
    (h : wpAny (model prog w) A.in1 (call (.ref f) [.ref x, b]) (fun v s' => ∃ k, v = .bool k ∧ Q (.bool (!k)) s') E s) : wpAny (model prog w) A (richCompare .NotEq (.ref x) b) Q E s := by
  have body : wpAny (model prog w) A.in1 (Builtin.«object.__ne__» ⟨[.ref x, b], []⟩) (fun fin s' => ∃ v, fin = .done (.ret v) ∧ v ≠ .notImplemented ∧ Q v s') E s := by
    unfold Builtin.«object.__ne__»
    repeat (first
      | with_reducible refine wpAny_cRoomFor hu ?_
      | (refine wpAny_bind (m := callSpecialIfBound? (.ref x) (Str.ofString "__eq__") [b])
          (ifBound_K X I he hf (wpAny_mono h (fun r s' hr => by
            obtain ⟨k, rfl, hq⟩ := hr
            repeat (first | exact ⟨_, rfl, by simp, hq⟩ | exact wpAny_pure ⟨_, rfl, by simp, hq⟩ | exact wpAny_truthy_bool ⟨_, rfl, by simp, hq⟩ | (refine wpAny_bind (m := truthy (.bool _)) (wpAny_truthy_bool ?_)) | wp_step)) fun _ _ e => e)))
      | wp_step)
  have one : wpAny (model prog w) A (tryCompare (.ref x) "__ne__" b) (fun r s' => ∃ v, r = some v ∧ Q v s') E s := by
    unfold tryCompare
    refine wpAny_bind (slot_bound (I.type.andThen (looks_findIn X hs)) (PySem.F.cmp_object.ne.bind _) (wpAny_call (codeAny_call_builtin PySem.F.cmp_object.ne.plain PySem.F.cmpEntry_ne
      (check_slot (i := "object.__ne__") (owner := "object") (n := "__ne__") PySem.F.cmpKind_ne PySem.F.cmpSplit_ne (I.type.andThen (looks_mroIn X hm)) (PySem.F.cmpArgs_ne _ _) (wpAny_mono body (fun fin s' z => ?_) fun _ _ e => e)))))
    obtain ⟨v, rfl, nv, hq⟩ := z
    cases v <;> first | exact absurd rfl nv | exact wpAny_pure ⟨_, rfl, hq⟩
  unfold richCompare
  simp only [oneThing_ref]
  refine wpAny_holding (wpAny_bind (wpAny_cRoomFor (by omega) ?_))
  refine wpAny_bind (I.type.here (wpAny_bind (hb.here ?_)))
  split
  · rename_i q
    have e : subIn K tb (.ref C) = some false := by
      rcases Bool.or_eq_true_iff.mp hn with e | e
      · rw [beq_iff_eq.mp e] at q; simp at q
      · exact beq_iff_eq.mp e
    refine wpAny_bind ((looks_subIn X e).here ?_)
    simp only [Bool.false_eq_true, if_false]
    refine wpAny_bind (wpAny_mono one (fun r s' z => ?_) fun _ _ e => e)
    obtain ⟨v, rfl, hq⟩ := z
    exact wpAny_pure hq
  · refine wpAny_bind (wpAny_pure ?_)
    simp only [Bool.false_eq_true, if_false]
    refine wpAny_bind (wpAny_mono one (fun r s' z => ?_) fun _ _ e => e)
    obtain ⟨v, rfl, hq⟩ := z
    exact wpAny_pure hq
end
theorem sc_Part_len : FnScope ["self"] ["self"] (defScope s_Part_len) := ⟨rfl, rfl, rfl, by decide +kernel, rfl, by decide +kernel, by decide +kernel⟩
section
variable {K : PySem.W.Frag} {mg : Str → Option Value}
theorem b_Part_len (T : Txt K mg) : Binds K (fdOf K ("Part", some "__len__")) ["self"] [] := T.Part_len.bindsN fun _ _ _ _ _ _ us hl => match us, hl with | [_], _ => rfl
end
def sp_Part_len (K : PySem.W.Frag) : Sp := fun vs H Q _ => ∃ (p q : Addr) (bs : List Bar) (past : List (List Bar)), vs = [.ref p] ∧ PartX K H p q bs past ∧ Q (.int (bs.length : Nat)) H
theorem ok_Part_len {P : Program} {w : World} {K : PySem.W.Frag} {mg : Str → Option Value} {base : Heap} (T : Txt K mg) : OkF P w K mg base CX0 1 ("Part", some "__len__") ["self"] (sp_Part_len K) := by
  refine okN T.Part_len sc_Part_len (fun vs H Q E h => ?_) (fun cdv A outer s H vs Q E hr h => ?_)
  · obtain ⟨p, q, bs, past, rfl, _⟩ := h
    rfl
  · obtain ⟨p, q, bs, past, rfl, hp, k⟩ := h
    obtain ⟨dx, r, ws, h1, n, ⟨vs, h2, h3⟩, _⟩ := hp
    refine ⟨_, (pss_one (ps_ret (pe_callB call_len (by rfl) T.b_len PySem.boot_len (pa_cons (pe_fld (pv 0) rfl) pa_nil)))), ?_⟩
    refine ⟨_, rfl, p, _, dx, _, _, rfl, h1, T.cl_Part, T.n_row, pf_row, _, _, rfl, .inl ⟨_, .of h2, rfl⟩, ?_⟩
    rw [bars_len h3]
    exact k
section
variable {X : Cx}
def rLenP (K : PySem.W.Frag) (sp : Sp) : List V → Hp → VK → Prop := fun xs H Q => ∃ p dx fs, xs = [.ref p] ∧ H p = some (.ins (pC K) dx fs) ∧ sp [.ref p] H (fun v H' => ∃ n : Nat, v = .int (n : Int) ∧ n < 1000000 ∧ Q (.int (n : Int)) H') E0
theorem call_lenP {n : Nat} {sp : Sp} (T : Txt X.K X.mg) (F : FnOk X.prog X.w X.K X.mg X.base CX0 n (He.fAd X.K ("Part", some "__len__")) (fdOf X.K ("Part", some "__len__")) ["self"] sp) (hr : Room (n + 1) X.A) : CallR X (.builtin "len") (rLenP X.K sp) := by
  intro pins s σ H xs us Q I r h
  obtain ⟨p, dx, fs, rfl, hp, hs⟩ := h
  obtain ⟨u, rfl, e⟩ := vals1 r
  cases e
  obtain ⟨mA, J, _⟩ := ins_get I.hok hp
  obtain ⟨od, J, _⟩ := J.look
  obtain ⟨m, hF⟩ := I.fr
  refine PySem.W.len_K hF I.ok.mod.kin J T.m_Part_len.at_ T.m_Part_len.fn ?_
  refine wpAny_mono (run_at (vs := [.ref p]) (Q := fun v H' => ∃ n : Nat, v = .int (n : Int) ∧ n < 1000000 ∧ Q (.int (n : Int)) H') (E := E0) F (b_Part_len T) I hr.in1 rfl (.cons rfl .nil) hs) (fun r s' z => ?_) fun _ _ z => z
  obtain ⟨v', H', I', r', b, rfl, hb, q⟩ := z
  obtain ⟨t, rfl⟩ := r'
  exact ⟨⟨by omega, by omega⟩, .int (b : Int), H', I'.tok _, ⟨_, rfl⟩, q⟩
end
theorem sc_order_of : FnScope ["part", "repeats", "found", "begin", "first", "last"] ["part", "repeats"] (defScope s_order_of) := ⟨rfl, rfl, rfl, by decide +kernel, rfl, by decide +kernel, by decide +kernel⟩
section
variable {K : PySem.W.Frag} {mg : Str → Option Value}
theorem b_order_of (T : Txt K mg) : Binds K (fdOf K ("order_of", none)) ["part", "repeats"] [] := T.order_of.bindsN fun _ _ _ _ _ _ us hl => match us, hl with | [_, _], _ => rfl
end
theorem small5000 {n : Nat} (h : n ≤ 5000) : n < sizeLine := by
  have : sizeLine = 16777216 := sizeLine_eq
  omega
def sp_order_of (K : PySem.W.Frag) : Sp := fun vs H Q _ => ∃ (p q : Addr) (bs : List Bar) (past : List (List Bar)) (y : V) (rs : List (Nat × Nat)), vs = [.ref p, y] ∧ PartX K H p q bs past ∧ Dp K H y (.tuple (repsD rs)) ∧ RepOk bs.length 0 rs ∧ bs.length ≤ 1000 ∧
  ∀ v H', Same H H' → H v = none → H' v = some (.lst (numsV (orderOf bs.length 0 rs))) → Q (.ref v) H'
theorem ok_order_of {P : Program} {w : World} {K : PySem.W.Frag} {mg : Str → Option Value} {base : Heap} (T : Txt K mg) : OkF P w K mg base CX0 3 ("order_of", none) ["part", "repeats"] (sp_order_of K) := by
  refine okN T.order_of sc_order_of (fun vs H Q E h => ?_) (fun cdv A outer s H vs Q E hr h => ?_)
  · obtain ⟨p, q, bs, past, y, rs, rfl, _⟩ := h
    rfl
  · obtain ⟨p, q, bs, past, y, rs, rfl, hp, hy, ok, hbl, z⟩ := h
    obtain ⟨t, vs, rfl, ht, ha⟩ : ∃ t vs, y = .ref t ∧ SqT K H t vs ∧ DpAll K H vs (repsD rs) := by
      cases hy with
      | tup s a => exact ⟨_, _, rfl, s, a⟩
    have hvl : vs.length = rs.length := by rw [dpa_len ha, List.length_map]
    obtain ⟨dx, r, ws, h1, _⟩ := id hp
    have hlen := order_len ok
    refine ⟨_, (pss_cons (ps_par (by rfl) sc_order_of.nd (i := 2) (j := 3) rfl rfl (by decide) rfl rfl (pa_cons (pe_lst pa_nil) (pa_cons pe_int pa_nil)) (by rfl))
      (pss_cons (ps_for PassesOwn.never rfl (pi_tup (pv 1)) (pg_tup rfl (pgs_cons (pg_name (i := 4) sc_order_of.nd rfl (by first | exact Or.inl rfl | exact Or.inr rfl)) (pgs_cons (pg_name (i := 5) sc_order_of.nd rfl (by first | exact Or.inl rfl | exact Or.inr rfl)) pgs_nil)))
      (pss_cons (ps_set (i := 2) sc_order_of.nd rfl (by first | exact Or.inl rfl | exact Or.inr rfl) (pe_op op_cat (pe_op op_cat (pv 2) (pe_listRg rfl (by rfl) T.b_list (prg_2 (by rfl) T.b_range (pv 3) (pe_op op_add (pv 5) pe_int)))) (pe_listRg rfl (by rfl) T.b_list (prg_2 (by rfl) T.b_range (pv 4) (pe_op op_add (pv 5) pe_int)))))
      (pss_one (ps_set (i := 3) sc_order_of.nd rfl (by first | exact Or.inl rfl | exact Or.inr rfl) (pe_op op_add (pv 5) pe_int)))))
      (pss_one (ps_ret (pe_op op_cat (pv 2) (pe_listRg rfl (by rfl) T.b_list (prg_2 (by rfl) T.b_range (pv 3) (pe_callB (call_lenP T (ok_Part_len T) (hr.mono (by decide))) (by rfl) T.b_len PySem.boot_len (pa_cons (pv 0) pa_nil))))))))), ?_⟩
    refine ⟨by decide, fun F nF => ⟨_, _, rfl, ?_⟩⟩
    have sF := same_upd (o := .lst []) nF
    refine ⟨_, rfl, t, rfl, ⟨_, same_sqt sF ht⟩, for_tup (xs := vs) (fun i σ H' => Same H H' ∧ ∃ (k : Nat) (g : List Nat) (G : Addr) (y4 y5 : Option V), k ≤ bs.length ∧ RepOk bs.length k (rs.drop i) ∧ orderOf bs.length 0 rs = g ++ orderOf bs.length k (rs.drop i) ∧ H' G = some (.lst (numsV g)) ∧ σ = [some (.ref p), some (.ref t), some (.ref G), some (.int (k : Int)), y4, y5]) ⟨sF, 0, [], F, none, none, Nat.zero_le _, ok, rfl, upd_same, rfl⟩ ?_ ?_ ?_⟩
    · rintro i σ H' _ ⟨s, _⟩
      exact same_sqt s ht
    · rintro i v σ H' hv ⟨s1, k, g, G, y4, y5, hk, hok, hg, hG, rfl⟩
      obtain ⟨x, hx, hvx⟩ := rep_at ha hv
      rw [drop_at hx] at hok hg
      obtain ⟨k1, k2, k3, k4⟩ := hok
      obtain ⟨o, rfl, ho⟩ := dp_rep hvx
      refine ⟨o, _, rfl, same_sqt s1 ho, rfl, _, _, rfl, _, _, rfl, rfl, ?_⟩
      have hgl := congrArg List.length hg
      have e0 : orderOf bs.length k (x :: rs.drop (i + 1)) = rng k (x.2 + 1) ++ rng x.1 (x.2 + 1) ++ orderOf bs.length (x.2 + 1) (rs.drop (i + 1)) := rfl
      rw [e0, List.length_append, List.length_append, List.length_append] at hgl
      -- found + list(range(begin, last + 1)) + list(range(first, last + 1))
      refine ⟨_, rfl, _, rfl, _, rfl, _, _, rfl, rfl, _, _, rfl, rfl, ⟨by omega, by omega, by omega, by omega, by omega⟩, fun A1 nA1 => ?_⟩
      have eV1 : rgV (k : Int) ((x.2 : Int) + 1) = numsV (rng k (x.2 + 1)) := rng_V k (x.2 + 1)
      have eV2 : rgV (x.1 : Int) ((x.2 : Int) + 1) = numsV (rng x.1 (x.2 + 1)) := rng_V x.1 (x.2 + 1)
      rw [eV1]
      have e1 := same_upd (o := .lst (numsV (rng k (x.2 + 1)))) nA1
      refine ⟨G, A1, _, _, rfl, rfl, e1 _ _ hG, upd_same, ?_, fun B1 nB1 => ?_⟩
      · rw [List.length_map, List.length_map]
        exact Nat.le_of_lt (small5000 (by omega))
      have e2 := same_upd (o := .lst (numsV g ++ numsV (rng k (x.2 + 1)))) nB1
      refine ⟨_, rfl, _, rfl, _, _, rfl, rfl, _, _, rfl, rfl, ⟨by omega, by omega, by omega, by omega, by omega⟩, fun A2 nA2 => ?_⟩
      rw [eV2]
      have e3 := same_upd (o := .lst (numsV (rng x.1 (x.2 + 1)))) nA2
      refine ⟨B1, A2, _, _, rfl, rfl, e3 _ _ upd_same, upd_same, ?_, fun B2 nB2 => ?_⟩
      · rw [List.length_append, List.length_map, List.length_map, List.length_map]
        exact Nat.le_of_lt (small5000 (by omega))
      have e4 := same_upd (o := .lst (numsV g ++ numsV (rng k (x.2 + 1)) ++ numsV (rng x.1 (x.2 + 1)))) nB2
      refine ⟨_, rfl, _, _, rfl, rfl, ((s1.trans e1).trans e2).trans (e3.trans e4), x.2 + 1, g ++ rng k (x.2 + 1) ++ rng x.1 (x.2 + 1), B2, some (.int (x.1 : Int)), some (.int (x.2 : Int)), by omega, k4, ?_, ?_, rfl⟩
      · rw [hg, e0]
        simp only [List.append_assoc]
      · rw [upd_same]
        show _ = some (HO.lst (List.map _ (_ ++ _ ++ _)))
        rw [List.map_append, List.map_append]
    · rintro σ H' ⟨s1, k, g, G, y4, y5, hk, hok, hg, hG, rfl⟩
      rw [hvl, List.drop_length] at hg
      have hgl := congrArg List.length hg
      rw [List.length_append] at hgl
      refine ⟨_, rfl, _, rfl, _, rfl, p, dx, _, rfl, s1 _ _ h1, p, q, bs, past, rfl, hp.same s1, bs.length, rfl, by omega, _, _, rfl, rfl, ⟨by omega, by omega, by omega, by omega, by omega⟩, fun A1 nA1 => ?_⟩
      rw [rng_V]
      have e1 := same_upd (o := .lst (numsV (rng k bs.length))) nA1
      refine ⟨G, A1, _, _, rfl, rfl, e1 _ _ hG, upd_same, ?_, fun B1 nB1 => ?_⟩
      · rw [List.length_map, List.length_map]
        have : (orderOf bs.length k []).length = (rng k bs.length).length := rfl
        exact Nat.le_of_lt (small5000 (by omega))
      have e2 := same_upd (o := .lst (numsV g ++ numsV (rng k bs.length))) nB1
      refine z _ _ ((s1.trans e1).trans e2) ((s1.trans e1).free nB1) ?_
      rw [upd_same, hg]
      show _ = some (HO.lst (List.map _ (g ++ rng k bs.length)))
      rw [List.map_append]
/-! ### three stores -/
def isSt : Expr → Bool
  | .Starred .. => true
  | _ => false
theorem swap3 {env : Env} {x y z : Str} {a b c : Expr} {px py pz pt : Pos} {kt k2 pt2} (hk : env.blockKind = .function) (hx : env.kindOf x = some .local) (hy : env.kindOf y = some .local) (hz : env.kindOf z = some .local) (l1 : (py.line == px.line) = true) (l2 : (pz.line == px.line) = true)
    (nd : ([x, y, z].eraseDups.length != 3) = false) (st : [a, b, c].all (fun e => !isSt e) = true) (f1 : [a, b, c].all (foldedForSure 8) = false) (f2 : [a, b, c].all (constantsAlone 8) = false) :
    swappedStores [.Tuple [.Name x px, .Name y py, .Name z pz] kt pt] (.Tuple [a, b, c] k2 pt2) env = pure (some [x, y, z]) := by
  have e1 : (px.line == px.line) = true := by simp
  unfold swappedStores
  have e2 : (some NameKind.local == some NameKind.local) = true := rfl
  simp only [hk, hx, hy, hz, l1, l2, e1, e2, List.filterMap, List.head?, Option.map, Option.getD, Expr.pos, List.length, Bool.and_self, if_true]
  rw [if_neg (by decide)]
  refine (if_neg ?_).trans ?_
  · intro h
    obtain ⟨e, he, h⟩ := List.any_eq_true.mp h
    have := List.all_eq_true.mp st e he
    cases e <;> first | (cases h; done) | (cases this; done)
  rw [if_neg, f1, if_neg Bool.false_ne_true, f2]
  · rfl
  · show ¬ ((_ || [x, y, z].eraseDups.length != 3) = true)
    rw [nd]
    decide
theorem sc__law_order : FnScope ["bars", "repeats", "found", "at", "done", "back", "one"] ["bars", "repeats"] (defScope s__law_order) := ⟨rfl, rfl, rfl, by decide +kernel, rfl, by decide +kernel, by decide +kernel⟩
section
variable {K : PySem.W.Frag} {mg : Str → Option Value}
theorem b__law_order (T : Txt K mg) : Binds K (fdOf K ("_law_order", none)) ["bars", "repeats"] [] := T._law_order.bindsN fun _ _ _ _ _ _ us hl => match us, hl with | [_, _], _ => rfl
end
def sp__law_order (K : PySem.W.Frag) : Sp := fun vs H Q _ => ∃ (a : Addr) (bs : List Bar) (y : V) (rs : List (Nat × Nat)), vs = [.ref a, y] ∧ Dp K H (.ref a) (.list (barsD bs)) ∧ Dp K H y (.tuple (repsD rs)) ∧ RepOk bs.length 0 rs ∧ rs.length ≤ 6 ∧ bs.length ≤ 1000 ∧
  ∀ v H', Same H H' → H v = none → H' v = some (.lst (numsV (orderOf bs.length 0 rs))) → Q (.ref v) H'
def dnB (dr : List (Nat × Nat)) (x : Nat × Nat) : Bool := (repsD dr).any fun z => PyData.eqv z (repD x)
theorem dnB_iff (dr : List (Nat × Nat)) (x : Nat × Nat) : dnB dr x = true ↔ x ∈ dr := by
  unfold dnB
  rw [List.any_eq_true]
  constructor
  · rintro ⟨d, hd, e⟩
    obtain ⟨y, hy, rfl⟩ := List.mem_map.mp hd
    rw [(eqv_rep y x).mp e] at hy
    exact hy
  · intro h
    exact ⟨repD x, List.mem_map.mpr ⟨x, h, rfl⟩, (eqv_rep x x).mpr rfl⟩
theorem shp_reps (rs : List (Nat × Nat)) : Shp 2 (.list (repsD rs)) := shp_list (shpA_all fun d hd => by
  obtain ⟨x, _, rfl⟩ := List.mem_map.mp hd
  exact shp_rep x)
theorem shp_numsL (ns : List Nat) : Shp 1 (.list (numsD ns)) := shp_list (shpA_all fun d hd => by
  obtain ⟨n, _, rfl⟩ := List.mem_map.mp hd
  exact shp_int _)
theorem take_filter {α : Type} {l : List α} {i : Nat} {x : α} (p : α → Bool) (h : l[i]? = some x) : (l.take (i + 1)).filter p = (l.take i).filter p ++ (if p x = true then [x] else []) := by
  rw [take_at h, List.filter_append]
  cases e : p x <;> simp [e]
theorem ok__law_order {P : Program} {w : World} {K : PySem.W.Frag} {mg : Str → Option Value} {base : Heap} (T : Txt K mg) : OkF P w K mg base CX0 3 ("_law_order", none) ["bars", "repeats"] (sp__law_order K) := by
  refine okN T._law_order sc__law_order (fun vs H Q E h => ?_) (fun cdv A outer s H vs Q E hr h => ?_)
  · obtain ⟨a, bs, y, rs, rfl, _⟩ := h
    rfl
  · obtain ⟨a, bs, y, rs, rfl, hb, hy, ok, hrl, hbl, z⟩ := h
    obtain ⟨t, vs, rfl, ht, ha⟩ : ∃ t vs, y = .ref t ∧ SqT K H t vs ∧ DpAll K H vs (repsD rs) := by
      cases hy with
      | tup s a => exact ⟨_, _, rfl, s, a⟩
    have hvl : vs.length = rs.length := by rw [dpa_len ha, List.length_map]
    obtain ⟨bv, hbv, hbd⟩ := lst_bars hb
    have hbl2 := bars_len hbd
    have hlen := order_len ok
    refine ⟨_, (pss_cons (ps_asg (pe_tup (pa_cons (pe_lst pa_nil) (pa_cons pe_int (pa_cons (pe_lst pa_nil) pa_nil)))) (pg_tup rfl (pgs_cons (pg_name (i := 2) sc__law_order.nd rfl (by first | exact Or.inl rfl | exact Or.inr rfl)) (pgs_cons (pg_name (i := 3) sc__law_order.nd rfl (by first | exact Or.inl rfl | exact Or.inr rfl)) (pgs_cons (pg_name (i := 4) sc__law_order.nd rfl (by first | exact Or.inl rfl | exact Or.inr rfl)) pgs_nil)))))
      (pss_cons (ps_while PassesOwn.never (pt_cmpR op_lt (pv 3) (pe_callB call_len (by rfl) T.b_len PySem.boot_len (pa_cons (pv 0) pa_nil)) (nomark _))
      (pss_cons (ps_expr (pe_bm PySem.F.plainAttrs_list PySem.F.slot_list_append PySem.F.type_list_append mt_append (pv 2) (pa_cons (pv 3) pa_nil)))
      (pss_cons (ps_setLc (i := 5) (own := [("one", 6)]) (g := (gName 6))  (by rfl) sc__law_order.nd rfl rfl (sw_true rfl rfl rfl (by decide +kernel)) (pi_tup (pv 1)) (blkOk_by (own := [("one", 6)]) (N := ["bars", "repeats", "found", "at", "done", "back", "one"]) (sc := defScope s__law_order) (by decide +kernel)) (fun _ _ _ _ _ => (pg_name (i := 6) sc__law_order.nd rfl (by first | exact Or.inl rfl | exact Or.inr rfl))) (fun _ _ _ _ _ => (pts_one (PW.pt (pw_and (pt_cmpR op_eq (pe_ix (r := rIxT K) ix_tup (pv 6) pe_int (fun _ _ => rfl)) (pv 3) (nomark _)) (pw_and1 (pt_cmpR (r := rNotInD K) (op_notInD (units65 hr)) (pv 6) (pv 4) (by rfl))))))) (fun _ _ _ _ _ => (pe_ix (r := rIxT K) ix_tup (pv 6) pe_int (fun _ _ => rfl))))
      (pss_cons (ps_set (i := 4) sc__law_order.nd rfl (by first | exact Or.inl rfl | exact Or.inr rfl) (pe_op op_cat (pv 4) (pe_lc (own := [("one", 6)]) (g := (gName 6))  (by rfl) sc__law_order.nd (pi_tup (pv 1)) (blkOk_by (own := [("one", 6)]) (N := ["bars", "repeats", "found", "at", "done", "back", "one"]) (sc := defScope s__law_order) (by decide +kernel)) (fun _ _ _ _ _ => (pg_name (i := 6) sc__law_order.nd rfl (by first | exact Or.inl rfl | exact Or.inr rfl))) (fun _ _ _ _ _ => (pts_one (pt_cmpR op_eq (pe_ix (r := rIxT K) ix_tup (pv 6) pe_int (fun _ _ => rfl)) (pv 3) (nomark _)))) (fun _ _ _ _ _ => (pv 6)))))
      (pss_one (ps_set (i := 3) sc__law_order.nd rfl (by first | exact Or.inl rfl | exact Or.inr rfl) (pe_ifExp (pt_cmpR (op_neD hr.units) (pv 5) (pe_lst pa_nil) (nomark _)) (pe_ix ix_list (pv 5) pe_int (fun _ _ => rfl)) (pe_op op_add (pv 3) pe_int))))))))
      (pss_one (ps_ret (pv 2))))), ?_⟩
    refine ⟨by decide, fun F nF => ⟨by decide, fun G0 nG0 => ⟨by show (3 : Nat) ≤ sizeLine; decide, fun c0 n0 => ⟨c0, _, rfl, .of upd_same, rfl, _, _, rfl, _, _, rfl, _, _, rfl, rfl, ?_⟩⟩⟩⟩
    have sF := same_upd (o := .lst []) nF
    have sG := same_upd (o := .lst []) nG0
    have sc0 := same_upd (o := .tup [.ref F, .int 0, .ref G0]) n0
    have nFG : G0 ≠ F := fun e => by
      rw [e, upd_same] at nG0
      cases nG0
    refine ⟨fun m σ H' => Same H H' ∧ ∃ (at_ : Nat) (g : List Nat) (rs1 rs2 dr : List (Nat × Nat)) (G : Addr) (dv : List V) (y5 y6 : Option V), m = (orderOf bs.length at_ rs2).length ∧ orderOf bs.length 0 rs = g ++ orderOf bs.length at_ rs2 ∧ rs = rs1 ++ rs2 ∧ RepIn bs.length at_ rs2 ∧ H' F = some (.lst (numsV g)) ∧ H' G = some (.lst dv) ∧ DpAll K H' dv (repsD dr) ∧ (∀ x, x ∈ dr ↔ x ∈ rs1) ∧ dr.length ≤ g.length * 6 ∧ G ≠ F ∧ σ = [some (.ref a), some (.ref t), some (.ref F), some (.int (at_ : Int)), some (.ref G), y5, y6], ⟨_, (sF.trans sG).trans sc0, 0, [], [], rs, [], G0, [], none, none, rfl, rfl, rfl, ok.in, sc0 _ _ (sG _ _ upd_same), sc0 _ _ upd_same, .nil, fun _ => Iff.rfl, by decide, nFG, rfl⟩, ?_⟩
    rintro m σ H1 ⟨s1, at_, g, rs1, rs2, dr, G, dv, y5, y6, hm, hg, hrs, hin, hF, hG, hdv, hdr, hdl, nGF, rfl⟩
    have hgl := congrArg List.length hg
    rw [List.length_append] at hgl
    refine ⟨_, rfl, _, rfl, _, _, rfl, .inl ⟨_, s1.seq hbv, rfl⟩, _, _, rfl, rfl, _, rfl, ?_⟩
    rw [hbl2]
    refine ite2P (fun hlt => ?_) (fun hlt => ?_)
    · have hat : at_ < bs.length := by omega
      refine ⟨fun σ' H' => ∃ m', m' < m ∧ Same H H' ∧ ∃ (at_ : Nat) (g : List Nat) (rs1 rs2 dr : List (Nat × Nat)) (G : Addr) (dv : List V) (y5 y6 : Option V), m' = (orderOf bs.length at_ rs2).length ∧ orderOf bs.length 0 rs = g ++ orderOf bs.length at_ rs2 ∧ rs = rs1 ++ rs2 ∧ RepIn bs.length at_ rs2 ∧ H' F = some (.lst (numsV g)) ∧ H' G = some (.lst dv) ∧ DpAll K H' dv (repsD dr) ∧ (∀ x, x ∈ dr ↔ x ∈ rs1) ∧ dr.length ≤ g.length * 6 ∧ G ≠ F ∧ σ' = [some (.ref a), some (.ref t), some (.ref F), some (.int (at_ : Int)), some (.ref G), y5, y6], fun _ _ h => h, ?_⟩
      refine ⟨_, rfl, .inl ⟨rfl, _, .of hF⟩, _, rfl, F, _, _, rfl, rfl, hF, ?_, ?_⟩
      · rw [List.length_map]
        exact small5000 (by omega)
      have s2 : Same H (upd H1 F (.lst (numsV g ++ [.int (at_ : Int)]))) := same_updR s1 nF
      have f2 : Fr [F] H1 (upd H1 F (.lst (numsV g ++ [.int (at_ : Int)]))) := Fr.upd hF trivial (by simp)
      have hF2 : (upd H1 F (.lst (numsV g ++ [.int (at_ : Int)]))) F = some (.lst (numsV (g ++ [at_]))) := by
        rw [upd_same]
        show _ = some (HO.lst (List.map _ (g ++ [at_])))
        rw [List.map_append]
        rfl
      have hG2 := f2.keep _ _ (by simp [nGF]) hG
      have hdv2 := f2.dpa hdv (isTs_reps dr)
      generalize (upd H1 F (.lst (numsV g ++ [.int (at_ : Int)]))) = H2 at s2 f2 hF2 hG2 hdv2 ⊢
      have hx2 : ∀ {i : Nat} {v : V} {H' : Hp}, vs[i]? = some v → Same H H' → ∃ x o, rs[i]? = some x ∧ v = .ref o ∧ SqT K H' o (repV x) := by
        intro i v H' hv s'
        obtain ⟨x, e1, e2⟩ := rep_at ha hv
        obtain ⟨o, e3, e4⟩ := dp_rep e2
        exact ⟨x, o, e1, e3, same_sqt s' e4⟩
      -- back
      refine ⟨_, rfl, t, rfl, ⟨_, same_sqt s2 ht⟩, fun D hD => lc_tup (K := K) (a := t) (xs := vs) (fun i H' => Same H2 H' ∧ H' D = some (.lst (numsV (((rs.take i).filter fun x => decide (x.2 = at_) && !dnB dr x).map (·.1))))) ⟨same_upd hD, upd_same⟩ ?_ ?_ ?_⟩
      · rintro i H' _ ⟨s', _⟩
        exact same_sqt (s2.trans s') ht
      · rintro i v H' hv ⟨s', e'⟩
        obtain ⟨x, o, hx, rfl, ho⟩ := hx2 hv (s2.trans s')
        have tf := take_filter (fun x : Nat × Nat => decide (x.2 = at_) && !dnB dr x) hx
        have no : (decide (x.2 = at_) && !dnB dr x) = false → H' D = some (.lst (numsV (((rs.take (i + 1)).filter fun x => decide (x.2 = at_) && !dnB dr x).map (·.1)))) := by
          intro hn
          rw [tf, hn, if_neg Bool.false_ne_true, List.append_nil]
          exact e'
        refine ⟨rfl, _, rfl, o, _, _, _, rfl, rfl, ho, rfl, _, rfl, rfl, _, rfl, ite2Q (fun e => ?_) (fun ne => iteF ⟨s', no ?_⟩)⟩
        · refine ⟨_, rfl, _, rfl, repD x, repsD dr, dp_rep_of ho, .lst (.of (s' _ _ hG2)) (dpa_same s' hdv2), (shp_rep x).ok (by decide), (shp_reps dr).ok (by decide), _, rfl, ?_⟩
          have ex : x.2 = at_ := by omega
          show if (!dnB dr x) = true then _ else _
          cases hdn : dnB dr x with
          | true =>
            refine iteF ⟨s', no ?_⟩
            rw [hdn]
            exact Bool.and_false _
          | false =>
            refine iteT ⟨_, rfl, o, _, _, _, rfl, rfl, ho, rfl, _, e', ?_, same_updR s' hD, ?_⟩
            · rw [List.length_map, List.length_map]
              have h1 := List.length_filter_le (fun x : Nat × Nat => decide (x.2 = at_) && !dnB dr x) (rs.take i)
              have h2 : (rs.take i).length ≤ rs.length := by rw [List.length_take]; omega
              exact small1000 (by omega)
            · rw [upd_same, tf, hdn, decide_eq_true ex, if_pos (show (true && !false) = true from rfl), List.map_append]
              show _ = some (HO.lst (List.map _ (_ ++ _)))
              rw [List.map_append]
              rfl
        · rw [decide_eq_false (by omega)]
          rfl
      · rintro H3 ⟨s3, e3⟩
        rw [hvl, List.take_length, hrs, back_of (hrs ▸ ok) (fun x => (dnB_iff dr x).trans (hdr x)) hin] at e3
        have s03 := s2.trans s3
        -- done + [..]
        refine ⟨_, rfl, _, rfl, t, rfl, ⟨_, same_sqt s03 ht⟩, fun D2 hD2 => lc_tup (K := K) (a := t) (xs := vs) (fun i H' => Same H3 H' ∧ ∃ ws, H' D2 = some (.lst ws) ∧ DpAll K H' ws (repsD ((rs.take i).filter fun x => decide (x.2 = at_)))) ⟨same_upd hD2, [], upd_same, .nil⟩ ?_ ?_ ?_⟩
        · rintro i H' _ ⟨s', _⟩
          exact same_sqt (s03.trans s') ht
        · rintro i v H' hv ⟨s', ws, e', hws⟩
          obtain ⟨x, o, hx, rfl, ho⟩ := hx2 hv (s03.trans s')
          have tf := take_filter (fun x : Nat × Nat => decide (x.2 = at_)) hx
          refine ⟨rfl, _, rfl, o, _, _, _, rfl, rfl, ho, rfl, _, rfl, rfl, _, rfl, ite2Q (fun e => ?_) (fun ne => ⟨s', ws, e', ?_⟩)⟩
          · have s5 : Same H3 (upd H' D2 (.lst (ws ++ [.ref o]))) := same_updR s' hD2
            have f5 : Fr [D2] H' (upd H' D2 (.lst (ws ++ [.ref o]))) := Fr.upd e' trivial (by simp)
            refine ⟨_, rfl, ws, e', ?_, s5, ws ++ [.ref o], upd_same, ?_⟩
            · rw [dpa_len hws, List.length_map]
              have h1 := List.length_filter_le (fun x : Nat × Nat => decide (x.2 = at_)) (rs.take i)
              have h2 : (rs.take i).length ≤ rs.length := by rw [List.length_take]; omega
              exact small1000 (by omega)
            · rw [tf, decide_eq_true (show x.2 = at_ by omega), if_pos rfl]
              show DpAll K _ _ (List.map repD (_ ++ [x]))
              rw [List.map_append]
              exact dpa_snoc (f5.dpa hws (isTs_reps _)) (f5.dp (dp_rep_of ho) rfl)
          · rw [tf, decide_eq_false (show ¬ x.2 = at_ by omega), if_neg Bool.false_ne_true, List.append_nil]
            exact hws
        · rintro H4 ⟨s4, ws, e4, hws⟩
          rw [hvl, List.take_length] at hws
          have hG4 := s4 _ _ (s3 _ _ hG2)
          have hfl := List.length_filter_le (fun x : Nat × Nat => decide (x.2 = at_)) rs
          have hdvl : dv.length = dr.length := by rw [dpa_len hdv, List.length_map]
          have hwsl : ws.length = (rs.filter fun x => decide (x.2 = at_)).length := by rw [dpa_len hws, List.length_map]
          refine ⟨G, D2, _, _, rfl, rfl, hG4, e4, ?_, fun G' nG' => ?_⟩
          · rw [hdvl, hwsl]
            have : sizeLine = 16777216 := sizeLine_eq
            omega
          have s5 := same_upd (o := .lst (dv ++ ws)) nG'
          have s35 := s4.trans s5
          have hds5 : DpAll K (upd H4 G' (.lst (dv ++ ws))) (dv ++ ws) (repsD (dr ++ rs.filter fun x => decide (x.2 = at_))) := by
            show DpAll K _ _ (List.map repD (_ ++ _))
            rw [List.map_append]
            exact dpa_app (dpa_same (s3.trans s35) hdv2) (dpa_same s5 hws)
          have hF5 := s5 _ _ (s4 _ _ (s3 _ _ hF2))
          have hD5 := s35 _ _ e3
          have nGF' : G' ≠ F := fun e => by
            rw [e, s4 _ _ (s3 _ _ hF2)] at nG'
            cases nG'
          have s05 := s03.trans s35
          have hG5 : (upd H4 G' (.lst (dv ++ ws))) G' = some (.lst (dv ++ ws)) := upd_same
          generalize (upd H4 G' (.lst (dv ++ ws))) = H5 at hds5 hF5 hD5 s05 hG5 ⊢
          have hdl2 : (dr ++ rs.filter fun x => decide (x.2 = at_)).length ≤ (g ++ [at_]).length * 6 := by
            rw [List.length_append, List.length_append]
            show _ ≤ (g.length + 1) * 6
            omega
          -- at = back[0] if back != [] else at + 1
          refine ⟨_, rfl, by decide, fun c nc => ?_⟩
          have sc := same_upd (o := .lst []) nc
          refine ⟨_, .list [], .lst (.of (sc _ _ hD5)) (dpa_nums_of _), .lst (.of upd_same) .nil, (shp_numsL _).ok (by decide), (shp_nil (n := 0)).ok (by decide), _, rfl, ?_⟩
          cases hr2 : (rs2.head?.toList.filter fun x => decide (x.2 = at_)) with
          | nil =>
            have hn : ∀ x ∈ rs2.head?, x.2 ≠ at_ := by
              intro x hx e
              cases rs2 with
              | nil => cases hx
              | cons y r =>
                have e2 : y = x := by simpa using hx
                subst e2
                have : List.filter (fun x : Nat × Nat => decide (x.2 = at_)) [y] = [] := hr2
                rw [List.filter_cons, decide_eq_true e, if_pos rfl] at this
                cases this
            obtain ⟨n1, n2⟩ := order_next hat hin hn
            refine iteF ⟨_, rfl, _, _, rfl, rfl, ?_⟩
            refine ⟨m - 1, ?_, s05.trans sc, at_ + 1, g ++ [at_], rs1, rs2, _, G', _, _, _, ?_, ?_, hrs, n2, sc _ _ hF5, sc _ _ hG5, dpa_same sc hds5, ?_, hdl2, nGF', rfl⟩
            · rw [n1, List.length_cons] at hm
              omega
            · rw [hm, n1]
              rfl
            · rw [hg, n1, List.append_assoc]
              rfl
            · intro x
              rw [List.mem_append, hdr, List.mem_filter]
              constructor
              · rintro (h | ⟨h1, h2⟩)
                · exact h
                · have e2 : x.2 = at_ := of_decide_eq_true h2
                  rw [hrs] at h1
                  rcases List.mem_append.mp h1 with h | h
                  · exact h
                  · cases rs2 with
                    | nil => cases h
                    | cons y r =>
                      have ny := hn y rfl
                      obtain ⟨i1, i2, i3, i4⟩ := hin
                      rcases List.mem_cons.mp h with e | h
                      · rw [e] at e2
                        exact absurd e2 ny
                      · have := i4.lt x h
                        omega
              · exact .inl
          | cons x rr =>
            obtain ⟨r, hrx, ex, hrr⟩ : ∃ r, rs2 = x :: r ∧ x.2 = at_ ∧ rr = [] := by
              cases rs2 with
              | nil => cases hr2
              | cons y r =>
                have h2 : List.filter (fun x : Nat × Nat => decide (x.2 = at_)) [y] = x :: rr := hr2
                rw [List.filter_cons] at h2
                by_cases e : y.2 = at_
                · rw [decide_eq_true e, if_pos rfl] at h2
                  have h3 := List.cons.inj h2
                  refine ⟨r, by rw [h3.1], by rw [← h3.1]; exact e, h3.2.symm⟩
                · rw [decide_eq_false e, if_neg Bool.false_ne_true] at h2
                  cases h2
            subst hrr
            rw [hr2] at hD5
            subst ex
            rw [hrx] at hin hm hg hrs
            obtain ⟨n1, n2⟩ := order_end hin
            refine iteT ⟨_, rfl, D, _, _, _, rfl, rfl, .of (sc _ _ hD5), rfl, ?_⟩
            refine ⟨m - 1, ?_, s05.trans sc, x.1, g ++ [x.2], rs1 ++ [x], r, _, G', _, _, _, ?_, ?_, ?_, n2, sc _ _ hF5, sc _ _ hG5, dpa_same sc hds5, ?_, hdl2, nGF', rfl⟩
            · rw [n1, List.length_cons] at hm
              omega
            · rw [hm, n1]
              rfl
            · rw [hg, n1, List.append_assoc]
              rfl
            · rw [hrs, List.append_assoc]
              rfl
            · intro y
              rw [List.mem_append, hdr, List.mem_append, List.mem_singleton, hrs, ends_at (hrs ▸ ok)]
    · refine ⟨_, rfl, z F H1 s1 nF ?_⟩
      rw [hF, hg]
      have : orderOf bs.length at_ rs2 = [] := by
        cases rs2 with
        | nil => exact rng_nil (by omega)
        | cons x r =>
          obtain ⟨i1, i2, i3, i4⟩ := hin
          omega
      rw [this, List.append_nil]
theorem sc_need_repeats : FnScope ["part", "thing", "ahead", "one"] ["part", "thing"] (defScope s_need_repeats) := ⟨rfl, rfl, rfl, by decide +kernel, rfl, by decide +kernel, by decide +kernel⟩
section
variable {K : PySem.W.Frag} {mg : Str → Option Value}
theorem b_need_repeats (T : Txt K mg) : Binds K (fdOf K ("need_repeats", none)) ["part", "thing"] [] := T.need_repeats.bindsN fun _ _ _ _ _ _ us hl => match us, hl with | [_, _], _ => rfl
end
def sp_need_repeats (K : PySem.W.Frag) : Sp := fun vs H Q _ => ∃ (p q : Addr) (bs : List Bar) (past : List (List Bar)) (y : V) (rs : List (Nat × Nat)), vs = [.ref p, y] ∧ PartX K H p q bs past ∧ Dp K H y (.tuple (repsD rs)) ∧ RepOk bs.length 0 rs ∧ rs.length ≤ 6 ∧ bs.length ≤ 1000 ∧ Q .non H
theorem ok_need_repeats {P : Program} {w : World} {K : PySem.W.Frag} {mg : Str → Option Value} {base : Heap} (T : Txt K mg) : OkF P w K mg base CX0 3 ("need_repeats", none) ["part", "thing"] (sp_need_repeats K) := by
  refine okN T.need_repeats sc_need_repeats (fun vs H Q E h => ?_) (fun cdv A outer s H vs Q E hr h => ?_)
  · obtain ⟨p, q, bs, past, y, rs, rfl, _⟩ := h
    rfl
  · obtain ⟨p, q, bs, past, y, rs, rfl, hp, hy, ok, hrl, hbl, z⟩ := h
    obtain ⟨t, vs, rfl, ht, ha⟩ : ∃ t vs, y = .ref t ∧ SqT K H t vs ∧ DpAll K H vs (repsD rs) := by
      cases hy with
      | tup s a => exact ⟨_, _, rfl, s, a⟩
    have hvl : vs.length = rs.length := by rw [dpa_len ha, List.length_map]
    obtain ⟨dx, r, ws, h1, _⟩ := id hp
    refine ⟨_, (pss_cons (ps_if (PW.pt (pw_or (pt_not (pt_val (pe_callB call_isi (by rfl) T.b_isinstance (by decide +kernel) (pa_cons (pv 1) (pa_cons (pe_bltn (v := .ty "tuple") (by rfl) T.b_tuple (by decide +kernel) rfl) pa_nil))))) (pw_or1 (pt_cmpR op_gt (pe_callB call_len (by rfl) T.b_len PySem.boot_len (pa_cons (pv 1) pa_nil)) pe_int (nomark _))))) pss_never pss_nil)
      (pss_cons (ps_set (i := 2) sc_need_repeats.nd rfl (by first | exact Or.inl rfl | exact Or.inr rfl) (pe_un un_neg pe_int))
      (pss_one (ps_for PassesOwn.never rfl (pi_tup (pv 1)) (pg_name (i := 3) sc_need_repeats.nd rfl (by first | exact Or.inl rfl | exact Or.inr rfl))
      (pss_cons (ps_if (PW.pt (pw_or (pt_not (pt_val (pe_callB call_isi (by rfl) T.b_isinstance (by decide +kernel) (pa_cons (pv 3) (pa_cons (pe_bltn (v := .ty "tuple") (by rfl) T.b_tuple (by decide +kernel) rfl) pa_nil))))) (pw_or (pt_cmpR op_ne (pe_callB call_len (by rfl) T.b_len PySem.boot_len (pa_cons (pv 3) pa_nil)) pe_int (nomark _)) (pw_or1 (pt_not (pt_val (pe_call (ok_is_number T) (hr.mono (by decide)) (by rfl) T.g_is_number T.is_number.kp (b_is_number T) .nil pass0 (pa_cons (pe_ix ix_tup (pv 3) pe_int (fun _ _ => rfl)) (pa_cons (pe_op op_add (pv 2) pe_int) (pa_cons (pe_op op_sub (pe_callB (call_lenP T (ok_Part_len T) (hr.mono (by decide))) (by rfl) T.b_len PySem.boot_len (pa_cons (pv 0) pa_nil)) pe_int) pa_nil)))))))))) pss_never pss_nil)
      (pss_cons (ps_if (pt_not (pt_val (pe_call (ok_is_number T) (hr.mono (by decide)) (by rfl) T.g_is_number T.is_number.kp (b_is_number T) .nil pass0 (pa_cons (pe_ix ix_tup (pv 3) pe_int (fun _ _ => rfl)) (pa_cons (pe_ix ix_tup (pv 3) pe_int (fun _ _ => rfl)) (pa_cons (pe_op op_sub (pe_callB (call_lenP T (ok_Part_len T) (hr.mono (by decide))) (by rfl) T.b_len PySem.boot_len (pa_cons (pv 0) pa_nil)) pe_int) pa_nil)))))) pss_never pss_nil)
      (pss_one (ps_set (i := 2) sc_need_repeats.nd rfl (by first | exact Or.inl rfl | exact Or.inr rfl) (pe_ix ix_tup (pv 3) pe_int (fun _ _ => rfl)))))))))), ?_⟩
    refine ⟨_, rfl, _, _, _, _, _, rfl, .ty _, dp_ty hy, kit_tup _, _, rfl, iteF ⟨_, rfl, _, _, rfl, .inr ⟨_, ht, rfl⟩, _, _, rfl, rfl, _, rfl, iteN (by omega) ?_⟩⟩
    refine ⟨_, rfl, ?_⟩
    refine ⟨_, rfl, t, rfl, ⟨_, ht⟩, for_tup (xs := vs) (fun i σ H' => H = H' ∧ ∃ (k : Nat) (y3 : Option V), RepOk bs.length k (rs.drop i) ∧ σ = [some (.ref p), some (.ref t), some (.int ((k : Int) - 1)), y3]) ⟨rfl, 0, none, ok, rfl⟩ ?_ ?_ ?_⟩
    · rintro i σ H' _ ⟨rfl, _⟩
      exact ht
    · rintro i v σ H' hv ⟨rfl, k, y3, hk, rfl⟩
      obtain ⟨x, hx, hvx⟩ := rep_at ha hv
      rw [drop_at hx] at hk
      obtain ⟨k1, k2, k3, k4⟩ := hk
      obtain ⟨o, rfl, ho⟩ := dp_rep hvx
      refine ⟨_, rfl, _, _, _, _, _, rfl, .ty _, dp_ty hvx, kit_tup _, _, rfl, iteF ⟨_, rfl, _, _, rfl, .inr ⟨_, ho, rfl⟩, rfl, _, rfl, iteNNQ rfl ?_⟩⟩
      refine ⟨_, rfl, o, _, _, _, rfl, rfl, ho, rfl, _, rfl, _, _, rfl, rfl, _, rfl, p, dx, _, rfl, h1, p, q, bs, past, rfl, hp, bs.length, rfl, by omega, _, _, rfl, rfl, _, .int (x.1 : Int), _, _, rfl, .int _, _, rfl, ?_⟩
      rw [isNum_of (by omega) (by omega)]
      refine iteF ?_
      refine ⟨_, rfl, o, _, _, _, rfl, rfl, ho, rfl, _, rfl, o, _, _, _, rfl, rfl, ho, rfl, _, rfl, p, dx, _, rfl, h1, p, q, bs, past, rfl, hp, bs.length, rfl, by omega, _, _, rfl, rfl, _, .int (x.2 : Int), _, _, rfl, .int _, _, rfl, ?_⟩
      rw [isNum_of (by omega) (by omega)]
      refine iteF ?_
      refine ⟨_, rfl, o, _, _, _, rfl, rfl, ho, rfl, rfl, x.2 + 1, some (.ref o), k4, ?_⟩
      rw [show ((x.2 + 1 : Nat) : Int) - 1 = (x.2 : Int) by omega]
      rfl
    · rintro σ H' ⟨rfl, k, y3, _, rfl⟩
      exact z
theorem sc_played : FnScope ["part", "repeats"] ["part", "repeats"] (defScope s_played) := ⟨rfl, rfl, rfl, by decide +kernel, rfl, by decide +kernel, by decide +kernel⟩
section
variable {K : PySem.W.Frag} {mg : Str → Option Value}
theorem b_played (T : Txt K mg) : Binds K (fdOf K ("played", none)) ["part", "repeats"] [] := T.played.bindsN fun _ _ _ _ _ _ us hl => match us, hl with | [_, _], _ => rfl
end
def sp_played (K : PySem.W.Frag) : Sp := fun vs H Q _ => ∃ (p q : Addr) (bs : List Bar) (past : List (List Bar)) (y : V) (rs : List (Nat × Nat)), vs = [.ref p, y] ∧ PartX K H p q bs past ∧ Dp K H y (.tuple (repsD rs)) ∧ RepOk bs.length 0 rs ∧ rs.length ≤ 6 ∧ bs.length ≤ 1000 ∧
  ∀ v H', Same H H' → H v = none → H' v = some (.lst (numsV (orderOf bs.length 0 rs))) → Q (.ref v) H'
theorem ok_played {P : Program} {w : World} {K : PySem.W.Frag} {mg : Str → Option Value} {base : Heap} (T : Txt K mg) : OkF P w K mg base CX0 4 ("played", none) ["part", "repeats"] (sp_played K) := by
  refine okN T.played sc_played (fun vs H Q E h => ?_) (fun cdv A outer s H vs Q E hr h => ?_)
  · obtain ⟨p, q, bs, past, y, rs, rfl, _⟩ := h
    rfl
  · obtain ⟨p, q, bs, past, y, rs, rfl, hp, hy, ok, hrl, hbl, z⟩ := h
    refine ⟨_, (pss_cons (ps_expr (pe_call (ok_need_repeats T) (hr.mono (by decide)) (by rfl) T.g_need_repeats T.need_repeats.kp (b_need_repeats T) .nil pass0 (pa_cons (pv 0) (pa_cons (pv 1) pa_nil))))
      (pss_one (ps_ret (pe_call (ok_order_of T) (hr.mono (by decide)) (by rfl) T.g_order_of T.order_of.kp (b_order_of T) .nil pass0 (pa_cons (pv 0) (pa_cons (pv 1) pa_nil)))))), ?_⟩
    refine ⟨_, rfl, _, rfl, p, q, bs, past, y, rs, rfl, hp, hy, ok, hrl, hbl, ?_⟩
    exact ⟨_, rfl, _, rfl, p, q, bs, past, y, rs, rfl, hp, hy, ok, hbl, z⟩
theorem sc_law : FnScope ["script", "dice", "bars", "part", "repeats", "found", "bar", "one"] ["script"] (defScope s_law) := ⟨rfl, rfl, rfl, by decide +kernel, rfl, by decide +kernel, by decide +kernel⟩
theorem count_cast : ∀ (ns : List Nat) (k : Nat), (ns.map fun (n : Nat) => (n : Int)).count (k : Int) = ns.count k
  | [], _ => rfl
  | n :: r, k => by
    rw [List.map_cons, List.count_cons, List.count_cons, count_cast r k]
    congr 1
    by_cases h : n = k
    · subst h
      simp
    · rw [if_neg (by simp; omega), if_neg (by simp; omega)]
theorem ok_law {P : Program} {w : World} {K : PySem.W.Frag} {mg : Str → Option Value} {base : Heap} (T : Txt K mg) : OkF P w K mg base CX0 20 ("law", none) ["script"] (sp_law K) := by
  refine okN T.law sc_law (fun vs H Q E h => ?_) (fun cdv A outer s H vs Q E hr h => ?_)
  · obtain ⟨a, ns, rfl, _⟩ := h
    rfl
  · obtain ⟨a, ns, rfl, hS, hlen, z⟩ := h
    refine ⟨_, (pss_cons (ps_for PassesOwn.never rfl (pi_list (pe_call (ok__law_rounds T) (hr.mono (by decide)) (by rfl) T.g__law_rounds T._law_rounds.kp (b__law_rounds T) .nil pass0 (pa_cons (pv 0) (pa_cons pe_int pa_nil)))) (pg_name (i := 1) sc_law.nd rfl (by first | exact Or.inl rfl | exact Or.inr rfl))
      (pss_cons (ps_set (i := 2) sc_law.nd rfl (by first | exact Or.inl rfl | exact Or.inr rfl) (pe_call (ok__law_row T) (hr.mono (by decide)) (by rfl) T.g__law_row T._law_row.kp (b__law_row T) .nil pass0 (pa_cons (pv 1) (pa_cons pe_int pa_nil))))
      (pss_cons (ps_par (by rfl) sc_law.nd (i := 3) (j := 4) rfl rfl (by decide) rfl rfl (pa_cons (pe_make T.mk_Part (ok_Part_init T) (hr.mono (by decide)) (by rfl) T.g_Part (b1_Part T) .nil pass0 (pa_cons (pv 2) pa_nil)) (pa_cons (pe_call (ok__law_repeats T) (hr.mono (by decide)) (by rfl) T.g__law_repeats T._law_repeats.kp (b__law_repeats T) .nil pass0 (pa_cons (pv 1) (pa_cons (pv 2) pa_nil))) pa_nil)) (by rfl))
      (pss_cons (ps_set (i := 5) sc_law.nd rfl (by first | exact Or.inl rfl | exact Or.inr rfl) (pe_call (ok_played T) (hr.mono (by decide)) (by rfl) T.g_played T.played.kp (b_played T) .nil pass0 (pa_cons (pv 3) (pa_cons (pv 4) pa_nil))))
      (pss_cons (ps_if (PW.pt (pw_or (pt_cmpR (op_neD hr.units) (pv 5) (pe_call (ok__law_order T) (hr.mono (by decide)) (by rfl) T.g__law_order T._law_order.kp (b__law_order T) .nil pass0 (pa_cons (pv 2) (pa_cons (pv 4) pa_nil))) (nomark _)) (pw_or1 (pt_cmpR (op_neD hr.units) (pe_call (ok_played T) (hr.mono (by decide)) (by rfl) T.g_played T.played.kp (b_played T) .nil pass0 (pa_cons (pv 3) (pa_cons (pe_tup pa_nil) pa_nil))) (pe_listRg rfl (by rfl) T.b_list (prg_1 (by rfl) T.b_range (pe_callB call_len (by rfl) T.b_len PySem.boot_len (pa_cons (pv 2) pa_nil)))) (nomark _))))) (pss_one (ps_ret pe_bl)) pss_nil)
      (pss_one (ps_for PassesOwn.never rfl (pi_range1 (by rfl) T.b_range (pa_cons (pe_callB call_len (by rfl) T.b_len PySem.boot_len (pa_cons (pv 2) pa_nil)) pa_nil)) (pg_name (i := 6) sc_law.nd rfl (by first | exact Or.inl rfl | exact Or.inr rfl))
      (pss_one (ps_if (pt_cmpR op_ne (pe_bm PySem.F.plainAttrs_list PySem.F.slot_list_count PySem.F.type_list_count mt_lcount (pv 5) (pa_cons (pv 6) pa_nil)) (pe_op op_add pe_int (pe_callB call_len (by rfl) T.b_len PySem.boot_len (pa_cons (pe_lc (own := [("one", 7)]) (g := (gName 7))  (by rfl) sc_law.nd (pi_tup (pv 4)) (blkOk_by (own := [("one", 7)]) (N := ["script", "dice", "bars", "part", "repeats", "found", "bar", "one"]) (sc := defScope s_law) (by decide +kernel)) (fun _ _ _ _ _ => (pg_name (i := 7) sc_law.nd rfl (by first | exact Or.inl rfl | exact Or.inr rfl))) (fun _ _ _ _ _ => (pts_one (pt_chain op_le op_le (pe_ix (r := rIxT K) ix_tup (pv 7) pe_int (fun _ _ => rfl)) (pv 6) (pe_ix (r := rIxT K) ix_tup (pv 7) pe_int (fun _ _ => rfl))))) (fun _ _ _ _ _ => (pv 7))) pa_nil))) (nomark _)) (pss_one (ps_ret pe_bl)) pss_nil)))))))))
      (pss_one (ps_ret pe_bl))), ?_⟩
    refine ⟨_, rfl, a, ns, 5, rfl, hS, hlen, by decide, fun H1 R ds s1 nR hR hds hdl => ?_⟩
    refine ⟨R, rfl, ⟨_, .of hR⟩, for_list (xs := ds.map V.ref) (fun i σ H' => Rnd H' R ds ∧ ∃ y1 y2 y3 y4 y5 y6 y7, σ = [some (.ref a), y1, y2, y3, y4, y5, y6, y7]) ⟨⟨hR, hds⟩, none, none, none, none, none, none, none, rfl⟩ ?_ ?_ ?_⟩
    · rintro i σ H' _ ⟨h, _⟩
      exact .of h.1
    · rintro i v σ H0 hv ⟨hRnd, y1, y2, y3, y4, y5, y6, y7, rfl⟩
      obtain ⟨d, rfl, hd, hD0⟩ := hRnd.at hv
      refine ⟨_, rfl, d, 14, rfl, hD0, by decide, fun H2 B bs f2 hD2 nB row2 hbo hbl => ?_⟩
      have nBd : B ≠ d := new_ne hD0 nB
      refine ⟨_, rfl, make_part (.inr ⟨B, rfl, row2.dp⟩) hbo (by omega) fun H3 p q s3 np nq npq hp3 => ?_⟩
      have row3 := row2.same s3
      have hD3 := hD2.same s3
      refine ⟨_, rfl, _, rfl, d, B, bs, rfl, hD3, row3, nBd, by omega, fun y H4 rs f4 hD4 hy ok hrl => ⟨_, _, rfl, ?_⟩⟩
      have row4 := row3.fr f4 (by simp [nBd])
      have hp4 := hp3.fr hD3 f4
      have f04 := (f2.then s3).trans f4
      obtain ⟨t, vs, rfl, ht, ha⟩ : ∃ t vs, y = .ref t ∧ SqT K H4 t vs ∧ DpAll K H4 vs (repsD rs) := by
        cases hy with
        | tup s a => exact ⟨_, _, rfl, s, a⟩
      have hvl : vs.length = rs.length := by rw [dpa_len ha, List.length_map]
      -- found = played(part, repeats)
      refine ⟨_, rfl, _, rfl, p, q, bs, [], _, rs, rfl, hp4, hy, ok, by omega, by omega, fun F H5 s5 nF hF => ?_⟩
      -- found != _law_order(bars, repeats)
      refine ⟨_, rfl, _, rfl, _, rfl, B, bs, _, rs, rfl, (row4.same s5).dp, dp_same s5 hy, ok, by omega, by omega, fun G H6 s6 nG hG => ?_⟩
      refine ⟨_, _, .lst (.of (s6 _ _ hF)) (dpa_nums_of _), .lst (.of hG) (dpa_nums_of _), (shp_numsL _).ok (by decide), (shp_numsL _).ok (by decide), _, rfl, ?_⟩
      rw [SeqAt.eqv_refl _ (shp_numsL _).1]
      refine iteF ?_
      have s46 := s5.trans s6
      -- played(part, ()) != list(range(len(bars)))
      refine ⟨_, rfl, by show (0 : Nat) ≤ sizeLine; decide, fun c nc => ?_⟩
      have s7 := s46.trans (same_upd (o := .tup []) nc)
      refine ⟨p, q, bs, [], _, [], rfl, hp4.same s7, .tup (.of upd_same) .nil, trivial, by decide, by omega, fun F2 H8 s8 nF2 hF2 => ?_⟩
      have s48 := s7.trans s8
      obtain ⟨bv, v1, v2⟩ := row4.same s48
      refine ⟨_, rfl, _, _, rfl, .inl ⟨_, .of v1, rfl⟩, _, rfl, ⟨by omega, by omega, by omega, ?_, ?_⟩, fun L nL => ?_⟩
      · rw [bars_len v2]
        omega
      · rw [bars_len v2]
        omega
      rw [bars_len v2, show rgV 0 (bs.length : Int) = numsV (rng 0 bs.length) from rng_V 0 bs.length]
      have s9 := same_upd (o := .lst (numsV (rng 0 bs.length))) nL
      refine ⟨_, _, .lst (.of (s9 _ _ hF2)) (dpa_nums_of _), .lst (.of upd_same) (dpa_nums_of _), (shp_numsL _).ok (by decide), (shp_numsL _).ok (by decide), _, rfl, ?_⟩
      rw [show orderOf bs.length 0 [] = rng 0 bs.length from rfl, SeqAt.eqv_refl _ (shp_numsL _).1]
      refine iteF ?_
      have s49 := s48.trans s9
      have s69 := (((same_upd (o := .tup []) nc).trans s8).trans s9)
      have hF9 := s69 _ _ (s6 _ _ hF)
      generalize (upd H8 L (.lst (numsV (rng 0 bs.length)))) = H9 at s49 hF9 ⊢
      -- for bar in range(len(bars))
      obtain ⟨bv, v1, v2⟩ := row4.same s49
      refine ⟨_, rfl, _, _, rfl, .inl ⟨_, .of v1, rfl⟩, _, rfl, by omega, ?_, ?_⟩
      · rw [bars_len v2]
        omega
      rw [bars_len v2]
      refine for_range (lo := 0) (n := (bs.length : Int).toNat) (fun j σ H' => Same H9 H' ∧ ∃ y6 y7, σ = [some (.ref a), some (.ref d), some (.ref B), some (.ref p), some (.ref t), some (.ref F), y6, y7]) ⟨Same.refl _, y6, y7, rfl⟩ ?_ ?_
      · rintro j σ H10 hj ⟨s10, y6, y7, rfl⟩
        rw [Int.zero_add]
        have hj2 : j < bs.length := by omega
        have hFj := s10 _ _ hF9
        rw [numsV_ints] at hFj
        refine ⟨_, rfl, .inl ⟨rfl, _, .of hFj⟩, _, rfl, F, _, _, rfl, rfl, .of hFj, ?_⟩
        refine ⟨_, rfl, t, rfl, ⟨_, same_sqt (s49.trans s10) ht⟩, fun D hD => lc_tup (K := K) (a := t) (xs := vs) (fun i H' => Same H10 H' ∧ ∃ ws, H' D = some (.lst ws) ∧ ws.length = ((rs.take i).filter fun x => decide (x.1 ≤ j) && decide (j ≤ x.2)).length) ⟨same_upd hD, [], upd_same, rfl⟩ ?_ ?_ ?_⟩
        · rintro i H' _ ⟨s', _⟩
          exact same_sqt ((s49.trans s10).trans s') ht
        · rintro i v H' hv ⟨s', ws, e', hwl⟩
          obtain ⟨x, hx, hvx⟩ := rep_at ha hv
          obtain ⟨o, rfl, ho⟩ := dp_rep hvx
          have ho' := same_sqt ((s49.trans s10).trans s') ho
          have tf := take_filter (fun x : Nat × Nat => decide (x.1 ≤ j) && decide (j ≤ x.2)) hx
          have no : (decide (x.1 ≤ j) && decide (j ≤ x.2)) = false → ws.length = ((rs.take (i + 1)).filter fun x => decide (x.1 ≤ j) && decide (j ≤ x.2)).length := by
            intro hn
            rw [tf, hn, if_neg Bool.false_ne_true, List.append_nil]
            exact hwl
          refine ⟨rfl, _, rfl, o, _, _, _, rfl, rfl, ho', rfl, _, rfl, _, _, rfl, rfl, _, rfl, ite2P (fun h1 => ?_) (fun h1 => ⟨_, rfl, iteF ⟨s', ws, e', no ?_⟩⟩)⟩
          · refine ⟨_, rfl, o, _, _, _, rfl, rfl, ho', rfl, _, _, rfl, rfl, _, rfl, ite2P (fun h2 => ?_) (fun h2 => ⟨s', ws, e', no ?_⟩)⟩
            · refine ⟨_, rfl, ws, e', ?_, same_updR s' hD, ws ++ [.ref o], upd_same, ?_⟩
              · rw [hwl]
                have h1 := List.length_filter_le (fun x : Nat × Nat => decide (x.1 ≤ j) && decide (j ≤ x.2)) (rs.take i)
                have h2 : (rs.take i).length ≤ rs.length := by rw [List.length_take]; omega
                exact small1000 (by omega)
              · rw [tf, decide_eq_true (show x.1 ≤ j by omega), decide_eq_true (show j ≤ x.2 by omega), if_pos (show (true && true) = true from rfl), List.length_append, List.length_append, hwl]
                rfl
            · rw [decide_eq_false (show ¬ j ≤ x.2 by omega)]
              exact Bool.and_false _
          · rw [decide_eq_false (show ¬ x.1 ≤ j by omega)]
            rfl
        · rintro H11 ⟨s11, ws, e11, hwl⟩
          rw [hvl, List.take_length] at hwl
          refine ⟨_, _, rfl, .inl ⟨_, .of e11, rfl⟩, _, _, rfl, rfl, rfl, _, rfl, iteNNQ ?_ ?_⟩
          · have h1 := order_count hj2 ok
            rw [if_pos (Nat.zero_le _)] at h1
            rw [hwl, ← List.countP_eq_length_filter, show ((orderOf bs.length 0 rs).map fun (n : Nat) => (n : Int)).count (j : Int) = (orderOf bs.length 0 rs).count j from count_cast _ _, h1]
            omega
          · exact ⟨s10.trans s11, _, _, rfl⟩
      · rintro σ H10 ⟨s10, y6, y7, rfl⟩
        have sEnd := s49.trans s10
        exact ⟨hRnd.turn hd (f04.then sEnd) (hD4.same sEnd), _, _, _, _, _, _, _, rfl⟩
    · rintro σ H' ⟨_, y1, y2, y3, y4, y5, y6, y7, rfl⟩
      exact z _
abbrev R : PySem.W.OpenRow := PySem.W.OpenLaw.row PySem.Challenge.rw_turnedleaves_k70_whole_played
def tf : List He.Defn := []
abbrev hk : PySem.W.Hook := He.hookX 6 fa fn [] tf ex
def ob (s : PySem.W.SharedT) : He.AlX := He.obsX 6 fa fn [] tf ex (HandSHeadRun.getT s)
theorem ob_eq (s : PySem.W.SharedT) : ob s = hk.obs s.abs := He.obsX_eq (HandSHeadRun.getT_eq s)
theorem run (w : World) : HandSHeadRun.RunEq R (PySem.W.view R.prog [26]) hk ob 20000 loose w := by
  intro os
  kernel_rfl
end TL
open PySem PySem.W PySem.Calls PyProof.Rows
set_option maxRecDepth 100000 in
set_option maxHeartbeats 0 in
theorem PySem.Challenge.cw_turnedleaves_k70_whole_played_holds : PySem.Challenge.rw_turnedleaves_k70_whole_played.Holds := by
  w_on; o_law
  refine HandSHeadRun.head_any (r := OpenLaw.row PySem.Challenge.rw_turnedleaves_k70_whole_played) (q := view (OpenLaw.row PySem.Challenge.rw_turnedleaves_k70_whole_played).prog [26]) (H := TL.hk) (ob := TL.ob) (M := 20000) (loose := TL.loose) (d := HandSHeadRun.topDef (OpenLaw.row PySem.Challenge.rw_turnedleaves_k70_whole_played).prog 26) (kwd := []) TL.ob_eq
    (by kernel_rfl) (fun s => by kernel_rfl) TL.run (by kernel_rfl) (by kernel_rfl) (by kernel_rfl) (by rfl) (by first | assumption | decide +kernel) (by decide +kernel) ⟨rfl, rfl, rfl, rfl, rfl, by decide +kernel⟩ ?hw ?hc
  case hw => w_witness2
  case hc =>
    refine L2.walk_ofE (l := PySem.Challenge.rw_turnedleaves_k70_whole_played) (n := 63) (k := 20) (x := "script") (CX := L2.CX0) rfl (by decide) (by kernel_rfl) ⟨rfl, by decide, by decide⟩ ?F (fun _ _ _ _ z => z)
    intro w mg fa h Y G hmg0
    obtain ⟨K, KX, c⟩ := Y
    have hmg : mg ("law" : PySem.Str) = some (.ref fa) := by
      have e : (HandSHeadRun.topDef (OpenLaw.row PySem.Challenge.rw_turnedleaves_k70_whole_played).prog 26).name = ("law" : PySem.Str) := by kernel_rfl
      rw [← e]
      exact hmg0
    have T : TL.Txt K mg := TL.txt_of KX G c
    have e := hmg.symm.trans T.g_law
    cases e
    have b := L2.FunD.bindsA (ps := ["script"]) T.law fun _ _ _ _ _ _ us hl => match us, hl with | [_], _ => rfl
    exact ⟨K, TL.fdOf K ("law", none), TL.sp_law K, KX, fun s v => b s [v] rfl, fun H a ns hl _ hS => ⟨a, ns, rfl, hS, hl, fun _ => rfl⟩, fun base _ _ => TL.ok_law T⟩
