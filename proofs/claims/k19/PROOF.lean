import PyProof.Rows.All
import Wide.All
import OpenK.AllK
import Wide.FinOn
import HandS.ForMost
import HandS.ForExc
import HandS.Wide
import HandS.IsInst
import HandS.Defaults
import HandS.MakeKwOnly
import HandS.Flow
import HandS.EndBits
import HandS.Style
import HandS.Conv
import HandS.Deep
import HandS.Codes
import PyProof.StrOps2
import HandS.ReplaceLit
import HandS.Iter
import HandS.SortKw
import KE.DataMinMax
import HandS.More
import HandS.DeepEq
import PyProof.NeKinds
import HandS.ExcIs
import HandS.ExcOwn
import HandS.WordsExc
import HandS.Zip
import HandS.TupAny
import HandS.NoneIn
import HandS.HotCalls
import HandS.ExcCtx
import PyProof.Seq
import HandS.OwnEq
import HandS.CallLocal
import HandS.Nested
import HandS.ExcInit
import KE.KExcIs
import HandS.ExcField
import PyProof.FactsAll.subtypes_4
import PyProof.FactsAll.dict_2
import PyProof.EqKinds
import PyProof.FactsAll.dict_1
import HandS.Text
import PyProof.CollectIter
import PyProof.WalksMore
import KE.HD2
import PySem.Challenge.RW_nestlaid_k19_boxes_refused
set_option Elab.async false
set_option linter.all false
set_option maxRecDepth 100000
set_option maxHeartbeats 0
namespace MyHead
open PySem PySem.W PySem.Calls PyProof.Rows
abbrev R : OpenRow := OpenLaw.row PySem.Challenge.rw_nestlaid_k19_boxes_refused
abbrev qv : Program := view R.prog [78]
def names : List PySem.Str := ([PySem.Str.ofString "_wall", PySem.Str.ofString "__name__", PySem.Str.ofString "NestError", PySem.Str.ofString "NoNumber", PySem.Str.ofString "NoText", PySem.Str.ofString "NoName", PySem.Str.ofString "NoStyle", PySem.Str.ofString "NoBox", PySem.Str.ofString "NoTruth", PySem.Str.ofString "NoPack", PySem.Str.ofString "NoStand", PySem.Str.ofString "NoTrack", PySem.Str.ofString "NoSpot", PySem.Str.ofString "NoTree", PySem.Str.ofString "NoPlace", PySem.Str.ofString "NoWords", PySem.Str.ofString "is_whole", PySem.Str.ofString "LETTERS", PySem.Str.ofString "LONGEST", PySem.Str.ofString "is_count", PySem.Str.ofString "is_name", PySem.Str.ofString "is_share", PySem.Str.ofString "is_track", PySem.Str.ofString "are_tracks", PySem.Str.ofString "is_stretch", PySem.Str.ofString "is_spot", PySem.Str.ofString "apart", PySem.Str.ofString "may_stand", PySem.Str.ofString "are_spots", PySem.Str.ofString "NO_RIMS"] : List PySem.Str) ++ ([PySem.Str.ofString "SIDES", PySem.Str.ofString "STANDS", PySem.Str.ofString "is_part", PySem.Str.ofString "is_tie", PySem.Str.ofString "is_size", PySem.Str.ofString "is_bound", PySem.Str.ofString "is_rims", PySem.Str.ofString "Style", PySem.Str.ofString "told_fields", PySem.Str.ofString "shown_fields", PySem.Str.ofString "PACKS", PySem.Str.ofString "checked_name", PySem.Str.ofString "checked_style", PySem.Str.ofString "checked_boxes", PySem.Str.ofString "checked_gap", PySem.Str.ofString "checked_pack", PySem.Str.ofString "checked_stands", PySem.Str.ofString "Box", PySem.Str.ofString "Words", PySem.Str.ofString "Picture", PySem.Str.ofString "Row", PySem.Str.ofString "Pile", PySem.Str.ofString "Grid", PySem.Str.ofString "_law_cell_at", PySem.Str.ofString "_law_mixed", PySem.Str.ofString "_law_source", PySem.Str.ofString "_law_next", PySem.Str.ofString "_law_letters", PySem.Str.ofString "_law_number", PySem.Str.ofString "_law_bad_name"] : List PySem.Str) ++ ([PySem.Str.ofString "_law_bad_number", PySem.Str.ofString "_law_bad_boxes", PySem.Str.ofString "_law_bad_word", PySem.Str.ofString "_law_bad_tracks", PySem.Str.ofString "_law_bad_spots", PySem.Str.ofString "_law_bad", PySem.Str.ofString "_law_sorts", PySem.Str.ofString "_law_good", PySem.Str.ofString "_law_made", PySem.Str.ofString "_law_told", PySem.Str.ofString "_law_found", PySem.Str.ofString "_law_due"] : List PySem.Str)
def obK (K : Params → Frag) (as : List Addr) (e : ∀ P, as = (K P).map (·.1)) (s : SharedT) : (kHook K as e).α := as.map (HeadRun.getT s)
theorem obK_ok {K : Params → Frag} {as : List Addr} {e : ∀ P, as = (K P).map (·.1)} (s : SharedT) : obK K as e s = (kHook K as e).obs s.abs := by
  show as.map (HeadRun.getT s) = as.map s.abs.heap.get?
  exact congrArg (fun f => as.map f) (funext (HeadRun.getT_eq s))
section
set_option hygiene false in
local macro_rules
  | `(tactic| o_head $H) => `(tactic| (have _k := $H; exact h _))
theorem mkK (h : ∀ r : OpenRow, r.Holds) : PySem.Challenge.rw_nestlaid_k19_boxes_refused.Holds := by
  w_on
  o_law
  k_head
end
/-- some answers of a world, to read the fragment's addresses by -/
def someP : Params := { strHash := fun _ => 0, shareClass := fun _ => 0, mergeTok := fun t => t, idOf := fun _ => 0, idOfShared := fun _ _ => 0, followText := fun _ => false, idOfImm := fun _ => 0 }
noncomputable def asK : List Addr := (mkK.heap_39 someP).map (·.1)
theorem asK_ok (P : Params) : asK = (mkK.heap_39 P).map (·.1) := by kernel_rfl
noncomputable abbrev hk : Hook := kHook mkK.heap_39 asK asK_ok
theorem run0 (w : World) : HeadRun.RunEq R qv hk (obK mkK.heap_39 asK asK_ok) 12000 names (w.withFollow "special-get-raises" false) := by
  intro os
  kernel_rfl
theorem run1 (w : World) : HeadRun.RunEq R qv hk (obK mkK.heap_39 asK asK_ok) 12000 names (w.withFollow "special-get-raises" true) := by
  intro os
  kernel_rfl
theorem enter (call : WalkO qv names (XL qv []) hk.says R.toRowW (HeadRun.topDef R.prog 78) [] (fun f vs => PySem.call f vs)) : PySem.Challenge.rw_nestlaid_k19_boxes_refused.Holds := by
  w_on; o_law
  refine HeadRun.head_any (r := R) (q := qv) (H := hk) (M := 12000) (loose := names) (d := HeadRun.topDef R.prog 78) (kwd := []) obK_ok (by kernel_rfl) (fun s => by kernel_rfl) (fun w => byRow2 "special-get-raises" (P := fun w => HeadRun.RunEq R qv hk (obK mkK.heap_39 asK asK_ok) 12000 names w) run0 run1 w) (by kernel_rfl) (by kernel_rfl) (by kernel_rfl) (by rfl) (by first | assumption | decide +kernel) (by decide +kernel) ⟨rfl, rfl, rfl, rfl, rfl, by decide +kernel⟩ ?hw call
  case hw => w_witness2
end MyHead
set_option Elab.async false
set_option linter.all false
set_option maxRecDepth 100000
set_option maxHeartbeats 4000000
namespace My
open PySem PySem.Spec PyProof.Rows L2
/-! ### a def of the top, with its facts -/
structure Df (K : PySem.W.Frag) (mg : Str → Option Value) (x : Str) (st : Stmt) (ps : List Str) where
  f : Addr
  fd : FuncData
  F : Fun K x x st f fd
  b : Binds K fd ps []
  g : mg x = some (.ref f)
def df_mk {K : PySem.W.Frag} {mg : Str → Option Value} {x : Str} {st : Stmt} {ps : List Str} {h : Heap} (X : K.In h) (G : h.Ns mainGlobals mg) {f : Addr} {oc : Value} {od an : Option Addr} {osl : Array (Option Value)} {kV doc pm cdv ct : Value}
    (a : PySem.W.nsIn K mainGlobals x = some (some (.ref f))) (l : K.lookup f = some ⟨oc, od, .func (PySem.W.fnOf x x (defArgs st) (defBody st) (defScope st) .none kV doc pm an cdv ct), osl⟩)
    (c : PySem.W.codeIn K cdv x = true) (k : PySem.W.keepIn K (.ref f) = true)
    (hb : ∀ (kV doc pm : Value) (an : Option Addr) (cdv ct : Value) (us : List Value), us.length = ps.length → bindArgs (PySem.W.fnOf x x (defArgs st) (defBody st) (defScope st) .none kV doc pm an cdv ct) ⟨us, []⟩ = pure (ps.zip us)) : Df K mg x st ps :=
  ⟨f, _, fun_mk l c k, (fun_mk l c k).binds hb, PySem.W.mg_of X G a⟩
/-! ### calls by keywords alone -/
theorem vals_getD : ∀ {zs : List V} {ws : List Value}, Vals zs ws → ∀ i : Nat, RelV (zs.getD i .non) (ws.getD i .none)
  | _, _, .nil, i => rfl
  | _, _, .cons r t, 0 => r
  | _, _, .cons r t, i + 1 => by simpa using vals_getD t i
section
variable {X : Cx} {CX : CXT} {k n : Nat} {f C : Addr} {fd : FuncData} {ps ks : List Str} {sp : Sp} {E : XK} {x : Str} {p pos : Pos} {kws : List Keyword} {t tk : TA} {g : List Value → List Value → List Value} {gV : List V → List V → List V}
/-- f(k = v, ..) -/
theorem pe_callN0 (F : FnOk X.prog X.w X.K X.mg X.base CX k f fd ps sp) (hr : Room k X.A) (hg : Gl X x) (hm : X.mg x = some (.ref f)) (hk : PySem.W.keepIn X.K (.ref f) = true) (hb : KBn X.K fd ps 0 ks g gV) (hx : Passes CX X E) (hkw : PK X kws tk)
    (hall : (backToKw pos (keywordEach kws X.env)).all (·.1.isSome) = true := by rfl) (hks : (backToKw pos (keywordEach kws X.env)).filterMap (·.1) = ks := by rfl) (hdb : (x == ("__debug__" : Str)) = false := by decide)
    (hpl : ((backTo pos (starEach [] X.env)).any (·.1) || (backToKw pos (keywordEach kws X.env)).any (·.1.isNone)) = false := by rfl) :
    PE X (.Call (.Name x p) [] kws pos) (tCallN 0 ks.length sp gV E tNil tk) := by
  refine ⟨fun pins s σ H Q I h => ?_⟩
  refine wpAny_Call_Name_kw (ld_glob I hg hm ?_ hdb)
  refine PySem.W.callWith_KW0 (h₀ := X.base) I.ok.mod.kin hk hall ?_ hpl
  refine thn (hkw.run pos pins s σ H _ I h) fun ws s2 ⟨zs, H2, I2, rz, l1, l2, q2⟩ => ⟨I2.kIn, ?_⟩
  rw [hks]
  exact run_fnN (us := []) (vs := []) F hr hb hx I2 .nil rz rfl l2 q2
end
/-! ### heaps -/
/-- all that was tracked but at a is as it was -/
def But (a : Addr) (H H' : Hp) : Prop := ∀ b o, b ≠ a → H b = some o → H' b = some o
theorem But.app {a b : Addr} {H H' : Hp} {o : HO} (s : But a H H') (n : b ≠ a) (h : H b = some o) : H' b = some o := s _ _ n h
theorem But.refl {a : Addr} {H : Hp} : But a H H := fun _ _ _ h => h
theorem But.trans {a : Addr} {H H1 H2 : Hp} (s : But a H H1) (t : But a H1 H2) : But a H H2 := fun b o n h => t b o n (s b o n h)
theorem But.upd {a : Addr} {H H1 : Hp} {o : HO} (s : But a H H1) : But a H (upd H1 a o) := fun b u n h => by
  rw [upd_ne n]
  exact s b u n h
theorem But.new {a p : Addr} {H H1 : Hp} {o : HO} (s : But a H H1) (h : H1 p = none) : But a H (L2.upd H1 p o) := fun b u n e => by
  have e1 := s b u n e
  rw [upd_ne (ne_of_none e1 h)]
  exact e1
theorem Same.but {a : Addr} {H H1 : Hp} (s : Same H H1) : But a H H1 := fun b u n h => s b u h
theorem Same.app {b : Addr} {H H' : Hp} {o : HO} (s : Same H H') (h : H b = some o) : H' b = some o := s _ _ h
theorem Same.new {H H1 : Hp} {p : Addr} {o : HO} (s : Same H H1) (h : H1 p = none) : Same H (upd H1 p o) := fun b u e => by
  have e1 := s b u e
  rw [upd_ne (ne_of_none e1 h)]
  exact e1
theorem Same.mut {H H1 : Hp} {p : Addr} {o : HO} (s : Same H H1) (h : H p = none) : Same H (upd H1 p o) := fun b u e => by
  rw [upd_ne (ne_of_none e h)]
  exact s b u e
theorem But.seq {K : PySem.W.Frag} {H H' : Hp} {a b : Addr} {xs : List V} (e : But a H H') (n : b ≠ a) (h : SqL K H b xs) : SqL K H' b xs := by
  rcases h with (h | ⟨o, h⟩) | h
  · exact .inl (.inl (e _ _ n h))
  · exact .inl (.inr ⟨o, e _ _ n h⟩)
  · exact .inr h
theorem upd_keep {H : Hp} {a p : Addr} {o u : HO} (n : H p = none) (h : H a = some o) : upd H p u a = some o := (upd_ne (ne_of_none h n)).trans h
theorem Same.upd0 {H : Hp} {p : Addr} {o : HO} (n : H p = none) : Same H (upd H p o) := fun b u e => upd_keep n e
theorem sqL {K : PySem.W.Frag} {H : Hp} {a : Addr} {xs : List V} (h : H a = some (.lst xs)) : SqL K H a xs := .inl (.inl h)
theorem sqT {K : PySem.W.Frag} {H : Hp} {a : Addr} {xs : List V} (h : H a = some (.tup xs)) : SqT K H a xs := .inl (.inl h)
/-! ### new and changed objects, the heap behind them by a name -/
def New (H : Hp) (o : HO) (Q : VK) : Prop := ∀ p H', H p = none → Same H H' → H' p = some o → Q (.ref p) H'
theorem New.go {H : Hp} {o : HO} {Q : VK} (h : New H o Q) : ∀ p, H p = none → Q (.ref p) (upd H p o) := fun p n => h p _ n (Same.upd0 n) upd_same
/-- what stands at l becomes o -/
def Set1 (H : Hp) (l : Addr) (o : HO) (q : Hp → Prop) : Prop := ∀ H', But l H H' → H' l = some o → q H'
theorem Set1.go {H : Hp} {l : Addr} {o : HO} {q : Hp → Prop} (h : Set1 H l o q) : q (upd H l o) := h _ But.refl.upd upd_same
theorem pe_imp {X : Cx} {e : Expr} {t t' : TE} (h : PE X e t) (i : ∀ σ H Q, t' σ H Q → t σ H Q) : PE X e t' := ⟨fun pins s σ H Q I h' => h.run pins s σ H Q I (i _ _ _ h')⟩
theorem opR_imp {X : Cx} {f : Value → Value → Sem Value} {r r' : R2} (h : OpR X f r) (i : ∀ x y H Q, r' x y H Q → r x y H Q) : OpR X f r' := fun pins s σ H x y v u Q I rx ry q => h pins s σ H x y v u Q I rx ry (i _ _ _ _ q)
theorem callR_imp {X : Cx} {f : Value} {r r' : List V → Hp → VK → Prop} (h : CallR X f r) (i : ∀ xs H Q, r' xs H Q → r xs H Q) : CallR X f r' := fun pins s σ H xs us Q I rx q => h pins s σ H xs us Q I rx (i _ _ _ q)
theorem slR_imp {X : Cx} {r r' : V → Option Int → Option Int → Hp → VK → Prop} (h : SlR X r) (i : ∀ x lo hi H Q, r' x lo hi H Q → r x lo hi H Q) : SlR X r' := fun pins s σ H x v vl vu lo hi sl Q I rx a b c q => h pins s σ H x v vl vu lo hi sl Q I rx a b c (i _ _ _ _ _ q)
theorem mtM_imp {X : Cx} {id : String} {r r' : V → List V → Hp → VK → Prop} (h : MtM X id r) (i : ∀ x xs H Q, r' x xs H Q → r x xs H Q) : MtM X id r' := fun pins s σ H x xs v us Q I rx rv q => h pins s σ H x xs v us Q I rx rv (i _ _ _ _ q)
theorem pSet_imp {X : Cx} {r r' : TSet} (h : PSet X r) (i : ∀ x y z H Q, r' x y z H Q → r x y z H Q) : PSet X r' := fun pins s σ H o i' v ov iv u Q I a b c q => h pins s σ H o i' v ov iv u Q I a b c (i _ _ _ _ _ q)
section
variable {X : Cx} {es : List Expr} {t : TA} {pos : Pos}
/-- a tuple, a list -/
def tTupA (t : TA) : TE := fun σ H Q => t σ H fun xs H1 => xs.length ≤ sizeLine ∧ New H1 (.tup xs) Q
def tLstA (t : TA) : TE := fun σ H Q => t σ H fun xs H1 => xs.length ≤ sizeLine ∧ New H1 (.lst xs) Q
theorem pe_tupA {x1} (h : PA X es t) : PE X (.Tuple es x1 pos) (tTupA t) := by
  refine ⟨fun pins s σ H Q I hq => ?_⟩
  refine wpAny_Tuple_spliced (thn (h.run pos pins s σ H _ I hq) fun us s1 ⟨xs, H1, I1, r, z, q⟩ => ⟨by rw [← r.length]; exact z, ?_⟩)
  have hf : H1 s1.heap.objs.size = none := I1.hok.fresh (Nat.le_refl _)
  refine ⟨.ref s1.heap.objs.size, upd H1 s1.heap.objs.size (.tup xs), I1.laid (t' := s1.toks) (fun b u e => Heap.get?_push_of_some _ e) (Nat.le_refl _) ?_, rfl, q.go _ hf⟩
  exact ⟨z, us, r, ⟨_, Heap.get?_push_size _ rfl, rfl, _, rfl⟩⟩
theorem pe_lstA (h : PA X es t) : PE X (.List es pos) (tLstA t) := by
  refine ⟨fun pins s σ H Q I hq => ?_⟩
  refine wpAny_List_spliced (thn (h.run pos pins s σ H _ I hq) fun us s1 ⟨xs, H1, I1, r, z, q⟩ => ⟨by rw [← r.length]; exact z, ?_⟩)
  have hf : H1 s1.heap.objs.size = none := I1.hok.fresh (Nat.le_refl _)
  refine ⟨.ref s1.heap.objs.size, upd H1 s1.heap.objs.size (.lst xs), I1.laid (t' := s1.toks) (fun b u e => Heap.get?_push_of_some _ e) (Nat.le_refl _) ?_, rfl, q.go _ hf⟩
  exact ⟨z, us, 0, r, Heap.get?_push_size _ rfl⟩
def tDNewA : TE := fun _ H Q => New H (.dK []) Q
theorem pe_dnewA : PE X (.Dict [] [] pos) tDNewA := pe_imp pe_dnewK fun _ _ _ h => h.go
/-- list + list, list * n -/
def rCatA (K : PySem.W.Frag) : R2 := fun x y H Q => ∃ l b xs zs, x = .ref l ∧ y = .ref b ∧ H l = some (.lst xs) ∧ H b = some (.lst zs) ∧ xs.length + zs.length ≤ sizeLine ∧ New H (.lst (xs ++ zs)) Q
theorem op_catA : OpR X (binaryOp .Add) (rCatA X.K) := opR_imp op_cat fun _ _ _ _ ⟨l, b, xs, zs, e1, e2, h1, h2, z, q⟩ => ⟨l, b, xs, zs, e1, e2, h1, h2, z, q.go⟩
def rRepA : R2 := fun x y H Q => ∃ l k xs, x = .ref l ∧ y = .int k ∧ H l = some (.lst xs) ∧ -(2 ^ 63) ≤ k ∧ k < 2 ^ 63 ∧ xs.length * k.toNat ≤ sizeLine ∧ New H (.lst (List.replicate k.toNat xs).flatten) Q
theorem op_repA : OpR X (binaryOp .Mult) rRepA := opR_imp op_rep fun _ _ _ _ ⟨l, k, xs, e1, e2, h1, h2, h3, z, q⟩ => ⟨l, k, xs, e1, e2, h1, h2, h3, z, q.go⟩
def rSlA (K : PySem.W.Frag) : V → Option Int → Option Int → Hp → VK → Prop := fun x lo hi H Q => ∃ a xs, x = .ref a ∧ SqL K H a xs ∧ New H (.lst (cutV xs lo hi)) Q
theorem sl_listA : SlR X (rSlA X.K) := slR_imp sl_list fun _ _ _ _ _ ⟨a, xs, e, h1, q⟩ => ⟨a, xs, e, h1, q.go⟩
def rListA (K : PySem.W.Frag) : List V → Hp → VK → Prop := fun xs H Q => ∃ p ys, xs = [.ref p] ∧ (SqL K H p ys ∨ SqT K H p ys) ∧ New H (.lst ys) Q
theorem call_listA : CallR X (.type "list") (rListA X.K) := callR_imp call_list_of fun _ _ _ ⟨p, ys, e, h, q⟩ => ⟨p, ys, e, h, q.go⟩
/-- tuple(a list) -/
def rTupLA (K : PySem.W.Frag) : List V → Hp → VK → Prop := fun xs H Q => ∃ p ys, xs = [.ref p] ∧ SqL K H p ys ∧ New H (.tup ys) Q
theorem call_tupLA : CallR X (.type "tuple") (rTupLA X.K) := callR_imp call_tuple_of fun _ _ _ ⟨p, ys, e, h, q⟩ => ⟨p, ys, e, .inl ⟨h, q.go⟩⟩
def rSetA : V → V → V → Hp → (Hp → Prop) → Prop := fun o i v H Q => ∃ p xs k j, o = .ref p ∧ i = .int k ∧ H p = some (.lst xs) ∧ ixN xs.length k = some j ∧ Set1 H p (.lst (xs.set j v)) Q
theorem set_listA : PSet X rSetA := pSet_imp set_list fun _ _ _ _ _ ⟨p, xs, k, j, e1, e2, h1, h2, q⟩ => ⟨p, xs, k, j, e1, e2, h1, h2, q.go⟩
def rAppendA : V → List V → Hp → VK → Prop := fun x vs H Q => ∃ l xs y, x = .ref l ∧ vs = [y] ∧ H l = some (.lst xs) ∧ xs.length < sizeLine ∧ Set1 H l (.lst (xs ++ [y])) (Q .non)
def rClearA : V → List V → Hp → VK → Prop := fun x vs H Q => ∃ l xs, x = .ref l ∧ vs = [] ∧ H l = some (.lst xs) ∧ Set1 H l (.lst []) (Q .non)
theorem mt_clearA : MtM X "list.clear" rClearA := mtM_imp mt_clear fun _ _ _ _ ⟨l, xs, e1, e2, h1, q⟩ => ⟨l, xs, e1, e2, h1, q.go⟩
theorem mt_appendA : MtM X "list.append" rAppendA := mtM_imp mt_append fun _ _ _ _ ⟨l, xs, y, e1, e2, h1, h2, q⟩ => ⟨l, xs, y, e1, e2, h1, h2, q.go⟩
end
theorem cutV_mem {xs : List V} {lo hi : Option Int} {x : V} (h : x ∈ cutV xs lo hi) : x ∈ xs := List.mem_of_mem_drop (List.mem_of_mem_take h)
theorem int_of_map {ns : List Int} {i : Nat} {y : V} (h : (ns.map V.int)[i]? = some y) : ∃ z, ns[i]? = some z ∧ y = .int z := by
  rw [List.getElem?_map] at h
  cases e : ns[i]? with
  | none => rw [e] at h; cases h
  | some z => rw [e] at h; exact ⟨z, rfl, (Option.some.inj h).symm⟩
/-- the law's numbers: the first one (0 without), and some more -/
theorem cells_ints {c : Int} {ns : List Int} {lo hi : Option Int} {i : Nat} {y : V} (h : ([V.int c] ++ cutV (ns.map V.int) lo hi)[i]? = some y) : ∃ z, y = .int z := by
  have m := List.mem_of_getElem? h
  rcases List.mem_append.mp m with m | m
  · exact ⟨c, by simpa using m⟩
  · have m2 := cutV_mem m
    obtain ⟨z, _, e⟩ := List.mem_map.mp m2
    exact ⟨z, e.symm⟩
theorem cells_len {ns : List Int} {lo hi : Option Int} (h : ns.length ≤ 63) : ([V.int 0] : List V).length + (cutV (ns.map V.int) lo hi).length ≤ sizeLine := by
  have h1 := cutV_length (ns.map V.int) lo hi
  rw [List.length_map] at h1
  exact Nat.le_trans (by show 1 + _ ≤ 100; omega) (by decide)
/-! ### kinds -/
def isI : V → Bool
  | .int _ => true
  | _ => false
def isN : V → Bool
  | .int i => decide (0 ≤ i)
  | _ => false
def isB : V → Bool
  | .bl _ => true
  | _ => false
/-- a value of one of the plain kinds -/
inductive Ty7 (H : Hp) : V → String → Prop where
  | non : Ty7 H .non "NoneType"
  | bl (b : Bool) : Ty7 H (.bl b) "bool"
  | int (i : Int) : Ty7 H (.int i) "int"
  | str (x : Str) : Ty7 H (.str x) "str"
  | lst {a : Addr} {xs : List V} (h : H a = some (.lst xs)) : Ty7 H (.ref a) "list"
  | tup {a : Addr} {xs : List V} (h : H a = some (.tup xs)) : Ty7 H (.ref a) "tuple"
  | dK {a : Addr} {xs : List (Key × V)} (h : H a = some (.dK xs)) : Ty7 H (.ref a) "dict"
section
variable {K : PySem.W.Frag} {H H' : Hp} {x : V} {t : String}
theorem Ty7.tx (h : Ty7 H x t) : TyX K H x (.type t) := by
  cases h with
  | non => exact .base .non
  | bl b => exact .base (.bl b)
  | int i => exact .base (.int i)
  | str i => exact .base (.str i)
  | lst h => exact .base (.lst h)
  | tup h => exact .base (.tup h)
  | dK h => exact .base (.dK h)
theorem Ty7.ki (h : Ty7 H x t) : kitB t "int" = some (isI x || isB x) := by
  cases h <;> (simp only [isI, isB]; decide +kernel)
theorem Ty7.kb (h : Ty7 H x t) : kitB t "bool" = some (isB x) := by
  cases h <;> (simp only [isB]; decide +kernel)
theorem Ty7.kl (h : Ty7 H x t) : kitB t "list" = some (decide (t = "list")) := by
  cases h <;> decide +kernel
theorem Ty7.kt (h : Ty7 H x t) : kitB t "tuple" = some (decide (t = "tuple")) := by
  cases h <;> decide +kernel
theorem Ty7.ks (h : Ty7 H x t) : kitB t "str" = some (decide (t = "str")) := by
  cases h <;> decide +kernel
theorem Ty7.mono (h : Ty7 H x t) (s : Same H H') : Ty7 H' x t := by
  cases h with
  | non => exact .non
  | bl b => exact .bl b
  | int i => exact .int i
  | str i => exact .str i
  | lst h => exact .lst (s _ _ h)
  | tup h => exact .tup (s _ _ h)
  | dK h => exact .dK (s _ _ h)
end
theorem isI_of : ∀ {x : V}, isI x = true → ∃ i, x = .int i
  | .int i, _ => ⟨i, rfl⟩
theorem isI_bool {x : V} (h : (isI x || isB x) = true) : (!isB x) = isI x := by
  cases x <;> simp_all [isI, isB]
theorem isI_no {x : V} (h : ¬ (isI x || isB x) = true) : false = isI x := by
  cases x <;> simp_all [isI, isB]
def heldM (n l : Int) (m : Option Int) : Int := max (match m with | some m => min n m | none => n) l
def optI : Option Int → V
  | some i => .int i
  | none => .non
/-- the law's source of draws: three whole numbers -/
def src (s : Int × Int × Int) : HO := .lst [.int s.1, .int s.2.1, .int s.2.2]
/-! ### draws: only the source at a changes -/
def Src (H : Hp) (a : Addr) : Prop := ∃ s, H a = some (src s)
structure Dr (a : Addr) (H H' : Hp) : Prop where
  s : Src H' a
  b : But a H H'
theorem Dr.app {a b : Addr} {H H' : Hp} {o : HO} (d : Dr a H H') (n : b ≠ a) (h : H b = some o) : H' b = some o := d.b _ _ n h
theorem Dr.trans {a : Addr} {H H1 H2 : Hp} (d : Dr a H H1) (e : Dr a H1 H2) : Dr a H H2 := ⟨e.s, d.b.trans e.b⟩
theorem Dr.same {a : Addr} {H H1 H2 : Hp} (d : Dr a H H1) (e : Same H1 H2) : Dr a H H2 := ⟨let ⟨s, h⟩ := d.s; ⟨s, e _ _ h⟩, d.b.trans (Same.but e)⟩
theorem Dr.of {a : Addr} {H H1 : Hp} (h : Src H a) (e : Same H H1) : Dr a H H1 := ⟨let ⟨s, h⟩ := h; ⟨s, e _ _ h⟩, Same.but e⟩
theorem Dr.refl {a : Addr} {H : Hp} (h : Src H a) : Dr a H H := ⟨h, But.refl⟩
/-- a list that was not there may change -/
theorem Dr.mut {a l : Addr} {H H1 H2 : Hp} (d : Dr a H H1) (e : But l H1 H2) (n : H l = none) (na : a ≠ l) : Dr a H H2 :=
  ⟨let ⟨s, h⟩ := d.s; ⟨s, e _ _ na h⟩, fun b o nb h => e _ _ (ne_of_none h n) (d.b _ _ nb h)⟩
theorem Same.mut' {l : Addr} {H H1 H2 : Hp} (d : Same H H1) (e : But l H1 H2) (n : H l = none) : Same H H2 := fun b o h => e _ _ (ne_of_none h n) (d _ _ h)
theorem Src.same {a : Addr} {H H1 : Hp} (h : Src H a) (e : Same H H1) : Src H1 a := let ⟨s, h⟩ := h; ⟨s, e _ _ h⟩
theorem Src.but {a l : Addr} {H H1 : Hp} (h : Src H a) (e : But l H H1) (n : a ≠ l) : Src H1 a := let ⟨s, h⟩ := h; ⟨s, e _ _ n h⟩
theorem Src.ne {a p : Addr} {H : Hp} (h : Src H a) (n : H p = none) : p ≠ a := let ⟨_, h⟩ := h; (ne_of_none h n).symm
theorem Src.of {a : Addr} {H : Hp} {s : Int × Int × Int} (h : H a = some (src s)) : Src H a := ⟨s, h⟩
theorem Dr.free {a l : Addr} {H H' : Hp} (d : Dr a H H') (h : H' l = none) (n : l ≠ a) : H l = none := by
  cases q : H l with
  | none => rfl
  | some o => rw [d.b _ _ n q] at h; cases h
theorem Dr.seq {K : PySem.W.Frag} {H H' : Hp} {a b : Addr} {xs : List V} (e : Dr a H H') (n : b ≠ a) (h : SqL K H b xs) : SqL K H' b xs := e.b.seq n h
/-! ### comprehensions: P by the turn, the items so far, the heap; the item's end by a continuation of any kind -/
section
variable {K : PySem.W.Frag} {a b : Addr} {xs zs : List V} {g : TG} {tt : TT} {te : TE} {vs : List Nat} {σ : L2.St} {H1 : Hp} {D : Addr} {Qd : Hp → Prop}
/-- what an item's turn is to end in -/
abbrev LcT (g : TG) (tt : TT) (te : TE) (vs : List Nat) (σ : L2.St) (x : V) (H : Hp) (Kt : V → Hp → Prop) (Kf : Hp → Prop) : Prop :=
  g x (wipe σ vs) H fun σ2 H2 => wipe σ2 vs = wipe σ vs ∧ tt σ2 H2 fun b H3 => if b = true then te σ2 H3 Kt else Kf H3
/-- the ends of a turn -/
structure LcK (D : Addr) (P : List V → Hp → Prop) (acc : List V) (Kt : V → Hp → Prop) (Kf : Hp → Prop) : Prop where
  yes : ∀ y H4, H4 D = some (.lst acc) → acc.length < sizeLine → (∀ H5, But D H4 H5 → H5 D = some (.lst (acc ++ [y])) → P (acc ++ [y]) H5) → Kt y H4
  no : ∀ H3, H3 D = some (.lst acc) → P acc H3 → Kf H3
theorem lcL (P : Nat → List V → Hp → Prop) (h0 : ∀ H', Same H1 H' → H' D = some (.lst []) → P 0 [] H') (hD : H1 D = none) (hl : ∀ i acc H, P i acc H → SqL K H a xs)
    (hs : ∀ i x acc H Kt Kf, xs[i]? = some x → P i acc H → H D = some (.lst acc) → LcK D (P (i + 1)) acc Kt Kf → LcT g tt te vs σ x H Kt Kf)
    (hd : ∀ acc H, P xs.length acc H → H D = some (.lst acc) → Qd H) :
    ∃ W : Nat → Nat → Hp → Prop, (∃ m, W 0 m (upd H1 D (.lst []))) ∧ ∀ i m H, W i m H →
      ((Itl K a).stop i H ∧ Qd H) ∨ ((Itl K a).go i H ∧ ∃ Nx : Hp → Prop, (∀ H', Nx H' → ∃ m', m' < m ∧ W (i + 1) m' H') ∧ ∀ x H', (Itl K a).yld i H x H' → g x (wipe σ vs) H' fun σ2 H2 => wipe σ2 vs = wipe σ vs ∧ tt σ2 H2 fun b H3 =>
        if b = true then te σ2 H3 fun y H4 => ∃ acc, H4 D = some (.lst acc) ∧ acc.length < sizeLine ∧ Nx (upd H4 D (.lst (acc ++ [y]))) else Nx H3) :=
  lc_list (xs := xs) (fun i H => ∃ acc, H D = some (.lst acc) ∧ P i acc H) ⟨[], upd_same, h0 _ (Same.upd0 hD) upd_same⟩ (fun i H _ ⟨acc, _, p⟩ => hl i acc H p)
    (fun i x H hx ⟨acc, e, p⟩ => hs i x acc H _ _ hx p e ⟨fun y H4 e4 z k => ⟨acc, e4, z, acc ++ [y], upd_same, k _ But.refl.upd upd_same⟩, fun H3 e3 k => ⟨acc, e3, k⟩⟩) (fun H ⟨acc, e, p⟩ => hd acc H p e)
theorem lcT (P : Nat → List V → Hp → Prop) (h0 : ∀ H', Same H1 H' → H' D = some (.lst []) → P 0 [] H') (hD : H1 D = none) (hl : ∀ i acc H, P i acc H → SqT K H a xs)
    (hs : ∀ i x acc H Kt Kf, xs[i]? = some x → P i acc H → H D = some (.lst acc) → LcK D (P (i + 1)) acc Kt Kf → LcT g tt te vs σ x H Kt Kf)
    (hd : ∀ acc H, P xs.length acc H → H D = some (.lst acc) → Qd H) :
    ∃ W : Nat → Nat → Hp → Prop, (∃ m, W 0 m (upd H1 D (.lst []))) ∧ ∀ i m H, W i m H →
      ((Itt K a).stop i H ∧ Qd H) ∨ ((Itt K a).go i H ∧ ∃ Nx : Hp → Prop, (∀ H', Nx H' → ∃ m', m' < m ∧ W (i + 1) m' H') ∧ ∀ x H', (Itt K a).yld i H x H' → g x (wipe σ vs) H' fun σ2 H2 => wipe σ2 vs = wipe σ vs ∧ tt σ2 H2 fun b H3 =>
        if b = true then te σ2 H3 fun y H4 => ∃ acc, H4 D = some (.lst acc) ∧ acc.length < sizeLine ∧ Nx (upd H4 D (.lst (acc ++ [y]))) else Nx H3) :=
  lc_tup (xs := xs) (fun i H => ∃ acc, H D = some (.lst acc) ∧ P i acc H) ⟨[], upd_same, h0 _ (Same.upd0 hD) upd_same⟩ (fun i H _ ⟨acc, _, p⟩ => hl i acc H p)
    (fun i x H hx ⟨acc, e, p⟩ => hs i x acc H _ _ hx p e ⟨fun y H4 e4 z k => ⟨acc, e4, z, acc ++ [y], upd_same, k _ But.refl.upd upd_same⟩, fun H3 e3 k => ⟨acc, e3, k⟩⟩) (fun H ⟨acc, e, p⟩ => hd acc H p e)
theorem lcR {lo : Int} {n : Nat} (P : Nat → List V → Hp → Prop) (h0 : ∀ H', Same H1 H' → H' D = some (.lst []) → P 0 [] H') (hD : H1 D = none)
    (hs : ∀ i acc H Kt Kf, i < n → P i acc H → H D = some (.lst acc) → LcK D (P (i + 1)) acc Kt Kf → LcT g tt te vs σ (.int (lo + i)) H Kt Kf)
    (hd : ∀ acc H, P n acc H → H D = some (.lst acc) → Qd H) :
    ∃ W : Nat → Nat → Hp → Prop, (∃ m, W 0 m (upd H1 D (.lst []))) ∧ ∀ i m H, W i m H →
      ((Itr lo n).stop i H ∧ Qd H) ∨ ((Itr lo n).go i H ∧ ∃ Nx : Hp → Prop, (∀ H', Nx H' → ∃ m', m' < m ∧ W (i + 1) m' H') ∧ ∀ x H', (Itr lo n).yld i H x H' → g x (wipe σ vs) H' fun σ2 H2 => wipe σ2 vs = wipe σ vs ∧ tt σ2 H2 fun b H3 =>
        if b = true then te σ2 H3 fun y H4 => ∃ acc, H4 D = some (.lst acc) ∧ acc.length < sizeLine ∧ Nx (upd H4 D (.lst (acc ++ [y]))) else Nx H3) :=
  lc_range (fun i H => ∃ acc, H D = some (.lst acc) ∧ P i acc H) ⟨[], upd_same, h0 _ (Same.upd0 hD) upd_same⟩
    (fun i H hx ⟨acc, e, p⟩ => hs i acc H _ _ hx p e ⟨fun y H4 e4 z k => ⟨acc, e4, z, acc ++ [y], upd_same, k _ But.refl.upd upd_same⟩, fun H3 e3 k => ⟨acc, e3, k⟩⟩) (fun H ⟨acc, e, p⟩ => hd acc H p e)
/-- over enumerate: the pair is a new tuple -/
theorem lcE (P : Nat → List V → Hp → Prop) (h0 : ∀ H', Same H1 H' → H' D = some (.lst []) → P 0 [] H') (hD : H1 D = none) (hl : ∀ i acc H, P i acc H → SqL K H a xs)
    (hs : ∀ i x acc H T H' Kt Kf, xs[i]? = some x → P i acc H → H D = some (.lst acc) → H T = none → Same H H' → H' T = some (.tup [.int (i : Nat), x]) → LcK D (P (i + 1)) acc Kt Kf → LcT g tt te vs σ (.ref T) H' Kt Kf)
    (hd : ∀ acc H, P xs.length acc H → H D = some (.lst acc) → Qd H) :
    ∃ W : Nat → Nat → Hp → Prop, (∃ m, W 0 m (upd H1 D (.lst []))) ∧ ∀ i m H, W i m H →
      ((Ite K a).stop i H ∧ Qd H) ∨ ((Ite K a).go i H ∧ ∃ Nx : Hp → Prop, (∀ H', Nx H' → ∃ m', m' < m ∧ W (i + 1) m' H') ∧ ∀ x H', (Ite K a).yld i H x H' → g x (wipe σ vs) H' fun σ2 H2 => wipe σ2 vs = wipe σ vs ∧ tt σ2 H2 fun b H3 =>
        if b = true then te σ2 H3 fun y H4 => ∃ acc, H4 D = some (.lst acc) ∧ acc.length < sizeLine ∧ Nx (upd H4 D (.lst (acc ++ [y]))) else Nx H3) := by
  refine ⟨fun i m H => m = xs.length - i ∧ i ≤ xs.length ∧ ∃ acc, H D = some (.lst acc) ∧ P i acc H, ⟨xs.length, rfl, Nat.zero_le _, [], upd_same, h0 _ (Same.upd0 hD) upd_same⟩, ?_⟩
  rintro i m H ⟨rfl, hi, acc, e, p⟩
  have q := hl i acc H p
  by_cases hlt : i < xs.length
  · refine .inr ⟨⟨xs, xs[i], q, by simp [hlt]⟩, fun H => ∃ acc, H D = some (.lst acc) ∧ P (i + 1) acc H, fun H' p' => ⟨xs.length - (i + 1), by omega, rfl, hlt, p'⟩, fun v H' y => ?_⟩
    obtain ⟨T, x, rfl, nT, rfl, hx⟩ := y
    exact hs i x acc H T _ _ _ (hx xs q) p e nT (Same.upd0 nT) upd_same ⟨fun y H4 e4 z k => ⟨acc, e4, z, acc ++ [y], upd_same, k _ But.refl.upd upd_same⟩, fun H3 e3 k => ⟨acc, e3, k⟩⟩
  · have ei : i = xs.length := by omega
    subst ei
    exact .inl ⟨⟨xs, q, Nat.le_refl _⟩, hd acc H p e⟩
/-- over zip of two lists of one length -/
theorem lcZ (hlen : xs.length = zs.length) (P : Nat → List V → Hp → Prop) (h0 : ∀ H', Same H1 H' → H' D = some (.lst []) → P 0 [] H') (hD : H1 D = none) (hl : ∀ i acc H, P i acc H → SqL K H a xs ∧ SqL K H b zs)
    (hs : ∀ i x z acc H T H' Kt Kf, xs[i]? = some x → zs[i]? = some z → P i acc H → H D = some (.lst acc) → H T = none → Same H H' → H' T = some (.tup [x, z]) → LcK D (P (i + 1)) acc Kt Kf → LcT g tt te vs σ (.ref T) H' Kt Kf)
    (hd : ∀ acc H, P xs.length acc H → H D = some (.lst acc) → Qd H) :
    ∃ W : Nat → Nat → Hp → Prop, (∃ m, W 0 m (upd H1 D (.lst []))) ∧ ∀ i m H, W i m H →
      ((Itz K a b).stop i H ∧ Qd H) ∨ ((Itz K a b).go i H ∧ ∃ Nx : Hp → Prop, (∀ H', Nx H' → ∃ m', m' < m ∧ W (i + 1) m' H') ∧ ∀ x H', (Itz K a b).yld i H x H' → g x (wipe σ vs) H' fun σ2 H2 => wipe σ2 vs = wipe σ vs ∧ tt σ2 H2 fun b H3 =>
        if b = true then te σ2 H3 fun y H4 => ∃ acc, H4 D = some (.lst acc) ∧ acc.length < sizeLine ∧ Nx (upd H4 D (.lst (acc ++ [y]))) else Nx H3) := by
  refine ⟨fun i m H => m = xs.length - i ∧ i ≤ xs.length ∧ ∃ acc, H D = some (.lst acc) ∧ P i acc H, ⟨xs.length, rfl, Nat.zero_le _, [], upd_same, h0 _ (Same.upd0 hD) upd_same⟩, ?_⟩
  rintro i m H ⟨rfl, hi, acc, e, p⟩
  obtain ⟨q1, q2⟩ := hl i acc H p
  by_cases hlt : i < xs.length
  · have hlt2 : i < zs.length := by omega
    refine .inr ⟨⟨xs, zs, xs[i], zs[i], q1, q2, by simp [hlt], by simp [hlt2]⟩, fun H => ∃ acc, H D = some (.lst acc) ∧ P (i + 1) acc H, fun H' p' => ⟨xs.length - (i + 1), by omega, rfl, hlt, p'⟩, fun v H' y => ?_⟩
    obtain ⟨T, x, z, rfl, nT, rfl, hx, hz⟩ := y
    exact hs i x z acc H T _ _ _ (hx xs q1) (hz zs q2) p e nT (Same.upd0 nT) upd_same ⟨fun y H4 e4 z k => ⟨acc, e4, z, acc ++ [y], upd_same, k _ But.refl.upd upd_same⟩, fun H3 e3 k => ⟨acc, e3, k⟩⟩
  · have ei : i = xs.length := by omega
    subst ei
    exact .inl ⟨⟨xs, zs, q1, q2, .inl (Nat.le_refl _)⟩, hd acc H p e⟩
/-- items that hang on the item alone (what stands, stands): the list of those that are told -/
def lcYs (n : Nat) (ys : Nat → Option V) : List V := (List.range n).filterMap ys
theorem lcYs_succ (n : Nat) (ys : Nat → Option V) : lcYs (n + 1) ys = lcYs n ys ++ (ys n).toList := by
  unfold lcYs
  rw [List.range_succ, List.filterMap_append]
  cases h : ys n with
  | none => simp [h]
  | some y => simp [h]
theorem lcYs_len (n : Nat) (ys : Nat → Option V) : (lcYs n ys).length ≤ n := by
  unfold lcYs
  have := List.length_filterMap_le ys (List.range n)
  rw [List.length_range] at this
  exact this
theorem lcYs_const (n : Nat) (v : V) : lcYs n (fun _ => some v) = List.replicate n v := by
  induction n with
  | zero => rfl
  | succ n ih => rw [lcYs_succ, ih, List.replicate_succ']; rfl
/-- .. one for each item -/
theorem lcYs_map {α : Type} (f : α → V) : ∀ (xs : List α) (ys : Nat → Option V), (∀ i x, xs[i]? = some x → ys i = some (f x)) → lcYs xs.length ys = xs.map f := by
  intro xs ys h
  have key : ∀ n, n ≤ xs.length → lcYs n ys = (xs.take n).map f := by
    intro n
    induction n with
    | zero => intro _; rfl
    | succ n ih =>
      intro hn
      have hx : xs[n]? = some xs[n] := List.getElem?_eq_getElem (by omega)
      rw [lcYs_succ, ih (by omega), h n _ hx, List.take_add_one, hx, List.map_append]
      rfl
  rw [key _ (Nat.le_refl _), List.take_length]
/-- .. of those that a test keeps -/
theorem lcYs_filter {α : Type} (q : α → Bool) (f : α → V) : ∀ (xs : List α) (ys : Nat → Option V), (∀ i x, xs[i]? = some x → ys i = if q x = true then some (f x) else none) → lcYs xs.length ys = (xs.filter q).map f := by
  intro xs ys h
  have key : ∀ n, n ≤ xs.length → lcYs n ys = ((xs.take n).filter q).map f := by
    intro n
    induction n with
    | zero => intro _; rfl
    | succ n ih =>
      intro hn
      have hx : xs[n]? = some xs[n] := List.getElem?_eq_getElem (by omega)
      rw [lcYs_succ, ih (by omega), h n _ hx, List.take_add_one, hx, List.filter_append, List.map_append]
      congr 1
      cases hq : q xs[n] <;> simp [hq]
  rw [key _ (Nat.le_refl _), List.take_length]
/-- the ends of a turn that changes nothing -/
structure LcQ (H : Hp) (r : Option V) (Kt : V → Hp → Prop) (Kf : Hp → Prop) : Prop where
  yes : ∀ y H4, Same H H4 → r = some y → Kt y H4
  no : ∀ H3, Same H H3 → r = none → Kf H3
theorem lcQ_of {P : Nat → List V → Hp → Prop} {ys : Nat → Option V} {i : Nat} {acc : List V} {H H0 : Hp} {Kt : V → Hp → Prop} {Kf : Hp → Prop} (hP : P = fun i acc H => acc = lcYs i ys ∧ Same H1 H) (hD : H1 D = none) (hi : i < 100000)
    (p : P i acc H0) (e : H0 D = some (.lst acc)) (s : Same H0 H) (k : LcK D (P (i + 1)) acc Kt Kf) : LcQ H (ys i) Kt Kf := by
  subst hP
  obtain ⟨rfl, sm⟩ := p
  have hz : (lcYs i ys).length < sizeLine := Nat.lt_of_le_of_lt (lcYs_len i ys) (Nat.lt_of_lt_of_le hi (by decide))
  refine ⟨fun y H4 s4 ey => k.yes y H4 (s4 _ _ (s _ _ e)) hz fun H5 b5 _ => ⟨?_, ?_⟩, fun H3 s3 en => k.no H3 (s3 _ _ (s _ _ e)) ⟨?_, (sm.trans s).trans s3⟩⟩
  · rw [lcYs_succ, ey]; rfl
  · exact Same.mut' ((sm.trans s).trans s4) b5 hD
  · rw [lcYs_succ, en]; simp
theorem lcLq (ys : Nat → Option V) (hD : H1 D = none) (hx : SqL K H1 a xs) (hn : xs.length ≤ 100000)
    (hs : ∀ i x H Kt Kf, xs[i]? = some x → Same H1 H → LcQ H (ys i) Kt Kf → LcT g tt te vs σ x H Kt Kf)
    (hd : ∀ H, Same H1 H → H D = some (.lst (lcYs xs.length ys)) → Qd H) :
    ∃ W : Nat → Nat → Hp → Prop, (∃ m, W 0 m (upd H1 D (.lst []))) ∧ ∀ i m H, W i m H →
      ((Itl K a).stop i H ∧ Qd H) ∨ ((Itl K a).go i H ∧ ∃ Nx : Hp → Prop, (∀ H', Nx H' → ∃ m', m' < m ∧ W (i + 1) m' H') ∧ ∀ x H', (Itl K a).yld i H x H' → g x (wipe σ vs) H' fun σ2 H2 => wipe σ2 vs = wipe σ vs ∧ tt σ2 H2 fun b H3 =>
        if b = true then te σ2 H3 fun y H4 => ∃ acc, H4 D = some (.lst acc) ∧ acc.length < sizeLine ∧ Nx (upd H4 D (.lst (acc ++ [y]))) else Nx H3) :=
  lcL (fun i acc H => acc = lcYs i ys ∧ Same H1 H) (fun H' s _ => ⟨rfl, s⟩) hD (fun i acc H p => p.2.seq hx)
    (fun i x acc H Kt Kf hxi p e k => hs i x H Kt Kf hxi p.2 (lcQ_of rfl hD (by have := (List.getElem?_eq_some_iff.mp hxi).1; omega) p e (Same.refl H) k))
    (fun acc H p e => hd H p.2 (by rw [← p.1]; exact e))
theorem lcTq (ys : Nat → Option V) (hD : H1 D = none) (hx : SqT K H1 a xs) (hn : xs.length ≤ 100000)
    (hs : ∀ i x H Kt Kf, xs[i]? = some x → Same H1 H → LcQ H (ys i) Kt Kf → LcT g tt te vs σ x H Kt Kf)
    (hd : ∀ H, Same H1 H → H D = some (.lst (lcYs xs.length ys)) → Qd H) :
    ∃ W : Nat → Nat → Hp → Prop, (∃ m, W 0 m (upd H1 D (.lst []))) ∧ ∀ i m H, W i m H →
      ((Itt K a).stop i H ∧ Qd H) ∨ ((Itt K a).go i H ∧ ∃ Nx : Hp → Prop, (∀ H', Nx H' → ∃ m', m' < m ∧ W (i + 1) m' H') ∧ ∀ x H', (Itt K a).yld i H x H' → g x (wipe σ vs) H' fun σ2 H2 => wipe σ2 vs = wipe σ vs ∧ tt σ2 H2 fun b H3 =>
        if b = true then te σ2 H3 fun y H4 => ∃ acc, H4 D = some (.lst acc) ∧ acc.length < sizeLine ∧ Nx (upd H4 D (.lst (acc ++ [y]))) else Nx H3) :=
  lcT (fun i acc H => acc = lcYs i ys ∧ Same H1 H) (fun H' s _ => ⟨rfl, s⟩) hD (fun i acc H p => (show SqT K H a xs from by
      rcases hx with (h | ⟨o, h⟩) | h
      · exact .inl (.inl (p.2 _ _ h))
      · exact .inl (.inr ⟨o, p.2 _ _ h⟩)
      · exact .inr h))
    (fun i x acc H Kt Kf hxi p e k => hs i x H Kt Kf hxi p.2 (lcQ_of rfl hD (by have := (List.getElem?_eq_some_iff.mp hxi).1; omega) p e (Same.refl H) k))
    (fun acc H p e => hd H p.2 (by rw [← p.1]; exact e))
theorem lcRq {lo : Int} {n : Nat} (ys : Nat → Option V) (hD : H1 D = none) (hn : n ≤ 100000)
    (hs : ∀ i H Kt Kf, i < n → Same H1 H → LcQ H (ys i) Kt Kf → LcT g tt te vs σ (.int (lo + i)) H Kt Kf)
    (hd : ∀ H, Same H1 H → H D = some (.lst (lcYs n ys)) → Qd H) :
    ∃ W : Nat → Nat → Hp → Prop, (∃ m, W 0 m (upd H1 D (.lst []))) ∧ ∀ i m H, W i m H →
      ((Itr lo n).stop i H ∧ Qd H) ∨ ((Itr lo n).go i H ∧ ∃ Nx : Hp → Prop, (∀ H', Nx H' → ∃ m', m' < m ∧ W (i + 1) m' H') ∧ ∀ x H', (Itr lo n).yld i H x H' → g x (wipe σ vs) H' fun σ2 H2 => wipe σ2 vs = wipe σ vs ∧ tt σ2 H2 fun b H3 =>
        if b = true then te σ2 H3 fun y H4 => ∃ acc, H4 D = some (.lst acc) ∧ acc.length < sizeLine ∧ Nx (upd H4 D (.lst (acc ++ [y]))) else Nx H3) :=
  lcR (fun i acc H => acc = lcYs i ys ∧ Same H1 H) (fun H' s _ => ⟨rfl, s⟩) hD
    (fun i acc H Kt Kf hxi p e k => hs i H Kt Kf hxi p.2 (lcQ_of rfl hD (by omega) p e (Same.refl H) k))
    (fun acc H p e => hd H p.2 (by rw [← p.1]; exact e))
theorem lcEq (ys : Nat → Option V) (hD : H1 D = none) (hx : SqL K H1 a xs) (hn : xs.length ≤ 100000)
    (hs : ∀ i x T H Kt Kf, xs[i]? = some x → Same H1 H → H T = some (.tup [.int (i : Nat), x]) → LcQ H (ys i) Kt Kf → LcT g tt te vs σ (.ref T) H Kt Kf)
    (hd : ∀ H, Same H1 H → H D = some (.lst (lcYs xs.length ys)) → Qd H) :
    ∃ W : Nat → Nat → Hp → Prop, (∃ m, W 0 m (upd H1 D (.lst []))) ∧ ∀ i m H, W i m H →
      ((Ite K a).stop i H ∧ Qd H) ∨ ((Ite K a).go i H ∧ ∃ Nx : Hp → Prop, (∀ H', Nx H' → ∃ m', m' < m ∧ W (i + 1) m' H') ∧ ∀ x H', (Ite K a).yld i H x H' → g x (wipe σ vs) H' fun σ2 H2 => wipe σ2 vs = wipe σ vs ∧ tt σ2 H2 fun b H3 =>
        if b = true then te σ2 H3 fun y H4 => ∃ acc, H4 D = some (.lst acc) ∧ acc.length < sizeLine ∧ Nx (upd H4 D (.lst (acc ++ [y]))) else Nx H3) :=
  lcE (fun i acc H => acc = lcYs i ys ∧ Same H1 H) (fun H' s _ => ⟨rfl, s⟩) hD (fun i acc H p => p.2.seq hx)
    (fun i x acc H T H' Kt Kf hxi p e nT sT gT k => hs i x T H' Kt Kf hxi (p.2.trans sT) gT (lcQ_of rfl hD (by have := (List.getElem?_eq_some_iff.mp hxi).1; omega) p e sT k))
    (fun acc H p e => hd H p.2 (by rw [← p.1]; exact e))
theorem lcZq (ys : Nat → Option V) (hlen : xs.length = zs.length) (hD : H1 D = none) (hx : SqL K H1 a xs) (hz : SqL K H1 b zs) (hn : xs.length ≤ 100000)
    (hs : ∀ i x z T H Kt Kf, xs[i]? = some x → zs[i]? = some z → Same H1 H → H T = some (.tup [x, z]) → LcQ H (ys i) Kt Kf → LcT g tt te vs σ (.ref T) H Kt Kf)
    (hd : ∀ H, Same H1 H → H D = some (.lst (lcYs xs.length ys)) → Qd H) :
    ∃ W : Nat → Nat → Hp → Prop, (∃ m, W 0 m (upd H1 D (.lst []))) ∧ ∀ i m H, W i m H →
      ((Itz K a b).stop i H ∧ Qd H) ∨ ((Itz K a b).go i H ∧ ∃ Nx : Hp → Prop, (∀ H', Nx H' → ∃ m', m' < m ∧ W (i + 1) m' H') ∧ ∀ x H', (Itz K a b).yld i H x H' → g x (wipe σ vs) H' fun σ2 H2 => wipe σ2 vs = wipe σ vs ∧ tt σ2 H2 fun b H3 =>
        if b = true then te σ2 H3 fun y H4 => ∃ acc, H4 D = some (.lst acc) ∧ acc.length < sizeLine ∧ Nx (upd H4 D (.lst (acc ++ [y]))) else Nx H3) :=
  lcZ hlen (fun i acc H => acc = lcYs i ys ∧ Same H1 H) (fun H' s _ => ⟨rfl, s⟩) hD (fun i acc H p => ⟨p.2.seq hx, p.2.seq hz⟩)
    (fun i x z acc H T H' Kt Kf hxi hzi p e nT sT gT k => hs i x z T H' Kt Kf hxi hzi (p.2.trans sT) gT (lcQ_of rfl hD (by have := (List.getElem?_eq_some_iff.mp hxi).1; omega) p e sT k))
    (fun acc H p e => hd H p.2 (by rw [← p.1]; exact e))
end
/-- the items of a dict: it is held from there on (nobody else has it) -/
def iItemsN (td : TE) : TI := fun σ H R => td σ H fun x H1 => ∃ d kvs, x = .ref d ∧ H1 d = some (.dK kvs) ∧ ∀ o H2, But d H1 H2 → H2 d = some (.frz o (.dK kvs)) → R (Iti d o kvs) H2
theorem pi_itemsN {X : Cx} {e : Expr} {td : TE} {apos cpos : Pos} {elts : List Expr} {kk : Nat} {tpos : Pos} (he : PE X e td) (hbase : attributeBase e "items" X.env (eval e X.env) = eval e X.env := by rfl) (hline : (apos.endLine == cpos.line) = true := by rfl) :
    PI X (.Tuple elts kk tpos) (.Call (.Attribute e "items" apos) [] [] cpos) (iItemsN td) := by
  refine ⟨fun pins s σ H R I h => ?_⟩
  refine wpAny_Call_method (T := "dict") (id := "dict.items") hbase rfl hline F.plainAttrs_dict F.slot_dict_items F.type_dict_items (thn (he.run pins s σ H _ I h) fun u s1 ⟨x, H0, I0, rx, d, kvs, ex, hd0, q0⟩ => ?_)
  subst ex
  obtain rfl : u = Value.ref d := rx
  obtain ⟨o, I1⟩ := I0.lock hd0 trivial
  have hd : (upd H0 d (.frz o (.dK kvs))) d = some (.frz o (.dK kvs)) := upd_same
  have q := q0 o _ But.refl.upd hd
  generalize upd H0 d (.frz o (.dK kvs)) = H1 at I1 hd q
  obtain ⟨hs, hgd, hx, es, ep, vs, hdt, hsz, kv, hm⟩ := I1.frzK hd
  have hl : kvs.length = vs.length := Paired.length kv
  refine ⟨hm.dictOf.typeIs, hm.dictOf.mapOf.noDict, ?_⟩
  have I2 : Inv X pins σ H1 { s1 with heap := s1.heap.push { cls := .type "dict_items", data := .fields #[.ref d] } } := I1.kept (t' := s1.toks) fun b ob q => Heap.get?_push_of_some _ q
  have fin : wpAny (model X.prog X.w) X.A (pyIter (.ref s1.heap.objs.size)) (PIE X pins σ (.Tuple elts kk tpos) R) X.xe { s1 with heap := s1.heap.push { cls := .type "dict_items", data := .fields #[.ref d] } } := by
    refine wpAny_pyIter_items (d := d) (knd := mixKind X.prog X.w) ⟨_, Heap.get?_push_size _ rfl, rfl, rfl⟩ (hm.push _) (pi_one (tk := s1.toks) I2 _ (turn_items _ hdt) ⟨.none, .none, ?_⟩ q)
    rw [hl]
    exact Heap.get?_push_size _ rfl
  show wpAny _ _ (callWith cpos (.builtin "dict.items") [.ref d] [] []) _ X.xe s1
  exact method_meetsIn F.slot_dict_items F.entry_dict_items rfl (PySem.evalArgs_none ⟨rfl, hm.dictOf.typeIs, F.args_dict_items_1 _, _, meets_dict_items (mixKind X.prog X.w) d hs, ⟨vs, hm.dictOf⟩, fin⟩)
/-! ### loops over enumerate, zip, the items of a dict that nobody else holds -/
section
variable {K : PySem.W.Frag} {a b : Addr} {xs zs : List V} {g : TG} {tb : TS} {D : Ends} {σ : L2.St} {H : Hp}
theorem for_enum (Pv : Nat → L2.St → Hp → Prop) (h0 : Pv 0 σ H) (hl : ∀ i σ H, Pv i σ H → SqL K H a xs)
    (hs : ∀ i x T σ H H', xs[i]? = some x → Pv i σ H → H T = none → Same H H' → H' T = some (.tup [.int (i : Nat), x]) → g (.ref T) σ H' fun σ2 H2 => tb { D with nx := Pv (i + 1), ct := Pv (i + 1), bk := D.nx } σ2 H2) (hd : ∀ σ H, Pv xs.length σ H → D.nx σ H) :
    ∃ W : Nat → Nat → L2.St → Hp → Prop, (∃ m, W 0 m σ H) ∧ ∀ i m σ H, W i m σ H →
      ((Ite K a).stop i H ∧ D.nx σ H) ∨ ((Ite K a).go i H ∧ ∃ N : L2.St → Hp → Prop, (∀ σ' H', N σ' H' → ∃ m', m' < m ∧ W (i + 1) m' σ' H') ∧ ∀ v H', (Ite K a).yld i H v H' → g v σ H' fun σ2 H2 => tb { D with nx := N, ct := N, bk := D.nx } σ2 H2) := by
  refine ⟨fun i m σ H => m = xs.length - i ∧ i ≤ xs.length ∧ Pv i σ H, ⟨xs.length, rfl, Nat.zero_le _, h0⟩, ?_⟩
  rintro i m σ H ⟨rfl, hi, p⟩
  have q := hl i σ H p
  by_cases hlt : i < xs.length
  · refine .inr ⟨⟨xs, xs[i], q, by simp [hlt]⟩, Pv (i + 1), fun σ' H' p' => ⟨xs.length - (i + 1), by omega, rfl, hlt, p'⟩, fun v H' y => ?_⟩
    obtain ⟨T, x, rfl, nT, rfl, hx⟩ := y
    exact hs i x T σ H _ (hx xs q) p nT (Same.upd0 nT) upd_same
  · have ei : i = xs.length := by omega
    subst ei
    exact .inl ⟨⟨xs, q, Nat.le_refl _⟩, hd σ H p⟩
theorem for_zip (hlen : xs.length = zs.length) (Pv : Nat → L2.St → Hp → Prop) (h0 : Pv 0 σ H) (hl : ∀ i σ H, Pv i σ H → SqL K H a xs ∧ SqL K H b zs)
    (hs : ∀ i x z T σ H H', xs[i]? = some x → zs[i]? = some z → Pv i σ H → H T = none → Same H H' → H' T = some (.tup [x, z]) → g (.ref T) σ H' fun σ2 H2 => tb { D with nx := Pv (i + 1), ct := Pv (i + 1), bk := D.nx } σ2 H2) (hd : ∀ σ H, Pv xs.length σ H → D.nx σ H) :
    ∃ W : Nat → Nat → L2.St → Hp → Prop, (∃ m, W 0 m σ H) ∧ ∀ i m σ H, W i m σ H →
      ((Itz K a b).stop i H ∧ D.nx σ H) ∨ ((Itz K a b).go i H ∧ ∃ N : L2.St → Hp → Prop, (∀ σ' H', N σ' H' → ∃ m', m' < m ∧ W (i + 1) m' σ' H') ∧ ∀ v H', (Itz K a b).yld i H v H' → g v σ H' fun σ2 H2 => tb { D with nx := N, ct := N, bk := D.nx } σ2 H2) := by
  refine ⟨fun i m σ H => m = xs.length - i ∧ i ≤ xs.length ∧ Pv i σ H, ⟨xs.length, rfl, Nat.zero_le _, h0⟩, ?_⟩
  rintro i m σ H ⟨rfl, hi, p⟩
  obtain ⟨q1, q2⟩ := hl i σ H p
  by_cases hlt : i < xs.length
  · have hlt2 : i < zs.length := by omega
    refine .inr ⟨⟨xs, zs, xs[i], zs[i], q1, q2, by simp [hlt], by simp [hlt2]⟩, Pv (i + 1), fun σ' H' p' => ⟨xs.length - (i + 1), by omega, rfl, hlt, p'⟩, fun v H' y => ?_⟩
    obtain ⟨T, x, z, rfl, nT, rfl, hx, hz⟩ := y
    exact hs i x z T σ H _ (hx xs q1) (hz zs q2) p nT (Same.upd0 nT) upd_same
  · have ei : i = xs.length := by omega
    subst ei
    exact .inl ⟨⟨xs, zs, q1, q2, .inl (Nat.le_refl _)⟩, hd σ H p⟩
theorem for_items {d : Addr} {o : Obj} {kvs : List (Key × V)} (Pv : Nat → L2.St → Hp → Prop) (h0 : Pv 0 σ H) (hl : ∀ i σ H, Pv i σ H → H d = some (.frz o (.dK kvs)))
    (hs : ∀ i k v T σ H H', kvs[i]? = some (k, v) → Pv i σ H → H T = none → Same H H' → H' T = some (.tup [kV k, v]) → g (.ref T) σ H' fun σ2 H2 => tb { D with nx := Pv (i + 1), ct := Pv (i + 1), bk := D.nx } σ2 H2) (hd : ∀ σ H, Pv kvs.length σ H → D.nx σ H) :
    ∃ W : Nat → Nat → L2.St → Hp → Prop, (∃ m, W 0 m σ H) ∧ ∀ i m σ H, W i m σ H →
      ((Iti d o kvs).stop i H ∧ D.nx σ H) ∨ ((Iti d o kvs).go i H ∧ ∃ N : L2.St → Hp → Prop, (∀ σ' H', N σ' H' → ∃ m', m' < m ∧ W (i + 1) m' σ' H') ∧ ∀ v H', (Iti d o kvs).yld i H v H' → g v σ H' fun σ2 H2 => tb { D with nx := N, ct := N, bk := D.nx } σ2 H2) := by
  refine ⟨fun i m σ H => m = kvs.length - i ∧ i ≤ kvs.length ∧ Pv i σ H, ⟨kvs.length, rfl, Nat.zero_le _, h0⟩, ?_⟩
  rintro i m σ H ⟨rfl, hi, p⟩
  have q := hl i σ H p
  by_cases hlt : i < kvs.length
  · refine .inr ⟨⟨q, hlt⟩, Pv (i + 1), fun σ' H' p' => ⟨kvs.length - (i + 1), by omega, rfl, hlt, p'⟩, fun v H' y => ?_⟩
    obtain ⟨T, k, v, hx, rfl, nT, rfl⟩ := y
    exact hs i k v T σ H _ hx p nT (Same.upd0 nT) upd_same
  · have ei : i = kvs.length := by omega
    subst ei
    exact .inl ⟨⟨q, Nat.le_refl _⟩, hd σ H p⟩
end
/-! ### data, == -/
section
variable {K : PySem.W.Frag} {H H' : Hp}
theorem Same.seqT {a : Addr} {xs : List V} (e : Same H H') (h : SqT K H a xs) : SqT K H' a xs := by
  rcases h with (h | ⟨o, h⟩) | h
  · exact .inl (.inl (e _ _ h))
  · exact .inl (.inr ⟨o, e _ _ h⟩)
  · exact .inr h
mutual
theorem dp_mono (s : Same H H') : ∀ {v : V} {d : PyData}, Dp K H v d → Dp K H' v d
  | _, _, .non => .non
  | _, _, .bl b => .bl b
  | _, _, .int i => .int i
  | _, _, .str x => .str x
  | _, _, .lst h a => .lst (s.seq h) (dpAll_mono s a)
  | _, _, .tup h a => .tup (Same.seqT s h) (dpAll_mono s a)
theorem dpAll_mono (s : Same H H') : ∀ {vs : List V} {ds : List PyData}, DpAll K H vs ds → DpAll K H' vs ds
  | _, _, .nil => .nil
  | _, _, .cons h t => .cons (dp_mono s h) (dpAll_mono s t)
end
theorem dpAll_map {α : Type} {f : α → V} {g : α → PyData} (h : ∀ x, Dp K H (f x) (g x)) : ∀ xs : List α, DpAll K H (xs.map f) (xs.map g)
  | [] => .nil
  | x :: xs => .cons (h x) (dpAll_map h xs)
theorem dp_ints {a : Addr} {ns : List Int} (h : SqL K H a (ns.map V.int)) : Dp K H (.ref a) (.list (ns.map .int)) := .lst h (dpAll_map (fun i => .int i) ns)
def optD : Option Int → PyData
  | some i => .int i
  | none => .none
theorem dp_opt : ∀ x, Dp K H (optI x) (optD x)
  | some i => .int i
  | none => .non
theorem dp_opts {a : Addr} {ns : List (Option Int)} (h : SqL K H a (ns.map optI)) : Dp K H (.ref a) (.list (ns.map optD)) := .lst h (dpAll_map dp_opt ns)
end
mutual
/-- data without truths and dicts -/
def nob : PyData → Bool
  | .none | .int _ | .str _ => true
  | .bool _ | .dict _ => false
  | .list xs | .tuple xs => nobAll xs
def nobAll : List PyData → Bool
  | [] => true
  | x :: xs => nob x && nobAll xs
end
mutual
theorem eqv_iff : ∀ {d e : PyData}, nob d = true → nob e = true → (PyData.eqv d e = true ↔ d = e)
  | .none, .none, _, _ => by simp [PyData.eqv]
  | .none, .int _, _, _ => by simp [PyData.eqv]
  | .none, .str _, _, _ => by simp [PyData.eqv]
  | .none, .list _, _, _ => by simp [PyData.eqv]
  | .none, .tuple _, _, _ => by simp [PyData.eqv]
  | .int _, .none, _, _ => by simp [PyData.eqv]
  | .int _, .int _, _, _ => by simp [PyData.eqv]
  | .int _, .str _, _, _ => by simp [PyData.eqv]
  | .int _, .list _, _, _ => by simp [PyData.eqv]
  | .int _, .tuple _, _, _ => by simp [PyData.eqv]
  | .str _, .none, _, _ => by simp [PyData.eqv]
  | .str _, .int _, _, _ => by simp [PyData.eqv]
  | .str _, .str _, _, _ => by simp [PyData.eqv]
  | .str _, .list _, _, _ => by simp [PyData.eqv]
  | .str _, .tuple _, _, _ => by simp [PyData.eqv]
  | .list _, .none, _, _ => by simp [PyData.eqv]
  | .list _, .int _, _, _ => by simp [PyData.eqv]
  | .list _, .str _, _, _ => by simp [PyData.eqv]
  | .list xs, .list ys, h1, h2 => by
    have h := eqvAll_iff (xs := xs) (ys := ys) (by simpa [nob] using h1) (by simpa [nob] using h2)
    simp only [PyData.eqv, PyData.list.injEq]; exact h
  | .list _, .tuple _, _, _ => by simp [PyData.eqv]
  | .tuple _, .none, _, _ => by simp [PyData.eqv]
  | .tuple _, .int _, _, _ => by simp [PyData.eqv]
  | .tuple _, .str _, _, _ => by simp [PyData.eqv]
  | .tuple _, .list _, _, _ => by simp [PyData.eqv]
  | .tuple xs, .tuple ys, h1, h2 => by
    have h := eqvAll_iff (xs := xs) (ys := ys) (by simpa [nob] using h1) (by simpa [nob] using h2)
    simp only [PyData.eqv, PyData.tuple.injEq]; exact h
  | .bool _, _, h, _ => by simp [nob] at h
  | .dict _, _, h, _ => by simp [nob] at h
  | .none, .bool _, _, h => by simp [nob] at h
  | .none, .dict _, _, h => by simp [nob] at h
  | .int _, .bool _, _, h => by simp [nob] at h
  | .int _, .dict _, _, h => by simp [nob] at h
  | .str _, .bool _, _, h => by simp [nob] at h
  | .str _, .dict _, _, h => by simp [nob] at h
  | .list _, .bool _, _, h => by simp [nob] at h
  | .list _, .dict _, _, h => by simp [nob] at h
  | .tuple _, .bool _, _, h => by simp [nob] at h
  | .tuple _, .dict _, _, h => by simp [nob] at h
theorem eqvAll_iff : ∀ {xs ys : List PyData}, nobAll xs = true → nobAll ys = true → (PyData.eqvAll xs ys = true ↔ xs = ys)
  | [], [], _, _ => by simp [PyData.eqvAll]
  | [], _ :: _, _, _ => by simp [PyData.eqvAll]
  | _ :: _, [], _, _ => by simp [PyData.eqvAll]
  | x :: xs, y :: ys, h1, h2 => by
    simp only [nobAll, Bool.and_eq_true] at h1 h2
    have a := eqv_iff h1.1 h2.1
    have b := eqvAll_iff h1.2 h2.2
    simp only [PyData.eqvAll, Bool.and_eq_true, List.cons.injEq]
    rw [a, b]
end
theorem eqv_dec {d e : PyData} (h1 : nob d = true) (h2 : nob e = true) {b : Bool} (h : b = true ↔ d = e) : PyData.eqv d e = b := by
  have a := eqv_iff h1 h2
  cases hb : b with
  | true => rw [hb] at h; exact a.mpr (h.mp rfl)
  | false =>
    cases he : PyData.eqv d e with
    | false => rfl
    | true => have := h.mpr (a.mp he); rw [hb] at this; cases this
theorem nobAll_map {α : Type} {g : α → PyData} (h : ∀ x, nob (g x) = true) : ∀ xs : List α, nobAll (xs.map g) = true
  | [] => by simp [nobAll]
  | x :: xs => by simp only [List.map_cons, nobAll, h x, nobAll_map h xs, Bool.and_self]
theorem canLayAll0_map {α : Type} {g : α → PyData} (h : ∀ x, (g x).canLay0 = true) : ∀ xs : List α, PyData.canLayAll0 (xs.map g) = true
  | [] => by simp [PyData.canLayAll0]
  | x :: xs => by simp only [List.map_cons, PyData.canLayAll0, h x, canLayAll0_map h xs, Bool.and_self]
theorem depthAll_map {α : Type} {g : α → PyData} {m : Nat} (h : ∀ x, (g x).depth ≤ m) : ∀ xs : List α, PyData.depthAll (xs.map g) ≤ m
  | [] => by simp [PyData.depthAll]
  | x :: xs => by
    have h1 := h x
    have h2 := depthAll_map h xs
    simp only [List.map_cons, PyData.depthAll]; omega
theorem shaped_map {α : Type} {g : α → PyData} {m : Nat} (hm : m < 64) (h1 : ∀ x, (g x).canLay0 = true) (h2 : ∀ x, (g x).depth ≤ m) (xs : List α) : SeqAt.shaped (.list (xs.map g)) = true := by
  unfold SeqAt.shaped
  rw [Bool.and_eq_true]
  refine ⟨by simp only [PyData.canLay0]; exact canLayAll0_map h1 xs, decide_eq_true ?_⟩
  have := depthAll_map h2 xs
  simp only [PyData.depth]; omega
theorem shaped_ints (ns : List Int) : SeqAt.shaped (.list (ns.map .int)) = true := shaped_map (m := 0) (by decide) (fun _ => by simp [PyData.canLay0]) (fun _ => by simp [PyData.depth]) ns
theorem shaped_opts (ns : List (Option Int)) : SeqAt.shaped (.list (ns.map optD)) = true := shaped_map (m := 0) (by decide) (fun x => by cases x <;> simp [optD, PyData.canLay0]) (fun x => by cases x <;> simp [optD, PyData.depth]) ns
theorem nob_ints (ns : List Int) : nob (.list (ns.map .int)) = true := by simp only [nob]; exact nobAll_map (fun _ => by simp [nob]) ns
theorem nob_opts (ns : List (Option Int)) : nob (.list (ns.map optD)) = true := by simp only [nob]; exact nobAll_map (fun x => by cases x <;> simp [optD, nob]) ns
theorem map_inj {α β : Type} {f : α → β} (h : ∀ a b, f a = f b → a = b) : ∀ {xs ys : List α}, xs.map f = ys.map f → xs = ys
  | [], [], _ => rfl
  | [], _ :: _, e => by simp at e
  | _ :: _, [], e => by simp at e
  | x :: xs, y :: ys, e => by
    simp only [List.map_cons, List.cons.injEq] at e
    rw [h x y e.1, map_inj h e.2]
theorem eqv_ints (ns ms : List Int) : PyData.eqv (.list (ns.map .int)) (.list (ms.map .int)) = decide (ns = ms) :=
  eqv_dec (nob_ints ns) (nob_ints ms) (by
    rw [decide_eq_true_iff]
    exact ⟨fun e => by rw [e], fun e => map_inj (fun a b h => PyData.int.inj h) (PyData.list.inj e)⟩)
theorem eqv_opts (ns ms : List (Option Int)) : PyData.eqv (.list (ns.map optD)) (.list (ms.map optD)) = decide (ns = ms) :=
  eqv_dec (nob_opts ns) (nob_opts ms) (by
    rw [decide_eq_true_iff]
    exact ⟨fun e => by rw [e], fun e => map_inj (fun a b h => by cases a <;> cases b <;> simp_all [optD]) (PyData.list.inj e)⟩)
section
variable {X : Cx}
/-- two lists of ints -/
def rEqIs (K : PySem.W.Frag) : R2 := fun x y H Q => ∃ (a b : Addr) (ns ms : List Int), x = .ref a ∧ y = .ref b ∧ SqL K H a (ns.map V.int) ∧ SqL K H b (ms.map V.int) ∧ Q (.bl (decide (ns = ms))) H
def rNeIs (K : PySem.W.Frag) : R2 := fun x y H Q => ∃ (a b : Addr) (ns ms : List Int), x = .ref a ∧ y = .ref b ∧ SqL K H a (ns.map V.int) ∧ SqL K H b (ms.map V.int) ∧ Q (.bl (!decide (ns = ms))) H
theorem op_eqIs (hu : X.A.units + 64 < cLine) : OpR X (compareOp .Eq) (rEqIs X.K) := opR_imp (op_eqD hu) fun _ _ _ _ ⟨a, b, ns, ms, e1, e2, h1, h2, q⟩ => by
  subst e1 e2
  exact ⟨_, _, dp_ints h1, dp_ints h2, shaped_ints ns, shaped_ints ms, by rw [eqv_ints]; exact q⟩
theorem op_neIs (hu : X.A.units + 64 < cLine) : OpR X (compareOp .NotEq) (rNeIs X.K) := opR_imp (op_neD hu) fun _ _ _ _ ⟨a, b, ns, ms, e1, e2, h1, h2, q⟩ => by
  subst e1 e2
  exact ⟨_, _, dp_ints h1, dp_ints h2, shaped_ints ns, shaped_ints ms, by rw [eqv_ints]; exact q⟩
end
/-! ### rules that hang on the written part, the part by its name (a comprehension's block has the same one) -/
section
variable {X : Cx} {K : PySem.W.Frag}
theorem op_notInK (h : X.K = K) : OpR X (compareOp .NotIn) (rIn K true) := h ▸ op_notIn_seq
theorem op_inK (h : X.K = K) : OpR X (compareOp .In) (rIn K false) := h ▸ op_in_seq
theorem ix_listK (h : X.K = K) : IxR X (rIxL K) := h ▸ ix_list
theorem ix_tupK (h : X.K = K) : IxR X (rIxT K) := h ▸ ix_tup
theorem ix_seqK (h : X.K = K) : IxR X (rIx K) := h ▸ ix_seq
theorem op_catK (h : X.K = K) : OpR X (binaryOp .Add) (rCatA K) := h ▸ op_catA
theorem sl_listK (h : X.K = K) : SlR X (rSlA K) := h ▸ sl_listA
theorem op_eqDK (hu : X.A.units + 64 < cLine) (h : X.K = K) : OpR X (compareOp .Eq) (rEqD K) := h ▸ op_eqD hu
theorem op_neDK (hu : X.A.units + 64 < cLine) (h : X.K = K) : OpR X (compareOp .NotEq) (rNeD K) := h ▸ op_neD hu
theorem units65 {k : Nat} {A : Around} (r : Room k A) : A.units + 65 < cLine := by have := r.un; omega
theorem op_inDK (hu : X.A.units + 65 < cLine) (h : X.K = K) : OpR X (compareOp .In) (rInD K) := h ▸ op_inD hu
theorem op_notInDK (hu : X.A.units + 65 < cLine) (h : X.K = K) : OpR X (compareOp .NotIn) (rNotInD K) := h ▸ op_notInD hu
theorem op_eqIsK (hu : X.A.units + 64 < cLine) (h : X.K = K) : OpR X (compareOp .Eq) (rEqIs K) := h ▸ op_eqIs hu
theorem op_neIsK (hu : X.A.units + 64 < cLine) (h : X.K = K) : OpR X (compareOp .NotEq) (rNeIs K) := h ▸ op_neIs hu
theorem call_isiK (h : X.K = K) : CallR X (.builtin "isinstance") (rIsi K) := h ▸ call_isi
theorem call_isiTK (h : X.K = K) : CallR X (.builtin "isinstance") (rIsiT K) := h ▸ call_isiT
def rLen (K : PySem.W.Frag) : List V → Hp → VK → Prop := fun xs H Q => ∃ x n, xs = [x] ∧ LenV K x H n ∧ Q (.int n) H
theorem call_lenK (h : X.K = K) : CallR X (.builtin "len") (rLen K) := h ▸ call_len
theorem cr_sumK (hc : X.calm = true) (h : X.K = K) : CallR X (.builtin "sum") (rSum K) := h ▸ cr_sum hc
theorem cr_maxK (hc : X.calm = true) (h : X.K = K) : CallR X (.builtin "max") (rMax K) := h ▸ cr_max hc
theorem cr_minK (hc : X.calm = true) (h : X.K = K) : CallR X (.builtin "min") (rMin K) := h ▸ cr_min hc
theorem cr_anyK (hc : X.calm = true) (h : X.K = K) : CallR X (.builtin "any") (rAny K) := h ▸ cr_any hc
theorem cr_allK (hc : X.calm = true) (h : X.K = K) : CallR X (.builtin "all") (rAll K) := h ▸ cr_all hc
theorem call_listK (h : X.K = K) : CallR X (.type "list") (rListA K) := h ▸ call_listA
theorem call_tupLK (h : X.K = K) : CallR X (.type "tuple") (rTupLA K) := h ▸ call_tupLA
theorem pe_fldK {e : Expr} {f : Str} {pos : Pos} {ta : TE} (h : X.K = K) (he : PE X e ta) (hb : attributeBase e f X.env (eval e X.env) = eval e X.env) : PE X (.Attribute e f pos) (tFld K ta f) := h ▸ pe_fld he hb
theorem pi_listK {tg l : Expr} {tl : TE} (h : X.K = K) (hl : PE X l tl) : PI X tg l (iList K tl) := h ▸ pi_list hl
theorem pi_tupK {tg l : Expr} {tl : TE} (h : X.K = K) (hl : PE X l tl) : PI X tg l (iTup K tl) := h ▸ pi_tup hl
theorem pi_enumK {e : Expr} {ta : TA} {p pos tpos : Pos} {elts : List Expr} {kk : Nat} (h : X.K = K) (hg : Gl X "enumerate") (hm : X.mg "enumerate" = none) (ha : PA X [e] ta) (hs : starEach [e] X.env = [(false, eval e X.env)] := by rfl) :
    PI X (.Tuple elts kk tpos) (.Call (.Name "enumerate" p) [e] [] pos) (iEnum K ta) := h ▸ pi_enum hg hm ha hs
theorem pi_zipK {e e2 : Expr} {ta : TA} {p pos tpos : Pos} {elts : List Expr} {kk : Nat} (h : X.K = K) (hg : Gl X "zip") (hm : X.mg "zip" = none) (ha : PA X [e, e2] ta)
    (hs : starEach [e, e2] X.env = (false, eval e X.env) :: starEach [e2] X.env := by rfl) (hpl : (backTo pos (starEach [e2] X.env)).any (·.1) = false := by rfl) :
    PI X (.Tuple elts kk tpos) (.Call (.Name "zip" p) [e, e2] [] pos) (iZip K ta) := h ▸ pi_zip hg hm ha hs hpl
end
/-- a statement with what comes behind it by a name: M holds at its end -/
theorem seq_key {t u : TS} {D : Ends} {σ : L2.St} {H : Hp} (M : L2.St → Hp → Prop) (h2 : ∀ σ H, M σ H → u D σ H) (h1 : ∀ N : L2.St → Hp → Prop, (∀ σ H, M σ H → N σ H) → t { D with nx := N } σ H) : tSeq t u D σ H := h1 _ h2
theorem isIf {a : TT} {b c d : TS} {D : Ends} {σ : L2.St} {H : Hp} (h : tSeq (tIfS a b c) d D σ H) : tSeq (tIfS a b c) d D σ H := h
theorem iteF' {c : Bool} {A B : Prop} (hc : c = false) (h : B) : if c = true then A else B := by
  subst hc; exact iteF h
theorem iteT' {c : Bool} {A B : Prop} (hc : c = true) (h : A) : if c = true then A else B := by
  subst hc; exact iteT h
theorem Dr.seqT {K : PySem.W.Frag} {H H' : Hp} {a b : Addr} {xs : List V} (e : Dr a H H') (n : b ≠ a) (h : SqT K H b xs) : SqT K H' b xs := by
  rcases h with (h | ⟨o, h⟩) | h
  · exact .inl (.inl (e.b _ _ n h))
  · exact .inl (.inr ⟨o, e.b _ _ n h⟩)
  · exact .inr h
theorem int_inj_dec {i j : Int} : decide (V.int i = V.int j) = decide (i = j) := decide_eq_decide.mpr ⟨V.int.inj, fun e => e ▸ rfl⟩
/-- an item of a short written list -/
theorem pick2 {P : V → Prop} {a b : V} {n : Int} (h0 : 0 ≤ n) (h1 : n < 2) (ha : P a) (hb : P b) : ∃ x, atI [a, b] n = some x ∧ P x := by
  have : n = 0 ∨ n = 1 := by omega
  rcases this with rfl | rfl
  · exact ⟨a, rfl, ha⟩
  · exact ⟨b, rfl, hb⟩
theorem pick3 {P : V → Prop} {a b c : V} {n : Int} (h0 : 0 ≤ n) (h1 : n < 3) (ha : P a) (hb : P b) (hc : P c) : ∃ x, atI [a, b, c] n = some x ∧ P x := by
  have : n = 0 ∨ n = 1 ∨ n = 2 := by omega
  rcases this with rfl | rfl | rfl
  · exact ⟨a, rfl, ha⟩
  · exact ⟨b, rfl, hb⟩
  · exact ⟨c, rfl, hc⟩
theorem pick4 {P : V → Prop} {a b c d : V} {n : Int} (h0 : 0 ≤ n) (h1 : n < 4) (ha : P a) (hb : P b) (hc : P c) (hd : P d) : ∃ x, atI [a, b, c, d] n = some x ∧ P x := by
  have : n = 0 ∨ n = 1 ∨ n = 2 ∨ n = 3 := by omega
  rcases this with rfl | rfl | rfl | rfl
  · exact ⟨a, rfl, ha⟩
  · exact ⟨b, rfl, hb⟩
  · exact ⟨c, rfl, hc⟩
  · exact ⟨d, rfl, hd⟩
theorem pick5 {P : V → Prop} {a b c d e : V} {n : Int} (h0 : 0 ≤ n) (h1 : n < 5) (ha : P a) (hb : P b) (hc : P c) (hd : P d) (he : P e) : ∃ x, atI [a, b, c, d, e] n = some x ∧ P x := by
  have : n = 0 ∨ n = 1 ∨ n = 2 ∨ n = 3 ∨ n = 4 := by omega
  rcases this with rfl | rfl | rfl | rfl | rfl
  · exact ⟨a, rfl, ha⟩
  · exact ⟨b, rfl, hb⟩
  · exact ⟨c, rfl, hc⟩
  · exact ⟨d, rfl, hd⟩
  · exact ⟨e, rfl, he⟩
theorem pick6 {P : V → Prop} {a b c d e f : V} {n : Int} (h0 : 0 ≤ n) (h1 : n < 6) (ha : P a) (hb : P b) (hc : P c) (hd : P d) (he : P e) (hf : P f) : ∃ x, atI [a, b, c, d, e, f] n = some x ∧ P x := by
  have : n = 0 ∨ n = 1 ∨ n = 2 ∨ n = 3 ∨ n = 4 ∨ n = 5 := by omega
  rcases this with rfl | rfl | rfl | rfl | rfl | rfl
  · exact ⟨a, rfl, ha⟩
  · exact ⟨b, rfl, hb⟩
  · exact ⟨c, rfl, hc⟩
  · exact ⟨d, rfl, hd⟩
  · exact ⟨e, rfl, he⟩
  · exact ⟨f, rfl, hf⟩
/-- an int within bounds -/
def InR (lo hi : Int) (x : V) : Prop := ∃ z, x = .int z ∧ lo ≤ z ∧ z < hi
/-! ### isinstance of plain things -/
section
variable {X : Cx}
def rIs (T : String) (ans : V → String → Bool) : List V → Hp → VK → Prop := fun xs H Q => ∃ x t, xs = [x, .ty T] ∧ Ty7 H x t ∧ Q (.bl (ans x t)) H
theorem call_isTy (T : String) (ans : V → String → Bool) (h : ∀ H x t, Ty7 H x t → kitB t T = some (ans x t)) : CallR X (.builtin "isinstance") (rIs T ans) :=
  callR_imp call_isi fun _ H Q ⟨x, t, e, ht, q⟩ => ⟨x, _, _, _, _, e, .ty _, ht.tx, kit_ty (h H x t ht), q⟩
theorem is_list : CallR X (.builtin "isinstance") (rIs "list" fun _ t => decide (t = "list")) := call_isTy _ _ fun _ _ _ h => h.kl
theorem is_tuple : CallR X (.builtin "isinstance") (rIs "tuple" fun _ t => decide (t = "tuple")) := call_isTy _ _ fun _ _ _ h => h.kt
theorem is_str : CallR X (.builtin "isinstance") (rIs "str" fun _ t => decide (t = "str")) := call_isTy _ _ fun _ _ _ h => h.ks
theorem is_int : CallR X (.builtin "isinstance") (rIs "int" fun x _ => isI x || isB x) := call_isTy _ _ fun _ _ _ h => h.ki
theorem is_bool : CallR X (.builtin "isinstance") (rIs "bool" fun x _ => isB x) := call_isTy _ _ fun _ _ _ h => h.kb
end
/-! ### comprehensions, shorter: one item for each, those that a test keeps, items that draw -/
section
variable {K : PySem.W.Frag} {a b s : Addr} {g : TG} {tt : TT} {te : TE} {vs : List Nat} {σ : L2.St} {H1 : Hp} {D : Addr} {Qd : Hp → Prop} {α β : Type}
abbrev LcG (I : It) (g : TG) (tt : TT) (te : TE) (vs : List Nat) (σ : L2.St) (H1 : Hp) (D : Addr) (Qd : Hp → Prop) : Prop :=
    ∃ W : Nat → Nat → Hp → Prop, (∃ m, W 0 m (upd H1 D (.lst []))) ∧ ∀ i m H, W i m H →
      (I.stop i H ∧ Qd H) ∨ (I.go i H ∧ ∃ Nx : Hp → Prop, (∀ H', Nx H' → ∃ m', m' < m ∧ W (i + 1) m' H') ∧ ∀ x H', I.yld i H x H' → g x (wipe σ vs) H' fun σ2 H2 => wipe σ2 vs = wipe σ vs ∧ tt σ2 H2 fun b H3 =>
        if b = true then te σ2 H3 fun y H4 => ∃ acc, H4 D = some (.lst acc) ∧ acc.length < sizeLine ∧ Nx (upd H4 D (.lst (acc ++ [y]))) else Nx H3)
def ysF (f : α → V) (q : α → Bool) (xs : List α) (i : Nat) : Option V := xs[i]?.bind fun x => if q x = true then some (f x) else none
theorem ysF_all (f : α → V) (q : α → Bool) (xs : List α) : lcYs xs.length (ysF f q xs) = (xs.filter q).map f := lcYs_filter q f xs _ fun i x h => by unfold ysF; rw [h]; rfl
theorem ysF_one (f : α → V) (xs : List α) : lcYs xs.length (ysF f (fun _ => true) xs) = xs.map f := by
  rw [ysF_all, List.filter_eq_self.mpr fun _ _ => rfl]
theorem of_map {ρ : α → V} {ys : List α} {i : Nat} {x : V} (h : (ys.map ρ)[i]? = some x) : ∃ y, ys[i]? = some y ∧ x = ρ y := by
  rw [List.getElem?_map] at h
  cases e : ys[i]? with
  | none => rw [e] at h; cases h
  | some z => rw [e] at h; exact ⟨z, rfl, (Option.some.inj h).symm⟩
theorem lcLf (ρ f : α → V) (q : α → Bool) {ys : List α} (hD : H1 D = none) (hx : SqL K H1 a (ys.map ρ)) (hn : ys.length ≤ 100000)
    (hs : ∀ (i : Nat) (y : α) (H : Hp) (Kt : V → Hp → Prop) (Kf : Hp → Prop), ys[i]? = some y → Same H1 H → (q y = true → ∀ H4, Same H H4 → Kt (f y) H4) → (q y = false → ∀ H4, Same H H4 → Kf H4) → LcT g tt te vs σ (ρ y) H Kt Kf)
    (hd : ∀ H, Same H1 H → H D = some (.lst ((ys.filter q).map f)) → Qd H) : LcG (Itl K a) g tt te vs σ H1 D Qd :=
  lcLq (ysF f q ys) hD hx (by rw [List.length_map]; exact hn) (fun i x H Kt Kf hxi s qq => by
    obtain ⟨y, hy, rfl⟩ := of_map hxi
    exact hs i y H Kt Kf hy s (fun e H4 s4 => qq.yes _ _ s4 (by unfold ysF; rw [hy]; exact if_pos e)) (fun e H4 s4 => qq.no _ s4 (by unfold ysF; rw [hy]; exact if_neg (by rw [e]; simp))))
    (fun H s h => hd H s (by rw [h, List.length_map, ysF_all]))
theorem lcLm (ρ f : α → V) {ys : List α} (hD : H1 D = none) (hx : SqL K H1 a (ys.map ρ)) (hn : ys.length ≤ 100000)
    (hs : ∀ (i : Nat) (y : α) (H : Hp) (Kt : V → Hp → Prop) (Kf : Hp → Prop), ys[i]? = some y → Same H1 H → (∀ H4, Same H H4 → Kt (f y) H4) → LcT g tt te vs σ (ρ y) H Kt Kf)
    (hd : ∀ H, Same H1 H → H D = some (.lst (ys.map f)) → Qd H) : LcG (Itl K a) g tt te vs σ H1 D Qd :=
  lcLf ρ f (fun _ => true) hD hx hn (fun i y H Kt Kf hy s h _ => hs i y H Kt Kf hy s (h rfl)) (fun H s h => hd H s (by rw [h, List.filter_eq_self.mpr fun _ _ => rfl]))
theorem lcTf (ρ f : α → V) (q : α → Bool) {ys : List α} (hD : H1 D = none) (hx : SqT K H1 a (ys.map ρ)) (hn : ys.length ≤ 100000)
    (hs : ∀ (i : Nat) (y : α) (H : Hp) (Kt : V → Hp → Prop) (Kf : Hp → Prop), ys[i]? = some y → Same H1 H → (q y = true → ∀ H4, Same H H4 → Kt (f y) H4) → (q y = false → ∀ H4, Same H H4 → Kf H4) → LcT g tt te vs σ (ρ y) H Kt Kf)
    (hd : ∀ H, Same H1 H → H D = some (.lst ((ys.filter q).map f)) → Qd H) : LcG (Itt K a) g tt te vs σ H1 D Qd :=
  lcTq (ysF f q ys) hD hx (by rw [List.length_map]; exact hn) (fun i x H Kt Kf hxi s qq => by
    obtain ⟨y, hy, rfl⟩ := of_map hxi
    exact hs i y H Kt Kf hy s (fun e H4 s4 => qq.yes _ _ s4 (by unfold ysF; rw [hy]; exact if_pos e)) (fun e H4 s4 => qq.no _ s4 (by unfold ysF; rw [hy]; exact if_neg (by rw [e]; simp))))
    (fun H s h => hd H s (by rw [h, List.length_map, ysF_all]))
theorem lcTm (ρ f : α → V) {ys : List α} (hD : H1 D = none) (hx : SqT K H1 a (ys.map ρ)) (hn : ys.length ≤ 100000)
    (hs : ∀ (i : Nat) (y : α) (H : Hp) (Kt : V → Hp → Prop) (Kf : Hp → Prop), ys[i]? = some y → Same H1 H → (∀ H4, Same H H4 → Kt (f y) H4) → LcT g tt te vs σ (ρ y) H Kt Kf)
    (hd : ∀ H, Same H1 H → H D = some (.lst (ys.map f)) → Qd H) : LcG (Itt K a) g tt te vs σ H1 D Qd :=
  lcTf ρ f (fun _ => true) hD hx hn (fun i y H Kt Kf hy s h _ => hs i y H Kt Kf hy s (h rfl)) (fun H s h => hd H s (by rw [h, List.filter_eq_self.mpr fun _ _ => rfl]))
theorem range_get {n i : Nat} (h : i < n) : (List.range n)[i]? = some i := List.getElem?_range h
theorem lcRf {lo : Int} {n : Nat} (f : Nat → V) (q : Nat → Bool) (hD : H1 D = none) (hn : n ≤ 100000)
    (hs : ∀ (i : Nat) (H : Hp) (Kt : V → Hp → Prop) (Kf : Hp → Prop), i < n → Same H1 H → (q i = true → ∀ H4, Same H H4 → Kt (f i) H4) → (q i = false → ∀ H4, Same H H4 → Kf H4) → LcT g tt te vs σ (.int (lo + i)) H Kt Kf)
    (hd : ∀ H, Same H1 H → H D = some (.lst (((List.range n).filter q).map f)) → Qd H) : LcG (Itr lo n) g tt te vs σ H1 D Qd :=
  lcRq (ysF f q (List.range n)) hD hn (fun i H Kt Kf hi s qq =>
    hs i H Kt Kf hi s (fun e H4 s4 => qq.yes _ _ s4 (by unfold ysF; rw [range_get hi]; exact if_pos e)) (fun e H4 s4 => qq.no _ s4 (by unfold ysF; rw [range_get hi]; exact if_neg (by rw [e]; simp))))
    (fun H s h => hd H s (by have := ysF_all f q (List.range n); rw [List.length_range] at this; rw [h, this]))
theorem lcRm {lo : Int} {n : Nat} (f : Nat → V) (hD : H1 D = none) (hn : n ≤ 100000)
    (hs : ∀ (i : Nat) (H : Hp) (Kt : V → Hp → Prop) (Kf : Hp → Prop), i < n → Same H1 H → (∀ H4, Same H H4 → Kt (f i) H4) → LcT g tt te vs σ (.int (lo + i)) H Kt Kf)
    (hd : ∀ H, Same H1 H → H D = some (.lst ((List.range n).map f)) → Qd H) : LcG (Itr lo n) g tt te vs σ H1 D Qd :=
  lcRf f (fun _ => true) hD hn (fun i H Kt Kf hi s h _ => hs i H Kt Kf hi s (h rfl)) (fun H s h => hd H s (by rw [h, List.filter_eq_self.mpr fun _ _ => rfl]))
/-- items that draw from the source at s -/
theorem lcRd {lo : Int} {n : Nat} (ρ : β → V) (R : Nat → β → Prop) (h0 : Src H1 s) (hD : H1 D = none) (hn : n ≤ 100000)
    (hs : ∀ (i : Nat) (H : Hp) (Kt : V → Hp → Prop) (Kf : Hp → Prop), i < n → Dr s H1 H → (∀ b H4, Dr s H H4 → R i b → Kt (ρ b) H4) → LcT g tt te vs σ (.int (lo + i)) H Kt Kf)
    (hd : ∀ (us : List β) (H : Hp), Dr s H1 H → us.length = n → (∀ (i : Nat) (b : β), us[i]? = some b → R i b) → D ≠ s → H D = some (.lst (us.map ρ)) → Qd H) : LcG (Itr lo n) g tt te vs σ H1 D Qd :=
  have nD : D ≠ s := h0.ne hD
  lcR (fun i acc H' => Dr s H1 H' ∧ ∃ us : List β, acc = us.map ρ ∧ us.length = i ∧ ∀ (i : Nat) (b : β), us[i]? = some b → R i b)
    (fun H' s' _ => ⟨Dr.of h0 s', [], rfl, rfl, fun i b h => by cases h⟩) hD (fun i acc H' Kt Kf hi p e kk => by
      obtain ⟨dp, us, rfl, hul, hub⟩ := p
      exact hs i H' Kt Kf hi dp fun b H4 d4 hR => kk.yes _ _ (d4.app nD e) (Nat.lt_of_lt_of_le (show _ < 100001 by rw [List.length_map]; omega) (by decide)) fun H5 b5 g5 => ⟨Dr.mut (dp.trans d4) b5 hD nD.symm, us ++ [b], by rw [List.map_append]; rfl, by rw [List.length_append, hul]; rfl, fun j c hc => by
        by_cases hj : j < us.length
        · rw [List.getElem?_append_left hj] at hc; exact hub j c hc
        · have hj2 : j = i := by
            have := (List.getElem?_eq_some_iff.mp hc).1
            rw [List.length_append] at this
            simp at this; omega
          subst hj2
          rw [← hul, List.getElem?_concat_length] at hc
          cases hc; exact hR⟩)
    (fun acc H' p e => by
      obtain ⟨dp, us, rfl, hul, hub⟩ := p
      exact hd us H' dp hul hub nD e)
theorem lcLd (ρ0 : α → V) (ρ : β → V) (R : Nat → β → Prop) {ys : List α} (h0 : Src H1 s) (hD : H1 D = none) (na : a ≠ s) (hx : SqL K H1 a (ys.map ρ0)) (hn : ys.length ≤ 100000)
    (hs : ∀ (i : Nat) (y : α) (H : Hp) (Kt : V → Hp → Prop) (Kf : Hp → Prop), ys[i]? = some y → Dr s H1 H → (∀ b H4, Dr s H H4 → R i b → Kt (ρ b) H4) → LcT g tt te vs σ (ρ0 y) H Kt Kf)
    (hd : ∀ (us : List β) (H : Hp), Dr s H1 H → us.length = ys.length → (∀ (i : Nat) (b : β), us[i]? = some b → R i b) → D ≠ s → H D = some (.lst (us.map ρ)) → Qd H) : LcG (Itl K a) g tt te vs σ H1 D Qd :=
  have nD : D ≠ s := h0.ne hD
  lcL (fun i acc H' => Dr s H1 H' ∧ ∃ us : List β, acc = us.map ρ ∧ us.length = i ∧ ∀ (i : Nat) (b : β), us[i]? = some b → R i b)
    (fun H' s' _ => ⟨Dr.of h0 s', [], rfl, rfl, fun i b h => by cases h⟩) hD (fun i acc H' p => p.1.seq na hx) (fun i x acc H' Kt Kf hxi p e kk => by
      obtain ⟨y, hy, rfl⟩ := of_map hxi
      have hi := (List.getElem?_eq_some_iff.mp hy).1
      obtain ⟨dp, us, rfl, hul, hub⟩ := p
      exact hs i y H' Kt Kf hy dp fun b H4 d4 hR => kk.yes _ _ (d4.app nD e) (Nat.lt_of_lt_of_le (show _ < 100001 by rw [List.length_map]; omega) (by decide)) fun H5 b5 g5 => ⟨Dr.mut (dp.trans d4) b5 hD nD.symm, us ++ [b], by rw [List.map_append]; rfl, by rw [List.length_append, hul]; rfl, fun j c hc => by
        by_cases hj : j < us.length
        · rw [List.getElem?_append_left hj] at hc; exact hub j c hc
        · have hj2 : j = i := by
            have := (List.getElem?_eq_some_iff.mp hc).1
            rw [List.length_append] at this
            simp at this; omega
          subst hj2
          rw [← hul, List.getElem?_concat_length] at hc
          cases hc; exact hR⟩)
    (fun acc H' p e => by
      obtain ⟨dp, us, rfl, hul, hub⟩ := p
      rw [List.length_map] at hul
      exact hd us H' dp hul hub nD e)
/-- items that are new objects: R holds of each, as long as nothing but the list itself changes -/
theorem lcLs (ρ0 : α → V) {ys : List α} (R : Nat → V → Hp → Prop) (mono : ∀ i v H H' acc, R i v H → H D = some (.lst acc) → But D H H' → R i v H') (hD : H1 D = none) (hx : SqL K H1 a (ys.map ρ0)) (hn : ys.length ≤ 100000)
    (hs : ∀ (i : Nat) (y : α) (H : Hp) (Kt : V → Hp → Prop) (Kf : Hp → Prop) (acc : List V), ys[i]? = some y → Same H1 H → H D = some (.lst acc) → (∀ v H4, Same H H4 → R i v H4 → Kt v H4) → LcT g tt te vs σ (ρ0 y) H Kt Kf)
    (hd : ∀ (us : List V) (H : Hp), Same H1 H → us.length = ys.length → (∀ (i : Nat) (b : V), us[i]? = some b → R i b H) → H D = some (.lst us) → Qd H) : LcG (Itl K a) g tt te vs σ H1 D Qd :=
  lcL (fun i acc H' => Same H1 H' ∧ acc.length = i ∧ ∀ (i : Nat) (b : V), acc[i]? = some b → R i b H')
    (fun H' s' _ => ⟨s', rfl, fun i b h => by cases h⟩) hD (fun i acc H' p => p.1.seq hx) (fun i x acc H' Kt Kf hxi p e kk => by
      obtain ⟨y, hy, rfl⟩ := of_map hxi
      have hi := (List.getElem?_eq_some_iff.mp hy).1
      obtain ⟨dp, hul, hub⟩ := p
      exact hs i y H' Kt Kf acc hy dp e fun b H4 s4 hR => kk.yes _ _ (s4 _ _ e) (Nat.lt_of_lt_of_le (show _ < 100001 by omega) (by decide)) fun H5 b5 g5 => ⟨Same.mut' (dp.trans s4) b5 hD, by rw [List.length_append, hul]; rfl, fun j c hc => by
        by_cases hj : j < acc.length
        · rw [List.getElem?_append_left hj] at hc
          exact mono _ _ _ _ _ (mono _ _ _ _ _ (hub j c hc) e (Same.but s4)) (s4 _ _ e) b5
        · have hj2 : j = i := by
            have := (List.getElem?_eq_some_iff.mp hc).1
            rw [List.length_append] at this
            simp at this; omega
          subst hj2
          rw [← hul, List.getElem?_concat_length] at hc
          cases hc; exact mono _ _ _ _ _ hR (s4 _ _ e) b5⟩)
    (fun acc H' p e => by
      obtain ⟨dp, hul, hub⟩ := p
      rw [List.length_map] at hul
      exact hd acc H' dp hul hub e)
/-- items that are drawn and are new objects -/
theorem lcRo {lo : Int} {n : Nat} (R : Nat → V → Hp → Prop) (monoD : ∀ i v H H' acc, R i v H → H D = some (.lst acc) → But D H H' → R i v H') (monoS : ∀ i v H H', R i v H → Src H s → Dr s H H' → R i v H') (h0 : Src H1 s) (hD : H1 D = none) (hn : n ≤ 100000)
    (hs : ∀ (i : Nat) (H : Hp) (Kt : V → Hp → Prop) (Kf : Hp → Prop) (acc : List V), i < n → Dr s H1 H → H D = some (.lst acc) → (∀ v H4, Dr s H H4 → R i v H4 → Kt v H4) → LcT g tt te vs σ (.int (lo + i)) H Kt Kf)
    (hd : ∀ (us : List V) (H : Hp), Dr s H1 H → us.length = n → (∀ (i : Nat) (b : V), us[i]? = some b → R i b H) → D ≠ s → H D = some (.lst us) → Qd H) : LcG (Itr lo n) g tt te vs σ H1 D Qd :=
  have nD : D ≠ s := h0.ne hD
  lcR (fun i acc H' => Dr s H1 H' ∧ acc.length = i ∧ ∀ (i : Nat) (b : V), acc[i]? = some b → R i b H')
    (fun H' s' _ => ⟨Dr.of h0 s', rfl, fun i b h => by cases h⟩) hD (fun i acc H' Kt Kf hi p e kk => by
      obtain ⟨dp, hul, hub⟩ := p
      exact hs i H' Kt Kf acc hi dp e fun b H4 d4 hR => kk.yes _ _ (d4.app nD e) (Nat.lt_of_lt_of_le (show _ < 100001 by omega) (by decide)) fun H5 b5 g5 => ⟨Dr.mut (dp.trans d4) b5 hD nD.symm, by rw [List.length_append, hul]; rfl, fun j c hc => by
        by_cases hj : j < acc.length
        · rw [List.getElem?_append_left hj] at hc
          exact monoD _ _ _ _ _ (monoS _ _ _ _ (hub j c hc) dp.s d4) (d4.app nD e) b5
        · have hj2 : j = i := by
            have := (List.getElem?_eq_some_iff.mp hc).1
            rw [List.length_append] at this
            simp at this; omega
          subst hj2
          rw [← hul, List.getElem?_concat_length] at hc
          cases hc; exact monoD _ _ _ _ _ hR (d4.app nD e) b5⟩)
    (fun acc H' p e => by
      obtain ⟨dp, hul, hub⟩ := p
      exact hd acc H' dp hul hub nD e)
/-- over a list that stands for another one -/
theorem lcLr {xs : List V} {qs : List α} (f : α → V) (q : α → Bool) (hl : xs.length = qs.length) (hD : H1 D = none) (hx : SqL K H1 a xs) (hn : xs.length ≤ 100000)
    (hs : ∀ (i : Nat) (x : V) (y : α) (H : Hp) (Kt : V → Hp → Prop) (Kf : Hp → Prop), xs[i]? = some x → qs[i]? = some y → Same H1 H → (q y = true → ∀ H4, Same H H4 → Kt (f y) H4) → (q y = false → ∀ H4, Same H H4 → Kf H4) → LcT g tt te vs σ x H Kt Kf)
    (hd : ∀ H, Same H1 H → H D = some (.lst ((qs.filter q).map f)) → Qd H) : LcG (Itl K a) g tt te vs σ H1 D Qd :=
  lcLq (ysF f q qs) hD hx hn (fun i x H Kt Kf hxi s qq => by
    have hi := (List.getElem?_eq_some_iff.mp hxi).1
    have hy : qs[i]? = some qs[i] := List.getElem?_eq_getElem (by omega)
    exact hs i x _ H Kt Kf hxi hy s (fun e H4 s4 => qq.yes _ _ s4 (by unfold ysF; rw [hy]; exact if_pos e)) (fun e H4 s4 => qq.no _ s4 (by unfold ysF; rw [hy]; exact if_neg (by rw [e]; simp))))
    (fun H s h => hd H s (by rw [h, hl, ysF_all]))
/-- over zip, by places -/
theorem lcZf {xs zs : List V} {n : Nat} (X Z f : Nat → V) (q : Nat → Bool) (lx : xs.length = n) (lz : zs.length = n) (hX : ∀ i, i < n → xs[i]? = some (X i)) (hZ : ∀ i, i < n → zs[i]? = some (Z i)) (hD : H1 D = none) (hx : SqL K H1 a xs) (hz : SqL K H1 b zs) (hn : n ≤ 100000)
    (hs : ∀ (i : Nat) (T : Addr) (H : Hp) (Kt : V → Hp → Prop) (Kf : Hp → Prop), i < n → Same H1 H → H T = some (.tup [X i, Z i]) → (q i = true → ∀ H4, Same H H4 → Kt (f i) H4) → (q i = false → ∀ H4, Same H H4 → Kf H4) → LcT g tt te vs σ (.ref T) H Kt Kf)
    (hd : ∀ H, Same H1 H → H D = some (.lst (((List.range n).filter q).map f)) → Qd H) : LcG (Itz K a b) g tt te vs σ H1 D Qd :=
  lcZq (xs := xs) (zs := zs) (ysF f q (List.range n)) (by rw [lx, lz]) hD hx hz (by omega) (fun i x z T H Kt Kf hxi hzi s gT qq => by
    have hi : i < n := by have := (List.getElem?_eq_some_iff.mp hxi).1; omega
    rw [hX i hi] at hxi
    rw [hZ i hi] at hzi
    cases hxi
    cases hzi
    exact hs i T H Kt Kf hi s gT (fun e H4 s4 => qq.yes _ _ s4 (by unfold ysF; rw [range_get hi]; exact if_pos e)) (fun e H4 s4 => qq.no _ s4 (by unfold ysF; rw [range_get hi]; exact if_neg (by rw [e]; simp))))
    (fun H s h => hd H s (by have := ysF_all f q (List.range n); rw [List.length_range] at this; rw [h, lx, this]))
theorem lcZm {xs zs : List V} {n : Nat} (X Z f : Nat → V) (lx : xs.length = n) (lz : zs.length = n) (hX : ∀ i, i < n → xs[i]? = some (X i)) (hZ : ∀ i, i < n → zs[i]? = some (Z i)) (hD : H1 D = none) (hx : SqL K H1 a xs) (hz : SqL K H1 b zs) (hn : n ≤ 100000)
    (hs : ∀ (i : Nat) (T : Addr) (H : Hp) (Kt : V → Hp → Prop) (Kf : Hp → Prop), i < n → Same H1 H → H T = some (.tup [X i, Z i]) → (∀ H4, Same H H4 → Kt (f i) H4) → LcT g tt te vs σ (.ref T) H Kt Kf)
    (hd : ∀ H, Same H1 H → H D = some (.lst ((List.range n).map f)) → Qd H) : LcG (Itz K a b) g tt te vs σ H1 D Qd :=
  lcZf X Z f (fun _ => true) lx lz hX hZ hD hx hz hn (fun i T H Kt Kf hi s gT h _ => hs i T H Kt Kf hi s gT (h rfl)) (fun H s h => hd H s (by rw [h, List.filter_eq_self.mpr fun _ _ => rfl]))
/-- over a list, by places -/
theorem lcLxf {xs : List V} (f : Nat → V) (q : Nat → Bool) (hD : H1 D = none) (hx : SqL K H1 a xs) (hn : xs.length ≤ 100000)
    (hs : ∀ (i : Nat) (x : V) (H : Hp) (Kt : V → Hp → Prop) (Kf : Hp → Prop), xs[i]? = some x → Same H1 H → (q i = true → ∀ H4, Same H H4 → Kt (f i) H4) → (q i = false → ∀ H4, Same H H4 → Kf H4) → LcT g tt te vs σ x H Kt Kf)
    (hd : ∀ H, Same H1 H → H D = some (.lst (((List.range xs.length).filter q).map f)) → Qd H) : LcG (Itl K a) g tt te vs σ H1 D Qd :=
  lcLq (ysF f q (List.range xs.length)) hD hx hn (fun i x H Kt Kf hxi s qq => by
    have hi := (List.getElem?_eq_some_iff.mp hxi).1
    exact hs i x H Kt Kf hxi s (fun e H4 s4 => qq.yes _ _ s4 (by unfold ysF; rw [range_get hi]; exact if_pos e)) (fun e H4 s4 => qq.no _ s4 (by unfold ysF; rw [range_get hi]; exact if_neg (by rw [e]; simp))))
    (fun H s h => hd H s (by have := ysF_all f q (List.range xs.length); rw [List.length_range] at this; rw [h, this]))
theorem lcLx {xs : List V} (f : Nat → V) (hD : H1 D = none) (hx : SqL K H1 a xs) (hn : xs.length ≤ 100000)
    (hs : ∀ (i : Nat) (x : V) (H : Hp) (Kt : V → Hp → Prop) (Kf : Hp → Prop), xs[i]? = some x → Same H1 H → (∀ H4, Same H H4 → Kt (f i) H4) → LcT g tt te vs σ x H Kt Kf)
    (hd : ∀ H, Same H1 H → H D = some (.lst ((List.range xs.length).map f)) → Qd H) : LcG (Itl K a) g tt te vs σ H1 D Qd :=
  lcLxf f (fun _ => true) hD hx hn (fun i x H Kt Kf hx s h _ => hs i x H Kt Kf hx s (h rfl)) (fun H s h => hd H s (by rw [h, List.filter_eq_self.mpr fun _ _ => rfl]))
end
theorem all_true (n : Nat) : ((List.range n).map fun _ => true).all id = true := by simp
theorem bls (n : Nat) (f : Nat → Bool) : (List.range n).map (fun i => V.bl (f i)) = ((List.range n).map f).map V.bl := by rw [List.map_map]; rfl
/-- isinstance(x, (T1, T2)) of plain things -/
def rIs2 (T1 T2 : String) (ans : V → String → Bool) : List V → Hp → VK → Prop := fun xs H Q => ∃ (x : V) (tp : Addr) (t : String), xs = [x, .ref tp] ∧ Ty7 H x t ∧ H tp = some (.tup [.ty T1, .ty T2]) ∧ Q (.bl (ans x t)) H
theorem call_isTy2 {X : Cx} (T1 T2 : String) (a1 a2 : V → String → Bool) (h1 : ∀ H x t, Ty7 H x t → kitB t T1 = some (a1 x t)) (h2 : ∀ H x t, Ty7 H x t → kitB t T2 = some (a2 x t)) : CallR X (.builtin "isinstance") (rIs2 T1 T2 fun x t => a1 x t || a2 x t) :=
  callR_imp call_isiT fun _ H Q ⟨x, tp, t, e, ht, hp, q⟩ => ⟨x, tp, [.ty T1, .ty T2], _, [.type T1, .type T2], _, e, hp, .cons (.ty _) (.cons (.ty _) .nil), ht.tx, kitAny_cons (b := a1 x t) (kit_ty (h1 H x t ht)) (fun e1 => kitAny_cons (b := a2 x t) (kit_ty (h2 H x t ht)) (fun e2 => by simp only [e1, e2]; rfl) (fun e2 => by simp only [e1, e2]; rfl)) (fun e1 => by simp only [e1]; rfl), q⟩
theorem is_strtup {X : Cx} : CallR X (.builtin "isinstance") (rIs2 "str" "tuple" fun _ t => decide (t = "str") || decide (t = "tuple")) := call_isTy2 _ _ (fun _ t => decide (t = "str")) (fun _ t => decide (t = "tuple")) (fun _ _ _ h => h.ks) (fun _ _ _ h => h.kt)
/-- a list or a tuple -/
def SqE (K : PySem.W.Frag) (H : Hp) (a : Addr) (xs : List V) : Prop := SqL K H a xs ∨ SqT K H a xs
theorem SqE.same {K : PySem.W.Frag} {H H' : Hp} {a : Addr} {xs : List V} (h : SqE K H a xs) (s : Same H H') : SqE K H' a xs := h.imp (fun h => s.seq h) (fun h => Same.seqT s h)
theorem But.seqT {K : PySem.W.Frag} {H H' : Hp} {a b : Addr} {xs : List V} (e : But a H H') (n : b ≠ a) (h : SqT K H b xs) : SqT K H' b xs := by
  rcases h with (h | ⟨o, h⟩) | h
  · exact .inl (.inl (e _ _ n h))
  · exact .inl (.inr ⟨o, e _ _ n h⟩)
  · exact .inr h
theorem SqE.but {K : PySem.W.Frag} {H H' : Hp} {a b : Addr} {xs : List V} (h : SqE K H b xs) (e : But a H H') (n : b ≠ a) : SqE K H' b xs := h.imp (fun h => e.seq n h) (fun h => e.seqT n h)
theorem ixE {K : PySem.W.Frag} {H : Hp} {a : Addr} {xs : List V} {i : Int} {v : V} {Q : VK} (h : SqE K H a xs) (e : atI xs i = some v) (q : Q v H) : rIx K (.ref a) (.int i) H Q := by
  rcases h with h | h
  · exact .inl ⟨_, _, _, _, rfl, rfl, h, e, q⟩
  · exact .inr (.inl ⟨_, _, _, _, rfl, rfl, h, e, q⟩)
theorem atI_add {xs : List V} {f i : Nat} {v : V} (h : xs[f + i]? = some v) : atI xs ((f : Int) + (i : Int)) = some v := by
  rw [← Int.natCast_add]; exact atI_nat h
theorem pick_list {α : Type} {P : V → α → Prop} : ∀ (us : List V), (∀ (i : Nat) (v : V), us[i]? = some v → ∃ t, P v t) → ∃ ts : List α, us.length = ts.length ∧ ∀ (i : Nat) (v : V) (t : α), us[i]? = some v → ts[i]? = some t → P v t
  | [], _ => ⟨[], rfl, fun i v t h => by simp at h⟩
  | u :: us, h => by
    obtain ⟨t, ht⟩ := h 0 u rfl
    obtain ⟨ts, hl, hts⟩ := pick_list us fun i v hv => h (i + 1) v hv
    refine ⟨t :: ts, by rw [List.length_cons, List.length_cons, hl], fun i v t' hv ht' => ?_⟩
    cases i with
    | zero => cases hv; cases ht'; exact ht
    | succ i => exact hts i v t' hv ht'
end My

open PySem L2 My
/-! ### short steps -/
local macro_rules | `(tactic| tm_at "hp") => `(tactic| first
  | with_reducible assumption
  | exact upd_same
  | (with_reducible refine upd_keep ?hpn ?hpr; (case hpn => with_reducible assumption); (case hpr => tm_at "hp"))
  | (refine Eq.trans (upd_ne ?hpn) ?hpr; (case hpn => tm_at "ne"); (case hpr => tm_at "hp"))
  | (refine' Same.app ?hps ?hpr; (case hps => with_reducible assumption); (case hpr => tm_at "hp"))
  | (refine' Dr.app ?hps ?hpn ?hpr; (case hps => with_reducible assumption); (case hpr => tm_at "hp"); (case hpn => tm_at "ne"))
  | (refine' But.app ?hps ?hpn ?hpr; (case hps => with_reducible assumption); (case hpr => tm_at "hp"); (case hpn => tm_at "ne")))
local macro_rules | `(tactic| tm_at "ne") => `(tactic| first
  | with_reducible assumption
  | (with_reducible refine Ne.symm ?nes; (case nes => with_reducible assumption))
  | (refine' ne_of_none ?nea ?neb; (case neb => with_reducible assumption); (case nea => tm_at "hp"))
  | (refine' Src.ne ?nea ?neb; (case neb => with_reducible assumption); (case nea => tm_at "sr"))
  | (refine' Ne.symm (Src.ne ?nea ?neb); (case neb => with_reducible assumption); (case nea => tm_at "sr"))
  | (refine' Ne.symm (ne_of_none ?nea ?neb); (case neb => with_reducible assumption); (case nea => tm_at "hp")))
/-- a list, a tuple that stands -/
local macro_rules | `(tactic| tm_at "sql") => `(tactic| first
  | with_reducible assumption
  | (refine sqL ?sqa; (case sqa => tm_at "hp"))
  | (refine' Same.seq ?sqs ?sqa; (case sqs => with_reducible assumption); (case sqa => tm_at "sql"))
  | (refine' Dr.seq ?sqs ?sqn ?sqa; (case sqs => with_reducible assumption); (case sqa => tm_at "sql"); (case sqn => tm_at "ne"))
  | (refine' But.seq ?sqs ?sqn ?sqa; (case sqs => with_reducible assumption); (case sqa => tm_at "sql"); (case sqn => tm_at "ne")))
/-- all but a stands; all stands -/
local macro_rules | `(tactic| tm_at "bt") => `(tactic| first
  | with_reducible assumption
  | with_reducible exact But.refl
  | (with_reducible refine But.upd ?btx; (case btx => tm_at "bt"))
  | (with_reducible refine But.new ?btx ?bty; (case bty => with_reducible assumption); (case btx => tm_at "bt"))
  | (refine' But.trans ?btx ?bty; (case bty => with_reducible assumption); (case btx => tm_at "bt"))
  | (refine' But.trans ?btx (Same.but ?bty); (case bty => with_reducible assumption); (case btx => tm_at "bt")))
local macro_rules | `(tactic| tm_at "sm") => `(tactic| first
  | with_reducible assumption
  | with_reducible exact Same.refl _
  | (with_reducible refine Same.new ?btx ?bty; (case bty => with_reducible assumption); (case btx => tm_at "sm"))
  | (with_reducible refine Same.mut ?btx ?bty; (case bty => with_reducible assumption); (case btx => tm_at "sm"))
  | (refine' Same.mut' ?btx ?bty ?btn; (case bty => with_reducible assumption); (case btx => tm_at "sm"); (case btn => tm_at "fr"))
  | (refine' Same.trans ?btx ?bty; (case bty => with_reducible assumption); (case btx => tm_at "sm")))
/-- the source stands; draws from there to here -/
local macro_rules | `(tactic| tm_at "sr") => `(tactic| first
  | with_reducible assumption
  | (refine' Dr.s ?srd; (case srd => with_reducible assumption))
  | (refine' Src.same ?srh ?srd; (case srd => with_reducible assumption); (case srh => tm_at "sr"))
  | (refine' Src.but ?srh ?srd ?srn; (case srd => with_reducible assumption); (case srh => tm_at "sr"); (case srn => tm_at "ne")))
local macro_rules | `(tactic| tm_at "dr") => `(tactic| first
  | with_reducible assumption
  | (refine' Dr.trans ?drx ?dry; (case dry => with_reducible assumption); (case drx => tm_at "dr"))
  | (refine' Dr.same ?drx ?dry; (case dry => with_reducible assumption); (case drx => tm_at "dr"))
  | (refine' Dr.mut ?drx ?dry ?drn ?drm; (case dry => with_reducible assumption); (case drx => tm_at "dr"); (case drn => tm_at "fr"); (case drm => tm_at "ne"))
  | (refine' Dr.of ?drx ?dry; (case drx => tm_at "sr"); (case dry => tm_at "sm"))
  | (refine Dr.refl ?drx; (case drx => tm_at "sr")))
/-- nothing stood there -/
local macro_rules | `(tactic| tm_at "fr") => `(tactic| first
  | with_reducible assumption
  | (refine' Same.free ?frs ?frh; (case frh => with_reducible assumption); (case frs => tm_at "sm"))
  | (refine' Dr.free ?frs ?frh ?frn; (case frh => with_reducible assumption); (case frs => tm_at "dr"); (case frn => tm_at "ne")))
/-- an int's condition -/
local macro_rules | `(tactic| tm_at "ic") => `(tactic| first
  | assumption
  | omega
  | exact Nat.le_of_ble_eq_true rfl
  | exact ⟨by decide, by decide +kernel⟩
  | exact Or.inr ⟨by omega, by omega⟩
  | exact Or.inl ⟨by omega, by omega⟩
  | exact Or.inr ⟨by decide, by decide⟩
  | exact ⟨by decide, by decide, by decide⟩
  | exact wide_div (b := 64) (by omega) (by omega) (by decide) (by decide)
  | decide
  | tm_at "sr")
/-- a plain thing's kind -/
local macro_rules | `(tactic| tm_at "t7") => `(tactic| first
  | with_reducible assumption
  | with_reducible exact Ty7.int _
  | with_reducible exact Ty7.bl _
  | with_reducible exact Ty7.non
  | with_reducible exact Ty7.str _
  | (refine' Ty7.lst ?t7h; (case t7h => tm_at "hp"))
  | (refine' Ty7.tup ?t7h; (case t7h => tm_at "hp")))
/-- one step of a reading -/
local macro_rules | `(tactic| tm_at "rd") => `(tactic| first
  | refine ⟨_, rfl, ?_⟩
  | refine ⟨_, _, rfl, rfl, ?_⟩
  | (refine And.intro ?rdc ?_; (case rdc => (first | tm_at "ic" | (dsimp only; tm_at "ic"))))
  | refine ⟨_, _, rfl, ?_⟩
  | refine ⟨rfl, ?_⟩
  | (refine' ⟨_, _, rfl, ?rd7, ?_⟩; (case rd7 => tm_at "t7"))
  | (refine' ⟨_, _, rfl, Or.inl ⟨_, ?rdl, rfl⟩, ?_⟩; (case rdl => tm_at "sql"))
  | refine Or.inl ⟨_, rfl, ?_⟩
  | refine Or.inr ⟨_, rfl, ?_⟩)
local macro_rules | `(tactic| tm_at "rds") => `(tactic| repeat (tm_at "rd"))
/-- a tuple that stands -/
local macro_rules | `(tactic| tm_at "sqt") => `(tactic| first
  | with_reducible assumption
  | (refine sqT ?sqa; (case sqa => tm_at "hp"))
  | (refine' Same.seqT ?sqs ?sqa; (case sqs => with_reducible assumption); (case sqa => tm_at "sqt"))
  | (refine' Dr.seqT ?sqs ?sqn ?sqa; (case sqs => with_reducible assumption); (case sqa => tm_at "sqt"); (case sqn => tm_at "ne")))
/-- more steps: tests that are plain, items by a plain index, the length of a tuple -/
local macro_rules | `(tactic| tm_at "rz") => `(tactic| first
  | (refine' And.intro (Or.inl (And.intro rfl (Exists.intro _ ?rzt))) ?_; (case rzt => tm_at "sql"))
  | tm_at "rd"
  | (refine' ⟨_, _, rfl, Or.inr ⟨_, ?rdl, rfl⟩, ?_⟩; (case rdl => tm_at "sqt"))
  | (refine' ⟨_, _, _, _, rfl, rfl, ?rzl, ?rzi, ?_⟩; (case rzl => (first | tm_at "sql" | tm_at "sqt")); (case rzi => exact rfl))
  | (refine iteF' ?rzb ?_; (case rzb => (first | with_reducible rfl | rfl | decide)))
  | (refine iteT' ?rzb ?_; (case rzb => (first | with_reducible rfl | rfl | decide))))
local macro_rules | `(tactic| tm_at "rzs") => `(tactic| repeat (tm_at "rz"))
/-- .. up to an if that has something behind it -/
local macro_rules | `(tactic| tm_at "rzi") => `(tactic| repeat ((try dsimp only [gName]); (fail_if_success (with_reducible refine isIf ?_)); tm_at "rz"))
/-! ### totals dealt by caps and weights: plain mathematics -/
namespace My
open PySem L2
/-- the sum of f over some places -/
def S (f : Nat → Int) (R : List Nat) : Int := (R.map f).sum
theorem S_nil (f : Nat → Int) : S f [] = 0 := rfl
theorem S_cons (f : Nat → Int) (i : Nat) (R : List Nat) : S f (i :: R) = f i + S f R := by unfold S; rw [List.map_cons, List.sum_cons]
theorem S_append (f : Nat → Int) (R T : List Nat) : S f (R ++ T) = S f R + S f T := by unfold S; rw [List.map_append, List.sum_append]
theorem S_nonneg {f : Nat → Int} : ∀ {R : List Nat}, (∀ i ∈ R, 0 ≤ f i) → 0 ≤ S f R
  | [], _ => Int.le_refl 0
  | i :: R, h => by
    rw [S_cons]
    have h1 := h i (List.mem_cons_self ..)
    have h2 := S_nonneg (R := R) fun j hj => h j (List.mem_cons_of_mem _ hj)
    omega
theorem S_le {f g : Nat → Int} : ∀ {R : List Nat}, (∀ i ∈ R, f i ≤ g i) → S f R ≤ S g R
  | [], _ => Int.le_refl 0
  | i :: R, h => by
    rw [S_cons, S_cons]
    have h1 := h i (List.mem_cons_self ..)
    have h2 := S_le (R := R) fun j hj => h j (List.mem_cons_of_mem _ hj)
    omega
theorem S_lt {f g : Nat → Int} : ∀ {R : List Nat}, (∀ i ∈ R, f i < g i) → R ≠ [] → S f R < S g R
  | [], _, h => absurd rfl h
  | i :: R, h, _ => by
    rw [S_cons, S_cons]
    have h1 := h i (List.mem_cons_self ..)
    have h2 := S_le (R := R) fun j hj => Int.le_of_lt (h j (List.mem_cons_of_mem _ hj))
    omega
theorem S_congr {f g : Nat → Int} : ∀ {R : List Nat}, (∀ i ∈ R, f i = g i) → S f R = S g R
  | [], _ => rfl
  | i :: R, h => by
    rw [S_cons, S_cons, h i (List.mem_cons_self ..), S_congr (R := R) fun j hj => h j (List.mem_cons_of_mem _ hj)]
theorem S_mul (c : Int) (f : Nat → Int) : ∀ R : List Nat, S (fun i => c * f i) R = c * S f R
  | [] => (Int.mul_zero c).symm
  | i :: R => by rw [S_cons, S_cons, S_mul c f R, Int.mul_add]
theorem S_mul_r (c : Int) (f : Nat → Int) : ∀ R : List Nat, S (fun i => f i * c) R = S f R * c
  | [] => (Int.zero_mul c).symm
  | i :: R => by rw [S_cons, S_cons, S_mul_r c f R, Int.add_mul]
theorem S_split (f : Nat → Int) (p : Nat → Bool) : ∀ R : List Nat, S f R = S f (R.filter p) + S f (R.filter fun i => !p i)
  | [] => rfl
  | i :: R => by
    rw [S_cons, S_split f p R, List.filter_cons, List.filter_cons]
    cases h : p i with
    | true => simp only [Bool.not_true, if_true, Bool.false_eq_true, if_false]; rw [S_cons]; omega
    | false => simp only [Bool.not_false, if_true, Bool.false_eq_true, if_false]; rw [S_cons]; omega
theorem S_bound {f : Nat → Int} {c : Int} : ∀ {R : List Nat}, (∀ i ∈ R, f i ≤ c) → S f R ≤ c * R.length
  | [], _ => by simp [S_nil]
  | i :: R, h => by
    rw [S_cons, List.length_cons]
    have h1 := h i (List.mem_cons_self ..)
    have h2 := S_bound (R := R) fun j hj => h j (List.mem_cons_of_mem _ hj)
    have e : c * ((R.length + 1 : Nat) : Int) = c * R.length + c := by rw [Int.natCast_add, Int.mul_add]; simp
    omega
abbrev natsV (ch : List Nat) : List V := ch.map fun i : Nat => V.int (i : Int)
def wAt (ws : List Int) (i : Nat) : Int := ws.getD i 0
/-! #### the level -/
/-- what the removed ones keep: cap ≤ level times weight, while the level T / W only rises -/
theorem rise {T W C V : Int} (hW : 0 < W) (hC : C * W ≤ T * V) : T * (W - V) ≤ (T - C) * W := by
  rw [Int.mul_sub, Int.sub_mul]; omega
theorem keep_cap {c w T W T' W' : Int} (hW : 0 < W) (hw : 0 ≤ w) (hW' : 0 ≤ W') (h : c * W ≤ T * w) (hr : T * W' ≤ T' * W) : c * W' ≤ T' * w := by
  have h1 : c * W * W' ≤ T * w * W' := Int.mul_le_mul_of_nonneg_right h hW'
  have h2 : T * W' * w ≤ T' * W * w := Int.mul_le_mul_of_nonneg_right hr hw
  have e1 : c * W * W' = c * W' * W := by rw [Int.mul_assoc, Int.mul_comm W W', ← Int.mul_assoc]
  have e2 : T * w * W' = T * W' * w := by rw [Int.mul_assoc, Int.mul_comm w W', ← Int.mul_assoc]
  have e3 : T' * W * w = T' * w * W := by rw [Int.mul_assoc, Int.mul_comm W w, ← Int.mul_assoc]
  exact Int.le_of_mul_le_mul_right (by rw [← e1, ← e3]; omega) hW
/-- behind the rest: what is weighed so far -/
def pre (w : Nat → Int) (p : Nat → Bool) : Nat → Int
  | 0 => 0
  | i + 1 => pre w p i + if p i then w i else 0
/-- what one gets by running sums -/
def part (t b beh w : Int) : Int := t * (beh + w) / b - t * beh / b
/-- the pairs that running tells -/
def runD (t b : Int) (w : Nat → Int) : List Nat → Int → List (Nat × Int)
  | [], _ => []
  | i :: r, beh => (i, part t b beh (w i)) :: runD t b w r (beh + w i)
theorem runD_append (t b : Int) (w : Nat → Int) (i : Nat) : ∀ (l : List Nat) (beh : Int), runD t b w (l ++ [i]) beh = runD t b w l beh ++ [(i, part t b (beh + S w l) (w i))]
  | [], beh => by simp [runD, S_nil]
  | j :: l, beh => by
    rw [List.cons_append]
    simp only [runD]
    rw [runD_append t b w i l (beh + w j), S_cons, Int.add_assoc, List.cons_append]
theorem runD_fst (t b : Int) (w : Nat → Int) : ∀ (l : List Nat) (beh : Int), (runD t b w l beh).map (·.1) = l
  | [], _ => rfl
  | i :: l, beh => by simp only [runD, List.map_cons]; rw [runD_fst t b w l]
theorem pre_eq (w : Nat → Int) (p : Nat → Bool) : ∀ n, pre w p n = S w ((List.range n).filter p)
  | 0 => rfl
  | n + 1 => by
    rw [List.range_succ, List.filter_append, S_append, ← pre_eq w p n]
    simp only [pre, List.filter_cons, List.filter_nil]
    cases p n <;> simp [S_cons, S_nil]
theorem runD_range (t b : Int) (w : Nat → Int) (p : Nat → Bool) : ∀ n, ∀ q ∈ runD t b w ((List.range n).filter p) 0, p q.1 = true ∧ q.1 < n ∧ q.2 = part t b (pre w p q.1) (w q.1)
  | 0, q, h => by simp [runD] at h
  | n + 1, q, h => by
    rw [List.range_succ, List.filter_append] at h
    cases hp : p n with
    | false =>
      rw [List.filter_cons, hp] at h
      simp only [Bool.false_eq_true, if_false, List.filter_nil, List.append_nil] at h
      obtain ⟨h1, h2, h3⟩ := runD_range t b w p n q h
      exact ⟨h1, by omega, h3⟩
    | true =>
      rw [List.filter_cons, hp] at h
      simp only [if_true, List.filter_nil] at h
      rw [runD_append] at h
      rcases List.mem_append.mp h with h | h
      · obtain ⟨h1, h2, h3⟩ := runD_range t b w p n q h
        exact ⟨h1, by omega, h3⟩
      · simp only [List.mem_singleton] at h
        subst h
        exact ⟨hp, by simp, by simp [pre_eq]⟩
/-- found, set by pairs -/
def putAll (f : List Int) (ps : List (Nat × Int)) : List Int := ps.foldl (fun f q => f.set q.1 q.2) f
theorem putAll_len : ∀ (ps : List (Nat × Int)) (f : List Int), (putAll f ps).length = f.length
  | [], _ => rfl
  | q :: ps, f => by
    show (putAll (f.set q.1 q.2) ps).length = _
    rw [putAll_len ps, List.length_set]
theorem putAll_out {i : Nat} : ∀ (ps : List (Nat × Int)) (f : List Int), i ∉ ps.map (·.1) → (putAll f ps)[i]? = f[i]?
  | [], _, _ => rfl
  | q :: ps, f, h => by
    show (putAll (f.set q.1 q.2) ps)[i]? = _
    rw [List.map_cons, List.mem_cons, not_or] at h
    rw [putAll_out ps _ h.2, List.getElem?_set_ne (fun e => h.1 e.symm)]
theorem putAll_in {g : Nat → Int} {i : Nat} : ∀ (ps : List (Nat × Int)) (f : List Int), (∀ q ∈ ps, q.2 = g q.1) → i ∈ ps.map (·.1) → i < f.length → (putAll f ps)[i]? = some (g i)
  | [], _, _, h, _ => by simp at h
  | q :: ps, f, hg, h, hl => by
    show (putAll (f.set q.1 q.2) ps)[i]? = _
    by_cases hm : i ∈ ps.map (·.1)
    · exact putAll_in ps _ (fun r hr => hg r (List.mem_cons_of_mem _ hr)) hm (by rw [List.length_set]; exact hl)
    · rw [putAll_out ps _ hm]
      rw [List.map_cons, List.mem_cons] at h
      rcases h with e | h
      · subst e
        rw [List.getElem?_set_self hl, hg q (List.mem_cons_self ..)]
      · exact absurd h hm
/-! #### the spec, and the loop -/
def capN (cap : Nat → Option Int) (i : Nat) : Int := (cap i).getD 0
/-- who has weight -/
def wtd (n : Nat) (w : Nat → Int) : List Nat := (List.range n).filter fun i => decide (0 < w i)
/-- the cap is no more than level times weight -/
def heldB (t b : Int) (w : Nat → Int) (cap : Nat → Option Int) (i : Nat) : Bool := match cap i with
  | some c => decide (c * b ≤ t * w i)
  | none => false
/-- who is dealt to by the level -/
def restB (t b : Int) (w : Nat → Int) (cap : Nat → Option Int) (i : Nat) : Bool := decide (0 < w i) && !heldB t b w cap i
def less (c : Option Int) (b x : Int) : Int := match c with
  | some c => min (c * b) x
  | none => x
structure Dealt (n : Nat) (w : Nat → Int) (cap : Nat → Option Int) (total : Int) (lv : Option (Int × Int)) (fs : List Int) : Prop where
  len : fs.length = n
  zero : ∀ i, i < n → w i ≤ 0 → fs[i]? = some 0
  non : lv = none → (∀ i, i < n → 0 < w i → ∃ c, cap i = some c ∧ fs[i]? = some c) ∧ S (capN cap) (wtd n w) ≤ total
  lev : ∀ t b, lv = some (t, b) → 0 ≤ t ∧ 0 < b ∧ Int.gcd t b = 1 ∧ ¬ ((∀ i, i < n → 0 < w i → (cap i).isSome = true) ∧ S (capN cap) (wtd n w) ≤ total) ∧
    S (fun i => less (cap i) b (t * w i)) (wtd n w) = total * b ∧
    ∀ i, i < n → 0 < w i → fs[i]? = some (if heldB t b w cap i then capN cap i else part t b (pre w (restB t b w cap) i) (w i))
/-- between two turns: who is left (p), what is left (T) -/
structure DI (n : Nat) (w : Nat → Int) (cap : Nat → Option Int) (total : Int) (p : Nat → Bool) (T : Int) (f : List Int) : Prop where
  len : f.length = n
  pw : ∀ i, i < n → p i = true → 0 < w i
  tn : 0 ≤ T
  out : ∀ i, i < n → 0 < w i → p i = false → ∃ c, cap i = some c ∧ f[i]? = some c ∧ c * S w ((List.range n).filter p) ≤ T * w i
  yet : ∀ i, i < n → (p i = true ∨ w i ≤ 0) → f[i]? = some 0
  sum : T + S (capN cap) ((List.range n).filter fun i => decide (0 < w i) && !p i) = total
section
variable {n : Nat} {w : Nat → Int} {cap : Nat → Option Int} {total T : Int} {p : Nat → Bool} {f : List Int}
theorem filter_congr' {q r : Nat → Bool} {l : List Nat} (h : ∀ i ∈ l, q i = r i) : l.filter q = l.filter r := List.filter_congr h
theorem DI.start (h0 : 0 ≤ total) : DI n w cap total (fun i => decide (0 < w i)) total (List.replicate n 0) := by
  refine ⟨List.length_replicate, fun i _ h => of_decide_eq_true h, h0, fun i _ h1 h2 => absurd h1 (of_decide_eq_false h2), fun i hi _ => by rw [List.getElem?_replicate, if_pos hi], ?_⟩
  have e : ((List.range n).filter fun i => decide (0 < w i) && !decide (0 < w i)) = [] := by
    rw [List.filter_eq_nil_iff]
    intro i _
    cases decide (0 < w i) <;> simp
  rw [e, S_nil]; omega
/-- nobody is left -/
theorem DI.fin0 (d : DI n w cap total p T f) (he : (List.range n).filter p = []) : Dealt n w cap total none f := by
  have hp : ∀ i, i < n → p i = false := fun i hi => by
    have := List.filter_eq_nil_iff.mp he i (List.mem_range.mpr hi)
    simpa using this
  refine ⟨d.len, fun i hi h => d.yet i hi (.inr h), fun _ => ⟨fun i hi h => ?_, ?_⟩, fun t b h => by cases h⟩
  · obtain ⟨c, h1, h2, _⟩ := d.out i hi h (hp i hi)
    exact ⟨c, h1, h2⟩
  · have e : wtd n w = ((List.range n).filter fun i => decide (0 < w i) && !p i) := filter_congr' fun i hi => by
      rw [hp i (List.mem_range.mp hi)]; simp
    rw [e]
    have := d.sum
    have := d.tn
    omega
/-- who has no more than level times weight as a cap -/
def fullB (T W : Int) (w : Nat → Int) (cap : Nat → Option Int) (i : Nat) : Bool := heldB T W w cap i
theorem S_pos {R : List Nat} (h : ∀ i ∈ R, 0 < w i) (hne : R ≠ []) : 0 < S w R := by
  have := S_lt (f := fun _ => 0) (g := w) h hne
  have e : S (fun _ => 0) R = 0 := by
    have : ∀ R : List Nat, S (fun _ => 0) R = 0 := fun R => by
      induction R with
      | nil => rfl
      | cons i R ih => rw [S_cons, ih]; rfl
    exact this R
  omega
theorem heldB_some {t b : Int} {i : Nat} (h : heldB t b w cap i = true) : ∃ c, cap i = some c ∧ c * b ≤ t * w i := by
  unfold heldB at h
  cases e : cap i with
  | none => rw [e] at h; cases h
  | some c => rw [e] at h; exact ⟨c, rfl, of_decide_eq_true h⟩
theorem heldB_iff {t b c : Int} {i : Nat} (e : cap i = some c) : heldB t b w cap i = decide (c * b ≤ t * w i) := by
  unfold heldB
  rw [e]
theorem filter_and (q r : Nat → Bool) (l : List Nat) : (l.filter q).filter r = l.filter fun i => q i && r i := by
  rw [List.filter_filter]
  exact List.filter_congr fun i _ => by rw [Bool.and_comm]
/-- one turn -/
theorem DI.turn (d : DI n w cap total p T f) (W : Int) (hW : W = S w ((List.range n).filter p)) (hne : (List.range n).filter p ≠ []) (full : List Nat) (hfull : full = ((List.range n).filter p).filter (heldB T W w cap)) :
    DI n w cap total (fun i => p i && !heldB T W w cap i) (T - S (capN cap) full) (putAll f (full.map fun i => (i, capN cap i))) := by
  have hpos : ∀ i ∈ (List.range n).filter p, 0 < w i := fun i hi => by
    obtain ⟨h1, h2⟩ := List.mem_filter.mp hi
    exact d.pw i (List.mem_range.mp h1) h2
  have W0 : 0 < W := by rw [hW]; exact S_pos hpos hne
  have mfull : ∀ i, i ∈ full ↔ (i < n ∧ p i = true) ∧ heldB T W w cap i = true := fun i => by
    rw [hfull, List.mem_filter, List.mem_filter, List.mem_range]
  -- C * W ≤ T * V
  have hC : S (capN cap) full * W ≤ T * S w full := by
    rw [← S_mul_r, ← S_mul]
    refine S_le fun i hi => ?_
    obtain ⟨c, e, h⟩ := heldB_some ((mfull i).mp hi).2
    show (cap i).getD 0 * W ≤ T * w i
    rw [e]; exact h
  have hsp : W = S w full + S w ((List.range n).filter fun i => p i && !heldB T W w cap i) := by
    have e := S_split w (heldB T W w cap) ((List.range n).filter p)
    rw [← hfull, filter_and, ← hW] at e
    exact e
  have V0 : S w full ≤ W := by
    have : 0 ≤ S w ((List.range n).filter fun i => p i && !heldB T W w cap i) := S_nonneg fun i hi => by
      obtain ⟨h1, h2⟩ := List.mem_filter.mp hi
      have := d.pw i (List.mem_range.mp h1) (Bool.and_eq_true_iff.mp h2).1
      omega
    omega
  have T0 : 0 ≤ T - S (capN cap) full := by
    have h1 : T * S w full ≤ T * W := Int.mul_le_mul_of_nonneg_left V0 d.tn
    have h2 : S (capN cap) full * W ≤ T * W := Int.le_trans hC h1
    have := Int.le_of_mul_le_mul_right h2 W0
    omega
  have hr := rise W0 hC
  have eW' : W - S w full = S w ((List.range n).filter fun i => p i && !heldB T W w cap i) := by omega
  rw [eW'] at hr
  have W'0 : 0 ≤ S w ((List.range n).filter fun i => p i && !heldB T W w cap i) := by omega
  have fst : (full.map fun i => (i, capN cap i)).map (·.1) = full := by rw [List.map_map]; exact List.map_id'' (fun _ => rfl) _
  refine ⟨by rw [putAll_len]; exact d.len, fun i hi h => d.pw i hi (Bool.and_eq_true_iff.mp h).1, T0, fun i hi hw hp' => ?_, fun i hi h => ?_, ?_⟩
  · cases hp : p i with
    | false =>
      obtain ⟨c, h1, h2, h3⟩ := d.out i hi hw hp
      refine ⟨c, h1, ?_, ?_⟩
      · rw [putAll_out _ _ (by rw [fst]; intro hm; have := ((mfull i).mp hm).1.2; rw [hp] at this; cases this)]
        exact h2
      · rw [← hW] at h3
        exact keep_cap W0 (Int.le_of_lt hw) W'0 h3 hr
    | true =>
      have hh : heldB T W w cap i = true := by rw [hp] at hp'; simpa using hp'
      obtain ⟨c, e, h⟩ := heldB_some hh
      refine ⟨c, e, ?_, keep_cap W0 (Int.le_of_lt hw) W'0 h hr⟩
      have := putAll_in (g := capN cap) (i := i) (full.map fun i => (i, capN cap i)) f (fun q hq => by
        obtain ⟨j, _, e⟩ := List.mem_map.mp hq
        rw [← e]) (by rw [fst]; exact (mfull i).mpr ⟨⟨hi, hp⟩, hh⟩) (by rw [d.len]; exact hi)
      rw [this]
      show some ((cap i).getD 0) = some c
      rw [e]; rfl
  · have hn : i ∉ full := fun hm => by
      obtain ⟨⟨_, h1⟩, h2⟩ := (mfull i).mp hm
      rcases h with h | h
      · rw [h1, h2] at h; cases h
      · have := d.pw i hi h1; omega
    rw [putAll_out _ _ (by rw [fst]; exact hn)]
    refine d.yet i hi ?_
    rcases h with h | h
    · exact .inl (Bool.and_eq_true_iff.mp h).1
    · exact .inr h
  · have e1 : S (capN cap) ((List.range n).filter fun i => decide (0 < w i) && !(p i && !heldB T W w cap i)) = S (capN cap) full + S (capN cap) ((List.range n).filter fun i => decide (0 < w i) && !p i) := by
      have e := S_split (capN cap) p ((List.range n).filter fun i => decide (0 < w i) && !(p i && !heldB T W w cap i))
      rw [filter_and, filter_and] at e
      rw [e]
      congr 1
      · congr 1
        rw [hfull, filter_and]
        refine filter_congr' fun i hi => ?_
        have := d.pw i (List.mem_range.mp hi)
        cases hp : p i with
        | false => simp
        | true =>
          rw [decide_eq_true (this hp)]
          cases heldB T W w cap i <;> rfl
      · congr 1
        refine filter_congr' fun i _ => ?_
        cases p i <;> simp
    rw [e1]
    have := d.sum
    omega
/-- nobody is held any more: the level -/
theorem DI.fin1 (d : DI n w cap total p T f) (W : Int) (hW : W = S w ((List.range n).filter p)) (hne : (List.range n).filter p ≠ []) (hfull : ((List.range n).filter p).filter (heldB T W w cap) = []) {t b g : Int}
    (eT : T = t * g) (eW : W = b * g) (hg : 0 < g) (hgcd : Int.gcd t b = 1) :
    Dealt n w cap total (some (t, b)) (putAll f (runD t b w ((List.range n).filter p) 0)) := by
  have hpos : ∀ i ∈ (List.range n).filter p, 0 < w i := fun i hi => by
    obtain ⟨h1, h2⟩ := List.mem_filter.mp hi
    exact d.pw i (List.mem_range.mp h1) h2
  have W0 : 0 < W := by rw [hW]; exact S_pos hpos hne
  have b0 : 0 < b := Int.pos_of_mul_pos_right (by rw [Int.mul_comm] at eW; rw [← eW]; exact W0) hg
  have t0 : 0 ≤ t := by
    by_cases h : 0 ≤ t
    · exact h
    · have : t * g < 0 := Int.mul_neg_of_neg_of_pos (by omega) hg
      have := d.tn
      omega
  have cmp : ∀ c i, (c * W ≤ T * w i ↔ c * b ≤ t * w i) := fun c i => by
    have e1 : c * W = c * b * g := by rw [eW, Int.mul_assoc]
    have e2 : T * w i = t * w i * g := by rw [eT, Int.mul_assoc, Int.mul_comm g, ← Int.mul_assoc]
    rw [e1, e2]
    exact ⟨fun h => Int.le_of_mul_le_mul_right h hg, fun h => Int.mul_le_mul_of_nonneg_right h (Int.le_of_lt hg)⟩
  have hheld : ∀ i, heldB t b w cap i = heldB T W w cap i := fun i => by
    unfold heldB
    cases cap i with
    | none => rfl
    | some c => exact decide_eq_decide.mpr (cmp c i).symm
  have hrest : ∀ i, i < n → restB t b w cap i = p i := fun i hi => by
    unfold restB
    rw [hheld]
    cases hp : p i with
    | true =>
      have hw := d.pw i hi hp
      have hm : i ∈ (List.range n).filter p := List.mem_filter.mpr ⟨List.mem_range.mpr hi, hp⟩
      have hh := List.filter_eq_nil_iff.mp hfull i hm
      rw [decide_eq_true hw]
      simpa using hh
    | false =>
      by_cases hw : 0 < w i
      · obtain ⟨c, e, _, h⟩ := d.out i hi hw hp
        rw [← hW] at h
        rw [heldB_iff e, decide_eq_true h]
        simp
      · rw [decide_eq_false hw]; rfl
  have epre : ∀ i, i ≤ n → pre w (restB t b w cap) i = pre w p i := by
    intro i hi
    rw [pre_eq, pre_eq]
    congr 1
    exact filter_congr' fun j hj => hrest j (by have := List.mem_range.mp hj; omega)
  have hrun := runD_range t b w p n
  have fst : (runD t b w ((List.range n).filter p) 0).map (·.1) = (List.range n).filter p := runD_fst ..
  have hin : ∀ i, i < n → p i = true → (putAll f (runD t b w ((List.range n).filter p) 0))[i]? = some (part t b (pre w p i) (w i)) := fun i hi hp =>
    putAll_in (g := fun i => part t b (pre w p i) (w i)) _ f (fun q hq => (hrun q hq).2.2) (by rw [fst]; exact List.mem_filter.mpr ⟨List.mem_range.mpr hi, hp⟩) (by rw [d.len]; exact hi)
  have hout : ∀ i, i < n → p i = false → (putAll f (runD t b w ((List.range n).filter p) 0))[i]? = f[i]? := fun i hi hp =>
    putAll_out _ f (by rw [fst]; intro hm; have := (List.mem_filter.mp hm).2; rw [hp] at this; cases this)
  -- those who have weight: the removed and the rest
  have hsplit : ∀ g : Nat → Int, S g (wtd n w) = S g ((List.range n).filter p) + S g ((List.range n).filter fun i => decide (0 < w i) && !p i) := fun g => by
    have e := S_split g p (wtd n w)
    unfold wtd at e
    rw [filter_and, filter_and] at e
    unfold wtd
    rw [e]
    congr 1
    congr 1
    refine filter_congr' fun i hi => ?_
    cases hp : p i with
    | false => simp
    | true => rw [decide_eq_true (d.pw i (List.mem_range.mp hi) hp)]; rfl
  have outs : ∀ i ∈ (List.range n).filter fun i => decide (0 < w i) && !p i, ∃ c, cap i = some c ∧ c * b ≤ t * w i := fun i hi => by
    obtain ⟨h1, h2⟩ := List.mem_filter.mp hi
    rw [Bool.and_eq_true] at h2
    obtain ⟨c, e, _, h⟩ := d.out i (List.mem_range.mp h1) (of_decide_eq_true h2.1) (by simpa using h2.2)
    rw [← hW] at h
    exact ⟨c, e, (cmp c i).mp h⟩
  have ins : ∀ i ∈ (List.range n).filter p, ∀ c, cap i = some c → t * w i < c * b := fun i hi c e => by
    have hh := List.filter_eq_nil_iff.mp hfull i hi
    rw [heldB_iff e] at hh
    have h3 : ¬ c * b ≤ t * w i := fun z => hh (decide_eq_true ((cmp c i).mpr z))
    omega
  refine ⟨by rw [putAll_len]; exact d.len, fun i hi h => ?_, (fun h => by cases h), fun t' b' h => ?_⟩
  · have hp : p i = false := by
      cases hp : p i with
      | false => rfl
      | true => have := d.pw i hi hp; omega
    rw [hout i hi hp]
    exact d.yet i hi (.inr h)
  · cases h
    refine ⟨t0, b0, hgcd, fun ⟨h1, h2⟩ => ?_, ?_, fun i hi hw => ?_⟩
    · -- all have caps, and these come to more than the total
      have hlt : S (fun i => t * w i) ((List.range n).filter p) < S (fun i => capN cap i * b) ((List.range n).filter p) := S_lt (fun i hi => by
        obtain ⟨ha, hb⟩ := List.mem_filter.mp hi
        have hs := h1 i (List.mem_range.mp ha) (hpos i hi)
        obtain ⟨c, e⟩ := Option.isSome_iff_exists.mp hs
        have := ins i hi c e
        show t * w i < (cap i).getD 0 * b
        rw [e]; exact this) hne
      rw [S_mul, S_mul_r, ← hW] at hlt
      have e1 : t * W = T * b := by rw [eT, eW, Int.mul_comm b g, ← Int.mul_assoc]
      rw [e1] at hlt
      have hlt2 := Int.lt_of_mul_lt_mul_right hlt (Int.le_of_lt b0)
      rw [hsplit] at h2
      have := d.sum
      omega
    · rw [hsplit]
      have e1 : S (fun i => less (cap i) b (t * w i)) ((List.range n).filter p) = t * W := by
        rw [hW, ← S_mul]
        refine S_congr fun i hi => ?_
        cases e : cap i with
        | none => simp [less]
        | some c =>
          have := ins i hi c e
          simp only [less]
          omega
      have e2 : S (fun i => less (cap i) b (t * w i)) ((List.range n).filter fun i => decide (0 < w i) && !p i) = S (capN cap) ((List.range n).filter fun i => decide (0 < w i) && !p i) * b := by
        rw [← S_mul_r]
        refine S_congr fun i hi => ?_
        obtain ⟨c, e, h⟩ := outs i hi
        unfold capN
        rw [e]
        simp only [less, Option.getD_some]
        omega
      rw [e1, e2]
      have e3 : t * W = T * b := by rw [eT, eW, Int.mul_comm b g, ← Int.mul_assoc]
      rw [e3, ← Int.add_mul, d.sum]
    · cases hp : p i with
      | true =>
        have hr := hrest i hi
        rw [hp] at hr
        unfold restB at hr
        rw [Bool.and_eq_true] at hr
        have hh : heldB t b w cap i = false := by simpa using hr.2
        rw [hin i hi hp, hh, epre i (Nat.le_of_lt hi)]
        rfl
      | false =>
        obtain ⟨c, e, h1, h2⟩ := d.out i hi hw hp
        rw [← hW] at h2
        rw [hout i hi hp, h1, heldB_iff e, decide_eq_true ((cmp c i).mp h2)]
        unfold capN
        rw [e]; rfl
end
/-! #### lists of places, levels as values -/
theorem lcYs_range (n : Nat) (p : Nat → Bool) (ys : Nat → Option V) (h : ∀ i, i < n → ys i = if p i = true then some (.int (i : Int)) else none) : lcYs n ys = natsV ((List.range n).filter p) := by
  have key : ∀ m, m ≤ n → lcYs m ys = natsV ((List.range m).filter p) := by
    intro m
    induction m with
    | zero => intro _; rfl
    | succ m ih =>
      intro hm
      rw [lcYs_succ, ih (by omega), h m (by omega), List.range_succ, List.filter_append]
      unfold natsV
      rw [List.map_append]
      congr 1
      cases hp : p m <;> simp [hp]
  exact key n (Nat.le_refl _)
theorem rep_zero (n : Nat) : (List.replicate n [V.int 0]).flatten = (List.replicate n (0 : Int)).map V.int := by
  induction n with
  | zero => rfl
  | succ n ih => rw [List.replicate_succ, List.flatten_cons, ih, List.replicate_succ, List.map_cons]; rfl
theorem inV_nats (i : Nat) : ∀ l : List Nat, inV (.int (i : Int)) (natsV l) = decide (i ∈ l)
  | [] => by simp [inV]
  | j :: l => by
    have ih := inV_nats i l
    unfold inV at ih ⊢
    simp only [natsV, List.map_cons, List.any_cons] at ih ⊢
    rw [ih]
    have e : eqV (V.int (j : Int)) (V.int (i : Int)) = decide (j = i) := by
      by_cases hj : j = i
      · subst hj; simp [eqV]
      · have : ¬ ((j : Int) = (i : Int)) := by omega
        simp [eqV, hj, this]
    rw [e]
    by_cases hj : j = i
    · subst hj; simp
    · have : ¬ i = j := fun z => hj z.symm
      simp [hj, this]
theorem flat_nats (l : List Nat) : (natsV l).all flatV = true := by
  rw [List.all_eq_true]
  intro x hx
  obtain ⟨i, _, rfl⟩ := List.mem_map.mp hx
  rfl
def natI (l : List Nat) : List Int := l.map fun i : Nat => (i : Int)
theorem natsV_eq (l : List Nat) : (natI l).map V.int = natsV l := by unfold natI; rw [List.map_map]; rfl
theorem natI_nil {l : List Nat} : natI l = [] ↔ l = [] := by unfold natI; exact List.map_eq_nil_iff
theorem nat_of_map {l : List Nat} {i : Nat} {y : V} (h : (natsV l)[i]? = some y) : ∃ c, l[i]? = some c ∧ y = V.int (c : Int) := by
  rw [List.getElem?_map] at h
  cases e : l[i]? with
  | none => rw [e] at h; cases h
  | some c => rw [e] at h; exact ⟨c, rfl, (Option.some.inj h).symm⟩
theorem int_at {ws : List Int} {c : Nat} (h : c < ws.length) : (ws.map V.int)[c]? = some (.int (wAt ws c)) := by
  rw [List.getElem?_map, List.getElem?_eq_getElem h]
  unfold wAt
  rw [List.getD_eq_getElem?_getD, List.getElem?_eq_getElem h]; rfl
def cAt (cs : List (Option Int)) (i : Nat) : Option Int := cs.getD i none
theorem opt_at {cs : List (Option Int)} {c : Nat} (h : c < cs.length) : (cs.map optI)[c]? = some (optI (cAt cs c)) := by
  rw [List.getElem?_map, List.getElem?_eq_getElem h]
  unfold cAt
  rw [List.getD_eq_getElem?_getD, List.getElem?_eq_getElem h]; rfl
theorem wAt_mem {ws : List Int} {i : Nat} (h : i < ws.length) : wAt ws i ∈ ws := by
  unfold wAt
  rw [List.getD_eq_getElem?_getD, List.getElem?_eq_getElem h]
  exact List.getElem_mem h
theorem cAt_mem {cs : List (Option Int)} {i : Nat} {z : Int} (h : cAt cs i = some z) : some z ∈ cs := by
  unfold cAt at h
  rw [List.getD_eq_getElem?_getD] at h
  cases e : cs[i]? with
  | none => rw [e] at h; cases h
  | some c => rw [e] at h; have : c = some z := h; rw [← this]; exact List.mem_of_getElem? e
/-- a level as it stands -/
def LvAt (H : Hp) (lv : Option (Int × Int)) (v : V) : Prop := match lv with
  | none => v = .non
  | some (t, b) => ∃ r, v = .ref r ∧ H r = some (.tup [.int t, .int b])
theorem filter_not_mem {p q : Nat → Bool} {l : List Nat} : ((l.filter p).filter fun i => !decide (i ∈ (l.filter p).filter q)) = l.filter fun i => p i && !q i := by
  rw [filter_and]
  refine List.filter_congr fun i hi => ?_
  cases hp : p i with
  | false => rfl
  | true =>
    have : decide (i ∈ (l.filter p).filter q) = q i := by
      cases hq : q i with
      | true => exact decide_eq_true (List.mem_filter.mpr ⟨List.mem_filter.mpr ⟨hi, hp⟩, hq⟩)
      | false => exact decide_eq_false fun hm => by have := (List.mem_filter.mp hm).2; rw [hq] at this; cases this
    rw [this]
theorem filter_lt {α : Type} {q : α → Bool} {l : List α} {j : α} (h : j ∈ l) (hq : q j = false) : (l.filter q).length < l.length := by
  have h1 := List.length_filter_le q l
  have h2 : (l.filter q).length ≠ l.length := fun e => by
    have := (List.length_filter_eq_length_iff.mp e) j h
    rw [hq] at this; cases this
  omega
theorem putAll_take {ps : List (Nat × Int)} {i : Nat} {q : Nat × Int} (h : ps[i]? = some q) (f : List Int) : putAll f (ps.take (i + 1)) = (putAll f (ps.take i)).set q.1 q.2 := by
  unfold putAll
  rw [List.take_add_one, h]
  show List.foldl _ f (ps.take i ++ [q]) = _
  rw [List.foldl_append]
  rfl
theorem ixN_nat {n i : Nat} (h : i < n) : ixN n (i : Int) = some i := by
  unfold ixN
  rw [if_pos (by omega), if_pos (by omega)]
  simp
theorem map_set {α β : Type} (f : α → β) (l : List α) (i : Nat) (x : α) : (l.map f).set i (f x) = (l.set i x).map f := (List.map_set).symm
end My

/-! ### texts as lists of signs: parts, words, the longest, the wish -/
namespace My
open PySem L2
abbrev sO (l : List Nat) : Str := ⟨l.toArray⟩
theorem sO_tl (x : Str) : sO x.cps.toList = x := by
  cases x
  simp [sO]
/-- cut at each c -/
def cut (c : Nat) : List Nat → List (List Nat)
  | [] => [[]]
  | d :: r => if d = c then [] :: cut c r else match cut c r with
    | p :: ps => (d :: p) :: ps
    | [] => [[d]]
theorem cut_ne (c : Nat) : ∀ l, ∃ p ps, cut c l = p :: ps
  | [] => ⟨[], [], rfl⟩
  | d :: r => by
    obtain ⟨p, ps, e⟩ := cut_ne c r
    unfold cut
    by_cases h : d = c
    · rw [if_pos h]; exact ⟨_, _, rfl⟩
    · rw [if_neg h, e]; exact ⟨_, _, rfl⟩
theorem cut_hit {c : Nat} {r : List Nat} : cut c (c :: r) = [] :: cut c r := by
  conv => lhs; unfold cut
  rw [if_pos rfl]
theorem cut_miss {c d : Nat} {r p : List Nat} {ps : List (List Nat)} (h : d ≠ c) (e : cut c r = p :: ps) : cut c (d :: r) = (d :: p) :: ps := by
  conv => lhs; unfold cut
  rw [if_neg h, e]
theorem cut_len (c : Nat) : ∀ l : List Nat, (cut c l).length ≤ l.length + 1
  | [] => Nat.le_refl _
  | d :: r => by
    have ih := cut_len c r
    obtain ⟨p, ps, e⟩ := cut_ne c r
    by_cases h : d = c
    · subst h
      rw [cut_hit, List.length_cons, List.length_cons]; omega
    · rw [cut_miss h e, List.length_cons]
      rw [e, List.length_cons] at ih
      rw [List.length_cons]; omega
theorem spl_cut (c : Nat) : ∀ (l acc : List Nat), ∀ p ps, cut c l = p :: ps → TL.spl [c] 0 acc l = (acc ++ p) :: ps
  | [], acc, p, ps, e => by
    cases e
    rw [TL.spl_nil, List.append_nil]
  | d :: r, acc, p, ps, e => by
    obtain ⟨p', ps', e'⟩ := cut_ne c r
    by_cases h : d = c
    · subst h
      rw [cut_hit] at e
      cases e
      rw [TL.spl_hit (by simp [TL.pre]), List.append_nil]
      show acc :: TL.spl [d] 0 [] r = _
      rw [spl_cut d r [] p' ps' e', e', List.nil_append]
    · rw [cut_miss h e'] at e
      cases e
      rw [TL.spl_miss (by simp [TL.pre, h]), spl_cut c r _ p' ps e', List.append_assoc]; rfl
theorem split_cut {c : Nat} (hc : c < 256) (l : List Nat) : Txt.split (sO l) ⟨#[c]⟩ = (cut c l).map sO := by
  have := SX.split_S (a := l) (b := [c]) (by simp) (by simp [hc])
  obtain ⟨p, ps, e⟩ := cut_ne c l
  rw [spl_cut c l [] p ps e, List.nil_append, ← e] at this
  exact this
theorem join_sO (a : List Nat) (ys : List (List Nat)) : Txt.join (sO a) (ys.map sO) = sO (TL.joinL a ys) := SX.join_S a ys
theorem cut_append (c : Nat) (b : List Nat) : ∀ a : List Nat, cut c (a ++ c :: b) = cut c a ++ cut c b
  | [] => by rw [List.nil_append, cut_hit]; rfl
  | d :: r => by
    have ih := cut_append c b r
    obtain ⟨p, ps, e⟩ := cut_ne c r
    by_cases h : d = c
    · subst h
      rw [List.cons_append, cut_hit, cut_hit, ih]; rfl
    · rw [List.cons_append, cut_miss h e, cut_miss h (p := p) (ps := ps ++ cut c b) (by rw [ih, e]; rfl)]; rfl
/-- the words of a part -/
def wordsL (l : List Nat) : List (List Nat) := (cut 32 l).filter (!·.isEmpty)
def maxN : List Nat → Nat
  | [] => 0
  | a :: l => max a (maxN l)
theorem maxN_append : ∀ a b : List Nat, maxN (a ++ b) = max (maxN a) (maxN b)
  | [], b => by simp [maxN]
  | x :: a, b => by
    show max x (maxN (a ++ b)) = max (max x (maxN a)) (maxN b)
    rw [maxN_append a b]; omega
theorem foldl_maxN : ∀ (l : List Nat) (n : Nat), (l.map Int.ofNat).foldl max (n : Int) = ((max n (maxN l) : Nat) : Int)
  | [], n => by simp [maxN]
  | a :: l, n => by
    show (l.map Int.ofNat).foldl max (max (n : Int) (a : Int)) = _
    rw [show max (n : Int) (a : Int) = ((max n a : Nat) : Int) by omega, foldl_maxN l]
    show _ = ((max n (max a (maxN l)) : Nat) : Int)
    omega
/-! the longest -/
def longL (x : List Nat) : Nat := maxN (((cut 10 x).flatMap wordsL).map List.length)
/-- sign by sign: the run, the most -/
def lgM : Nat → Nat → List Nat → Nat
  | _, m, [] => m
  | r, m, c :: t => let r' := if c = 32 ∨ c = 10 then 0 else r + 1
    lgM r' (max m r') t
theorem lgM_max : ∀ (t : List Nat) (r m : Nat), lgM r m t = max m (lgM r 0 t)
  | [], r, m => by simp [lgM]
  | c :: t, r, m => by
    show lgM _ (max m _) t = max m (lgM _ (max 0 _) t)
    rw [lgM_max t _ (max m _), lgM_max t _ (max 0 _)]; omega
/-- the longest of a part's words, its first word begun with r signs -/
def lgP (r : Nat) (x : List Nat) : Nat := match cut 32 x with
  | [] => 0
  | h :: ts => max (r + h.length) (maxN (ts.map List.length))
theorem maxN_filter : ∀ l : List (List Nat), maxN ((l.filter (!·.isEmpty)).map List.length) = maxN (l.map List.length)
  | [] => rfl
  | [] :: l => by
    show maxN ((l.filter _).map _) = max 0 (maxN (l.map List.length))
    rw [maxN_filter l]; omega
  | (a :: p) :: l => by
    show max _ (maxN ((l.filter _).map _)) = max _ _
    rw [maxN_filter l]
theorem lgP_words (x : List Nat) : lgP 0 x = maxN ((wordsL x).map List.length) := by
  unfold wordsL
  rw [maxN_filter]
  unfold lgP
  obtain ⟨p, ps, e⟩ := cut_ne 32 x
  rw [e]
  show max (0 + p.length) _ = max p.length _
  rw [Nat.zero_add]
theorem lgP_nil (r : Nat) : lgP r [] = r := by
  show max (r + 0) 0 = r
  omega
theorem lgP_blank (r : Nat) (t : List Nat) : lgP r (32 :: t) = max r (lgP 0 t) := by
  unfold lgP
  obtain ⟨p, ps, e⟩ := cut_ne 32 t
  rw [cut_hit, e]
  show max (r + 0) (max p.length _) = max r (max (0 + p.length) _)
  rw [Nat.zero_add, Nat.add_zero]
theorem lgP_sign {r c : Nat} {t : List Nat} (h : c ≠ 32) : lgP r (c :: t) = lgP (r + 1) t := by
  unfold lgP
  obtain ⟨p, ps, e⟩ := cut_ne 32 t
  rw [cut_miss h e, e]
  show max (r + (p.length + 1)) _ = max (r + 1 + p.length) _
  rw [show r + (p.length + 1) = r + 1 + p.length by omega]
theorem lgP_ge (r : Nat) (t : List Nat) : r ≤ lgP r t := by
  unfold lgP
  obtain ⟨p, ps, e⟩ := cut_ne 32 t
  rw [e]
  show r ≤ max (r + p.length) _
  omega
theorem lgM_cut : ∀ (x : List Nat) (r m : Nat), r ≤ m → ∀ p ps, cut 10 x = p :: ps → lgM r m x = max m (max (lgP r p) (maxN (ps.map (lgP 0))))
  | [], r, m, hr, p, ps, e => by
    cases e
    rw [lgP_nil]
    show m = max m (max r 0)
    omega
  | c :: t, r, m, hr, p, ps, e => by
    obtain ⟨p', ps', e'⟩ := cut_ne 10 t
    by_cases h : c = 10
    · subst h
      rw [cut_hit, e'] at e
      cases e
      show lgM 0 (max m 0) t = _
      rw [lgM_cut t 0 (max m 0) (Nat.zero_le _) p' ps' e', lgP_nil]
      show max (max m 0) (max (lgP 0 p') _) = max m (max r (max (lgP 0 p') _))
      omega
    · rw [cut_miss h e'] at e
      cases e
      by_cases hb : c = 32
      · subst hb
        show lgM 0 (max m 0) t = _
        rw [lgM_cut t 0 (max m 0) (Nat.zero_le _) p' ps e', lgP_blank]
        omega
      · show lgM (if c = 32 ∨ c = 10 then 0 else r + 1) (max m (if c = 32 ∨ c = 10 then 0 else r + 1)) t = _
        rw [if_neg (by simp [h, hb]), lgM_cut t (r + 1) (max m (r + 1)) (by omega) p' ps e', lgP_sign hb]
        have := lgP_ge (r + 1) p'
        omega
theorem maxN_flat : ∀ l : List (List Nat), maxN ((l.flatMap wordsL).map List.length) = maxN (l.map (lgP 0))
  | [] => rfl
  | x :: l => by
    rw [List.flatMap_cons, List.map_append, maxN_append, maxN_flat l, ← lgP_words]; rfl
theorem long_M (x : List Nat) : longL x = lgM 0 0 x := by
  unfold longL
  obtain ⟨p, ps, e⟩ := cut_ne 10 x
  rw [lgM_cut x 0 0 (Nat.le_refl _) p ps e, maxN_flat, e]
  show max (lgP 0 p) _ = max 0 (max (lgP 0 p) _)
  omega
/-! the wish -/
def joined (l : List Nat) : List Nat := TL.joinL [32] (wordsL l)
def wishL (x : List Nat) : Nat := maxN ((cut 10 x).map fun p => (joined p).length)
def worth (l w : Nat) : Nat := l + (w - 1)
/-- sign by sign: the letters, the words, whether a word's end is ahead, the most -/
def wsM : Nat → Nat → Bool → Nat → List Nat → Nat
  | _, _, _, m, [] => m
  | l, w, b, m, c :: t => if c = 10 then wsM 0 0 true (max m 0) t
    else if c = 32 then wsM l w true (max m (worth l w)) t
    else wsM (l + 1) (w + (if b then 1 else 0)) false (max m (worth (l + 1) (w + (if b then 1 else 0)))) t
def begs : Bool → List Nat → Nat
  | _, [] => 0
  | b, c :: t => if c = 32 then begs true t else (if b then 1 else 0) + begs false t
def lets (l : List Nat) : Nat := (l.filter (· ≠ 32)).length
theorem begs_cut : ∀ (t : List Nat) (p : List Nat) (ps : List (List Nat)), cut 32 t = p :: ps → begs false t = (ps.filter (!·.isEmpty)).length ∧ begs true t = ((p :: ps).filter (!·.isEmpty)).length
  | [], p, ps, e => by cases e; exact ⟨rfl, rfl⟩
  | c :: t, p, ps, e => by
    obtain ⟨p', ps', e'⟩ := cut_ne 32 t
    have ih := begs_cut t p' ps' e'
    by_cases h : c = 32
    · subst h
      rw [cut_hit, e'] at e
      cases e
      exact ⟨ih.2, ih.2⟩
    · rw [cut_miss h e'] at e
      cases e
      refine ⟨?_, ?_⟩
      · show (if c = 32 then begs true t else 0 + begs false t) = _
        rw [if_neg h, ih.1]; omega
      · show (if c = 32 then begs true t else 1 + begs false t) = _
        rw [if_neg h, ih.1]
        show 1 + _ = (List.filter _ ((c :: p') :: ps)).length
        rw [List.filter_cons_of_pos (by rfl), List.length_cons]; omega
theorem lets_cut : ∀ (t : List Nat), ((cut 32 t).map List.length).sum = lets t
  | [] => rfl
  | c :: t => by
    have ih := lets_cut t
    obtain ⟨p, ps, e⟩ := cut_ne 32 t
    by_cases h : c = 32
    · subst h
      rw [cut_hit, List.map_cons, List.sum_cons, ih]
      show 0 + lets t = lets (32 :: t)
      unfold lets
      rw [List.filter_cons_of_neg (by simp)]; omega
    · rw [cut_miss h e]
      rw [e] at ih
      show (p.length + 1) + (ps.map List.length).sum = _
      have ih : p.length + (ps.map List.length).sum = lets t := ih
      unfold lets
      rw [List.filter_cons_of_pos (by simp [h]), List.length_cons]
      unfold lets at ih
      omega
theorem sum_filter : ∀ l : List (List Nat), ((l.filter (!·.isEmpty)).map List.length).sum = (l.map List.length).sum
  | [] => rfl
  | [] :: l => by
    show ((l.filter _).map _).sum = 0 + (l.map List.length).sum
    rw [sum_filter l]; omega
  | (a :: p) :: l => by
    rw [List.filter_cons_of_pos (by rfl), List.map_cons, List.map_cons, List.sum_cons, List.sum_cons, sum_filter l]
theorem joinL_len (s : Nat) : ∀ l : List (List Nat), (TL.joinL [s] l).length = (l.map List.length).sum + (l.length - 1)
  | [] => rfl
  | [p] => by show p.length = (p.length + 0) + 0; omega
  | p :: q :: r => by
    have ih := joinL_len s (q :: r)
    show (p ++ ([s] ++ TL.joinL [s] (q :: r))).length = (p.length + ((q :: r).map List.length).sum) + ((q :: r).length + 1 - 1)
    rw [List.length_append, List.length_append, ih]
    show p.length + (1 + _) = _
    have : (q :: r).length = r.length + 1 := rfl
    omega
theorem joined_len (p : List Nat) : (joined p).length = worth (lets p) (begs true p) := by
  obtain ⟨h, ts, e⟩ := cut_ne 32 p
  unfold joined
  rw [joinL_len]
  unfold wordsL
  rw [sum_filter, lets_cut, (begs_cut p h ts e).2, e]; rfl
/-- a part's worth, from letters, words and what is ahead -/
def wsP (l w : Nat) (b : Bool) (p : List Nat) : Nat := worth (l + lets p) (w + begs b p)
theorem worth_mono {l l' w w' : Nat} (h1 : l ≤ l') (h2 : w ≤ w') : worth l w ≤ worth l' w' := by unfold worth; omega
theorem wsM_cut : ∀ (x : List Nat) (l w : Nat) (b : Bool) (m : Nat), worth l w ≤ m → ∀ p ps, cut 10 x = p :: ps → wsM l w b m x = max m (max (wsP l w b p) (maxN (ps.map fun p => wsP 0 0 true p)))
  | [], l, w, b, m, hm, p, ps, e => by
    cases e
    show m = max m (max (worth (l + 0) (w + 0)) 0)
    rw [Nat.add_zero, Nat.add_zero]; omega
  | c :: t, l, w, b, m, hm, p, ps, e => by
    obtain ⟨p', ps', e'⟩ := cut_ne 10 t
    by_cases h : c = 10
    · subst h
      rw [cut_hit, e'] at e
      cases e
      show wsM 0 0 true (max m 0) t = _
      rw [wsM_cut t 0 0 true (max m 0) (by unfold worth; omega) p' ps' e']
      show max (max m 0) (max (wsP 0 0 true p') _) = max m (max (worth (l + 0) (w + 0)) (max (wsP 0 0 true p') _))
      rw [Nat.add_zero, Nat.add_zero]; omega
    · rw [cut_miss h e'] at e
      cases e
      by_cases hb : c = 32
      · subst hb
        show wsM l w true (max m (worth l w)) t = _
        rw [wsM_cut t l w true _ (by omega) p' ps e']
        have e1 : wsP l w b (32 :: p') = wsP l w true p' := by
          unfold wsP lets
          rw [List.filter_cons_of_neg (by simp)]
          rfl
        rw [e1]; omega
      · show (if c = 10 then wsM 0 0 true (max m 0) t else if c = 32 then wsM l w true (max m (worth l w)) t else wsM (l + 1) (w + (if b then 1 else 0)) false (max m (worth (l + 1) (w + (if b then 1 else 0)))) t) = _
        rw [if_neg h, if_neg hb, wsM_cut t (l + 1) _ false _ (by omega) p' ps e']
        have e1 : wsP l w b (c :: p') = wsP (l + 1) (w + (if b then 1 else 0)) false p' := by
          unfold wsP lets
          rw [List.filter_cons_of_pos (by simp [hb]), List.length_cons]
          show worth _ (w + (if c = 32 then begs true p' else (if b then 1 else 0) + begs false p')) = _
          rw [if_neg hb, show l + ((p'.filter (· ≠ 32)).length + 1) = l + 1 + (p'.filter (· ≠ 32)).length by omega, Nat.add_assoc w]
        have e2 : worth (l + 1) (w + (if b then 1 else 0)) ≤ wsP (l + 1) (w + (if b then 1 else 0)) false p' := worth_mono (by omega) (by omega)
        rw [e1]; omega
theorem wish_M (x : List Nat) : wishL x = wsM 0 0 true 0 x := by
  obtain ⟨p, ps, e⟩ := cut_ne 10 x
  rw [wsM_cut x 0 0 true 0 (by unfold worth; omega) p ps e]
  have e1 : ∀ q, (joined q).length = wsP 0 0 true q := fun q => by
    rw [joined_len]; unfold wsP; rw [Nat.zero_add, Nat.zero_add]
  unfold wishL
  rw [e]
  show max (joined p).length (maxN (ps.map fun p => (joined p).length)) = _
  rw [e1 p, show (fun p => (joined p).length) = (fun p => wsP 0 0 true p) from funext e1]; omega
theorem long_append (a b : List Nat) : longL (a ++ 10 :: b) = max (longL a) (longL b) := by
  unfold longL
  rw [cut_append, List.flatMap_append, List.map_append, maxN_append]
theorem wish_append (a b : List Nat) : wishL (a ++ 10 :: b) = max (wishL a) (wishL b) := by
  unfold wishL
  rw [cut_append, List.map_append, maxN_append]
/-! more blanks -/
def rep2 : List Nat → List Nat
  | [] => []
  | c :: t => if c = 32 then 32 :: 32 :: rep2 t else c :: rep2 t
theorem rep2_cut : ∀ x : List Nat, TL.joinL [32, 32] (cut 32 x) = rep2 x
  | [] => rfl
  | c :: t => by
    have ih := rep2_cut t
    obtain ⟨p, ps, e⟩ := cut_ne 32 t
    by_cases h : c = 32
    · subst h
      rw [cut_hit]
      rw [e] at ih ⊢
      show [] ++ ([32, 32] ++ TL.joinL [32, 32] (p :: ps)) = 32 :: 32 :: rep2 t
      rw [ih]; rfl
    · rw [cut_miss h e]
      rw [e] at ih
      have e2 : rep2 (c :: t) = c :: rep2 t := by
        show (if c = 32 then _ else _) = _
        rw [if_neg h]
      rw [e2, ← ih]
      cases ps <;> rfl
theorem rep2_len : ∀ x : List Nat, (rep2 x).length ≤ 2 * x.length
  | [] => Nat.le_refl _
  | c :: t => by
    have ih := rep2_len t
    show (if c = 32 then 32 :: 32 :: rep2 t else c :: rep2 t).length ≤ 2 * (t.length + 1)
    split
    · rw [List.length_cons, List.length_cons]; omega
    · rw [List.length_cons]; omega
theorem lgM_rep : ∀ (x : List Nat) (r m : Nat), lgM r m (rep2 x ++ [32, 32]) = lgM r m x
  | [], r, m => by
    show max (max m 0) 0 = m
    omega
  | c :: t, r, m => by
    by_cases h : c = 32
    · subst h
      show lgM 0 (max (max m 0) 0) (rep2 t ++ [32, 32]) = lgM 0 (max m 0) t
      rw [show max (max m 0) 0 = max m 0 by omega]
      exact lgM_rep t 0 _
    · show lgM r m ((if c = 32 then 32 :: 32 :: rep2 t else c :: rep2 t) ++ [32, 32]) = _
      rw [if_neg h]
      exact lgM_rep t _ _
theorem wsM_rep : ∀ (x : List Nat) (l w : Nat) (b : Bool) (m : Nat), worth l w ≤ m → wsM l w b m (rep2 x ++ [32, 32]) = wsM l w b m x
  | [], l, w, b, m, hm => by
    show max (max m (worth l w)) (worth l w) = m
    omega
  | c :: t, l, w, b, m, hm => by
    by_cases h : c = 32
    · subst h
      show wsM l w true (max (max m (worth l w)) (worth l w)) (rep2 t ++ [32, 32]) = wsM l w true (max m (worth l w)) t
      rw [show max (max m (worth l w)) (worth l w) = max m (worth l w) by omega]
      exact wsM_rep t l w true _ (by omega)
    · show wsM l w b m ((if c = 32 then 32 :: 32 :: rep2 t else c :: rep2 t) ++ [32, 32]) = _
      rw [if_neg h]
      show (if c = 10 then wsM 0 0 true (max m 0) (rep2 t ++ [32, 32]) else if c = 32 then wsM l w true (max m (worth l w)) (rep2 t ++ [32, 32]) else wsM (l + 1) (w + (if b then 1 else 0)) false (max m (worth (l + 1) (w + (if b then 1 else 0)))) (rep2 t ++ [32, 32])) = (if c = 10 then wsM 0 0 true (max m 0) t else if c = 32 then wsM l w true (max m (worth l w)) t else wsM (l + 1) (w + (if b then 1 else 0)) false (max m (worth (l + 1) (w + (if b then 1 else 0)))) t)
      by_cases h10 : c = 10
      · rw [if_pos h10, if_pos h10]
        exact wsM_rep t 0 0 true _ (by unfold worth; omega)
      · rw [if_neg h10, if_neg h10, if_neg h, if_neg h]
        exact wsM_rep t _ _ false _ (by omega)
def wideL (x : List Nat) : List Nat := 32 :: (rep2 x ++ [32, 32])
theorem long_wide (x : List Nat) : longL (wideL x) = longL x := by
  rw [long_M, long_M]
  exact lgM_rep x 0 0
theorem wish_wide (x : List Nat) : wishL (wideL x) = wishL x := by
  rw [wish_M, wish_M]
  exact wsM_rep x 0 0 true 0 (by unfold worth; omega)
theorem replace_rep (x : List Nat) : Txt.replace (sO x) " " "  " = sO (rep2 x) := by
  have h := StrLaws.replace_one (sO x) "  " 32
  have e1 : (⟨#[32]⟩ : Str) = " " := by decide +kernel
  have e2 : ("  " : Str) = sO [32, 32] := by decide +kernel
  rw [split_cut (by decide), e2, ← TL.join_eq, join_sO, rep2_cut] at h
  rw [← e1, e2]
  exact h
theorem max_cast (a b : Nat) : (if (a : Int) > (b : Int) then (a : Int) else (b : Int)) = ((max b a : Nat) : Int) := by
  split <;> omega
theorem worth_cast (le wo : Nat) : ((le : Int) + if (wo : Int) - 1 > 0 then (wo : Int) - 1 else 0) = ((worth le wo : Nat) : Int) := by
  unfold worth
  split <;> omega
theorem lgM_end {r m c : Nat} {t : List Nat} (e : c = 32 ∨ c = 10) : lgM r m (c :: t) = lgM 0 (max m 0) t := by
  show lgM (if c = 32 ∨ c = 10 then 0 else r + 1) (max m (if c = 32 ∨ c = 10 then 0 else r + 1)) t = _
  rw [if_pos e]
theorem lgM_run {r m c : Nat} {t : List Nat} (e : ¬ (c = 32 ∨ c = 10)) : lgM r m (c :: t) = lgM (r + 1) (max m (r + 1)) t := by
  show lgM (if c = 32 ∨ c = 10 then 0 else r + 1) (max m (if c = 32 ∨ c = 10 then 0 else r + 1)) t = _
  rw [if_neg e]
theorem wsM_feed {l w m c : Nat} {b : Bool} {t : List Nat} (e : c = 10) : wsM l w b m (c :: t) = wsM 0 0 true (max m (worth 0 0)) t := by subst e; rfl
theorem wsM_blank {l w m c : Nat} {b : Bool} {t : List Nat} (e : ¬ c = 10) (e2 : c = 32) : wsM l w b m (c :: t) = wsM l w true (max m (worth l w)) t := by subst e2; rfl
theorem wsM_sign {l w m c : Nat} {b : Bool} {t : List Nat} (e : ¬ c = 10) (e2 : ¬ c = 32) : wsM l w b m (c :: t) = wsM (l + 1) (w + (if b then 1 else 0)) false (max m (worth (l + 1) (w + (if b then 1 else 0)))) t := by
  show (if c = 10 then _ else if c = 32 then _ else _) = _
  rw [if_neg e, if_neg e2]
theorem cut_sum (c : Nat) : ∀ l : List Nat, ((cut c l).map List.length).sum ≤ l.length
  | [] => Nat.le_refl _
  | d :: r => by
    have ih := cut_sum c r
    obtain ⟨p, ps, e⟩ := cut_ne c r
    by_cases h : d = c
    · subst h
      rw [cut_hit, List.map_cons, List.sum_cons, List.length_cons]
      show 0 + _ ≤ _
      omega
    · rw [cut_miss h e, List.map_cons, List.sum_cons, List.length_cons, List.length_cons]
      rw [e, List.map_cons, List.sum_cons] at ih
      omega
theorem mem_sum {l : List (List Nat)} {p : List Nat} (h : p ∈ l) : p.length ≤ (l.map List.length).sum := by
  induction l with
  | nil => cases h
  | cons a l ih =>
    rw [List.map_cons, List.sum_cons]
    rcases List.mem_cons.mp h with rfl | h
    · omega
    · have := ih h; omega
theorem words_sum (p : List Nat) : ((wordsL p).map List.length).sum ≤ p.length := by
  unfold wordsL
  rw [sum_filter]
  exact cut_sum 32 p
theorem words_pos {p w : List Nat} (h : w ∈ wordsL p) : 0 < w.length := by
  have := (List.mem_filter.mp h).2
  cases w with
  | nil => cases this
  | cons a w => exact Nat.succ_pos _
theorem count_sum : ∀ {l : List (List Nat)}, (∀ w ∈ l, 0 < w.length) → l.length ≤ (l.map List.length).sum
  | [], _ => Nat.le_refl _
  | w :: l, h => by
    have h1 := h w (List.mem_cons_self ..)
    have h2 := count_sum fun y hy => h y (List.mem_cons_of_mem _ hy)
    rw [List.map_cons, List.sum_cons, List.length_cons]; omega
theorem words_count (p : List Nat) : (wordsL p).length ≤ p.length := Nat.le_trans (count_sum fun _ h => words_pos h) (words_sum p)
theorem flat_count : ∀ l : List (List Nat), (l.flatMap wordsL).length ≤ (l.map List.length).sum
  | [] => Nat.le_refl _
  | p :: l => by
    rw [List.flatMap_cons, List.length_append, List.map_cons, List.sum_cons]
    have h1 := words_count p
    have h2 := flat_count l
    omega
theorem part_len {c : Nat} {l p : List Nat} (h : p ∈ cut c l) : p.length ≤ l.length := Nat.le_trans (mem_sum h) (cut_sum c l)
theorem flat_take (f : List Nat → List (List Nat)) (l : List (List Nat)) (i : Nat) : ((l.take i).flatMap f).length ≤ (l.flatMap f).length := by
  conv => rhs; rw [← List.take_append_drop i l]
  rw [List.flatMap_append, List.length_append]; omega
theorem maxN_ge : ∀ {l : List Nat} {k : Nat}, k ∈ l → k ≤ maxN l
  | a :: l, k, h => by
    show k ≤ max a (maxN l)
    rcases List.mem_cons.mp h with rfl | h
    · omega
    · have := maxN_ge h; omega
theorem maxN_le : ∀ {l : List Nat} {m : Nat}, (∀ k ∈ l, k ≤ m) → maxN l ≤ m
  | [], m, _ => Nat.zero_le _
  | a :: l, m, h => by
    show max a (maxN l) ≤ m
    have h1 := h a (List.mem_cons_self ..)
    have h2 := maxN_le fun k hk => h k (List.mem_cons_of_mem _ hk)
    omega
theorem maxN_of {l : List Nat} {m : Int} (h : m ∈ l.map Int.ofNat) (g : ∀ y ∈ l.map Int.ofNat, y ≤ m) : m = ((maxN l : Nat) : Int) := by
  obtain ⟨k, hk, rfl⟩ := List.mem_map.mp h
  have h1 := maxN_ge hk
  have h2 : maxN l ≤ k := maxN_le fun j hj => by
    have := g _ (List.mem_map.mpr ⟨j, hj, rfl⟩)
    exact Int.ofNat_le.mp this
  show ((k : Nat) : Int) = _
  omega
/-! the signs of words -/
def alphL : List Nat := (Str.ofString "!\"#$&'()*+,-./0123456789:;<=>?@ABCDEFGHIJKLMNOPQRSTUVWXYZ[\\]^_`abcdefghijklmnopqrstuvwxyz{}~").cps.toList
theorem alph_len : alphL.length = 92 := by decide +kernel
theorem alph_ok : ∀ c ∈ alphL, 33 ≤ c ∧ c < 127 := by decide +kernel
def signL (f s : Int) (k : Nat) : Nat := alphL.getD ((f + s * (k : Int)) % 92).toNat 33
theorem signL_at (f s : Int) (k : Nat) : atI alphL ((f + s * (k : Int)) % 92) = some (signL f s k) := by
  have h0 := Int.emod_nonneg (f + s * (k : Int)) (b := 92) (by decide)
  have h1 := Int.emod_lt_of_pos (f + s * (k : Int)) (b := 92) (by decide)
  unfold signL
  generalize (f + s * (k : Int)) % 92 = i at h0 h1
  obtain ⟨j, rfl⟩ := Int.eq_ofNat_of_zero_le h0
  have hj : j < alphL.length := by rw [alph_len]; omega
  unfold atI
  rw [ixN_nat hj, Int.toNat_natCast, List.getD_eq_getElem?_getD, List.getElem?_eq_getElem hj]
  exact List.getElem?_eq_getElem hj
theorem signL_ok (f s : Int) (k : Nat) : 33 ≤ signL f s k ∧ signL f s k < 127 := by
  have h := signL_at f s k
  unfold atI at h
  obtain ⟨j, _, hj⟩ := Option.bind_eq_some_iff.mp h
  exact alph_ok _ (List.mem_of_getElem? hj)
theorem joinL_signs : ∀ l : List Nat, TL.joinL [] (l.map fun c => [c]) = l
  | [] => rfl
  | [c] => rfl
  | c :: d :: l => by
    show [c] ++ ([] ++ TL.joinL [] ((d :: l).map fun c => [c])) = _
    rw [joinL_signs (d :: l)]; rfl
end My

/-! ### rules for texts -/
namespace My
open PySem PySem.Spec PyProof.Rows L2
section
variable {X : Cx}
/-- c * n -/
def rRepS : R2 := fun x y H Q => ∃ (c : Nat) (n : Nat), x = .str ⟨#[c]⟩ ∧ y = .int (n : Int) ∧ 1 ≤ n ∧ n ≤ 1000 ∧ Q (.str (sO (List.replicate n c))) H
theorem fold_rep (c : Nat) : ∀ (n : Nat) (acc : Array Nat), ((List.replicate n #[c]).foldl (· ++ ·) acc) = (acc.toList ++ List.replicate n c).toArray
  | 0, acc => by simp
  | n + 1, acc => by
    rw [List.replicate_succ, List.foldl_cons, fold_rep c n]
    simp [List.replicate_succ]
theorem op_repS : OpR X (binaryOp .Mult) rRepS := by
  intro pins s σ H x y v u Q I rx ry h
  obtain ⟨c, n, rfl, rfl, n1, n2, q⟩ := h
  obtain ⟨t, rfl⟩ := rx
  obtain ⟨t', rfl⟩ := ry
  refine P.mul_str ?_ (fun _ _ => ?_) (fun _ _ => ?_) ?_
  · rw [decide_eq_false (by omega), decide_eq_false (by omega)]; rfl
  · show ¬ (((#[c] : Array Nat).size : Int) > _)
    have h1 : (n : Int) ≤ 1000 := by omega
    have h2 : 1 ≤ (2 ^ 63 - 1 : Int) / (n : Int) := by
      apply Int.le_ediv_of_mul_le (by omega)
      omega
    show ¬ ((1 : Nat) : Int) > _
    omega
  · show PySem.Builtin.Str.tooLong (1 * (n : Int).toNat) = false
    unfold PySem.Builtin.Str.tooLong
    exact decide_eq_false (by rw [sizeLine_eq]; simp; omega)
  · rw [if_neg (by omega)]
    have e : (⟨(List.replicate (n : Int).toNat (⟨#[c]⟩ : Str).cps).foldl (· ++ ·) #[]⟩ : Str) = sO (List.replicate n c) := by
      rw [Int.toNat_natCast]
      show (⟨(List.replicate n #[c]).foldl (· ++ ·) #[]⟩ : Str) = _
      rw [fold_rep]; simp [sO]
    split
    · rename_i h
      have hn : n = 1 := by
        have : ((⟨#[c]⟩ : Str).length == 0) = false := rfl
        rw [this, Bool.or_false] at h
        have := eq_of_beq h
        omega
      subst hn
      exact ⟨.str (sO [c]), H, I, ⟨t, rfl⟩, q⟩
    · rw [e]
      refine ⟨?_, .str _, H, I.tok _, ⟨_, rfl⟩, q⟩
      show (List.replicate n c).toArray.size ≤ sizeLine
      rw [List.size_toArray, List.length_replicate, sizeLine_eq]; omega
/-- x.split(c): a new list of the parts -/
theorem mt_splitN : MtR X "str.split" (fun x xs H Q => ∃ (l : List Nat) (c : Nat), x = .str (sO l) ∧ xs = [.str ⟨#[c]⟩] ∧ c < 256 ∧ l.length + 2 ≤ sizeLine ∧ New H (.lst ((cut c l).map fun p => .str (sO p))) Q) := by
  intro pins s σ H x xs v us Q I rx rs h
  obtain ⟨l, c, rfl, rfl, hc, hl, q⟩ := h
  refine mt_split pins s σ H _ _ v us Q I rx rs ⟨sO l, ⟨#[c]⟩, rfl, rfl, rfl, hl, fun p hp => ?_⟩
  rw [split_cut hc, List.map_map]
  exact q.go p hp
theorem pe_splitN {o e : Expr} {to te : TE} {apos pos : Pos} (ho : PE X o to) (he : PE X e te) (hs : starEach [e] X.env = [(false, eval e X.env)] := by rfl) (hbase : attributeBase o "split" X.env (eval o X.env) = eval o X.env := by rfl) (hline : (apos.endLine == pos.line) = true := by rfl) :
    PE X (.Call (.Attribute o "split" apos) [e] [] pos) (tM1 (fun x xs H Q => ∃ (l : List Nat) (c : Nat), x = .str (sO l) ∧ xs = [.str ⟨#[c]⟩] ∧ c < 256 ∧ l.length + 2 ≤ sizeLine ∧ New H (.lst ((cut c l).map fun p => .str (sO p))) Q) to te) :=
  pe_m1 PySem.F.slot_str_split PySem.F.type_str_split mt_splitN ho he hs hbase hline
/-- sep.join(list of texts) -/
theorem mt_joinN {K : PySem.W.Frag} (hK : X.K = K) : MtR X "str.join" (fun x xs H Q => ∃ (a : List Nat) (p : Addr) (ys : List (List Nat)), x = .str (sO a) ∧ xs = [.ref p] ∧ SqL K H p (ys.map fun y => V.str (sO y)) ∧ (ys.map List.length).sum + ys.length * a.length ≤ 16777216 ∧ Q (.str (sO (TL.joinL a ys))) H) := by
  intro pins s σ H x xs v us Q I rx rs h
  obtain ⟨a, p, ys, rfl, rfl, hp, hz, q⟩ := h
  subst hK
  refine mt_join pins s σ H _ _ v us Q I rx rs ⟨sO a, p, ys.map sO, rfl, rfl, .inl (by rw [List.map_map]; exact hp), ?_, ?_⟩
  · rw [List.map_map, List.length_map]; exact hz
  · rw [join_sO]; exact q
theorem pe_joinN {K : PySem.W.Frag} (hK : X.K = K) {o e : Expr} {to te : TE} {apos pos : Pos} (ho : PE X o to) (he : PE X e te) (hs : starEach [e] X.env = [(false, eval e X.env)] := by rfl) (hbase : attributeBase o "join" X.env (eval o X.env) = eval o X.env := by rfl) (hline : (apos.endLine == pos.line) = true := by rfl) :
    PE X (.Call (.Attribute o "join" apos) [e] [] pos) (tM1 (fun x xs H Q => ∃ (a : List Nat) (p : Addr) (ys : List (List Nat)), x = .str (sO a) ∧ xs = [.ref p] ∧ SqL K H p (ys.map fun y => V.str (sO y)) ∧ (ys.map List.length).sum + ys.length * a.length ≤ 16777216 ∧ Q (.str (sO (TL.joinL a ys))) H) to te) :=
  pe_m1 PySem.F.slot_str_join PySem.F.type_str_join (mt_joinN hK) ho he hs hbase hline
/-- 'c' op e where e wants a token -/
theorem pe_opT {op : Operator} {r : R2} {c : Str} {j : Nat} {p pos : Pos} {f : Expr} {tf : TE} (ho : OpR X (binaryOp op) r) (hb : PET X f tf) : PE X (.BinOp (.Constant (.str c) j p) op f pos) (tOp r (tC (.str c)) tf) := by
  refine ⟨fun pins s σ H Q I h => ?_⟩
  refine wpAny_BinOp (PySem.Calls.Constant_str ?_)
  exact thn (hb pins _ σ H _ (Nat.succ_le_succ (Nat.zero_le _)) (I.tok _) h) fun u s2 ⟨y, H2, I2, r2, q2⟩ => ho pins s2 σ H2 (.str c) y _ u Q I2 ⟨_, rfl⟩ r2 q2
end
/-! #### walks -/
theorem it_list {K : PySem.W.Frag} {a : Addr} {xs : List V} {Qd : Hp → Prop} {Body : (Hp → Prop) → V → Hp → Prop} {H0 : Hp} (Pv : Nat → Hp → Prop) (h0 : Pv 0 H0) (hl : ∀ i H, i ≤ xs.length → Pv i H → SqL K H a xs)
    (hs : ∀ i x H, xs[i]? = some x → Pv i H → Body (Pv (i + 1)) x H) (hd : ∀ H, Pv xs.length H → Qd H) :
    ∃ W : Nat → Nat → Hp → Prop, (∃ m, W 0 m H0) ∧ ∀ i m H, W i m H →
      ((Itl K a).stop i H ∧ Qd H) ∨ ((Itl K a).go i H ∧ ∃ Nx : Hp → Prop, (∀ H', Nx H' → ∃ m', m' < m ∧ W (i + 1) m' H') ∧ ∀ x H', (Itl K a).yld i H x H' → Body Nx x H') := by
  refine ⟨fun i m H => m = xs.length - i ∧ i ≤ xs.length ∧ Pv i H, ⟨xs.length, by simp, Nat.zero_le _, h0⟩, ?_⟩
  rintro i m H ⟨rfl, hi, p⟩
  have q := hl i H hi p
  by_cases hlt : i < xs.length
  · refine .inr ⟨⟨xs, xs[i], q, by simp [hlt]⟩, Pv (i + 1), fun H' p' => ⟨xs.length - (i + 1), by omega, rfl, hlt, p'⟩, fun x H' y => ?_⟩
    obtain ⟨e, y⟩ := y
    subst e
    exact hs i x _ (y xs q) p
  · have e : i = xs.length := by omega
    subst e
    exact .inl ⟨⟨xs, q, Nat.le_refl _⟩, hd H p⟩
/-- for c in a text -/
theorem for_str {l : List Nat} {g : TG} {tb : TS} {D : Ends} {σ : L2.St} {H : Hp} (Pv : Nat → L2.St → Hp → Prop) (h0 : Pv 0 σ H)
    (hs : ∀ i c σ H, l[i]? = some c → Pv i σ H → g (.str ⟨#[c]⟩) σ H fun σ2 H2 => tb { D with nx := Pv (i + 1), ct := Pv (i + 1), bk := D.nx } σ2 H2) (hd : ∀ σ H, Pv l.length σ H → D.nx σ H) :
    ∃ W : Nat → Nat → L2.St → Hp → Prop, (∃ m, W 0 m σ H) ∧ ∀ i m σ H, W i m σ H →
      ((Its (sO l)).stop i H ∧ D.nx σ H) ∨ ((Its (sO l)).go i H ∧ ∃ N : L2.St → Hp → Prop, (∀ σ' H', N σ' H' → ∃ m', m' < m ∧ W (i + 1) m' σ' H') ∧ ∀ x H', (Its (sO l)).yld i H x H' → g x σ H' fun σ2 H2 => tb { D with nx := N, ct := N, bk := D.nx } σ2 H2) := by
  refine ⟨fun i m σ H => m = l.length - i ∧ i ≤ l.length ∧ Pv i σ H, ⟨l.length, by simp, Nat.zero_le _, h0⟩, ?_⟩
  rintro i m σ H ⟨rfl, hi, p⟩
  by_cases hlt : i < l.length
  · refine .inr ⟨?_, Pv (i + 1), fun σ' H' p' => ⟨l.length - (i + 1), by omega, rfl, hlt, p'⟩, fun x H' y => ?_⟩
    · show i < l.toArray.size
      rw [List.size_toArray]; exact hlt
    · obtain ⟨rfl, c, hc, rfl⟩ := y
      have hc : l.toArray[i]? = some c := hc
      rw [List.getElem?_toArray] at hc
      exact hs i c σ _ hc p
  · have e : i = l.length := by omega
    subst e
    refine .inl ⟨?_, hd σ H p⟩
    show l.toArray.size ≤ l.length
    rw [List.size_toArray]; exact Nat.le_refl _
/-! #### written texts -/
theorem blank_eq : Str.ofString " " = ⟨#[32]⟩ := by decide +kernel
theorem feed_eq : Str.ofString "\n" = ⟨#[10]⟩ := by decide +kernel
theorem ends_eq : Str.ofString " \n" = sO [32, 10] := by decide +kernel
theorem empty_eq : Str.ofString "" = sO [] := by decide +kernel
theorem str_inj_dec {l m : List Nat} : decide (V.str (sO l) = V.str (sO m)) = decide (l = m) := decide_eq_decide.mpr ⟨fun e => by
  have := congrArg (fun v => match v with | V.str x => x.cps.toList | _ => []) e
  simpa [sO] using this, fun e => by rw [e]⟩
theorem empty_dec {l : List Nat} : decide (V.str (sO l) = V.str (Str.ofString "")) = l.isEmpty := by
  rw [empty_eq, str_inj_dec]
  cases l <;> rfl
theorem sign_dec {c d : Nat} : decide (V.str ⟨#[c]⟩ = V.str ⟨#[d]⟩) = decide (c = d) := by
  have := str_inj_dec (l := [c]) (m := [d])
  rw [show (V.str ⟨#[c]⟩) = V.str (sO [c]) from rfl, show (V.str ⟨#[d]⟩) = V.str (sO [d]) from rfl, this]
  exact decide_eq_decide.mpr ⟨fun e => by cases e; rfl, fun e => by rw [e]⟩
theorem feed_dec {c : Nat} : decide (V.str ⟨#[c]⟩ = V.str (Str.ofString "\n")) = decide (c = 10) := by rw [feed_eq, sign_dec]
theorem blank_dec {c : Nat} : decide (V.str ⟨#[c]⟩ = V.str (Str.ofString " ")) = decide (c = 32) := by rw [blank_eq, sign_dec]
theorem ends_dec {c : Nat} : decide (c ∈ (Str.ofString " \n").cps.toList) = decide (c = 32 ∨ c = 10) := by
  rw [ends_eq]
  exact decide_eq_decide.mpr (by simp [sO])
theorem sO_append (a b : List Nat) : sO a ++ sO b = sO (a ++ b) := by
  show (⟨a.toArray ++ b.toArray⟩ : Str) = ⟨(a ++ b).toArray⟩
  simp
theorem sO_len (l : List Nat) : (sO l).length = l.length := by
  show l.toArray.size = _
  rw [List.size_toArray]
theorem cutS_take (l : List Nat) (m : Nat) : cutS (sO l) none (some (m : Int)) = sO (l.take m) := by
  unfold cutS
  rw [HT.sIx_none, HT.sIx_nat, Nat.sub_zero, List.drop_zero, sO_len]
  show sO (l.take (min m l.length)) = _
  by_cases h : m ≤ l.length
  · rw [Nat.min_eq_left h]
  · rw [Nat.min_eq_right (by omega), List.take_of_length_le (Nat.le_refl _), List.take_of_length_le (by omega)]
end My

/-! ### max(xs, default = d) of ints -/
namespace My
open PySem PySem.Spec PyProof.Rows L2
def maxDef (d : Int) : List Int → Int
  | [] => d
  | n :: ns => ns.foldl max n
def rMaxDef (K : PySem.W.Frag) : List V → List V → Hp → VK → Prop := fun vs zs H Q => ∃ (a : Addr) (ns : List Int) (d : Int), vs = [.ref a] ∧ zs = [.int d] ∧ SqL K H a (ns.map V.int) ∧ Q (.int (maxDef d ns)) H
theorem reads_ints {h : Heap} : ∀ {ns : List Int} {us : List Value}, Vals (ns.map V.int) us → ∃ as, ReadsAll h us (ns.map .int) as
  | [], _, .nil => ⟨_, .nil⟩
  | n :: ns, _, .cons r t => by
    obtain ⟨k, rfl⟩ := r
    obtain ⟨as, ha⟩ := reads_ints (h := h) t
    exact ⟨_, .cons (.int n k) ha⟩
theorem cr_maxDef {X : Cx} (hc : X.calm = true) (hu : X.A.units + 64 < cLine) : CallRK X (.builtin "max") [Str.ofString "default"] (rMaxDef X.K) := by
  intro pins s σ H vs zs us ws Q I r rz h
  obtain ⟨a, ns, d, rfl, rfl, hs, q⟩ := h
  obtain rfl := Vals.ref1 r
  obtain ⟨w1, rfl, e1⟩ := vals1 rz
  obtain ⟨tk, rfl⟩ := e1
  obtain ⟨its, rv, hl, hz⟩ := I.list hs
  obtain ⟨as, hr⟩ := reads_ints (h := s.heap) rv
  have hd : PyData.depthAll (ns.map PyData.int) ≤ 1 := depthAll_map (g := PyData.int) (m := 1) (fun x => by simp [PyData.depth]) ns
  refine PySem.W.max_list_default (I.ok.hd hc) hl.isList (by simpa using hr) ?_ (by omega) (fun e h' tk2 hk => ?_) (fun y ys i v h' tk2 bs e hv hrd hk => ?_)
  · refine ⟨fun x hx y hy => ?_, fun x hx => ?_⟩
    · obtain ⟨n, _, rfl⟩ := List.mem_map.mp hx
      obtain ⟨m, _, rfl⟩ := List.mem_map.mp hy
      rfl
    · obtain ⟨n, _, rfl⟩ := List.mem_map.mp hx
      intro z; cases z
  · cases ns with
    | nil => exact ⟨.int d, H, I.kept hk, ⟨tk, rfl⟩, q⟩
    | cons n ns => cases e
  · cases ns with
    | nil => cases e
    | cons n ns =>
      cases e
      rw [PySem.W.maxD_ints] at hrd
      obtain ⟨t, rfl, _⟩ := reads_int_inv hrd
      exact ⟨.int _, H, I.kept hk, ⟨t, rfl⟩, q⟩
theorem cr_maxDefK {X : Cx} {K : PySem.W.Frag} (hc : X.calm = true) (hu : X.A.units + 64 < cLine) (h : X.K = K) : CallRK X (.builtin "max") [Str.ofString "default"] (rMaxDef K) := by subst h; exact cr_maxDef hc hu
theorem maxDef_N (l : List Nat) : maxDef 0 (l.map Int.ofNat) = ((maxN l : Nat) : Int) := by
  cases l with
  | nil => rfl
  | cons a l =>
    show (l.map Int.ofNat).foldl max (a : Int) = _
    rw [foldl_maxN]; rfl
end My

/-! ### lines of a part, of a text, at a width -/
namespace My
open PySem L2
abbrev jn (g : List (List Nat)) : List Nat := TL.joinL [32] g
theorem jn_snoc : ∀ (g : List (List Nat)) (x : List Nat), g ≠ [] → jn (g ++ [x]) = jn g ++ 32 :: x
  | [], _, h => absurd rfl h
  | [a], x, _ => rfl
  | a :: b :: g, x, _ => by
    have ih := jn_snoc (b :: g) x (by simp)
    show a ++ ([32] ++ jn (b :: g ++ [x])) = (a ++ ([32] ++ jn (b :: g))) ++ 32 :: x
    rw [ih]; simp
theorem jn_ne {g : List (List Nat)} (h : g ≠ []) (hw : ∀ w ∈ g, 0 < w.length) : jn g ≠ [] := by
  cases g with
  | nil => exact absurd rfl h
  | cons a g =>
    have ha := hw a (List.mem_cons_self ..)
    cases a with
    | nil => cases ha
    | cons c a => cases g <;> (intro e; cases e)
/-- the lines that come of a line begun and the words behind it -/
def lnsM (w : Nat) : List (List Nat) → List Nat → List (List Nat)
  | [], line => [line]
  | x :: ws, line => if line.isEmpty then lnsM w ws x else if line.length + 1 + x.length ≤ w then lnsM w ws (line ++ 32 :: x) else line :: lnsM w ws x
def linesL (w : Nat) (p : List Nat) : List (List Nat) := lnsM w (wordsL p) []
def wrapL (w : Nat) (x : List Nat) : List (List Nat) := (cut 10 x).flatMap (linesL w)
/-! #### by groups of words -/
/-- how many of the words stand behind a line of l signs -/
def moreN (w : Nat) : Nat → List (List Nat) → Nat
  | _, [] => 0
  | l, x :: ws => if l + 1 + x.length ≤ w then moreN w (l + 1 + x.length) ws + 1 else 0
/-- how many of the words stand in one line, one at least -/
def fitN (w : Nat) : List (List Nat) → Nat
  | [] => 0
  | x :: ws => moreN w x.length ws + 1
/-- the words, line by line -/
def grpM (w : Nat) : List (List Nat) → List (List Nat) → List (List (List Nat))
  | [], g => [g]
  | x :: ws, g => if (jn g).length + 1 + x.length ≤ w then grpM w ws (g ++ [x]) else g :: grpM w ws [x]
def brk (w : Nat) : List (List Nat) → List (List (List Nat))
  | [] => []
  | x :: ws => grpM w ws [x]
theorem lnsM_grp (w : Nat) : ∀ (ws g : List (List Nat)), (∀ x ∈ ws, 0 < x.length) → g ≠ [] → (∀ x ∈ g, 0 < x.length) → lnsM w ws (jn g) = (grpM w ws g).map jn
  | [], g, _, _, _ => rfl
  | x :: ws, g, hw, hg, hgw => by
    have hx := hw x (List.mem_cons_self ..)
    have hw' := fun y hy => hw y (List.mem_cons_of_mem x hy)
    have e1 : (jn g).isEmpty = false := by
      have := jn_ne hg hgw
      cases h : jn g with
      | nil => exact absurd h this
      | cons a b => rfl
    show (if (jn g).isEmpty = true then _ else _) = _
    rw [e1, if_neg (by decide)]
    show _ = (if (jn g).length + 1 + x.length ≤ w then grpM w ws (g ++ [x]) else g :: grpM w ws [x]).map jn
    by_cases h : (jn g).length + 1 + x.length ≤ w
    · rw [if_pos h, if_pos h, ← jn_snoc g x hg]
      refine lnsM_grp w ws _ hw' (by simp) fun y hy => ?_
      rcases List.mem_append.mp hy with h | h
      · exact hgw y h
      · rw [List.mem_singleton.mp h]; exact hx
    · rw [if_neg h, if_neg h, List.map_cons]
      have := lnsM_grp w ws [x] hw' (by simp) fun y hy => by rw [List.mem_singleton.mp hy]; exact hx
      rw [← this]; rfl
/-- the lines of a part: of its words, or one without signs -/
def lineG (w : Nat) (ws : List (List Nat)) : List (List Nat) := if ws.isEmpty then [[]] else (brk w ws).map jn
theorem lines_grp (w : Nat) (p : List Nat) : linesL w p = lineG w (wordsL p) := by
  unfold linesL lineG
  have hp : ∀ x ∈ wordsL p, 0 < x.length := fun x h => words_pos h
  generalize wordsL p = ws at hp
  cases ws with
  | nil => rfl
  | cons x ws =>
    have hx := hp x (List.mem_cons_self ..)
    show lnsM w ws x = (grpM w ws [x]).map jn
    rw [← lnsM_grp w ws [x] (fun y hy => hp y (List.mem_cons_of_mem _ hy)) (by simp) fun y hy => by rw [List.mem_singleton.mp hy]; exact hx]
    rfl
theorem grpM_more (w : Nat) : ∀ (ws g : List (List Nat)), g ≠ [] → grpM w ws g = (g ++ ws.take (moreN w (jn g).length ws)) :: brk w (ws.drop (moreN w (jn g).length ws))
  | [], g, _ => by show [g] = (g ++ []) :: []; rw [List.append_nil]
  | x :: ws, g, hg => by
    show (if (jn g).length + 1 + x.length ≤ w then grpM w ws (g ++ [x]) else g :: grpM w ws [x]) = (g ++ (x :: ws).take (if (jn g).length + 1 + x.length ≤ w then moreN w ((jn g).length + 1 + x.length) ws + 1 else 0)) :: brk w ((x :: ws).drop (if (jn g).length + 1 + x.length ≤ w then moreN w ((jn g).length + 1 + x.length) ws + 1 else 0))
    by_cases h : (jn g).length + 1 + x.length ≤ w
    · have e : (jn (g ++ [x])).length = (jn g).length + 1 + x.length := by
        rw [jn_snoc g x hg, List.length_append, List.length_cons]; omega
      rw [if_pos h, if_pos h, grpM_more w ws _ (by simp), e, List.take_succ_cons, List.drop_succ_cons, List.append_assoc]; rfl
    · rw [if_neg h, if_neg h, List.take_zero, List.drop_zero, List.append_nil]; rfl
theorem brk_cons (w : Nat) {ws : List (List Nat)} (h : ws ≠ []) : brk w ws = ws.take (fitN w ws) :: brk w (ws.drop (fitN w ws)) := by
  cases ws with
  | nil => exact absurd rfl h
  | cons x ws =>
    show grpM w ws [x] = _
    rw [grpM_more w ws [x] (by simp)]; rfl
theorem moreN_le (w : Nat) : ∀ (ws : List (List Nat)) (l : Nat), moreN w l ws ≤ ws.length
  | [], l => Nat.le_refl _
  | x :: ws, l => by
    show (if l + 1 + x.length ≤ w then moreN w (l + 1 + x.length) ws + 1 else 0) ≤ ws.length + 1
    have := moreN_le w ws (l + 1 + x.length)
    split <;> omega
theorem fitN_le (w : Nat) (ws : List (List Nat)) : fitN w ws ≤ ws.length := by
  cases ws with
  | nil => exact Nat.le_refl _
  | cons x ws => exact Nat.succ_le_succ (moreN_le w ws _)
theorem fitN_pos (w : Nat) {ws : List (List Nat)} (h : ws ≠ []) : 1 ≤ fitN w ws := by
  cases ws with
  | nil => exact absurd rfl h
  | cons x ws => exact Nat.succ_le_succ (Nat.zero_le _)
theorem take_ne {α : Type} {ws : List α} {m : Nat} (h1 : 1 ≤ m) (h : ws ≠ []) : ws.take m ≠ [] := by
  cases ws with
  | nil => exact absurd rfl h
  | cons a ws =>
    obtain ⟨k, rfl⟩ : ∃ k, m = k + 1 := ⟨m - 1, by omega⟩
    rw [List.take_succ_cons]; simp
/-- the loop: so many words stand, and so many more -/
theorem fit_step (w : Nat) {ws : List (List Nat)} {m : Nat} (h1 : 1 ≤ m) (hm : m < ws.length) : moreN w (jn (ws.take m)).length (ws.drop m) = if (jn (ws.take (m + 1))).length ≤ w then moreN w (jn (ws.take (m + 1))).length (ws.drop (m + 1)) + 1 else 0 := by
  have e1 : ws.drop m = ws[m] :: ws.drop (m + 1) := List.drop_eq_getElem_cons hm
  have e2 : ws.take (m + 1) = ws.take m ++ [ws[m]] := List.take_succ_eq_append_getElem hm
  have e3 : (jn (ws.take (m + 1))).length = (jn (ws.take m)).length + 1 + ws[m].length := by
    rw [e2, jn_snoc _ _ (take_ne h1 (by intro e; rw [e] at hm; cases hm)), List.length_append, List.length_cons]; omega
  rw [e1, e3]; rfl
theorem fit_one (w : Nat) {ws : List (List Nat)} (h : ws ≠ []) : fitN w ws = 1 + moreN w (jn (ws.take 1)).length (ws.drop 1) := by
  cases ws with
  | nil => exact absurd rfl h
  | cons x ws => show moreN w x.length ws + 1 = 1 + moreN w x.length ws; omega
theorem brk_flat (w : Nat) : ∀ (n : Nat) (ws : List (List Nat)), ws.length ≤ n → (brk w ws).flatten = ws
  | 0, ws, h => by
    have : ws = [] := List.length_eq_zero_iff.mp (by omega)
    subst this; rfl
  | n + 1, ws, h => by
    by_cases e : ws = []
    · subst e; rfl
    · have h1 := fitN_pos w e
      rw [brk_cons w e, List.flatten_cons, brk_flat w n _ (by rw [List.length_drop]; omega), List.take_append_drop]
theorem brk_words (w : Nat) (ws : List (List Nat)) : (brk w ws).flatten = ws := brk_flat w _ ws (Nat.le_refl _)
theorem brk_ne (w : Nat) : ∀ (n : Nat) (ws : List (List Nat)), ws.length ≤ n → ∀ g ∈ brk w ws, g ≠ []
  | 0, ws, h, g, hg => by
    have : ws = [] := List.length_eq_zero_iff.mp (by omega)
    subst this; cases hg
  | n + 1, ws, h, g, hg => by
    by_cases e : ws = []
    · subst e; cases hg
    · have h1 := fitN_pos w e
      rw [brk_cons w e] at hg
      rcases List.mem_cons.mp hg with rfl | hg
      · exact take_ne h1 e
      · exact brk_ne w n _ (by rw [List.length_drop]; omega) g hg
theorem brk_len (w : Nat) : ∀ (n : Nat) (ws : List (List Nat)), ws.length ≤ n → (brk w ws).length ≤ ws.length
  | 0, ws, h => by
    have : ws = [] := List.length_eq_zero_iff.mp (by omega)
    subst this; exact Nat.le_refl _
  | n + 1, ws, h => by
    by_cases e : ws = []
    · subst e; exact Nat.le_refl _
    · have h1 := fitN_pos w e
      have hl := List.length_pos_iff.mpr e
      have ih := brk_len w n (ws.drop (fitN w ws)) (by rw [List.length_drop]; omega)
      rw [brk_cons w e, List.length_cons]
      rw [List.length_drop] at ih
      have := fitN_le w ws
      omega
theorem lineG_len (w : Nat) (ws : List (List Nat)) : (lineG w ws).length ≤ ws.length + 1 := by
  unfold lineG
  split
  · exact Nat.succ_le_succ (Nat.zero_le _)
  · rw [List.length_map]
    have := brk_len w _ ws (Nat.le_refl _)
    omega
theorem linesL_len (w : Nat) (p : List Nat) : (linesL w p).length ≤ p.length + 1 := by
  rw [lines_grp]
  have := lineG_len w (wordsL p)
  have := words_count p
  omega
/-! #### the loop's bounds -/
theorem lnsM_len (w : Nat) : ∀ (ws : List (List Nat)) (line : List Nat), (lnsM w ws line).length ≤ ws.length + 1
  | [], _ => Nat.le_refl _
  | x :: ws, line => by
    show (if line.isEmpty = true then lnsM w ws x else if line.length + 1 + x.length ≤ w then lnsM w ws (line ++ 32 :: x) else line :: lnsM w ws x).length ≤ ws.length + 1 + 1
    split
    · have := lnsM_len w ws x; omega
    · split
      · have := lnsM_len w ws (line ++ 32 :: x); omega
      · have := lnsM_len w ws x
        rw [List.length_cons]; omega
theorem wrapL_len (w : Nat) (x : List Nat) : (wrapL w x).length ≤ 2 * x.length + 1 := by
  unfold wrapL
  have key : ∀ l : List (List Nat), (l.flatMap (linesL w)).length ≤ (l.map List.length).sum + l.length := by
    intro l
    induction l with
    | nil => exact Nat.le_refl _
    | cons p l ih =>
      rw [List.flatMap_cons, List.length_append, List.map_cons, List.sum_cons, List.length_cons]
      have := linesL_len w p
      omega
  have h1 := key (cut 10 x)
  have h2 := cut_sum 10 x
  have h3 := cut_len 10 x
  omega
/-! #### the words of each part, sign by sign -/
def wdsM : List (List Nat) → List Nat → List Nat → List (List (List Nat))
  | cur, _, [] => [cur]
  | cur, wd, c :: t => if c = 32 ∨ c = 10 then (if c = 10 then (if wd.isEmpty then cur else cur ++ [wd]) :: wdsM [] [] t else wdsM (if wd.isEmpty then cur else cur ++ [wd]) [] t) else wdsM cur (wd ++ [c]) t
def wordsF (wd p : List Nat) : List (List Nat) := (match cut 32 p with
  | [] => []
  | h :: ts => (wd ++ h) :: ts).filter (!·.isEmpty)
theorem wordsF_nil (p : List Nat) : wordsF [] p = wordsL p := by
  unfold wordsF wordsL
  obtain ⟨h, ts, e⟩ := cut_ne 32 p
  rw [e]; rfl
theorem wordsF_end (wd : List Nat) : wordsF wd [] = if wd.isEmpty then [] else [wd] := by
  show ([wd ++ []].filter (!·.isEmpty)) = _
  rw [List.append_nil]
  cases wd <;> rfl
theorem wordsF_blank (wd p : List Nat) : wordsF wd (32 :: p) = (if wd.isEmpty then [] else [wd]) ++ wordsL p := by
  unfold wordsF
  rw [cut_hit]
  show ((wd ++ []) :: cut 32 p).filter (!·.isEmpty) = _
  rw [List.append_nil]
  cases wd <;> rfl
theorem wordsF_sign {c : Nat} (wd p : List Nat) (h : c ≠ 32) : wordsF wd (c :: p) = wordsF (wd ++ [c]) p := by
  unfold wordsF
  obtain ⟨q, ts, e⟩ := cut_ne 32 p
  rw [cut_miss h e, e]
  simp
theorem wdsM_cut : ∀ (x : List Nat) (cur : List (List Nat)) (wd : List Nat) (p : List Nat) (ps : List (List Nat)), cut 10 x = p :: ps → wdsM cur wd (x ++ [10]) = (cur ++ wordsF wd p) :: (ps.map wordsL ++ [[]])
  | [], cur, wd, p, ps, e => by
    cases e
    rw [wordsF_end]
    show (if wd.isEmpty then cur else cur ++ [wd]) :: [[]] = _
    cases wd <;> simp
  | c :: t, cur, wd, p, ps, e => by
    obtain ⟨p', ps', e'⟩ := cut_ne 10 t
    by_cases h : c = 10
    · subst h
      rw [cut_hit, e'] at e
      cases e
      rw [wordsF_end]
      show (if wd.isEmpty then cur else cur ++ [wd]) :: wdsM [] [] (t ++ [10]) = _
      rw [wdsM_cut t [] [] p' ps' e', wordsF_nil]
      cases wd <;> simp
    · rw [cut_miss h e'] at e
      cases e
      by_cases hb : c = 32
      · subst hb
        show wdsM (if wd.isEmpty then cur else cur ++ [wd]) [] (t ++ [10]) = _
        rw [wdsM_cut t _ [] p' ps e', wordsF_nil, wordsF_blank]
        cases wd <;> simp
      · show (if c = 32 ∨ c = 10 then _ else wdsM cur (wd ++ [c]) (t ++ [10])) = _
        rw [if_neg (by simp [h, hb]), wdsM_cut t cur _ p' ps e', wordsF_sign _ _ hb]
theorem wdsM_all (x : List Nat) : wdsM [] [] (x ++ [10]) = (cut 10 x).map wordsL ++ [[]] := by
  obtain ⟨p, ps, e⟩ := cut_ne 10 x
  rw [wdsM_cut x [] [] p ps e, e, wordsF_nil]; rfl
theorem wdsM_feed {cur : List (List Nat)} {wd t : List Nat} : wdsM cur wd (10 :: t) = (if wd.isEmpty then cur else cur ++ [wd]) :: wdsM [] [] t := rfl
theorem wdsM_blank {cur : List (List Nat)} {wd t : List Nat} : wdsM cur wd (32 :: t) = wdsM (if wd.isEmpty then cur else cur ++ [wd]) [] t := rfl
theorem wdsM_sign {cur : List (List Nat)} {wd t : List Nat} {c : Nat} (h : ¬ (c = 32 ∨ c = 10)) : wdsM cur wd (c :: t) = wdsM cur (wd ++ [c]) t := by
  show (if c = 32 ∨ c = 10 then _ else _) = _
  rw [if_neg h]
/-- a list of words, of lists of words -/
abbrev txV (l : List Nat) : V := .str (sO l)
def WdsAt (H : Hp) (v : V) (ws : List (List Nat)) : Prop := ∃ a, v = .ref a ∧ H a = some (.lst (ws.map txV))
def PtsAt (H : Hp) (p : Addr) (ps : List (List (List Nat))) : Prop := ∃ vs : List V, H p = some (.lst vs) ∧ vs.length = ps.length ∧ ∀ (i : Nat) (v : V) (w : List (List Nat)), vs[i]? = some v → ps[i]? = some w → WdsAt H v w
theorem WdsAt.same {H H' : Hp} {v : V} {ws : List (List Nat)} (h : WdsAt H v ws) (s : Same H H') : WdsAt H' v ws := let ⟨a, e, g⟩ := h; ⟨a, e, s _ _ g⟩
theorem PtsAt.same {H H' : Hp} {p : Addr} {ps : List (List (List Nat))} (h : PtsAt H p ps) (s : Same H H') : PtsAt H' p ps := let ⟨vs, g, l, k⟩ := h; ⟨vs, s _ _ g, l, fun i v w a b => (k i v w a b).same s⟩
/-- .. that stand apart from the source -/
theorem WdsAt.dr {H H' : Hp} {a : Addr} {v : V} {ws : List (List Nat)} (h : WdsAt H v ws) (hs : Src H a) (d : Dr a H H') : WdsAt H' v ws := by
  obtain ⟨b, e, g⟩ := h
  refine ⟨b, e, d.app ?_ g⟩
  rintro rfl
  obtain ⟨s, hs⟩ := hs
  rw [g] at hs
  cases ws with
  | nil => cases hs
  | cons w ws => cases hs
theorem PtsAt.dr {H H' : Hp} {a p : Addr} {ps : List (List (List Nat))} (h : PtsAt H p ps) (hs : Src H a) (d : Dr a H H') : PtsAt H' p ps := by
  obtain ⟨vs, g, l, k⟩ := h
  refine ⟨vs, d.app ?_ g, l, fun i v w e1 e2 => (k i v w e1 e2).dr hs d⟩
  rintro rfl
  obtain ⟨s, hs⟩ := hs
  rw [g] at hs
  cases hs
  cases ps with
  | nil => cases l
  | cons w ps =>
    obtain ⟨b, e, _⟩ := k 0 _ w rfl rfl
    cases e
theorem take_sum (ws : List (List Nat)) (m : Nat) : ((ws.take m).map List.length).sum + (ws.take m).length ≤ (ws.map List.length).sum + ws.length := by
  conv => rhs; rw [← List.take_append_drop m ws]
  rw [List.map_append, List.sum_append, List.length_append]; omega
theorem jn_take_len (ws : List (List Nat)) (m : Nat) : (jn (ws.take m)).length ≤ (ws.map List.length).sum + ws.length := by
  have := take_sum ws m
  show (TL.joinL [32] (ws.take m)).length ≤ _
  rw [joinL_len]; omega
theorem PtsAt.pairs {H : Hp} {p : Addr} {ps : List (List (List Nat))} (h : PtsAt H p ps) : ∃ ys : List (V × List (List Nat)), H p = some (.lst (ys.map Prod.fst)) ∧ ys.map Prod.snd = ps ∧ ∀ y ∈ ys, WdsAt H y.1 y.2 := by
  obtain ⟨vs, g, l, k⟩ := h
  refine ⟨vs.zip ps, by rw [g, List.map_fst_zip (by omega)], List.map_snd_zip (by omega), fun y hy => ?_⟩
  obtain ⟨i, hi, e⟩ := List.getElem_of_mem hy
  rw [List.length_zip] at hi
  have e2 := List.getElem_zip (l := vs) (l' := ps) (i := i) (h := by rw [List.length_zip]; exact hi)
  rw [e] at e2
  rw [e2]
  exact k i _ _ (List.getElem?_eq_getElem (by omega)) (List.getElem?_eq_getElem (by omega))
theorem drop_sum (ws : List (List Nat)) (m : Nat) : ((ws.drop m).map List.length).sum + (ws.drop m).length ≤ (ws.map List.length).sum + ws.length := by
  conv => rhs; rw [← List.take_append_drop m ws]
  rw [List.map_append, List.sum_append, List.length_append]; omega
theorem max0_of {l : List Nat} {m : Int} (h : m ∈ (0 :: l).map Int.ofNat) (g : ∀ y ∈ (0 :: l).map Int.ofNat, y ≤ m) : m = ((maxN l : Nat) : Int) := by
  rw [maxN_of h g]
  show ((max 0 (maxN l) : Nat) : Int) = _
  rw [Nat.zero_max]
theorem lens_V (ws : List (List Nat)) : [V.int 0] ++ ws.map (fun y => V.int (y.length : Nat)) = ((0 :: ws.map List.length).map Int.ofNat).map V.int := by
  rw [List.map_cons, List.map_cons, List.map_map, List.map_map]; rfl
theorem lineG_pos (w : Nat) (ws : List (List Nat)) : 1 ≤ (lineG w ws).length := by
  unfold lineG
  split
  · exact Nat.le_refl _
  · rename_i h
    have h : ws ≠ [] := fun e => h (by rw [e]; rfl)
    rw [brk_cons w h, List.map_cons, List.length_cons]; exact Nat.succ_le_succ (Nat.zero_le _)
/-- the parts of a text, and its words -/
theorem parts_ok {l : List Nat} {m : Nat} (h : l.length ≤ m) : (cut 10 l).map wordsL ≠ [] ∧ ((cut 10 l).map wordsL).length ≤ m + 1 ∧ ∀ ws ∈ (cut 10 l).map wordsL, (ws.map List.length).sum + ws.length ≤ 2 * m := by
  obtain ⟨p, ps, e⟩ := cut_ne 10 l
  refine ⟨by rw [e]; simp, by rw [List.length_map]; have := cut_len 10 l; omega, fun ws hw => ?_⟩
  obtain ⟨p, hp, rfl⟩ := List.mem_map.mp hw
  have h1 := part_len hp
  have h2 := words_sum p
  have h3 := words_count p
  omega
theorem flat_at {α β : Type} (f : α → List β) {l : List α} {i : Nat} {y : α} (h : l[i]? = some y) : l.flatMap f = (l.take i).flatMap f ++ (f y ++ (l.drop (i + 1)).flatMap f) := by
  have hi := (List.getElem?_eq_some_iff.mp h).1
  conv => lhs; rw [← List.take_append_drop i l, List.flatMap_append, List.drop_eq_getElem_cons hi, List.flatMap_cons, (List.getElem?_eq_some_iff.mp h).2]
theorem flat_take_succ {α β : Type} (f : α → List β) {l : List α} {i : Nat} {y : α} (h : l[i]? = some y) : (l.take (i + 1)).flatMap f = (l.take i).flatMap f ++ f y := by
  rw [List.take_add_one, h, List.flatMap_append]; simp
theorem tx_ne {H : Hp} {a b : Addr} {ws : List (List Nat)} (h : H b = some (.lst (ws.map txV))) (hs : Src H a) : b ≠ a := by
  rintro rfl
  obtain ⟨s, hs⟩ := hs
  rw [h] at hs
  cases ws with
  | nil => cases hs
  | cons w ws => cases hs
end My

/-! ### == and != of lists of texts; a comprehension within one -/
namespace My
open PySem PySem.Spec PyProof.Rows L2
def rEqTx (K : PySem.W.Frag) : R2 := fun x y H Q => ∃ (a b : Addr) (xs ys : List (List Nat)), x = .ref a ∧ y = .ref b ∧ SqL K H a (xs.map txV) ∧ SqL K H b (ys.map txV) ∧ Q (.bl (decide (xs = ys))) H
def rNeTx (K : PySem.W.Frag) : R2 := fun x y H Q => ∃ (a b : Addr) (xs ys : List (List Nat)), x = .ref a ∧ y = .ref b ∧ SqL K H a (xs.map txV) ∧ SqL K H b (ys.map txV) ∧ Q (.bl (!decide (xs = ys))) H
theorem eqV_tx (a b : List Nat) : eqV (txV a) (txV b) = decide (a = b) := by
  show (sO a == sO b) = decide (a = b)
  rw [Bool.eq_iff_iff, beq_iff_eq, decide_eq_true_iff]
  exact ⟨fun h => by simpa [sO] using h, fun h => by rw [h]⟩
theorem tx_all {A : Around} {s : Shared} : ∀ {xs ys : List (List Nat)} {us ws : List Value}, Vals (xs.map txV) us → Vals (ys.map txV) ws → ∀ j (h1 : j < us.length) (h2 : j < ws.length), SeqAt.EqAt A s us[j] ws[j] (decide (xs[j]? = ys[j]?))
  | [], _, _, _, .nil, _, j, h1, _ => absurd h1 (Nat.not_lt_zero j)
  | _ :: _, [], _, _, .cons _ _, .nil, j, _, h2 => absurd h2 (Nat.not_lt_zero j)
  | x :: xs, y :: ys, _, _, .cons a1 b1, .cons a2 b2, 0, _, _ => by
    have := eqAt_V (A := A) (s := s) a1 a2 rfl rfl
    rw [eqV_tx] at this
    rw [show decide ((x :: xs)[0]? = (y :: ys)[0]?) = decide (x = y) from by
      rw [List.getElem?_cons_zero, List.getElem?_cons_zero]; exact decide_eq_decide.mpr ⟨fun e => Option.some.inj e, fun e => by rw [e]⟩]
    exact this
  | x :: xs, y :: ys, _, _, .cons a1 b1, .cons a2 b2, j + 1, h1, h2 => by
    have := tx_all (A := A) (s := s) b1 b2 j (Nat.lt_of_succ_lt_succ h1) (Nat.lt_of_succ_lt_succ h2)
    simpa using this
theorem all_dec {xs ys : List (List Nat)} (h : xs.length = ys.length) : ((List.range xs.length).all fun j => decide (xs[j]? = ys[j]?)) = decide (xs = ys) := by
  rw [Bool.eq_iff_iff, List.all_eq_true, decide_eq_true_iff]
  refine ⟨fun k => List.ext_getElem? fun j => ?_, fun e j _ => by rw [e]; exact decide_eq_true rfl⟩
  by_cases hj : j < xs.length
  · exact of_decide_eq_true (k j (List.mem_range.mpr hj))
  · rw [List.getElem?_eq_none (by omega), List.getElem?_eq_none (by omega)]
theorem op_eqTx {X : Cx} (hu : X.A.units + 64 < cLine) : OpR X (compareOp .Eq) (rEqTx X.K) := by
  intro pins s σ H x y v u Q I rx ry h
  obtain ⟨a, b, xs, ys, rfl, rfl, ha, hb, q⟩ := h
  cases (show v = Value.ref a from rx)
  cases (show u = Value.ref b from ry)
  obtain ⟨us, r1, p1, _⟩ := I.list ha
  obtain ⟨ws, r2, p2, _⟩ := I.list hb
  have l1 := r1.length
  have l2 := r2.length
  rw [List.length_map] at l1 l2
  by_cases hl : xs.length = ys.length
  · have hsz : us.toArray.size = ws.toArray.size := by
      rw [List.size_toArray, List.size_toArray]; omega
    have k := SeqAt.RcAt.lists (A := X.A) (e := fun j => decide (xs[j]? = ys[j]?)) p1.isList p2.isList hsz (show X.A.units < cLine by omega) (fun j h1 h2 => by
      have := tx_all (A := X.A.in1) (s := s) r1 r2 j (by simpa using h1) (by simpa using h2)
      simpa using this)
    rw [List.size_toArray, show us.length = xs.length from by omega, all_dec hl] at k
    exact k _ _ _ _ ⟨.bl _, H, I, rfl, q⟩
  · have k := SeqAt.RcAt.lists_lengths (A := X.A) p1.isList p2.isList (show (us.toArray.size != ws.toArray.size) = true by simp; omega) (show X.A.units < cLine by omega)
    rw [decide_eq_false (fun e => hl (by rw [e]))] at q
    exact k _ _ _ _ ⟨.bl false, H, I, rfl, q⟩
theorem op_neTx {X : Cx} (hu : X.A.units + 64 < cLine) : OpR X (compareOp .NotEq) (rNeTx X.K) := by
  intro pins s σ H x y v u Q I rx ry h
  obtain ⟨a, b, xs, ys, rfl, rfl, ha, hb, q⟩ := h
  cases (show v = Value.ref a from rx)
  cases (show u = Value.ref b from ry)
  obtain ⟨us, r1, p1, _⟩ := I.list ha
  obtain ⟨ws, r2, p2, _⟩ := I.list hb
  have l1 := r1.length
  have l2 := r2.length
  rw [List.length_map] at l1 l2
  by_cases hl : xs.length = ys.length
  · have hsz : us.toArray.size = ws.toArray.size := by
      rw [List.size_toArray, List.size_toArray]; omega
    have k := SeqAt.RcNeAt.lists (A := X.A) (e := fun j => decide (xs[j]? = ys[j]?)) p1.isList p2.isList hsz (show X.A.units < cLine by omega) (fun j h1 h2 => by
      have := tx_all (A := X.A.in1) (s := s) r1 r2 j (by simpa using h1) (by simpa using h2)
      simpa using this)
    rw [List.size_toArray, show us.length = xs.length from by omega, all_dec hl] at k
    exact k _ _ _ _ ⟨.bl _, H, I, rfl, q⟩
  · have k := SeqAt.RcNeAt.lists_lengths (A := X.A) p1.isList p2.isList (show (us.toArray.size != ws.toArray.size) = true by simp; omega) (show X.A.units < cLine by omega)
    rw [decide_eq_false (fun e => hl (by rw [e]))] at q
    exact k _ _ _ _ ⟨.bl true, H, I, rfl, q⟩
theorem op_eqTxK {X : Cx} {K : PySem.W.Frag} (hu : X.A.units + 64 < cLine) (h : X.K = K) : OpR X (compareOp .Eq) (rEqTx K) := by subst h; exact op_eqTx hu
theorem op_neTxK {X : Cx} {K : PySem.W.Frag} (hu : X.A.units + 64 < cLine) (h : X.K = K) : OpR X (compareOp .NotEq) (rNeTx K) := by subst h; exact op_neTx hu
/-- a block within a block: its scope hands nothing on -/
theorem blkOk_any {N : List Str} {sc scope : Scope} {own : List (Str × Nat)} (h : blkC N { kind := .function, names := [], isGenerator := false, isCoroutine := false } scope own = true) : BlkOk N sc scope own := by
  have b := blkOk_by h
  exact ⟨b.kind, b.uniq, b.ix, fun y hy e => (b.free y hy e).elim (fun z => by cases z) (fun z => by cases z), b.own⟩
end My

/-! ### own errors -/
namespace My
open PySem PySem.Spec PyProof.Rows L2
structure Ex (K : PySem.W.Frag) (mg : Str → Option Value) (x : Str) where
  C : Addr
  g : mg x = some (.ref C)
  x : PySem.W.excIn K C [.type "ValueError", .type "Exception", .type "BaseException", .type "object"] "ValueError.__new__" = true
  k : PySem.W.keepIn K (.ref C) = true
  b : PySem.W.subIn K (.ref C) (.type "BaseException") = some true
  t : PySem.W.typeIn K (.ref C) = some (.type "type")
  E : ExcC K C
def ex_mk {K : PySem.W.Frag} {mg : Str → Option Value} {x : Str} {h : Heap} (X : K.In h) (G : h.Ns mainGlobals mg) {C : Addr} (g : PySem.W.nsIn K mainGlobals x = some (some (.ref C)))
    (x1 : PySem.W.excIn K C [.type "ValueError", .type "Exception", .type "BaseException", .type "object"] "ValueError.__new__" = true) (x2 : PySem.W.keepIn K (.ref C) = true) (x3 : PySem.W.subIn K (.ref C) (.type "BaseException") = some true) (x4 : PySem.W.typeIn K (.ref C) = some (.type "type"))
    (y1 : PySem.W.findIn K (.ref C) "__getattribute__" = some (some (.builtin "BaseException.__getattribute__"))) (y2 : PySem.W.findIn K (.ref C) "__getattr__" = some none) (y3 : PySem.W.hasDictIn K C = true) (y4 : PySem.W.findIn K (.ref C) "__class__" = some (some (.builtin "object.__class__")))
    (y5 : PySem.W.specialIn K (.builtin "object.__class__") "__get__" = some (some (.builtin "getset_descriptor.__get__"))) (y6 : PySem.W.takesIn K (.builtin "object.__class__") = some true) (y7 : PySem.W.mroIn K C (.type "object") = some true) : Ex K mg x :=
  ⟨C, PySem.W.mg_of X G g, x1, x2, x3, x4, ⟨y1, y2, x3, y3, y4, y5, y6, y7⟩⟩
section
variable {K : PySem.W.Frag} {mg : Str → Option Value} {x y : Str} {cv : Value} {b : Bool}
theorem Ex.exm (e : Ex K mg x) (h : PySem.W.subIn K cv (.ref e.C) = some b) : PySem.W.exmOne K cv (.ref e.C) = some b := PySem.W.exm_ref e.b e.E.hd e.t h
theorem Ex.kcls (e : Ex K mg x) (h : PySem.W.subIn K cv (.ref e.C) = some b) : PySem.W.kitCls K cv (.ref e.C) = some b := by
  have hc : (PySem.W.clsIn K e.C).isSome = true := by
    have := e.E.hd
    unfold PySem.W.hasDictIn at this
    cases q : PySem.W.clsIn K e.C with
    | none => rw [q] at this; cases this
    | some c => rfl
  have e2 : ((PySem.W.clsIn K e.C).isSome && PySem.W.typeIn K (.ref e.C) == some (.type "type")) = true := by rw [hc, e.t] <;> rfl
  show (if ((PySem.W.clsIn K e.C).isSome && PySem.W.typeIn K (.ref e.C) == some (.type "type")) = true then PySem.W.subIn K cv (.ref e.C) else none) = some b
  rw [if_pos e2]
  exact h
/-- isinstance of an error's class: by the chains of the two classes -/
theorem Ex.kit (d : Ex K mg y) (e : Ex K mg x) (s : PySem.W.subIn K (.ref d.C) (.ref d.C) = some true) (h : PySem.W.subIn K (.ref d.C) (.ref e.C) = some b) : PySem.W.kitOne K (.ref d.C) (.ref e.C) = some b := by
  unfold PySem.W.kitOne
  split
  · next q =>
    have z : (Value.ref d.C) = .ref e.C := beq_iff_eq.mp q
    rw [← z, s] at h
    cases h
    rfl
  · exact e.kcls h
theorem Ex.kitT (d : Ex K mg y) {n : String} (h : PySem.W.subIn K (.ref d.C) (.type n) = some b) (m : PySem.W.kitMeta n = true := by decide +kernel) : PySem.W.kitOne K (.ref d.C) (.type n) = some b := by
  unfold PySem.W.kitOne
  split
  · next q =>
    have z : (Value.ref d.C) = .type n := beq_iff_eq.mp q
    cases z
  · show (if PySem.W.kitMeta n = true then PySem.W.subIn K (.ref d.C) (.type n) else none) = some b
    rw [if_pos m]
    exact h
end
/-- an error class that is only asked about -/
structure Ec (K : PySem.W.Frag) (mg : Str → Option Value) (x : Str) where
  C : Addr
  g : mg x = some (.ref C)
  t : PySem.W.typeIn K (.ref C) = some (.type "type")
  d : PySem.W.hasDictIn K C = true
def ec_mk {K : PySem.W.Frag} {mg : Str → Option Value} {x : Str} {h : Heap} (X : K.In h) (G : h.Ns mainGlobals mg) {C : Addr} (g : PySem.W.nsIn K mainGlobals x = some (some (.ref C)))
    (x1 : PySem.W.typeIn K (.ref C) = some (.type "type")) (x2 : PySem.W.hasDictIn K C = true) : Ec K mg x := ⟨C, PySem.W.mg_of X G g, x1, x2⟩
theorem Ex.kitC {K : PySem.W.Frag} {mg : Str → Option Value} {x y : Str} {b : Bool} (d : Ex K mg y) (e : Ec K mg x) (s : PySem.W.subIn K (.ref d.C) (.ref d.C) = some true) (h : PySem.W.subIn K (.ref d.C) (.ref e.C) = some b) : PySem.W.kitOne K (.ref d.C) (.ref e.C) = some b := by
  unfold PySem.W.kitOne
  split
  · next q =>
    have z : (Value.ref d.C) = .ref e.C := beq_iff_eq.mp q
    rw [← z, s] at h
    cases h
    rfl
  · have hc : (PySem.W.clsIn K e.C).isSome = true := by
      have := e.d
      unfold PySem.W.hasDictIn at this
      cases q : PySem.W.clsIn K e.C with
      | none => rw [q] at this; cases this
      | some c => rfl
    have e2 : ((PySem.W.clsIn K e.C).isSome && PySem.W.typeIn K (.ref e.C) == some (.type "type")) = true := by rw [hc, e.t] <;> rfl
    show (if ((PySem.W.clsIn K e.C).isSome && PySem.W.typeIn K (.ref e.C) == some (.type "type")) = true then PySem.W.subIn K (.ref d.C) (.ref e.C) else none) = some b
    rw [if_pos e2]
    exact h
/-- isinstance(e, c) in a suite, the error's class told in the reading -/
def rIsX (K : PySem.W.Frag) (cls : Value) (d : Option Addr) (a : Addr) : List V → Hp → VK → Prop := fun xs H Q => ∃ (D : Addr) (c : V) (cv : Value) (b : Bool), cls = .ref D ∧ d = none ∧ ExcC K D ∧ xs = [.ref a, c] ∧ (∀ u, RelV c u → u = cv) ∧ PySem.W.kitOne K (.ref D) cv = some b ∧ Q (.bl b) H
theorem call_isX {X : Cx} {a : Addr} {cls : Value} {d : Option Addr} {oe : Obj} {pn : List (Addr × Obj)} (hz : Zc cls d oe) (hf : ∃ vs, oe.data = .fields vs) : CallR (X.suite a ((a, oe) :: pn)) (.builtin "isinstance") (rIsX X.K cls d a) := by
  intro pins s σ H xs us Q I r h
  obtain ⟨D, c, cv, b, rfl, rfl, C, e, hc, hk, q⟩ := h
  exact call_isE C hz hf pins s σ H xs us Q I r ⟨c, cv, b, e, hc, hk, q⟩
section
variable {X : Cx}
/-- [..].count(x), of flat ones -/
def rCntF (K : PySem.W.Frag) : V → List V → Hp → VK → Prop := fun x xs H Q => ∃ (a : Addr) (ys : List V) (y : V), x = .ref a ∧ xs = [y] ∧ SqL K H a ys ∧ flatV y = true ∧ ys.all flatV = true ∧ Q (.int (ys.countP (fun z => eqV z y) : Nat)) H
theorem cnt_flat {y : V} : ∀ {us : List Value} {ys : List V}, Vals ys us → ys.all flatV = true → us.countP (eqU y) = ys.countP (fun z => eqV z y)
  | _, _, .nil, _ => rfl
  | _, _, .cons r t, f => by
    rw [List.all_cons, Bool.and_eq_true] at f
    rw [List.countP_cons, List.countP_cons, cnt_flat t f.2, eqU_of r f.1]
theorem mt_countF : MtR X "list.count" (rCntF X.K) := by
  intro pins s σ H x xs v us Q I rx rxs h
  obtain ⟨a, ys, y, rfl, rfl, hs, fy, fys, q⟩ := h
  cases rx
  cases rxs with
  | cons ry rt =>
    rename_i uy ut
    cases rt
    obtain ⟨its, rv, ⟨⟨cls, dd, data, sl⟩, n, ho, hc, hdn, hd⟩, hlen⟩ := I.list hs
    simp only at hc hd
    subst hc hd
    refine call_meets PySem.F.slot_list_count ⟨_, ho, rfl⟩ PySem.F.entry_list_count (PySem.F.args_list_count_2 _ _)
      (SeqAt.list_countAt a its.toArray n dd sl uy (eqU y)) ⟨ho, fun u' hu' => mem_eqAt ry fy rv fys u' (by simpa using hu'), ?_⟩
    refine ⟨.int (ys.countP (fun z => eqV z y) : Nat), H, I.tok _, ⟨s.toks, ?_⟩, q⟩
    show Value.int ((its.toArray.toList.countP (eqU y) : Nat) : Int) s.toks = Value.int ((ys.countP (fun z => eqV z y) : Nat) : Int) s.toks
    rw [show its.toArray.toList = its from rfl, cnt_flat rv fys]
theorem mt_countFK {K : PySem.W.Frag} (h : X.K = K) : MtR X "list.count" (rCntF K) := by subst h; exact mt_countF
theorem mt_indexK {K : PySem.W.Frag} (h : X.K = K) : MtR X "list.index" (L2.rIndex K) := by subst h; exact mt_index
theorem pe_bmK {K : PySem.W.Frag} {T name id : String} {r : V → List V → Hp → VK → Prop} {o e : Expr} {es : List Expr} {to : TE} {t : TA} {apos cpos : Pos} (h : X.K = K) (pa : PlainAttrs T) (slot : Slot T name id) (hty : typeOf (.builtin id) = pure (.type "method_descriptor")) (hm : MtR X id r) (ho : PE X o to) (ha : PA X (e :: es) t)
    (hbase : attributeBase o name X.env (eval o X.env) = eval o X.env := by rfl)
    (hfew : ((backTo cpos (starEach (e :: es) X.env)).all (fun x => !x.1) && (backToKw cpos (keywordEach [] X.env)).all (fun x => x.1.isSome)
      && decide ((e :: es).length + ([] : List Keyword).length + (if ([] : List Keyword).isEmpty then 0 else 1) < 30)) = true := by rfl)
    (hline : (apos.endLine == cpos.line) = true := by rfl) (hs : starEach (e :: es) X.env = (false, eval e X.env) :: starEach es X.env := by rfl) (hplain : (backTo cpos (starEach es X.env)).any (·.1) = false := by rfl) :
    PE X (.Call (.Attribute o name apos) (e :: es) [] cpos) (tBM K T r to t) := by
  subst h
  exact pe_bm pa slot hty hm ho ha hbase hfew hline hs hplain
theorem op_eqVK {K : PySem.W.Frag} (hu : X.A.units + 64 < cLine) (h : X.K = K) : OpR X (compareOp .Eq) (rEqV K) := by subst h; exact op_eqV hu
end
end My

/-! ### != of lists of like items: the same ones, or lists of the same ones -/
namespace My
open PySem PySem.Spec PyProof.Rows L2
def PlainQ (x : V) : Prop := flatB x = true ∨ ∃ r, x = .ref r
def EqQ (K : PySem.W.Frag) (H : Hp) (u v : V) : Prop := (u = v ∧ PlainQ u) ∨ ∃ a b zs, u = .ref a ∧ v = .ref b ∧ SqL K H a zs ∧ SqL K H b zs ∧ ∀ z ∈ zs, PlainQ z
def rNeQ (K : PySem.W.Frag) : R2 := fun x y H Q => ∃ a b xs ys, x = .ref a ∧ y = .ref b ∧ SqL K H a xs ∧ SqL K H b ys ∧ Paired (EqQ K H) xs ys ∧ Q (.bl false) H
theorem plainQ_at {A : Around} {s : Shared} {x : V} {u w : Value} (h : PlainQ x) (r : RelV x u) (r' : RelV x w) : SeqAt.EqAt A s u w true := by
  rcases h with h | ⟨a, rfl⟩
  · exact eqAt_same r r' h
  · cases (show u = Value.ref a from r)
    cases (show w = Value.ref a from r')
    exact SeqAt.EqAt.same _
theorem plainQ_all {A : Around} {s : Shared} : ∀ {xs : List V} {us ws : List Value}, (∀ x ∈ xs, PlainQ x) → Vals xs us → Vals xs ws → ∀ j (h1 : j < us.length) (h2 : j < ws.length), SeqAt.EqAt A s us[j] ws[j] true
  | _, _, _, _, .nil, .nil, j, h1, _ => absurd h1 (Nat.not_lt_zero j)
  | _, _, _, hp, .cons a1 b1, .cons a2 b2, 0, _, _ => plainQ_at (hp _ List.mem_cons_self) a1 a2
  | _, _, _, hp, .cons a1 b1, .cons a2 b2, j + 1, h1, h2 => plainQ_all (fun y hy => hp y (List.mem_cons_of_mem _ hy)) b1 b2 j (Nat.lt_of_succ_lt_succ h1) (Nat.lt_of_succ_lt_succ h2)
section
variable {X : Cx} {pins : List (Addr × Obj)} {σ : L2.St} {H : Hp} {s : Shared}
theorem eqQ_at (I : Inv X pins σ H s) {A : Around} (hu : A.units < cLine) {x y : V} {u w : Value} (h : EqQ X.K H x y) (r : RelV x u) (r' : RelV y w) : SeqAt.EqAt A s u w true := by
  rcases h with ⟨rfl, hp⟩ | ⟨a, b, zs, rfl, rfl, ha, hb, hp⟩
  · exact plainQ_at hp r r'
  · cases (show u = Value.ref a from r)
    cases (show w = Value.ref b from r')
    by_cases e : a = b
    · subst e; exact SeqAt.EqAt.same _
    · obtain ⟨us, r1, p1, _⟩ := I.list ha
      obtain ⟨ws, r2, p2, _⟩ := I.list hb
      have hsz : us.toArray.size = ws.toArray.size := by
        rw [List.size_toArray, List.size_toArray, ← r1.length, ← r2.length]
      refine SeqAt.EqAt.of_refs e ?_
      have k := SeqAt.RcAt.lists (e := fun _ => true) p1.isList p2.isList hsz hu (A := A) (fun j h1 h2 => by
        have := plainQ_all (A := A.in1) (s := s) hp r1 r2 j (by simpa using h1) (by simpa using h2)
        simpa using this)
      rwa [show ((List.range us.toArray.size).all fun _ => true) = true from List.all_eq_true.mpr fun _ _ => rfl] at k
theorem eqQ_all (I : Inv X pins σ H s) {A : Around} (hu : A.units < cLine) {xs ys : List V} (h : Paired (EqQ X.K H) xs ys) : ∀ {us ws : List Value}, Vals xs us → Vals ys ws → ∀ j (h1 : j < us.length) (h2 : j < ws.length), SeqAt.EqAt A s us[j] ws[j] true := by
  induction h with
  | nil =>
    intro us ws r1 r2 j h1 h2
    cases r1
    exact absurd h1 (Nat.not_lt_zero j)
  | cons h _ k =>
    intro us ws r1 r2 j h1 h2
    cases r1 with
    | cons a1 b1 =>
      cases r2 with
      | cons a2 b2 =>
        cases j with
        | zero => exact eqQ_at I hu h a1 a2
        | succ j => exact k b1 b2 j (Nat.lt_of_succ_lt_succ h1) (Nat.lt_of_succ_lt_succ h2)
end
theorem op_neQ {X : Cx} (hu : X.A.units + 64 < cLine) : OpR X (compareOp .NotEq) (rNeQ X.K) := by
  intro pins s σ H x y v u Q I rx ry h
  obtain ⟨a, b, xs, ys, rfl, rfl, ha, hb, hp, q⟩ := h
  cases (show v = Value.ref a from rx)
  cases (show u = Value.ref b from ry)
  obtain ⟨us, r1, p1, _⟩ := I.list ha
  obtain ⟨ws, r2, p2, _⟩ := I.list hb
  have hsz : us.toArray.size = ws.toArray.size := by
    rw [List.size_toArray, List.size_toArray, ← r1.length, ← r2.length]
    exact Paired.length hp
  have k := SeqAt.RcNeAt.lists (e := fun _ => true) p1.isList p2.isList hsz (show X.A.units < cLine by omega) (fun j h1 h2 => by
    have := eqQ_all I (A := X.A.in1) (show X.A.units + 1 < cLine by omega) hp r1 r2 j (by simpa using h1) (by simpa using h2)
    simpa using this)
  rw [show ((List.range us.toArray.size).all fun _ => true) = true from List.all_eq_true.mpr fun _ _ => rfl] at k
  exact k _ _ _ _ ⟨.bl false, H, I, rfl, q⟩
theorem op_neQK {X : Cx} {K : PySem.W.Frag} (hu : X.A.units + 64 < cLine) (h : X.K = K) : OpR X (compareOp .NotEq) (rNeQ K) := by subst h; exact op_neQ hu
theorem eqQ_refl {K : PySem.W.Frag} {H : Hp} : ∀ {xs : List V}, (∀ x ∈ xs, PlainQ x) → Paired (EqQ K H) xs xs
  | [], _ => .nil
  | x :: xs, h => .cons (.inl ⟨rfl, h x (List.mem_cons_self ..)⟩) (eqQ_refl fun y hy => h y (List.mem_cons_of_mem _ hy))
end My

/-! ### defs with keyword-only defaults -/
namespace My
open PySem PySem.Spec PyProof.Rows L2
structure DfK (K : PySem.W.Frag) (mg : Str → Option Value) (x : Str) (st : Stmt) (ps : List Str) (kws : List (Str × V)) where
  f : Addr
  fd : FuncData
  FD : FunD K x x (defArgs st) (defBody st) (defScope st) [] kws f fd
  bx : ∃ ds, Vals (kws.map (·.2)) ds ∧ Binds K fd ps ds
  g : mg x = some (.ref f)
section
variable {K : PySem.W.Frag} {mg : Str → Option Value} {x : Str} {st : Stmt} {ps : List Str} {kws : List (Str × V)}
theorem DfK.F (d : DfK K mg x st ps kws) : Fun K x x st d.f d.fd := by
  obtain ⟨oc, od, dV, kV, doc, pm, an, cdv, ct, osl, e, l, c, hd, _⟩ := d.FD.ex
  rcases hd with ⟨_, e2⟩ | ⟨e2, _⟩
  · subst e2
    exact ⟨⟨oc, od, kV, doc, pm, an, cdv, ct, osl, e, l, c⟩, d.FD.kp⟩
  · exact absurd rfl e2
theorem DfK.v (d : DfK K mg x st ps kws) : Vals (kws.map (·.2)) (Classical.choose d.bx) := (Classical.choose_spec d.bx).1
theorem DfK.b (d : DfK K mg x st ps kws) : Binds K d.fd ps (Classical.choose d.bx) := (Classical.choose_spec d.bx).2
def dfK_mk {h : Heap} (X : K.In h) (G : h.Ns mainGlobals mg) {f D : Addr} {oc : Value} {od an : Option Addr} {osl : Array (Option Value)} {doc pm cdv ct u : Value} {y : Str} {v : V} (n : Nat)
    (a : PySem.W.nsIn K mainGlobals x = some (some (.ref f))) (l : K.lookup f = some ⟨oc, od, .func (PySem.W.fnOf x x (defArgs st) (defBody st) (defScope st) .none (.ref D) doc pm an cdv ct), osl⟩)
    (c : PySem.W.codeIn K cdv x = true) (k : PySem.W.keepIn K (.ref f) = true) (e : PySem.W.nsIn K D y = some (some u)) (rv : RelV v u) (hn : n + 1 = ps.length)
    (hb : ∀ (D : Addr) (doc pm : Value) (an : Option Addr) (cdv ct : Value) (us ks : List Value), us.length = n → ks.length = 1 →
      KwChain D ([y].zip ks) (bindArgs (PySem.W.fnOf x x (defArgs st) (defBody st) (defScope st) .none (.ref D) doc pm an cdv ct) ⟨us, []⟩) (ps.zip (us ++ ks))) : DfK K mg x st ps [(y, v)] :=
  have F : FunD K x x (defArgs st) (defBody st) (defScope st) [] [(y, v)] f (PySem.W.fnOf x x (defArgs st) (defBody st) (defScope st) .none (.ref D) doc pm an cdv ct) := ⟨⟨oc, od, .none, .ref D, doc, pm, an, cdv, ct, osl, rfl, l, c, .inl ⟨rfl, rfl⟩, .inr ⟨D, rfl, fun q hq => by rw [List.mem_singleton.mp hq]; exact ⟨u, e, rv⟩⟩⟩, k⟩
  ⟨f, _, F, F.binds0 n (by intro z; cases z) hn hb, PySem.W.mg_of X G a⟩
end
/-! ### a call by keywords in a try's body -/
def tCallNS (n m : Nat) (sp : Sp) (gV : List V → List V → List V) (E : L2.St → XK) (t tk : TA) : TE := fun σ H Q => t σ H fun vs H1 => tk σ H1 fun zs H2 => vs.length = n ∧ zs.length = m ∧ sp (gV vs zs) H2 Q (E σ)
section
variable {X : Cx} {CX : CXT} {k n : Nat} {f : Addr} {fd : FuncData} {ps ks : List Str} {sp : Sp} {E : L2.St → XK} {x : Str} {p pos : Pos} {e : Expr} {es : List Expr} {kws : List Keyword} {t tk : TA} {g : List Value → List Value → List Value} {gV : List V → List V → List V}
theorem run_fnNS {pins : List (Addr × Obj)} {σ : L2.St} {H : Hp} {s : Shared} {Q : VK} {us ws : List Value} {vs zs : List V} (F : FnOk X.prog X.w X.K X.mg X.base CX k f fd ps sp) (hr : Room k X.A) (hb : KBn X.K fd ps n ks g gV) (hx : PassesAt CX X σ (E σ))
    (I : Inv X pins σ H s) (r : Vals vs us) (rz : Vals zs ws) (l1 : vs.length = n) (l2 : zs.length = ks.length) (h : sp (gV vs zs) H Q (E σ)) : wpAny (model X.prog X.w) X.A (call (.ref f) us (ks.zip ws)) (EP X pins σ Q) X.xe s := by
  have r2 := hb.rel r rz
  refine wpAny_call (codeAny_mono (F.run X.A X.stack s H ⟨us, ks.zip ws⟩ (g us ws) (gV vs zs) Q (E σ) hr I.env0 (hb.to s us ws I.kIn (r.length.symm.trans l1) (rz.length.symm.trans l2)) r2 h) fun r s' hq => ?_)
  cases r with
  | error e => exact hx pins H s e s' I hq
  | ok fl =>
    cases fl with
    | ret u => exact I.after hq
    | next => exact False.elim hq
    | brk => exact False.elim hq
    | cont => exact False.elim hq
theorem pe_callNS (F : FnOk X.prog X.w X.K X.mg X.base CX k f fd ps sp) (hr : Room k X.A) (hg : Gl X x) (hm : X.mg x = some (.ref f)) (hk : PySem.W.keepIn X.K (.ref f) = true) (hb : KBn X.K fd ps n ks g gV) (hx : ∀ σ, PassesAt CX X σ (E σ))
    (ha : PA X (e :: es) t) (hkw : PK X kws tk) (hall : (backToKw pos (keywordEach kws X.env)).all (·.1.isSome) = true := by rfl) (hks : (backToKw pos (keywordEach kws X.env)).filterMap (·.1) = ks := by rfl)
    (hdb : (x == ("__debug__" : Str)) = false := by decide) (he : starEach (e :: es) X.env = (false, eval e X.env) :: starEach es X.env := by rfl)
    (hpl : ((backTo pos (starEach (e :: es) X.env)).any (·.1) || (backToKw pos (keywordEach kws X.env)).any (·.1.isNone)) = false := by rfl) :
    PE X (.Call (.Name x p) (e :: es) kws pos) (tCallNS n ks.length sp gV E t tk) := by
  refine ⟨fun pins s σ H Q I h => ?_⟩
  refine wpAny_Call_Name_kw (ld_glob I hg hm ?_ hdb)
  refine PySem.W.callWith_KW (h₀ := X.base) I.ok.mod.kin hk hall (thn (ha.run pos pins s σ H _ I h) fun us s1 ⟨vs, H1, I1, r, q⟩ => ?_) hpl he
  refine thn (hkw.run pos pins s1 σ H1 _ I1 q) fun ws s2 ⟨zs, H2, I2, rz, l1, l2, q2⟩ => ⟨I2.kIn, ?_⟩
  rw [hks]
  exact run_fnNS F hr hb (hx σ) I2 r rz l1 l2 q2
end
/-- a tuple that stands ahead -/
theorem sqT_K {K : PySem.W.Frag} {a : Addr} {o : Obj} {its : Array Value} {n : Nat} {xs : List V} (l : K.lookup a = some o) (c : o.cls = .type "tuple") (d : o.data = .seq its n) (z : its.size ≤ sizeLine) (r : Vals xs its.toList) (H : Hp) : SqT K H a xs := .inr ⟨o, its, n, l, c, d, z, r⟩
theorem SqT.tyx {K : PySem.W.Frag} {H : Hp} {a : Addr} {xs : List V} (h : SqT K H a xs) : TyX K H (.ref a) (.type "tuple") := by
  rcases h with (h | ⟨o, h⟩) | ⟨o, its, n, l, c, _⟩
  · exact .base (.tup h)
  · exact .fTuple h
  · exact .kTuple l c
/-- isinstance(x, tuple), of a tuple that stands ahead, too -/
def rIsTup (K : PySem.W.Frag) : List V → Hp → VK → Prop := fun xs H Q => (∃ x t, xs = [x, .ty "tuple"] ∧ Ty7 H x t ∧ Q (.bl (decide (t = "tuple"))) H) ∨ ∃ a ys, xs = [.ref a, .ty "tuple"] ∧ SqT K H a ys ∧ Q (.bl true) H
theorem call_isTup {X : Cx} : CallR X (.builtin "isinstance") (rIsTup X.K) := by
  intro pins s σ H xs us Q I r h
  rcases h with ⟨x, t, e, h7, q⟩ | ⟨a, ys, e, hs, q⟩
  · exact is_tuple pins s σ H xs us Q I r ⟨x, t, e, h7, q⟩
  · exact call_isi pins s σ H xs us Q I r ⟨_, _, _, _, _, e, .ty _, SqT.tyx hs, kit_ty (by decide +kernel), q⟩
theorem call_isTupK {X : Cx} {K : PySem.W.Frag} (h : X.K = K) : CallR X (.builtin "isinstance") (rIsTup K) := h ▸ call_isTup
end My

/-! ### own classes whose __init__ has keyword-only defaults -/
namespace My
open PySem PySem.Spec PyProof.Rows L2 RZ
structure Cl (K : PySem.W.Frag) (mg : Str → Option Value) (x : Str) where
  C : Addr
  g : mg x = some (.ref C)
  cls : Cls K C
def cl_mk {K : PySem.W.Frag} {mg : Str → Option Value} {x : Str} {h : Heap} (X : K.In h) (G : h.Ns mainGlobals mg) {C : Addr} (a : PySem.W.nsIn K mainGlobals x = some (some (.ref C)))
    (pg : PySem.W.plainGet K C Str.empty = true) (hd : PySem.W.hasDictIn K C = true) (po : PySem.W.plainOver K C = true) (sa : PySem.W.findIn K (.ref C) "__setattr__" = some (some (.builtin "object.__setattr__"))) : Cl K mg x :=
  ⟨C, PySem.W.mg_of X G a, ⟨pg, hd, po, sa⟩⟩
inductive KwIn (K : PySem.W.Frag) (D : Addr) : List (Str × V) → Prop
  | nil : KwIn K D []
  | cons {y : Str} {v : V} {u : Value} {l : List (Str × V)} (e : PySem.W.nsIn K D y = some (some u)) (r : RelV v u) (t : KwIn K D l) : KwIn K D ((y, v) :: l)
theorem KwIn.all {K : PySem.W.Frag} {D : Addr} : ∀ {l : List (Str × V)}, KwIn K D l → ∀ q ∈ l, ∃ u, PySem.W.nsIn K D q.1 = some (some u) ∧ RelV q.2 u
  | _, .nil, q, h => by cases h
  | _, .cons e r t, q, h => by
    rcases List.mem_cons.mp h with rfl | h
    · exact ⟨_, e, r⟩
    · exact t.all q h
structure Ini (K : PySem.W.Frag) (q : Str) (st : Stmt) (C : Addr) (kws : List (Str × V)) where
  f : Addr
  fd : FuncData
  FD : FunD K "__init__" q (defArgs st) (defBody st) (defScope st) [] kws f fd
  mks : Mk K C f
theorem Ini.F {K : PySem.W.Frag} {q : Str} {st : Stmt} {C : Addr} {kws : List (Str × V)} (d : Ini K q st C kws) : Fun K "__init__" q st d.f d.fd := by
  obtain ⟨oc, od, dV, kV, doc, pm, an, cdv, ct, osl, e, l, c, hd, _⟩ := d.FD.ex
  rcases hd with ⟨_, e2⟩ | ⟨e2, _⟩
  · subst e2
    exact ⟨⟨oc, od, kV, doc, pm, an, cdv, ct, osl, e, l, c⟩, d.FD.kp⟩
  · exact absurd rfl e2
def ini_mk {K : PySem.W.Frag} {q : Str} {st : Stmt} {C : Addr} {kws : List (Str × V)} {f D : Addr} {oc : Value} {od an : Option Addr} {osl : Array (Option Value)} {doc pm cdv ct : Value}
    (i : PySem.W.findIn K (.ref C) "__init__" = some (some (.ref f))) (m : PySem.W.makesIn K C = true) (fn : PySem.W.isFn K (.ref f) = true) (kc : PySem.W.keepIn K (.ref C) = true)
    (l : K.lookup f = some ⟨oc, od, .func (PySem.W.fnOf "__init__" q (defArgs st) (defBody st) (defScope st) .none (.ref D) doc pm an cdv ct), osl⟩) (c : PySem.W.codeIn K cdv q = true) (k : PySem.W.keepIn K (.ref f) = true) (kw : KwIn K D kws) : Ini K q st C kws :=
  ⟨f, _, ⟨⟨oc, od, .none, .ref D, doc, pm, an, cdv, ct, osl, rfl, l, c, .inl ⟨rfl, rfl⟩, .inr ⟨D, rfl, kw.all⟩⟩, k⟩, ⟨m, i, fn, kc⟩⟩
/-- one of a list, as a list -/
def pick1 {α : Type} (i : Nat) (l : List α) : List α := (l.drop i).take 1
theorem vals_pick {xs : List V} {us : List Value} (r : Vals xs us) (i : Nat) : Vals (pick1 i xs) (pick1 i us) := (r.drop i).take 1
/-! #### o.f as a target among others -/
def gFld (K : PySem.W.Frag) (to : TE) (f : Str) : TG := fun y σ H Q => to σ H fun x H2 => ∃ a C dx fs, x = .ref a ∧ H2 a = some (.ins C dx fs) ∧ Cls K C ∧ NoAttr K C f ∧ fs.length < 1000 ∧ Q σ (upd H2 a (.ins C dx (putF f y fs)))
theorem pg_fld {X : Cx} {o : Expr} {f : Str} {pos : Pos} {to : TE} (ho : PE X o to) : PG X (.Attribute o f pos) (gFld X.K to f) := by
  refine ⟨fun pins s σ H v u Q I r h => ?_⟩
  rw [assign_Attribute]
  refine wpAny_bind (wpAny_holding (thn (ho.run pins s σ H _ I h) fun ov s2 ⟨x, H2, I2, rx, a, C, dx, fs, ex, ea, c, n, l, q2⟩ => ?_))
  subst ex
  obtain rfl : ov = Value.ref a := rx
  exact wpAny_bind (wpAny_standAt (wpAny_bind (wpAny_holding (setattr_ok I2 ea c n l r fun s3 I3 => wpAny_release ⟨σ, _, I3, q2⟩))))
theorem pg_fldK {X : Cx} {K : PySem.W.Frag} (h : X.K = K) {o : Expr} {f : Str} {pos : Pos} {to : TE} (ho : PE X o to) : PG X (.Attribute o f pos) (gFld K to f) := h ▸ pg_fld ho
/-! #### zip of two tuples -/
theorem pi_zipAK {X : Cx} {K : PySem.W.Frag} (h : X.K = K) {e e2 : Expr} {ta : TA} {p pos tpos : Pos} {elts : List Expr} {kk : Nat} (hg : Gl X "zip") (hm : X.mg "zip" = none) (ha : PA X [e, e2] ta)
    (he : starEach [e, e2] X.env = (false, eval e X.env) :: starEach [e2] X.env := by rfl) (hpl : (backTo pos (starEach [e2] X.env)).any (·.1) = false := by rfl) : PI X (.Tuple elts kk tpos) (.Call (.Name "zip" p) [e, e2] [] pos) (iZipA K ta) := h ▸ pi_zipA hg hm ha he hpl
section
variable {K : PySem.W.Frag} {g : TG} {tt : TT} {te : TE} {vs : List Nat} {σ : L2.St} {H1 : Hp} {D a b : Addr} {Qd : Hp → Prop} {xs zs : List V} {n : Nat}
theorem lcZT (hlen : xs.length = zs.length) (P : Nat → List V → Hp → Prop) (h0 : ∀ H', Same H1 H' → H' D = some (.lst []) → P 0 [] H') (hD : H1 D = none) (hl : ∀ i acc H, P i acc H → SqT K H a xs ∧ SqT K H b zs)
    (hs : ∀ i x z acc H T H' Kt Kf, xs[i]? = some x → zs[i]? = some z → P i acc H → H D = some (.lst acc) → H T = none → Same H H' → H' T = some (.tup [x, z]) → LcK D (P (i + 1)) acc Kt Kf → LcT g tt te vs σ (.ref T) H' Kt Kf)
    (hd : ∀ acc H, P xs.length acc H → H D = some (.lst acc) → Qd H) : LcG (ItzT K a b) g tt te vs σ H1 D Qd := by
  refine ⟨fun i m H => m = xs.length - i ∧ i ≤ xs.length ∧ ∃ acc, H D = some (.lst acc) ∧ P i acc H, ⟨xs.length, rfl, Nat.zero_le _, [], upd_same, h0 _ (Same.upd0 hD) upd_same⟩, ?_⟩
  rintro i m H ⟨rfl, hi, acc, e, p⟩
  obtain ⟨q1, q2⟩ := hl i acc H p
  by_cases hlt : i < xs.length
  · have hlt2 : i < zs.length := by omega
    refine .inr ⟨⟨xs, zs, xs[i], zs[i], q1, q2, by simp [hlt], by simp [hlt2]⟩, fun H => ∃ acc, H D = some (.lst acc) ∧ P (i + 1) acc H, fun H' p' => ⟨xs.length - (i + 1), by omega, rfl, hlt, p'⟩, fun v H' y => ?_⟩
    obtain ⟨T, x, z, rfl, nT, rfl, hx, hz⟩ := y
    exact hs i x z acc H T _ _ _ (hx xs q1) (hz zs q2) p e nT (Same.upd0 nT) upd_same ⟨fun y H4 e4 z k => ⟨acc, e4, z, acc ++ [y], upd_same, k _ But.refl.upd upd_same⟩, fun H3 e3 k => ⟨acc, e3, k⟩⟩
  · have ei : i = xs.length := by omega
    subst ei
    exact .inl ⟨⟨xs, zs, q1, q2, .inl (Nat.le_refl _)⟩, hd acc H p e⟩
/-- .. all the same thing -/
theorem lcZTc (v : V) (hlen : xs.length = zs.length) (hD : H1 D = none) (ha : SqT K H1 a xs) (hb : SqT K H1 b zs) (hz : xs.length ≤ 100000)
    (hs : ∀ (i : Nat) (x z : V) (T : Addr) (H' : Hp) (Kt : V → Hp → Prop) (Kf : Hp → Prop), xs[i]? = some x → zs[i]? = some z → Same H1 H' → H' T = some (.tup [x, z]) → (∀ H4, Same H' H4 → Kt v H4) → LcT g tt te vs σ (.ref T) H' Kt Kf)
    (hd : ∀ H, Same H1 H → H D = some (.lst (List.replicate xs.length v)) → Qd H) : LcG (ItzT K a b) g tt te vs σ H1 D Qd :=
  lcZT hlen (fun i acc H => acc = List.replicate i v ∧ Same H1 H) (fun H' s _ => ⟨rfl, s⟩) hD (fun i acc H p => ⟨Same.seqT p.2 ha, Same.seqT p.2 hb⟩)
    (fun i x z acc H T H' Kt Kf hx hz' p e nT s gT k => by
      obtain ⟨rfl, sm⟩ := p
      have hi := (List.getElem?_eq_some_iff.mp hx).1
      refine hs i x z T H' Kt Kf hx hz' (sm.trans s) gT fun H4 s4 => k.yes v H4 (s4 _ _ (s _ _ e)) (by rw [List.length_replicate, sizeLine_eq]; omega) fun H5 b5 _ => ⟨List.replicate_succ'.symm, Same.mut' ((sm.trans s).trans s4) b5 hD⟩)
    (fun acc H p e => hd H p.2 (by rw [← p.1]; exact e))
end
end My

/-! ### making instances where the __init__ may raise; isinstance of own instances -/
namespace My
open PySem PySem.Spec PyProof.Rows L2
def tMakeKS (C : Addr) (n m : Nat) (sp : Sp) (gV : List V → List V → List V) (E : L2.St → XK) (t tk : TA) : TE := fun σ H Q => t σ H fun vs H1 => tk σ H1 fun zs H2 => vs.length = n ∧ zs.length = m ∧ ∀ x dx, H2 x = none → H2 dx = none → dx ≠ x →
  sp (gV (.ref x :: vs) zs) (upd (upd H2 dx (.own x)) x (.ins C dx [])) (fun v H3 => v = .non ∧ Q (.ref x) H3) (E σ)
section
variable {X : Cx} {CX : CXT} {k n : Nat} {f C : Addr} {fd : FuncData} {ps ks : List Str} {sp : Sp} {E : L2.St → XK} {x : Str} {p pos : Pos} {e : Expr} {es : List Expr} {kws : List Keyword} {t tk : TA} {g : List Value → List Value → List Value} {gV : List V → List V → List V}
theorem run_makeKS {pins : List (Addr × Obj)} {σ : L2.St} {H : Hp} {s : Shared} {Q : VK} {us ws : List Value} {vs zs : List V} (M : Mk X.K C f) (F : FnOk X.prog X.w X.K X.mg X.base CX k f fd ps sp) (hr : Room (k + 1) X.A) (hb : KBn X.K fd ps (n + 1) ks g gV) (hx : PassesAt CX X σ (E σ))
    (I : Inv X pins σ H s) (r : Vals vs us) (rz : Vals zs ws) (l1 : vs.length = n) (l2 : zs.length = ks.length)
    (h : ∀ x dx, H x = none → H dx = none → dx ≠ x → sp (gV (.ref x :: vs) zs) (upd (upd H dx (.own x)) x (.ins C dx [])) (fun v H2 => v = .non ∧ Q (.ref x) H2) (E σ)) :
    wpAny (model X.prog X.w) X.A (call (.ref C) us (ks.zip ws)) (EP X pins σ Q) X.xe s := by
  have hq := h (s.heap.objs.size + 1) s.heap.objs.size (I.hok.fresh (Nat.le_succ _)) (I.hok.fresh (Nat.le_refl _)) (Nat.ne_of_lt (Nat.lt_succ_self _))
  have I2 := Inv.made (C := C) I
  have r1 : Vals (V.ref (s.heap.objs.size + 1) :: vs) (Value.ref (s.heap.objs.size + 1) :: us) := .cons rfl r
  have r2 := hb.rel r1 rz
  have n1 : (Value.ref (s.heap.objs.size + 1) :: us).length = n + 1 := by
    rw [List.length_cons, ← r.length, l1]
  refine wpAny_call (make_map (f := f) I.kIn M.makes M.init (beq_iff_eq.mp M.fn) (codeAny_mono (F.run _ X.stack _ _ ⟨Value.ref (s.heap.objs.size + 1) :: us, ks.zip ws⟩ (g (Value.ref (s.heap.objs.size + 1) :: us) ws) _ _ (E σ) (hr.make C us (ks.zip ws))
    (I2.env0.make C us (ks.zip ws)) (hb.to _ (Value.ref (s.heap.objs.size + 1) :: us) ws I2.kIn n1 (rz.length.symm.trans l2)) r2 hq) fun r s' hq' => ?_))
  cases r with
  | error e => exact hx pins _ _ e s' I2 hq'
  | ok fl =>
    cases fl with
    | ret u =>
      obtain ⟨v, H', I3, rv, ev, q3⟩ := I2.after hq'
      subst ev
      exact ⟨rv, ⟨V.ref (s.heap.objs.size + 1), H', I3, rfl, q3⟩⟩
    | next => exact False.elim hq'
    | brk => exact False.elim hq'
    | cont => exact False.elim hq'
/-- C(e, .., k = v, ..) in a try's body -/
theorem pe_makeKS (M : Mk X.K C f) (F : FnOk X.prog X.w X.K X.mg X.base CX k f fd ps sp) (hr : Room (k + 1) X.A) (hg : Gl X x) (hm : X.mg x = some (.ref C)) (hb : KBn X.K fd ps (n + 1) ks g gV) (hx : ∀ σ, PassesAt CX X σ (E σ)) (ha : PA X (e :: es) t) (hkw : PK X kws tk)
    (hall : (backToKw pos (keywordEach kws X.env)).all (·.1.isSome) = true := by rfl) (hks : (backToKw pos (keywordEach kws X.env)).filterMap (·.1) = ks := by rfl) (hdb : (x == ("__debug__" : Str)) = false := by decide)
    (he : starEach (e :: es) X.env = (false, eval e X.env) :: starEach es X.env := by rfl) (hpl : ((backTo pos (starEach (e :: es) X.env)).any (·.1) || (backToKw pos (keywordEach kws X.env)).any (·.1.isNone)) = false := by rfl) :
    PE X (.Call (.Name x p) (e :: es) kws pos) (tMakeKS C n ks.length sp gV E t tk) := by
  refine ⟨fun pins s σ H Q I h => ?_⟩
  refine wpAny_Call_Name_kw (ld_glob I hg hm ?_ hdb)
  refine PySem.W.callWith_KW (h₀ := X.base) I.ok.mod.kin M.kp hall (thn (ha.run pos pins s σ H _ I h) fun us s1 ⟨vs, H1, I1, r, q⟩ => ?_) hpl he
  refine thn (hkw.run pos pins s1 σ H1 _ I1 q) fun ws s2 ⟨zs, H2, I2, rz, l1, l2, q2⟩ => ⟨I2.kIn, ?_⟩
  rw [hks]
  exact run_makeKS M F hr hb (hx σ) I2 r rz l1 l2 q2
end
/-- the defaults of an __init__ called by places alone -/
theorem Ini.bx {K : PySem.W.Frag} {q : Str} {st : Stmt} {C : Addr} {kws : List (Str × V)} (d : Ini K q st C kws) {ps : List Str} (n : Nat) (hk : kws ≠ []) (hn : n + kws.length = ps.length)
    (h : ∀ (D : Addr) (doc pm : Value) (an : Option Addr) (cdv ct : Value) (us ks : List Value), us.length = n → ks.length = kws.length →
      KwChain D ((kws.map (·.1)).zip ks) (bindArgs (PySem.W.fnOf "__init__" q (defArgs st) (defBody st) (defScope st) .none (.ref D) doc pm an cdv ct) ⟨us, []⟩) (ps.zip (us ++ ks))) : ∃ ds, Vals (kws.map (·.2)) ds ∧ Binds K d.fd ps ds := d.FD.binds0 n hk hn h
/-- isinstance of an instance, by its class's chain -/
theorem kit_own {K : PySem.W.Frag} {C D : Addr} {b : Bool} (s : PySem.W.subIn K (.ref C) (.ref C) = some true) (h : PySem.W.subIn K (.ref C) (.ref D) = some b) (t : PySem.W.typeIn K (.ref D) = some (.type "type")) (hd : PySem.W.hasDictIn K D = true) : PySem.W.kitOne K (.ref C) (.ref D) = some b := by
  unfold PySem.W.kitOne
  split
  · next q =>
    have z : (Value.ref C) = .ref D := beq_iff_eq.mp q
    rw [← z, s] at h
    cases h
    rfl
  · have hc : (PySem.W.clsIn K D).isSome = true := by
      have := hd
      unfold PySem.W.hasDictIn at this
      cases q : PySem.W.clsIn K D with
      | none => rw [q] at this; cases this
      | some c => rfl
    have e2 : ((PySem.W.clsIn K D).isSome && PySem.W.typeIn K (.ref D) == some (.type "type")) = true := by rw [hc, t] <;> rfl
    show (if ((PySem.W.clsIn K D).isSome && PySem.W.typeIn K (.ref D) == some (.type "type")) = true then PySem.W.subIn K (.ref C) (.ref D) else none) = some b
    rw [if_pos e2]
    exact h
end My

/-! ### any(a list) in an except suite; lists of truths there -/
namespace My
open PySem PySem.Spec PyProof.Rows L2 HotX
section
variable {prog : Program} {w : World} {A : Around} {E : Value → Shared → Prop} {s : Shared}
theorem pyNext_list_end_hot {it l x1 : Addr} {i : Nat} {items : Array Value} {Q : Option Value → Shared → Prop} (hot : HotAt A x1 s.heap) (hne : x1 ≠ it)
    (hit : s.heap.IsListIter it l i) (hl : s.heap.IsList l items) (hx : items[i]? = none)
    (hQ : ∀ h', Heap.ExtBut it s.heap h' → Q none { s with heap := h' }) : wpAny (model prog w) A (pyNext (.ref it)) Q E s := by
  obtain ⟨o, ho, hc, hd⟩ := id hit
  obtain ⟨ol, hol, _, nl, hdl⟩ := hl
  obtain ⟨hh, o1, vs1, h1, d1, c1⟩ := hot
  unfold pyNext
  refine wpAny_bind (wpAny_attempt (wpAny_callSpecial?_slot (name := Str.ofString "__next__") hit.typeIs slot_listiter_next
    (wpAny_call_entry slot_listiter_next hit.typeIs entry_listiter_next ?_ (args_listiter_next _))))
  show wpAny _ _ (field (.ref it) 0 >>= _) _ _ s
  refine wpAny_bind (wpAny_field ho hd (x := .ref l) rfl ?_)
  show wpAny _ _ (if (Value.ref l == Value.none) = true then _ else _) _ _ s
  rw [if_neg (show ¬ ((Value.ref l == Value.none) = true) from Bool.false_ne_true)]
  show wpAny _ _ (field (.ref it) 1 >>= _) _ _ s
  refine wpAny_bind (wpAny_field ho hd (x := .int i 0) rfl ?_)
  show wpAny _ _ (seqItems? (.ref l) >>= _) _ _ s
  refine wpAny_bind (wpAny_seqItems hol hdl ?_)
  simp only [Int.toNat_natCast, hx]
  refine wpAny_bind (wpAny_rule (wpAny_bind (wpAny_setField ho hd (by simp) ?_)))
  show wpAny _ _ (newExc (.type "StopIteration") [] >>= _) _ _ _
  refine wpAny_bind ?_
  simp only [newExc, newTuple]
  refine wpAny_bind (wpAny_newObj_type ?_ (by size_fits))
  refine wpAny_bind (m := firstArgMember _ _) (wpAny_of_eq (a := Value.none) (by first | rfl | (simp only [firstArgMember]; rfl)) ?_)
  refine wpAny_newObj_type ?_ (by size_fits)
  have h1' : ∀ (o' : Obj) (f : Obj → Obj), (((s.heap.update it f).push o').get? x1 = some o1) := fun o' f => Heap.get?_push_of_some _ ((Heap.SameBut.update s.heap it f).extBut x1 o1 hne h1)
  refine raiseNew_hot ⟨hh, o1, vs1, Heap.get?_push_of_some _ (h1' _ _), d1, c1⟩ (Nat.ne_of_lt (Heap.lt_size (h1' _ _))) (Heap.get?_push_size _ rfl) rfl (by first | (simp; done) | (simp; omega) | (simp only [Array.size_append]; simp; omega)) ?_
  refine wpAny_bind (wpAny_isInstance (T := "StopIteration") (b := true) ⟨_, Heap.get?_update_self _ (Heap.get?_push_size _ rfl) rfl, rfl⟩ isSubtype_stop ?_)
  refine wpAny_pure (hQ _ fun b o nb e => ?_)
  have e2 := (Heap.SameBut.update s.heap it (Obj.mapFields (·.setIfInBounds 0 Value.none))).extBut b o nb e
  rw [Heap.get?_update_other _ _ (Nat.ne_of_gt (Heap.lt_size (Heap.get?_push_of_some _ e2)))]
  exact Heap.get?_push_of_some _ (Heap.get?_push_of_some _ e2)
/-- the object of a handled exception -/
def CtxAt (x1 : Addr) (h : Heap) : Prop := ∃ (o : Obj) (vs : Array Value), h.get? x1 = some o ∧ o.data = .fields vs ∧ vs[2]? = some .none
theorem walks_listH {x1 : Addr} (hh : A.handled = some (.ref x1)) (I ax : Addr) (hne : ax ≠ I) (hx : x1 ≠ I) (items : Array Value) :
    Walks prog w A I [I, ax, x1] [I] items.size (fun i v => items[i]? = some v) (fun i h => h.IsListIter I ax i ∧ h.IsList ax items ∧ CtxAt x1 h) where
  sub := fun b hb => by simp at hb; simp [hb]
  frame := fun _ _ _ st hk => ⟨st.1.at fun o e => hk I (by simp) o e, st.2.1.at fun o e => hk ax (by simp) o e, let ⟨o, vs, a, b, c⟩ := st.2.2; ⟨o, vs, hk x1 (by simp) o a, b, c⟩⟩
  item := fun i s Q E hi st hQ => by
    refine wpAny_pyNext_list_item st.1 st.2.1 (x := items[i]) (by simp [hi]) fun h' hit' hs' => ?_
    exact hQ _ h' s.toks (by simp [hi]) ⟨hit', st.2.1.extBut hs'.extBut hne, let ⟨o, vs, a, b, c⟩ := st.2.2; ⟨o, vs, hs'.extBut x1 o hx a, b, c⟩⟩ fun b o hb e => hs'.extBut b o (fun h => hb (by simp [h])) e
  done := fun s Q E st hQ => pyNext_list_end_hot ⟨hh, st.2.2⟩ hx st.1 st.2.1 (by simp) fun h' he' => hQ h' s.toks fun b o hb e => he' b o (fun h => hb (by simp [h])) e
  self := fun _ _ _ _ st hQ => wpAny_pyIter_listiter st.1 hQ
end
theorem cr_anyH {X : Cx} (hc : L2H.HotC X) : CallR X (.builtin "any") (rAny X.K) := by
  intro pins s σ H vs us Q I r h
  obtain ⟨a, bs, rfl, hs, q⟩ := h
  obtain ⟨its, rv, hl, _⟩ := I.list hs
  rw [Vals.ref1 r]
  have hb := rv.bls
  obtain ⟨x1, hh, hx⟩ := hc.at I
  refine call_any_walk (iter_any hl.isList fun s₂ e2 st hne => ?_)
  subst e2
  obtain ⟨o1, vs1, h1, d1, c1⟩ := hx
  have lx : x1 < s.heap.objs.size := Heap.lt_size h1
  refine ⟨_, _, _, _, _, _, _, rfl, walks_listH (A := X.A.in1) (x1 := x1) hh _ a hne (Nat.ne_of_lt lx) its.toArray, ⟨st.1, st.2, o1, vs1, Heap.get?_push_of_some _ h1, d1, c1⟩, truth_bools hb, fun h' tk hk => ?_⟩
  refine ⟨.bl _, H, I.kept fun b o eo => hk b o (fun hmem => ?_) (Heap.get?_push_of_some _ eo), ?_, q⟩
  · rcases List.mem_cons.mp hmem with e1 | hmem
    · exact absurd (e1 ▸ Heap.lt_size eo) (Nat.lt_irrefl _)
    · cases hmem
  · show Value.bool _ = Value.bool _
    rw [← L2.any_range, hb, List.size_toArray, List.length_map]
theorem cr_anyHK {X : Cx} {K : PySem.W.Frag} (hc : L2H.HotC X) (h : X.K = K) : CallR X (.builtin "any") (rAny K) := h ▸ cr_anyH hc
/-- a suite's context bears the exception, its context None -/
theorem hot_suite {X : Cx} {a : Addr} {oe : Obj} {cls : Value} {d : Option Addr} {pn : List (Addr × Obj)} (hz : L2N.Zn cls d oe) (hf : ∃ vs, oe.data = .fields vs) : L2H.HotC (X.suite a ((a, oe) :: pn)) := by
  obtain ⟨vs, e⟩ := hf
  exact ⟨(a, oe), ⟨rfl, vs, e, hz.2.2 vs e⟩, List.mem_cons_self⟩
end My
namespace L2
open PySem PySem.Spec PyProof.Rows
section
variable {P : Program} {w : World} {K : PySem.W.Frag} {mg : Str → Option Value} {base : Heap}
/-- as Fun.okX, what is raised has no context -/
theorem Fun.okN {x qual : Str} {st : Stmt} {f : Addr} {fd : FuncData} {N ps : List Str} {k : Nat} {sp : Sp} (F : Fun K x qual st f fd) (S : FnScope N ps (defScope st)) (len : ∀ vs H Q E, sp vs H Q E → vs.length = ps.length)
    (hbody : ∀ (cdv : Value) (A : Around) (outer : List Env) (s : Shared) (H : Hp) (vs : List V) (Q : VK) (E : XK), Room k (A.deeper (envOfC qual (defScope st) s.heap.objs.size f cdv)) → sp vs H Q E →
      ∃ t, PSs (cxOf (L2N.CX P w) P w K mg base N qual (defScope st) f cdv A outer s H E) (defBody st) t ∧ t { nx := fun _ H' => Q .non H', rt := Q } (start N vs) H) : FnOk P w K mg base (L2N.CX P w) (k + 1) f fd ps sp := by
  obtain ⟨oc, od, kV, doc, pm, an, cdv, ct, osl, rfl, lk, hcd⟩ := F.ex
  exact fn_of lk hcd S len fun A outer s H vs Q E hr hsp => hbody cdv A outer s H vs Q E hr hsp
end
end L2
namespace My
open PySem PySem.Spec PyProof.Rows L2
theorem takes0N {X : Cx} : L2N.Takes X (fun _ _ _ _ => False) := fun _ _ x => by
  obtain ⟨_, _, _, _, _, _, _, _, _, _, _, _, _, _, _, _, z⟩ := x
  exact z.elim
theorem passLN {X : Cx} : Passes (L2N.CX X.prog X.w) X E0 := fun _ _ _ _ _ _ _ h => by
  obtain ⟨_, _, _, _, _, _, _, _, _, _, _, _, z⟩ := h
  exact z.elim
end My

/-! ### == and != of two instances of one class with a text's own __eq__ -/
namespace My
open PySem PySem.Spec PyProof.Rows L2
/-- the reading: what the own == promises -/
def rNeI (C : Addr) (sp : Sp) (E : XK) : R2 := fun x y H Q => ∃ (a b dx dy : Addr) (fs gs : List (Str × V)), x = .ref a ∧ y = .ref b ∧ H a = some (.ins C dx fs) ∧ H b = some (.ins C dy gs) ∧
  sp [.ref a, .ref b] H (fun v H' => ∃ r, v = .bl r ∧ Q (.bl (!r)) H') E
def rEqI (C : Addr) (sp : Sp) (E : XK) : R2 := fun x y H Q => ∃ (a b dx dy : Addr) (fs gs : List (Str × V)), x = .ref a ∧ y = .ref b ∧ H a = some (.ins C dx fs) ∧ H b = some (.ins C dy gs) ∧
  sp [.ref a, .ref b] H (fun v H' => ∃ r, v = .bl r ∧ Q (.bl r) H') E
section
variable {prog : Program} {w : World} {A : Around} {E : Value → Shared → Prop} {s : Shared} {K : PySem.W.Frag} {x C f : Addr} {ox : Obj} {od : Option Obj} {b : Value}
theorem call_objNe {Q : Value → Shared → Prop} (hu : A.units + 1 < cLine) (X : K.In s.heap) (I : PySem.W.InstAt s.heap x ox C od) (hm : PySem.W.mroIn K C (.type "object") = some true) (hs : PySem.W.findIn K (.ref C) "__eq__" = some (some (.ref f))) (hf : PySem.W.isFn K (.ref f) = true)
    (h : wpAny (model prog w) A.in1 (call (.ref f) [.ref x, b]) (fun v s' => ∃ r, v = .bool r ∧ Q (.bool (!r)) s') E s) :
    wpAny (model prog w) A (call (.builtin "object.__ne__") [.ref x, b]) Q E s := by
  refine wpAny_call (codeAny_call_builtin F.cmp_object.ne.plain F.cmpEntry_ne (PySem.W.check_slot F.cmpKind_ne F.cmpSplit_ne (I.type.andThen (PySem.W.looks_mroIn X hm)) (F.cmpArgs_ne _ _) ?_))
  unfold Builtin.«object.__ne__»
  repeat (first
    | with_reducible refine wpAny_cRoomFor (show A.in1.units < cLine from hu) ?_
    | (refine wpAny_bind (m := callSpecialIfBound? (.ref x) (Str.ofString "__eq__") [b])
        (PySem.W.ifBound_K X I hs hf (wpAny_mono h (fun r s' hr => by
          obtain ⟨b, rfl, hq⟩ := hr
          repeat (first | exact ⟨_, rfl, hq⟩ | exact hq | exact wpAny_pure hq | exact wpAny_truthy_bool hq | (refine wpAny_bind (m := truthy (.bool _)) (wpAny_truthy_bool ?_)) | wp_step)) fun _ _ e => e)))
    | wp_step)
theorem ifBound_objNe {args : List Value} {Q : Option Value → Shared → Prop} (X : K.In s.heap) (I : PySem.W.InstAt s.heap x ox C od) (hs : PySem.W.findIn K (.ref C) "__ne__" = some (some (.builtin "object.__ne__")))
    (h : wpAny (model prog w) A (call (.builtin "object.__ne__") (.ref x :: args)) (fun v => Q (some v)) E s) : wpAny (model prog w) A (callSpecialIfBound? (.ref x) "__ne__" args) Q E s := by
  simp only [callSpecialIfBound?, bindSpecialIfBound?]
  refine wpAny_holding (wpAny_bind (wpAny_bind (wpAny_bind (I.type.here ((PySem.W.looks_findIn X hs).here ?_)))))
  refine wpAny_bind (wpAny_askSetting (wpAny_ite ?_))
  have fin : wpAny (model prog w) A (call (.builtin "object.__ne__") ([.ref x] ++ args) >>= fun v => pure (some v)) Q E s := wpAny_bind (wpAny_mono h (fun v s' h' => wpAny_pure h') fun _ _ h' => h')
  split
  · exact wpAny_bind (wpAny_of_eq (F.cmp_object.ne.bind _) (wpAny_pure (by exact fin)))
  · exact wpAny_tryCatch (wpAny_bind (wpAny_of_eq (F.cmp_object.ne.bind _) (wpAny_pure (by exact fin))))
/-- != of two instances of one class, by the own __eq__ -/
theorem rc_neI {y : Addr} {oy : Obj} {od' : Option Obj} {Q : Value → Shared → Prop} (hu : A.units + 1 < cLine) (X : K.In s.heap) (I : PySem.W.InstAt s.heap x ox C od) (J : PySem.W.InstAt s.heap y oy C od') (hm : PySem.W.mroIn K C (.type "object") = some true)
    (hs : PySem.W.findIn K (.ref C) "__eq__" = some (some (.ref f))) (hn : PySem.W.findIn K (.ref C) "__ne__" = some (some (.builtin "object.__ne__"))) (hf : PySem.W.isFn K (.ref f) = true)
    (h : wpAny (model prog w) A.in1 (call (.ref f) [.ref x, .ref y]) (fun v s' => ∃ r, v = .bool r ∧ Q (.bool (!r)) s') E s) : wpAny (model prog w) A (richCompare .NotEq (.ref x) (.ref y)) Q E s := by
  have one : wpAny (model prog w) A (tryCompare (.ref x) "__ne__" (.ref y)) (fun r s' => ∃ v, r = some v ∧ Q v s') E s := by
    unfold tryCompare
    refine wpAny_bind (ifBound_objNe X I hn (call_objNe hu X I hm hs hf (wpAny_mono h (fun v s' hv => ?_) fun _ _ e => e)))
    obtain ⟨r, rfl, hq⟩ := hv
    exact ⟨r, rfl, wpAny_pure ⟨_, rfl, hq⟩⟩
  unfold richCompare
  simp only [oneThing_ref]
  refine wpAny_holding (wpAny_bind (wpAny_cRoomFor (by omega) ?_))
  rw [cmpInfo_NotEq]
  refine wpAny_bind (I.type.here (wpAny_bind (J.type.here ?_)))
  rw [show (Value.ref C != Value.ref C) = false from by simp]
  simp only [Bool.false_eq_true, if_false]
  refine wpAny_bind (wpAny_pure ?_)
  simp only [Bool.false_eq_true, if_false]
  refine wpAny_bind (wpAny_mono one (fun r s' z => ?_) fun _ _ e => e)
  obtain ⟨v, rfl, hq⟩ := z
  exact wpAny_pure hq
end
section
variable {X : Cx} {CX : CXT} {n : Nat} {C f : Addr} {fd : FuncData} {ps : List Str} {sp : Sp} {E : XK}
theorem op_neI (F : FnOk X.prog X.w X.K X.mg X.base CX n f fd ps sp) (hr : Room (n + 1) X.A) (hm : PySem.W.mroIn X.K C (.type "object") = some true) (hs : PySem.W.findIn X.K (.ref C) "__eq__" = some (some (.ref f))) (hn : PySem.W.findIn X.K (.ref C) "__ne__" = some (some (.builtin "object.__ne__")))
    (hf : PySem.W.isFn X.K (.ref f) = true) (hb : Binds X.K fd ps []) (hx : Passes CX X E) : OpR X (compareOp .NotEq) (rNeI C sp E) := by
  intro pins s σ H x y u v Q I rx ry h
  obtain ⟨a, b, dx, dy, fs, gs, rfl, rfl, ha, hb', hsp⟩ := h
  cases rx
  cases ry
  obtain ⟨mA, J, _⟩ := ins_get I.hok ha
  obtain ⟨mB, J', _⟩ := ins_get I.hok hb'
  obtain ⟨od, J, _⟩ := J.look
  obtain ⟨od', J', _⟩ := J'.look
  show wpAny (model X.prog X.w) X.A (richCompare .NotEq (.ref a) (.ref b)) (EP X pins σ Q) X.xe s
  refine rc_neI (show X.A.in1.units < cLine from hr.in1.units0) I.kIn J J' hm hs hn hf ?_
  have hl := F.len _ _ _ _ hsp
  have r2 : Vals [V.ref a, V.ref b] [Value.ref a, Value.ref b] := .cons rfl (.cons rfl .nil)
  have e0 : Env0 X.prog X.w X.K X.mg X.base X.A.in1 X.stack s H := have e := I.env0; ⟨e.frames, e.mod, e.bs, e.bsz, e.funs, e.frf, e.hok, e.bare⟩
  refine wpAny_call (codeAny_mono (F.run X.A.in1 X.stack s H ⟨[.ref a, .ref b], []⟩ [.ref a, .ref b] [.ref a, .ref b] _ E hr.in1 e0 (by
    have := hb s [.ref a, .ref b] I.kIn (by simpa using hl)
    simpa using this) r2 hsp) fun r s' hq => ?_)
  cases r with
  | error e => exact hx pins σ H s e s' I hq
  | ok fl =>
    cases fl with
    | ret w =>
      obtain ⟨z, H', I', rz, r, ez, q⟩ := I.after hq
      subst ez
      cases (show w = Value.bool r from rz)
      exact ⟨r, rfl, .bl (!r), H', I', rfl, q⟩
    | next => exact False.elim hq
    | brk => exact False.elim hq
    | cont => exact False.elim hq
theorem op_neIK {K : PySem.W.Frag} (hK : X.K = K) (F : FnOk X.prog X.w K X.mg X.base CX n f fd ps sp) (hr : Room (n + 1) X.A) (hm : PySem.W.mroIn K C (.type "object") = some true) (hs : PySem.W.findIn K (.ref C) "__eq__" = some (some (.ref f))) (hn : PySem.W.findIn K (.ref C) "__ne__" = some (some (.builtin "object.__ne__")))
    (hf : PySem.W.isFn K (.ref f) = true) (hb : Binds K fd ps []) (hx : Passes CX X E) : OpR X (compareOp .NotEq) (rNeI C sp E) := by
  subst hK
  exact op_neI F hr hm hs hn hf hb hx
end
/-- a method of an own class, with its facts -/
structure Mt (K : PySem.W.Frag) (x qual : Str) (st : Stmt) (C : Addr) (ps : List Str) where
  f : Addr
  fd : FuncData
  F : Fun K x qual st f fd
  b : Binds K fd ps []
  s : PySem.W.findIn K (.ref C) x = some (some (.ref f))
  n : PySem.W.isFn K (.ref f) = true
theorem Mt.meth {K : PySem.W.Frag} {x qual : Str} {st : Stmt} {C : Addr} {ps : List Str} (d : Mt K x qual st C ps) : Meth K C x d.f := ⟨d.s, d.n, d.F.kp⟩
def mt_mk {K : PySem.W.Frag} {x qual : Str} {st : Stmt} {C : Addr} {ps : List Str} {f : Addr} {oc : Value} {od an : Option Addr} {osl : Array (Option Value)} {kV doc pm cdv ct : Value}
    (a : PySem.W.findIn K (.ref C) x = some (some (.ref f))) (l : K.lookup f = some ⟨oc, od, .func (PySem.W.fnOf x qual (defArgs st) (defBody st) (defScope st) .none kV doc pm an cdv ct), osl⟩)
    (c : PySem.W.codeIn K cdv qual = true) (k : PySem.W.keepIn K (.ref f) = true) (n : PySem.W.isFn K (.ref f) = true)
    (hb : ∀ (kV doc pm : Value) (an : Option Addr) (cdv ct : Value) (us : List Value), us.length = ps.length → bindArgs (PySem.W.fnOf x qual (defArgs st) (defBody st) (defScope st) .none kV doc pm an cdv ct) ⟨us, []⟩ = pure (ps.zip us)) : Mt K x qual st C ps :=
  ⟨f, _, fun_mk l c k, (fun_mk l c k).binds hb, a, n⟩
end My

/-! ### styles: told values, fields, alike -/
namespace My
open PySem L2
abbrev sX (s : String) : V := .str (Str.ofString s)
def lettersL : List Nat := (Str.ofString "abcdefghijklmnopqrstuvwxyz").cps.toList
def NameOk (l : List Nat) : Prop := 1 ≤ l.length ∧ l.length ≤ 8 ∧ ∀ c ∈ l, c ∈ lettersL
inductive SzAt (H : Hp) : V → Prop
  | non : SzAt H .non
  | cells (n : Nat) : SzAt H (.int (n : Int))
  | part (a : Addr) (n : Nat) (h : H a = some (.tup [sX "part", .int (n : Int)])) : SzAt H (.ref a)
  | tie (a : Addr) (l : List Nat) (sd : String) (m : Int) (hl : NameOk l) (hs : sd = "wide" ∨ sd = "tall") (h : H a = some (.tup [sX "as", .str (sO l), sX sd, .int m])) : SzAt H (.ref a)
def BdAt (v : V) : Prop := v = .non ∨ ∃ n : Nat, v = .int (n : Int)
def CtAt (v : V) : Prop := ∃ n : Nat, v = .int (n : Int)
def RmAt (K : PySem.W.Frag) (H : Hp) (v : V) : Prop := ∃ (a : Addr) (n0 n1 n2 n3 : Nat), v = .ref a ∧ SqT K H a [.int (n0 : Int), .int (n1 : Int), .int (n2 : Int), .int (n3 : Int)]
def stands5 : List String := ["start", "end", "middle", "stretch", "base"]
def StAt (v : V) : Prop := v = .non ∨ ∃ s ∈ stands5, v = sX s
theorem SzAt.same {H H' : Hp} {v : V} (h : SzAt H v) (s : Same H H') : SzAt H' v := by
  cases h with
  | non => exact .non
  | cells n => exact .cells n
  | part a n h => exact .part a n (s _ _ h)
  | tie a l sd m hl hs h => exact .tie a l sd m hl hs (s _ _ h)
/-- a tuple stays where a list is changed -/
theorem tup_but {H H' : Hp} {p a : Addr} {xs zs : List V} (b : But p H H') (hp : H p = some (.lst zs)) (h : H a = some (.tup xs)) : H' a = some (.tup xs) := b.app (by rintro rfl; rw [hp] at h; cases h) h
theorem SzAt.but {H H' : Hp} {v : V} {p : Addr} {zs : List V} (h : SzAt H v) (b : But p H H') (hp : H p = some (.lst zs)) : SzAt H' v := by
  cases h with
  | non => exact .non
  | cells n => exact .cells n
  | part a n h => exact .part a n (tup_but b hp h)
  | tie a l sd m hl hs h => exact .tie a l sd m hl hs (tup_but b hp h)
theorem RmAt.same {K : PySem.W.Frag} {H H' : Hp} {v : V} (h : RmAt K H v) (s : Same H H') : RmAt K H' v := let ⟨a, n0, n1, n2, n3, e, g⟩ := h; ⟨a, n0, n1, n2, n3, e, Same.seqT s g⟩
theorem seqT_but {K : PySem.W.Frag} {H H' : Hp} {p a : Addr} {xs zs : List V} (b : But p H H') (hp : H p = some (.lst zs)) (h : SqT K H a xs) : SqT K H' a xs := by
  rcases h with (h | ⟨o, h⟩) | h
  · exact .inl (.inl (tup_but b hp h))
  · exact .inl (.inr ⟨o, b.app (by rintro rfl; rw [hp] at h; cases h) h⟩)
  · exact .inr h
theorem RmAt.but {K : PySem.W.Frag} {H H' : Hp} {v : V} {p : Addr} {zs : List V} (h : RmAt K H v) (b : But p H H') (hp : H p = some (.lst zs)) : RmAt K H' v := let ⟨a, n0, n1, n2, n3, e, g⟩ := h; ⟨a, n0, n1, n2, n3, e, seqT_but b hp g⟩
theorem RmAt.of {K : PySem.W.Frag} {H : Hp} {a : Addr} {n0 n1 n2 n3 : Nat} (h : H a = some (.tup [.int (n0 : Int), .int (n1 : Int), .int (n2 : Int), .int (n3 : Int)])) : RmAt K H (.ref a) := ⟨a, n0, n1, n2, n3, rfl, sqT h⟩
/-- the fields of a style as its __init__ lays them -/
def styF (w h lw lh mw mh g s r st : V) : List (Str × V) :=
  [("wide", w), ("high", h), ("least_wide", lw), ("least_high", lh), ("most_wide", mw), ("most_high", mh), ("grow", g), ("shrink", s), ("rims", r), ("stand", st)]
/-- all ten values good -/
structure ValsOk (K : PySem.W.Frag) (H : Hp) (w h lw lh mw mh g s r st : V) : Prop where
  w : SzAt H w
  h : SzAt H h
  lw : BdAt lw
  lh : BdAt lh
  mw : BdAt mw
  mh : BdAt mh
  g : CtAt g
  s : CtAt s
  r : RmAt K H r
  st : StAt st
theorem ValsOk.same {K : PySem.W.Frag} {H H' : Hp} {w h lw lh mw mh g s r st : V} (v : ValsOk K H w h lw lh mw mh g s r st) (m : Same H H') : ValsOk K H' w h lw lh mw mh g s r st := ⟨v.w.same m, v.h.same m, v.lw, v.lh, v.mw, v.mh, v.g, v.s, v.r.same m, v.st⟩
/-! #### alike -/
def FlAt (v : V) : Prop := (∃ i, v = .int i) ∨ ∃ s, v = .str s
def AlkAt (K : PySem.W.Frag) (H : Hp) (u v : V) : Prop := (u = v ∧ (v = .non ∨ FlAt v)) ∨ ∃ (a b : Addr) (xs : List V), u = .ref a ∧ v = .ref b ∧ SqT K H a xs ∧ H b = some (.tup xs) ∧ (∀ x ∈ xs, FlAt x) ∧ xs.length ≤ 10
theorem AlkAt.same {K : PySem.W.Frag} {H H' : Hp} {u v : V} (h : AlkAt K H u v) (s : Same H H') : AlkAt K H' u v := h.imp id fun ⟨a, b, xs, e1, e2, h1, h2, h3, h4⟩ => ⟨a, b, xs, e1, e2, Same.seqT s h1, s _ _ h2, h3, h4⟩
theorem AlkAt.but {K : PySem.W.Frag} {H H' : Hp} {u v : V} {p : Addr} {zs : List V} (h : AlkAt K H u v) (b : But p H H') (hp : H p = some (.lst zs)) : AlkAt K H' u v := h.imp id fun ⟨a, c, xs, e1, e2, h1, h2, h3, h4⟩ => ⟨a, c, xs, e1, e2, seqT_but b hp h1, tup_but b hp h2, h3, h4⟩
theorem SzAt.alk {K : PySem.W.Frag} {H : Hp} {v : V} (h : SzAt H v) : AlkAt K H v v := by
  cases h with
  | non => exact .inl ⟨rfl, .inl rfl⟩
  | cells n => exact .inl ⟨rfl, .inr (.inl ⟨_, rfl⟩)⟩
  | part a n h => exact .inr ⟨a, a, _, rfl, rfl, sqT h, h, fun x hx => by
      rcases List.mem_cons.mp hx with rfl | hx
      · exact .inr ⟨_, rfl⟩
      · rw [List.mem_singleton.mp hx]; exact .inl ⟨_, rfl⟩, Nat.le_of_ble_eq_true rfl⟩
  | tie a l sd m hl hs h => exact .inr ⟨a, a, _, rfl, rfl, sqT h, h, fun x hx => by
      rcases List.mem_cons.mp hx with rfl | hx
      · exact .inr ⟨_, rfl⟩
      rcases List.mem_cons.mp hx with rfl | hx
      · exact .inr ⟨_, rfl⟩
      rcases List.mem_cons.mp hx with rfl | hx
      · exact .inr ⟨_, rfl⟩
      · rw [List.mem_singleton.mp hx]; exact .inl ⟨_, rfl⟩, Nat.le_of_ble_eq_true rfl⟩
theorem BdAt.alk {K : PySem.W.Frag} {H : Hp} {v : V} (h : BdAt v) : AlkAt K H v v := by
  rcases h with rfl | ⟨n, rfl⟩
  · exact .inl ⟨rfl, .inl rfl⟩
  · exact .inl ⟨rfl, .inr (.inl ⟨_, rfl⟩)⟩
theorem CtAt.alk {K : PySem.W.Frag} {H : Hp} {v : V} (h : CtAt v) : AlkAt K H v v := by
  obtain ⟨n, rfl⟩ := h
  exact .inl ⟨rfl, .inr (.inl ⟨_, rfl⟩)⟩
theorem StAt.alk {K : PySem.W.Frag} {H : Hp} {v : V} (h : StAt v) : AlkAt K H v v := by
  rcases h with rfl | ⟨s, _, rfl⟩
  · exact .inl ⟨rfl, .inl rfl⟩
  · exact .inl ⟨rfl, .inr (.inr ⟨_, rfl⟩)⟩
theorem fl4 {n0 n1 n2 n3 : Int} : ∀ x ∈ [V.int n0, .int n1, .int n2, .int n3], FlAt x := fun x hx => by
  rcases List.mem_cons.mp hx with rfl | hx
  · exact .inl ⟨_, rfl⟩
  rcases List.mem_cons.mp hx with rfl | hx
  · exact .inl ⟨_, rfl⟩
  rcases List.mem_cons.mp hx with rfl | hx
  · exact .inl ⟨_, rfl⟩
  · rw [List.mem_singleton.mp hx]; exact .inl ⟨_, rfl⟩
/-! #### a comprehension over a text, all the same thing -/
section
variable {g : TG} {tt : TT} {te : TE} {vs : List Nat} {σ : L2.St} {H1 : Hp} {D : Addr} {Qd : Hp → Prop} {l : List Nat}
theorem lcSc (v : V) (hD : H1 D = none) (hz : l.length ≤ 100000)
    (hs : ∀ (i c : Nat) (H' : Hp) (Kt : V → Hp → Prop) (Kf : Hp → Prop), l[i]? = some c → Same H1 H' → (∀ H4, Same H' H4 → Kt v H4) → LcT g tt te vs σ (.str ⟨#[c]⟩) H' Kt Kf)
    (hd : ∀ H, Same H1 H → H D = some (.lst (List.replicate l.length v)) → Qd H) : LcG (Its (sO l)) g tt te vs σ H1 D Qd := by
  refine ⟨fun i m H => m = l.length - i ∧ i ≤ l.length ∧ Same H1 H ∧ H D = some (.lst (List.replicate i v)), ⟨l.length, rfl, Nat.zero_le _, Same.upd0 hD, upd_same⟩, ?_⟩
  rintro i m H ⟨rfl, hi, s, e⟩
  by_cases hlt : i < l.length
  · refine .inr ⟨?_, fun H => Same H1 H ∧ H D = some (.lst (List.replicate (i + 1) v)), fun H' p' => ⟨l.length - (i + 1), by omega, rfl, hlt, p'⟩, fun x H' y => ?_⟩
    · show i < l.toArray.size
      rw [List.size_toArray]; exact hlt
    · obtain ⟨rfl, c, hc, rfl⟩ := y
      have hc : l.toArray[i]? = some c := hc
      rw [List.getElem?_toArray] at hc
      exact hs i c H' _ _ hc s fun H4 s4 => ⟨_, s4 _ _ e, by rw [List.length_replicate, sizeLine_eq]; omega, Same.mut' (s.trans s4) But.refl.upd hD, by rw [upd_same, List.replicate_succ']⟩
  · have ei : i = l.length := by omega
    subst ei
    refine .inl ⟨?_, hd H s e⟩
    show l.toArray.size ≤ l.length
    rw [List.size_toArray]; exact Nat.le_refl _
end
theorem reps_bl (n : Nat) : List.replicate n (V.bl true) = (List.replicate n true).map V.bl := by rw [List.map_replicate]
theorem reps_all (n : Nat) : (List.replicate n true).all id = true := by
  rw [List.all_eq_true]
  intro x hx
  rw [List.eq_of_mem_replicate hx]; rfl
theorem isN_nat (n : Nat) : isN (.int (n : Int)) = true := by
  unfold isN
  simp
theorem styF_put (w h lw lh mw mh g s r st : V) : putF "stand" st (putF "rims" r (putF "shrink" s (putF "grow" g (putF "most_high" mh (putF "most_wide" mw (putF "least_high" lh (putF "least_wide" lw (putF "high" h (putF "wide" w []))))))))) = styF w h lw lh mw mh g s r st := by kernel_rfl
/-! #### ten values in a list -/
def names10 : List Str := ["wide", "high", "least_wide", "least_high", "most_wide", "most_high", "grow", "shrink", "rims", "stand"]
def styL (fs : List V) : List (Str × V) := names10.zip fs
theorem styL_F (w h lw lh mw mh g s r st : V) : styL [w, h, lw, lh, mw, mh, g, s, r, st] = styF w h lw lh mw mh g s r st := rfl
def OkF (K : PySem.W.Frag) (H : Hp) : Nat → V → Prop
  | 0, v => SzAt H v
  | 1, v => SzAt H v
  | 2, v => BdAt v
  | 3, v => BdAt v
  | 4, v => BdAt v
  | 5, v => BdAt v
  | 6, v => CtAt v
  | 7, v => CtAt v
  | 8, v => RmAt K H v
  | _, v => StAt v
def OkL (K : PySem.W.Frag) (H : Hp) (fs : List V) : Prop := fs.length = 10 ∧ ∀ (i : Nat) (v : V), fs[i]? = some v → OkF K H i v
theorem OkF.same {K : PySem.W.Frag} {H H' : Hp} {i : Nat} {v : V} (h : OkF K H i v) (s : Same H H') : OkF K H' i v :=
  match i, h with
  | 0, h => SzAt.same h s
  | 1, h => SzAt.same h s
  | 2, h => h
  | 3, h => h
  | 4, h => h
  | 5, h => h
  | 6, h => h
  | 7, h => h
  | 8, h => RmAt.same h s
  | _ + 9, h => h
theorem OkL.same {K : PySem.W.Frag} {H H' : Hp} {fs : List V} (h : OkL K H fs) (s : Same H H') : OkL K H' fs := ⟨h.1, fun i v e => (h.2 i v e).same s⟩
theorem OkL.vals {K : PySem.W.Frag} {H : Hp} {w h lw lh mw mh g s r st : V} (k : OkL K H [w, h, lw, lh, mw, mh, g, s, r, st]) : ValsOk K H w h lw lh mw mh g s r st :=
  ⟨k.2 0 _ rfl, k.2 1 _ rfl, k.2 2 _ rfl, k.2 3 _ rfl, k.2 4 _ rfl, k.2 5 _ rfl, k.2 6 _ rfl, k.2 7 _ rfl, k.2 8 _ rfl, k.2 9 _ rfl⟩
theorem ten {fs : List V} (h : fs.length = 10) : ∃ w h' lw lh mw mh g s r st, fs = [w, h', lw, lh, mw, mh, g, s, r, st] :=
  match fs, h with
  | [w, h', lw, lh, mw, mh, g, s, r, st], _ => ⟨w, h', lw, lh, mw, mh, g, s, r, st, rfl⟩
def dfltL (U : Addr) : List V := [.non, .non, .non, .non, .non, .non, .int 0, .int 1, .ref U, .non]
theorem dflt_ok {K : PySem.W.Frag} {H : Hp} {U : Addr} (t : ∀ H, SqT K H U [.int 0, .int 0, .int 0, .int 0]) : OkL K H (dfltL U) := by
  refine ⟨rfl, fun i v e => ?_⟩
  match i, e with
  | 0, e => cases e; exact .non
  | 1, e => cases e; exact .non
  | 2, e => cases e; exact .inl rfl
  | 3, e => cases e; exact .inl rfl
  | 4, e => cases e; exact .inl rfl
  | 5, e => cases e; exact .inl rfl
  | 6, e => cases e; exact ⟨0, rfl⟩
  | 7, e => cases e; exact ⟨1, rfl⟩
  | 8, e => cases e; exact ⟨U, 0, 0, 0, 0, rfl, t H⟩
  | 9, e => cases e; exact .inl rfl
  | n + 10, e => cases e
/-- told at some places -/
def mixL (fs ds : List V) (told : List Nat) : List V := (List.range 10).map fun i => if told.contains i then fs.getD i .non else ds.getD i .non
theorem mix_at {fs ds : List V} {told : List Nat} {i : Nat} (h : i < 10) : (mixL fs ds told)[i]? = some (if told.contains i then fs.getD i .non else ds.getD i .non) := by
  unfold mixL
  rw [List.getElem?_map, List.getElem?_range h]; rfl
theorem mix_ok {K : PySem.W.Frag} {H : Hp} {fs ds : List V} {told : List Nat} (hf : OkL K H fs) (hd : OkL K H ds) : OkL K H (mixL fs ds told) := by
  refine ⟨by unfold mixL; rw [List.length_map, List.length_range], fun i v e => ?_⟩
  have hi : i < 10 := by
    have := (List.getElem?_eq_some_iff.mp e).1
    unfold mixL at this
    rwa [List.length_map, List.length_range] at this
  rw [mix_at hi] at e
  cases e
  split
  · exact hf.2 i _ (by rw [List.getD_eq_getElem?_getD, List.getElem?_eq_getElem (by rw [hf.1]; exact hi)]; rfl)
  · exact hd.2 i _ (by rw [List.getD_eq_getElem?_getD, List.getElem?_eq_getElem (by rw [hd.1]; exact hi)]; rfl)
def sp_Style_init (K : PySem.W.Frag) (C : Addr) : Sp := fun vs H Q _ => ∃ (x dx : Addr) (w h lw lh mw mh g s r st : V), vs = [.ref x, w, h, lw, lh, mw, mh, g, s, r, st] ∧ H x = some (.ins C dx []) ∧ ValsOk K H w h lw lh mw mh g s r st ∧ ∀ H', But x H H' → H' x = some (.ins C dx (styF w h lw lh mw mh g s r st)) → Q .non H'
theorem make_same {H : Hp} {x dx : Addr} {o o' : HO} (fx : H x = none) (fdx : H dx = none) (n : dx ≠ x) : Same H (upd (upd H dx o) x o') := fun b u e => by
  rw [upd_ne (ne_of_none e fx), upd_ne (ne_of_none e fdx)]; exact e
theorem mk_style {K : PySem.W.Frag} {H : Hp} {C : Addr} {fs : List V} {Q : VK} {E : XK} (ok : OkL K H fs) (k : ∀ (x dx : Addr) H', Same H H' → H x = none → H' x = some (.ins C dx (styL fs)) → Q (.ref x) H') :
    ∀ x dx, H x = none → H dx = none → dx ≠ x → sp_Style_init K C (.ref x :: fs) (upd (upd H dx (.own x)) x (.ins C dx [])) (fun v H3 => v = .non ∧ Q (.ref x) H3) E := by
  intro x dx fx fdx n
  obtain ⟨w, h, lw, lh, mw, mh, g, s, r, st, rfl⟩ := ten ok.1
  have sm := make_same (o := HO.own x) (o' := HO.ins C dx []) fx fdx n
  exact ⟨x, dx, w, h, lw, lh, mw, mh, g, s, r, st, rfl, upd_same, ok.vals.same sm, fun H' b e => ⟨rfl, k x dx H' (Same.mut' sm b fx) fx e⟩⟩
theorem SzAt.dr {H H' : Hp} {a : Addr} {v : V} (h : SzAt H v) (hs : Src H a) (d : Dr a H H') : SzAt H' v := by
  obtain ⟨t, ht⟩ := hs
  exact h.but d.b ht
theorem RmAt.dr {K : PySem.W.Frag} {H H' : Hp} {a : Addr} {v : V} (h : RmAt K H v) (hs : Src H a) (d : Dr a H H') : RmAt K H' v := by
  obtain ⟨t, ht⟩ := hs
  exact h.but d.b ht
theorem tup_dr {H H' : Hp} {p a : Addr} {xs : List V} (d : Dr p H H') (hs : Src H p) (h : H a = some (.tup xs)) : H' a = some (.tup xs) := by
  obtain ⟨t, ht⟩ := hs
  exact tup_but d.b ht h
theorem four {α : Type} {us : List α} (h : us.length = 4) : ∃ a b c d, us = [a, b, c, d] :=
  match us, h with
  | [a, b, c, d], _ => ⟨a, b, c, d, rfl⟩
theorem mix_one {w h lw lh mw mh g s r st : V} {U : Addr} : ∀ {i : Nat}, i < 10 → mixL [w, h, lw, lh, mw, mh, g, s, r, st] (dfltL U) [i] = (dfltL U).set i ([w, h, lw, lh, mw, mh, g, s, r, st].getD i .non)
  | 0, _ => rfl
  | 1, _ => rfl
  | 2, _ => rfl
  | 3, _ => rfl
  | 4, _ => rfl
  | 5, _ => rfl
  | 6, _ => rfl
  | 7, _ => rfl
  | 8, _ => rfl
  | 9, _ => rfl
  | n + 10, h => absurd h (by omega)
theorem mk_mix {K : PySem.W.Frag} {H : Hp} {C U : Addr} {fs : List V} {Q : VK} {E : XK} (told : List Nat) (ok : OkL K H fs) (t : ∀ H, SqT K H U [.int 0, .int 0, .int 0, .int 0]) (k : ∀ (x dx : Addr) H', Same H H' → H x = none → H' x = some (.ins C dx (styL (mixL fs (dfltL U) told))) → Q (.ref x) H') :
    ∀ x dx, H x = none → H dx = none → dx ≠ x → sp_Style_init K C (.ref x :: mixL fs (dfltL U) told) (upd (upd H dx (.own x)) x (.ins C dx [])) (fun v H3 => v = .non ∧ Q (.ref x) H3) E :=
  mk_style (mix_ok ok (dflt_ok t)) k
theorem sty_at {K : PySem.W.Frag} {H : Hp} {C x dx : Addr} {fs : List V} {R : Hp → Prop} {E : XK} (ok : OkL K H fs) (fx : H x = none) (fdx : H dx = none) (n : dx ≠ x) (k : ∀ H', Same H H' → H' x = some (.ins C dx (styL fs)) → R H') :
    sp_Style_init K C (.ref x :: fs) (upd (upd H dx (.own x)) x (.ins C dx [])) (fun v H3 => v = .non ∧ R H3) E := by
  obtain ⟨w, h, lw, lh, mw, mh, g, s, r, st, rfl⟩ := ten ok.1
  have sm := make_same (o := HO.own x) (o' := HO.ins C dx []) fx fdx n
  exact ⟨x, dx, w, h, lw, lh, mw, mh, g, s, r, st, rfl, upd_same, ok.vals.same sm, fun H' b e => ⟨rfl, k H' (Same.mut' sm b fx) e⟩⟩
end My

/-! ### slices by plain numbers -/
namespace My
open PySem L2
theorem cutV_take (xs : List V) (j : Nat) : cutV xs none (some (j : Int)) = xs.take j := by
  unfold cutV
  rw [HT.sIx_none, HT.sIx_nat, List.drop_zero, Nat.sub_zero]
  by_cases h : j ≤ xs.length
  · rw [Nat.min_eq_left h]
  · rw [Nat.min_eq_right (by omega), List.take_of_length_le (Nat.le_refl _), List.take_of_length_le (by omega)]
theorem cutV_drop (xs : List V) (j : Nat) : cutV xs (some (j : Int)) none = xs.drop j := by
  unfold cutV
  rw [HT.sIx_none, HT.sIx_nat]
  by_cases h : j ≤ xs.length
  · rw [Nat.min_eq_left h, List.take_of_length_le (by rw [List.length_drop]; omega)]
  · rw [Nat.min_eq_right (by omega), List.drop_of_length_le (Nat.le_refl _), List.drop_of_length_le (by omega), List.take_nil]
theorem cutV_mid (xs : List V) (i j : Nat) (h : i ≤ j) : cutV xs (some (i : Int)) (some (j : Int)) = (xs.take j).drop i := by
  unfold cutV
  rw [HT.sIx_nat, HT.sIx_nat]
  by_cases h1 : i ≤ xs.length
  · by_cases h2 : j ≤ xs.length
    · rw [Nat.min_eq_left h1, Nat.min_eq_left h2, List.drop_take]
    · rw [Nat.min_eq_left h1, Nat.min_eq_right (by omega), List.take_of_length_le (by rw [List.length_drop]; omega), List.take_of_length_le (by omega)]
  · rw [Nat.min_eq_right (show xs.length ≤ i by omega), List.drop_of_length_le (Nat.le_refl _), List.take_nil, List.drop_of_length_le (by rw [List.length_take]; omega)]
theorem cutV_init (xs : List V) : cutV xs none (some (-1)) = xs.take (xs.length - 1) := by
  unfold cutV
  have e : HT.sIx xs.length xs.length (some (-1)) = xs.length - 1 := by
    show (if (-1 : Int) < 0 then ((-1 : Int) + (xs.length : Int)).toNat else min (-1 : Int).toNat xs.length) = xs.length - 1
    rw [if_pos (by decide)]; omega
  rw [HT.sIx_none, e, List.drop_zero, Nat.sub_zero]
end My

/-! ### tracks and asks: plain mathematics -/
namespace My
open PySem L2
inductive Tk where
  | cells (n : Int)
  | fit
  | share (k : Int)
  deriving DecidableEq
def Tk.free : Tk → Bool
  | .cells _ => false
  | _ => true
def Tk.told : Tk → Int
  | .cells n => n
  | _ => 0
def Tk.ok : Tk → Prop
  | .cells n => 0 ≤ n
  | .fit => True
  | .share k => 1 ≤ k
def TkAt (H : Hp) (v : V) : Tk → Prop
  | .cells n => v = .int n
  | .fit => v = .str "fit"
  | .share k => ∃ r, v = .ref r ∧ H r = some (.tup [.str "share", .int k])
theorem TkAt.mono {H H' : Hp} {v : V} {t : Tk} (h : TkAt H v t) (s : Same H H') : TkAt H' v t := by
  cases t with
  | cells n => exact h
  | fit => exact h
  | share k => obtain ⟨r, e, g⟩ := h; exact ⟨r, e, s _ _ g⟩
theorem TkAt.but {H H' : Hp} {v : V} {t : Tk} {a : Addr} {xs : List V} (h : TkAt H v t) (g : H a = some (.lst xs)) (b : But a H H') : TkAt H' v t := by
  cases t with
  | cells n => exact h
  | fit => exact h
  | share k => obtain ⟨r, e, g2⟩ := h; exact ⟨r, e, b.app (fun z => by rw [z, g] at g2; cases g2) g2⟩
/-- an item's place, and what stands there -/
def TksAt (H : Hp) (vs : List V) (ts : List Tk) : Prop := vs.length = ts.length ∧ ∀ (i : Nat) (v : V) (t : Tk), vs[i]? = some v → ts[i]? = some t → TkAt H v t
theorem TksAt.mono {H H' : Hp} {vs : List V} {ts : List Tk} (h : TksAt H vs ts) (s : Same H H') : TksAt H' vs ts := ⟨h.1, fun i v t a b => (h.2 i v t a b).mono s⟩
theorem TksAt.but {H H' : Hp} {vs : List V} {ts : List Tk} {a : Addr} {xs : List V} (h : TksAt H vs ts) (g : H a = some (.lst xs)) (b : But a H H') : TksAt H' vs ts := ⟨h.1, fun i v t x y => (h.2 i v t x y).but g b⟩
theorem TksAt.at {H : Hp} {vs : List V} {ts : List Tk} (h : TksAt H vs ts) {i : Nat} {t : Tk} (e : ts[i]? = some t) : ∃ v, vs[i]? = some v ∧ TkAt H v t := by
  have hi := (List.getElem?_eq_some_iff.mp e).1
  have l := h.1
  exact ⟨vs[i], List.getElem?_eq_getElem (by omega), h.2 i _ t (List.getElem?_eq_getElem (by omega)) e⟩
theorem TksAt.at' {H : Hp} {vs : List V} {ts : List Tk} (h : TksAt H vs ts) {i : Nat} {v : V} (e : vs[i]? = some v) : ∃ t, ts[i]? = some t ∧ TkAt H v t := by
  have hi := (List.getElem?_eq_some_iff.mp e).1
  have l := h.1
  exact ⟨ts[i], List.getElem?_eq_getElem (by omega), h.2 i v _ e (List.getElem?_eq_getElem (by omega))⟩
/-! #### how much tracks grow -/
def tkF (ts : List Tk) (i : Nat) : Bool := match ts[i]? with
  | some t => t.free
  | none => false
def freeL (ts : List Tk) (f m : Nat) : List Nat := ((List.range m).map fun k => f + k).filter (tkF ts)
theorem freeL_nodup (ts : List Tk) (f m : Nat) : (freeL ts f m).Nodup := by
  unfold freeL
  refine List.Pairwise.filter _ ?_
  have := List.nodup_range (n := m)
  exact (List.pairwise_map.mpr (this.imp fun h => by omega))
theorem freeL_mem {ts : List Tk} {f m i : Nat} : i ∈ freeL ts f m ↔ f ≤ i ∧ i < f + m ∧ tkF ts i = true := by
  unfold freeL
  rw [List.mem_filter, List.mem_map]
  constructor
  · rintro ⟨⟨k, hk, rfl⟩, h⟩
    have := List.mem_range.mp hk
    exact ⟨by omega, by omega, h⟩
  · rintro ⟨h1, h2, h3⟩
    exact ⟨⟨i - f, List.mem_range.mpr (by omega), by omega⟩, h3⟩
def partA (lack : Int) (L j : Nat) : Int := lack * ((j : Int) + 1) / (L : Int) - lack * (j : Int) / (L : Int)
def sliceSum (ss : List Int) (f m : Nat) : Int := ((ss.take (f + m)).drop f).sum
/-- what an ask deals to a track -/
def pA (ts : List Tk) (ss : List Int) (f m : Nat) (wanted : Int) (i : Nat) : Int :=
  if i ∈ freeL ts f m ∧ 0 < wanted - sliceSum ss f m then partA (wanted - sliceSum ss f m) (freeL ts f m).length ((freeL ts f m).idxOf i) else 0
theorem partA_nonneg {lack : Int} {L j : Nat} (h : 0 ≤ lack) (hL : 0 < L) : 0 ≤ partA lack L j := by
  unfold partA
  have h1 : lack * (j : Int) ≤ lack * ((j : Int) + 1) := Int.mul_le_mul_of_nonneg_left (by omega) h
  have h2 : lack * (j : Int) / (L : Int) ≤ lack * ((j : Int) + 1) / (L : Int) := Int.ediv_le_ediv (by omega) h1
  omega
theorem pA_nonneg (ts : List Tk) (ss : List Int) (f m : Nat) (wanted : Int) (i : Nat) : 0 ≤ pA ts ss f m wanted i := by
  unfold pA
  split
  · next h => exact partA_nonneg (Int.le_of_lt h.2) (List.length_pos_of_mem h.1)
  · exact Int.le_refl 0
/-- the grown ones, by places -/
def growM (n : Nat) (ts : List Tk) (ss g : List Int) (f m : Nat) (wanted : Int) : List Int := (List.range n).map fun i => max (wAt g i) (pA ts ss f m wanted i)
theorem growM_len {n : Nat} {ts : List Tk} {ss g : List Int} {f m : Nat} {wanted : Int} : (growM n ts ss g f m wanted).length = n := by unfold growM; rw [List.length_map, List.length_range]
theorem growM_at {n : Nat} {ts : List Tk} {ss g : List Int} {f m : Nat} {wanted : Int} {i : Nat} (hi : i < n) : wAt (growM n ts ss g f m wanted) i = max (wAt g i) (pA ts ss f m wanted i) := by
  unfold growM wAt
  rw [List.getD_eq_getElem?_getD, List.getElem?_map, List.getElem?_range hi]; rfl
/-- behind the first p places of the free ones -/
def growP (ts : List Tk) (ss g : List Int) (f m : Nat) (wanted : Int) (p : Nat) (i : Nat) : Int :=
  if i ∈ (freeL ts f m).take p then max (wAt g i) (partA (wanted - sliceSum ss f m) (freeL ts f m).length ((freeL ts f m).idxOf i)) else wAt g i
theorem growP_zero {ts : List Tk} {ss g : List Int} {f m : Nat} {wanted : Int} (i : Nat) : growP ts ss g f m wanted 0 i = wAt g i := by
  unfold growP; simp
theorem growP_end {ts : List Tk} {ss g : List Int} {f m : Nat} {wanted : Int} {i : Nat} (hl : 0 < wanted - sliceSum ss f m) (hg : 0 ≤ wAt g i) : growP ts ss g f m wanted (freeL ts f m).length i = max (wAt g i) (pA ts ss f m wanted i) := by
  unfold growP pA
  rw [List.take_length]
  by_cases h : i ∈ freeL ts f m
  · rw [if_pos h, if_pos ⟨h, hl⟩]
  · rw [if_neg h, if_neg (fun z => h z.1)]; omega
theorem growP_skip {ts : List Tk} {ss g : List Int} {f m : Nat} {wanted : Int} {i : Nat} (hl : ¬ 0 < wanted - sliceSum ss f m) (hg : 0 ≤ wAt g i) : wAt g i = max (wAt g i) (pA ts ss f m wanted i) := by
  unfold pA
  rw [if_neg (fun z => hl z.2)]; omega
theorem take_succ_mem {l : List Nat} {p c i : Nat} (h : l[p]? = some c) : i ∈ l.take (p + 1) ↔ i ∈ l.take p ∨ i = c := by
  rw [List.take_add_one, h]; simp
theorem idxOf_at : ∀ {l : List Nat}, l.Nodup → ∀ {p c : Nat}, l[p]? = some c → l.idxOf c = p
  | [], _, _, _, h => by simp at h
  | x :: l, _, 0, c, h => by
    have : x = c := by simpa using h
    subst this
    rw [List.idxOf_cons_self]
  | x :: l, hn, p + 1, c, h => by
    have h : l[p]? = some c := by simpa using h
    have hne : x ≠ c := fun e => (List.nodup_cons.mp hn).1 (by rw [e]; exact List.mem_of_getElem? h)
    rw [List.idxOf_cons, idxOf_at (List.nodup_cons.mp hn).2 h]
    have e : (x == c) = false := beq_eq_false_iff_ne.mpr hne
    rw [e]; rfl
theorem not_mem_take {l : List Nat} (hn : l.Nodup) {p c : Nat} (h : l[p]? = some c) : c ∉ l.take p := fun hm => by
  obtain ⟨j, hj, e⟩ := List.getElem_of_mem hm
  rw [List.length_take] at hj
  rw [List.getElem_take] at e
  have h1 : l[j]? = some c := by rw [List.getElem?_eq_getElem (by omega), e]
  have := idxOf_at hn h1
  have := idxOf_at hn h
  omega
theorem growP_succ {ts : List Tk} {ss g : List Int} {f m : Nat} {wanted : Int} {p c : Nat} (h : (freeL ts f m)[p]? = some c) (i : Nat) :
    growP ts ss g f m wanted (p + 1) i = if i = c then max (growP ts ss g f m wanted p c) (partA (wanted - sliceSum ss f m) (freeL ts f m).length p) else growP ts ss g f m wanted p i := by
  have hn := freeL_nodup ts f m
  unfold growP
  by_cases hi : i = c
  · subst hi
    rw [if_pos ((take_succ_mem h).mpr (.inr rfl)), if_pos rfl, if_neg (not_mem_take hn h), idxOf_at hn h]
  · rw [if_neg hi]
    by_cases hm : i ∈ (freeL ts f m).take p
    · rw [if_pos ((take_succ_mem h).mpr (.inl hm)), if_pos hm]
    · rw [if_neg (fun z => by rcases (take_succ_mem h).mp z with z | z; exact hm z; exact hi z), if_neg hm]
/-! #### the steps -/
abbrev Ask3 := Nat × Nat × Int
def AskAt (H : Hp) (v : V) (q : Ask3) : Prop := ∃ r, v = .ref r ∧ H r = some (.tup [.int (q.1 : Int), .int (q.2.1 : Int), .int q.2.2])
theorem AskAt.mono {H H' : Hp} {v : V} {q : Ask3} (h : AskAt H v q) (s : Same H H') : AskAt H' v q := let ⟨r, e, g⟩ := h; ⟨r, e, s _ _ g⟩
def AsksAt (H : Hp) (vs : List V) (qs : List Ask3) : Prop := vs.length = qs.length ∧ ∀ (i : Nat) (v : V) (q : Ask3), vs[i]? = some v → qs[i]? = some q → AskAt H v q
theorem AsksAt.mono {H H' : Hp} {vs : List V} {qs : List Ask3} (h : AsksAt H vs qs) (s : Same H H') : AsksAt H' vs qs := ⟨h.1, fun i v t a b => (h.2 i v t a b).mono s⟩
theorem AsksAt.at' {H : Hp} {vs : List V} {qs : List Ask3} (h : AsksAt H vs qs) {i : Nat} {v : V} (e : vs[i]? = some v) : ∃ q, qs[i]? = some q ∧ AskAt H v q := by
  have hi := (List.getElem?_eq_some_iff.mp e).1
  have l := h.1
  exact ⟨qs[i], List.getElem?_eq_getElem (by omega), h.2 i v _ e (List.getElem?_eq_getElem (by omega))⟩
/-- an ask that a grid of n tracks takes -/
def AskOk (n : Nat) (q : Ask3) : Prop := 1 ≤ q.2.1 ∧ q.1 + q.2.1 ≤ n ∧ 0 ≤ q.2.2
def grow1 (n : Nat) (ts : List Tk) (gap : Int) (ss : List Int) (many : Nat) (g : List Int) (q : Ask3) : List Int :=
  if q.2.1 = many then growM n ts ss g q.1 q.2.1 (q.2.2 - gap * ((many : Int) - 1)) else g
def grownM (ts : List Tk) (qs : List Ask3) (gap : Int) (ss : List Int) (many : Nat) : List Int := qs.foldl (grow1 ts.length ts gap ss many) (List.replicate ts.length 0)
def stepM (ts : List Tk) (qs : List Ask3) (gap : Int) (ss : List Int) (many : Nat) : List Int := (List.range ts.length).map fun i => wAt ss i + wAt (grownM ts qs gap ss many) i
def trackM (ts : List Tk) (qs : List Ask3) (gap : Int) : List Int := (List.range ts.length).foldl (fun s k => stepM ts qs gap s (k + 1)) (ts.map Tk.told)
theorem stepM_len {ts : List Tk} {qs : List Ask3} {gap : Int} {ss : List Int} {many : Nat} : (stepM ts qs gap ss many).length = ts.length := by unfold stepM; rw [List.length_map, List.length_range]
theorem stepM_at {ts : List Tk} {qs : List Ask3} {gap : Int} {ss : List Int} {many i : Nat} (hi : i < ts.length) : wAt (stepM ts qs gap ss many) i = wAt ss i + wAt (grownM ts qs gap ss many) i := by
  unfold stepM
  conv => lhs; unfold wAt
  rw [List.getD_eq_getElem?_getD, List.getElem?_map, List.getElem?_range hi]; rfl
def stepsM (ts : List Tk) (qs : List Ask3) (gap : Int) (k : Nat) : List Int := (List.range k).foldl (fun s k => stepM ts qs gap s (k + 1)) (ts.map Tk.told)
theorem stepsM_succ (ts : List Tk) (qs : List Ask3) (gap : Int) (k : Nat) : stepsM ts qs gap (k + 1) = stepM ts qs gap (stepsM ts qs gap k) (k + 1) := by
  unfold stepsM
  rw [List.range_succ, List.foldl_append]; rfl
theorem stepsM_len (ts : List Tk) (qs : List Ask3) (gap : Int) : ∀ k, (stepsM ts qs gap k).length = ts.length
  | 0 => by unfold stepsM; simp
  | k + 1 => by rw [stepsM_succ]; exact stepM_len
theorem grow1_len {n : Nat} {ts : List Tk} {gap : Int} {ss : List Int} {many : Nat} {g : List Int} {q : Ask3} (h : g.length = n) : (grow1 n ts gap ss many g q).length = n := by
  unfold grow1
  split
  · exact growM_len
  · exact h
theorem grown_len {n : Nat} {ts : List Tk} {gap : Int} {ss : List Int} {many : Nat} : ∀ (qs : List Ask3) (g : List Int), g.length = n → (qs.foldl (grow1 n ts gap ss many) g).length = n
  | [], g, h => h
  | q :: qs, g, h => grown_len qs _ (grow1_len h)
/-- the greatest of x and some more -/
def maxF (x : Int) (l : List Int) : Int := l.foldl max x
theorem maxF_ge {x : Int} : ∀ {l : List Int}, x ≤ maxF x l
  | [] => Int.le_refl _
  | y :: l => Int.le_trans (show x ≤ max x y by omega) (maxF_ge (l := l))
theorem maxF_all {y : Int} : ∀ {l : List Int} {x : Int}, y ∈ l → y ≤ maxF x l
  | z :: l, x, h => by
    rcases List.mem_cons.mp h with rfl | h
    · exact Int.le_trans (show y ≤ max x y by omega) (maxF_ge (l := l))
    · exact maxF_all (l := l) h
theorem maxF_mem : ∀ {l : List Int} {x : Int}, maxF x l = x ∨ maxF x l ∈ l
  | [], x => .inl rfl
  | y :: l, x => by
    rcases maxF_mem (l := l) (x := max x y) with h | h
    · by_cases hxy : x ≤ y
      · right; show maxF (max x y) l ∈ y :: l
        rw [h, Int.max_eq_right hxy]; exact List.mem_cons_self ..
      · left; show maxF (max x y) l = x
        rw [h]; omega
    · right; exact List.mem_cons_of_mem _ h
theorem maxF_uniq {x : Int} {l : List Int} {m : Int} (h1 : x ≤ m) (h2 : ∀ y ∈ l, y ≤ m) (h3 : m = x ∨ m ∈ l) : m = maxF x l := by
  have a : maxF x l ≤ m := by
    rcases maxF_mem (l := l) (x := x) with h | h
    · omega
    · exact h2 _ h
  have b : m ≤ maxF x l := by
    rcases h3 with h | h
    · rw [h]; exact maxF_ge
    · exact maxF_all h
  omega
theorem maxF_perm {x : Int} {l l' : List Int} (h : ∀ y, y ∈ l ↔ y ∈ l') : maxF x l = maxF x l' :=
  maxF_uniq maxF_ge (fun y hy => maxF_all ((h y).mpr hy)) (maxF_mem.imp id fun z => (h _).mp z)
/-- what all asks of one many deal to a track -/
def dealsA (ts : List Tk) (qs : List Ask3) (gap : Int) (ss : List Int) (many i : Nat) : List Int := (qs.filter fun q => decide (q.2.1 = many)).map fun q => pA ts ss q.1 q.2.1 (q.2.2 - gap * ((many : Int) - 1)) i
theorem grown_at {n : Nat} {ts : List Tk} {gap : Int} {ss : List Int} {many i : Nat} (hi : i < n) : ∀ (qs : List Ask3) (g : List Int), g.length = n → wAt (qs.foldl (grow1 n ts gap ss many) g) i = maxF (wAt g i) (dealsA ts qs gap ss many i)
  | [], g, h => rfl
  | q :: qs, g, h => by
    show wAt (qs.foldl _ (grow1 n ts gap ss many g q)) i = _
    rw [grown_at hi qs _ (grow1_len h)]
    unfold dealsA
    rw [List.filter_cons]
    by_cases e : q.2.1 = many
    · rw [if_pos (decide_eq_true e), List.map_cons]
      unfold grow1
      rw [if_pos e, growM_at hi]; rfl
    · rw [if_neg (by simpa using e)]
      unfold grow1
      rw [if_neg e]
theorem grownM_at {ts : List Tk} {qs : List Ask3} {gap : Int} {ss : List Int} {many i : Nat} (hi : i < ts.length) : wAt (grownM ts qs gap ss many) i = maxF 0 (dealsA ts qs gap ss many i) := by
  unfold grownM
  rw [grown_at hi _ _ List.length_replicate]
  congr 1
  unfold wAt
  rw [List.getD_eq_getElem?_getD, List.getElem?_replicate, if_pos hi]; rfl
theorem list_ext_wAt {xs ys : List Int} (hl : xs.length = ys.length) (h : ∀ i, i < xs.length → wAt xs i = wAt ys i) : xs = ys := by
  apply List.ext_getElem hl
  intro i h1 h2
  have := h i h1
  unfold wAt at this
  rw [List.getD_eq_getElem?_getD, List.getD_eq_getElem?_getD, List.getElem?_eq_getElem h1, List.getElem?_eq_getElem h2] at this
  exact this
theorem told_at {ts : List Tk} {i : Nat} {t : Tk} (h : ts[i]? = some t) : wAt (ts.map Tk.told) i = t.told := by
  unfold wAt
  rw [List.getD_eq_getElem?_getD, List.getElem?_map, h]; rfl
/-! #### asks of one track -/
theorem freeL_one (ts : List Tk) (f : Nat) : freeL ts f 1 = if tkF ts f = true then [f] else [] := by
  unfold freeL
  show List.filter (tkF ts) [f + 0] = _
  rw [Nat.add_zero, List.filter_cons]; rfl
theorem slice_one {ss : List Int} {f : Nat} (h : f < ss.length) : sliceSum ss f 1 = wAt ss f := by
  unfold sliceSum wAt
  rw [List.getD_eq_getElem?_getD, List.getElem?_eq_getElem h, List.drop_take, Nat.add_sub_cancel_left, List.drop_eq_getElem_cons h]
  simp only [List.take_succ_cons, List.take_zero, List.sum_cons, List.sum_nil, Int.add_zero, Option.getD_some]
/-- with asks of one track alone -/
theorem track_single {ts : List Tk} {qs : List Ask3} {gap : Int} (hq : ∀ q ∈ qs, q.2.1 = 1 ∧ q.1 < ts.length) {i : Nat} {t : Tk} (ht : ts[i]? = some t) :
    wAt (trackM ts qs gap) i = if t.free = true then maxF 0 ((qs.filter fun q => decide (q.1 = i)).map fun q => q.2.2) else t.told := by
  have hi := (List.getElem?_eq_some_iff.mp ht).1
  have hf : tkF ts i = t.free := by unfold tkF; rw [ht]
  have later : ∀ (ss : List Int) (k : Nat), wAt (stepM ts qs gap ss (k + 2)) i = wAt ss i := fun ss k => by
    rw [stepM_at hi, grownM_at hi]
    have : dealsA ts qs gap ss (k + 2) i = [] := by
      unfold dealsA
      rw [List.map_eq_nil_iff, List.filter_eq_nil_iff]
      intro q hq'
      have := (hq q hq').1
      simp; omega
    rw [this]
    show wAt ss i + 0 = _
    omega
  have steps : ∀ k, wAt (stepsM ts qs gap (k + 1)) i = wAt (stepsM ts qs gap 1) i := fun k => by
    induction k with
    | zero => rfl
    | succ k ih => rw [stepsM_succ, later, ih]
  have e : trackM ts qs gap = stepsM ts qs gap ts.length := rfl
  obtain ⟨m, hm⟩ : ∃ m, ts.length = m + 1 := ⟨ts.length - 1, by omega⟩
  rw [e, hm, steps]
  have e1 : stepsM ts qs gap 1 = stepM ts qs gap (ts.map Tk.told) 1 := rfl
  rw [e1, stepM_at hi, grownM_at hi, told_at ht]
  have hpa : ∀ q ∈ qs, pA ts (ts.map Tk.told) q.1 q.2.1 (q.2.2 - gap * (((1 : Nat) : Int) - 1)) i = if q.1 = i ∧ t.free = true ∧ 0 < q.2.2 then q.2.2 else 0 := fun q hq' => by
    obtain ⟨h1, h2⟩ := hq q hq'
    unfold pA
    rw [h1, freeL_one, slice_one (by rw [List.length_map]; exact h2)]
    have e0 : gap * (((1 : Nat) : Int) - 1) = 0 := by simp
    rw [e0]
    by_cases hqi : q.1 = i
    · rw [hqi, hf, told_at ht]
      by_cases hfr : t.free = true
      · have h0 : t.told = 0 := by cases t <;> simp_all [Tk.free, Tk.told]
        rw [h0, if_pos hfr]
        by_cases hs : 0 < q.2.2
        · rw [if_pos ⟨by simp, by omega⟩, if_pos ⟨rfl, hfr, hs⟩]
          unfold partA
          simp
        · rw [if_neg (fun z => hs (by omega)), if_neg (fun z => hs z.2.2)]
      · rw [if_neg hfr, if_neg (by simp), if_neg (fun z => hfr z.2.1)]
    · rw [if_neg (fun z => ?_), if_neg (fun z => hqi z.1)]
      have := z.1
      split at this
      · exact hqi (List.mem_singleton.mp this).symm
      · cases this
  by_cases hfr : t.free = true
  · rw [if_pos hfr]
    have h0 : t.told = 0 := by cases t <;> simp_all [Tk.free, Tk.told]
    rw [h0, Int.zero_add]
    refine (maxF_uniq maxF_ge (fun y hy => ?_) ?_)
    · obtain ⟨q, hq1, rfl⟩ := List.mem_map.mp hy
      obtain ⟨hq2, hq3⟩ := List.mem_filter.mp hq1
      have hq3 := of_decide_eq_true hq3
      by_cases hs : 0 < q.2.2
      · refine maxF_all ?_
        unfold dealsA
        refine List.mem_map.mpr ⟨q, List.mem_filter.mpr ⟨hq2, decide_eq_true (hq q hq2).1⟩, ?_⟩
        rw [hpa q hq2, if_pos ⟨hq3, hfr, hs⟩]
      · exact Int.le_trans (by omega) maxF_ge
    · rcases maxF_mem (x := 0) (l := dealsA ts qs gap (ts.map Tk.told) 1 i) with h | h
      · exact .inl h
      · unfold dealsA at h
        obtain ⟨q, hq1, e2⟩ := List.mem_map.mp h
        obtain ⟨hq2, _⟩ := List.mem_filter.mp hq1
        rw [hpa q hq2] at e2
        by_cases hc : q.1 = i ∧ t.free = true ∧ 0 < q.2.2
        · rw [if_pos hc] at e2
          right
          show maxF 0 (List.map _ _) ∈ _
          rw [← e2]
          exact List.mem_map.mpr ⟨q, List.mem_filter.mpr ⟨hq2, decide_eq_true hc.1⟩, rfl⟩
        · rw [if_neg hc] at e2
          left
          unfold dealsA
          exact e2.symm
  · rw [if_neg hfr]
    have : maxF 0 (dealsA ts qs gap (ts.map Tk.told) 1 i) = 0 := by
      symm
      refine maxF_uniq (Int.le_refl 0) (fun y hy => ?_) (.inl rfl)
      unfold dealsA at hy
      obtain ⟨q, hq1, rfl⟩ := List.mem_map.mp hy
      obtain ⟨hq2, _⟩ := List.mem_filter.mp hq1
      rw [hpa q hq2, if_neg (fun z => hfr z.2.1)]
      exact Int.le_refl 0
    rw [this]; omega
/-! #### as data -/
def tkD : Tk → PyData
  | .cells n => .int n
  | .fit => .str "fit"
  | .share k => .tuple [.str "share", .int k]
def askD (q : Ask3) : PyData := .tuple [.int (q.1 : Int), .int (q.2.1 : Int), .int q.2.2]
section
variable {K : PySem.W.Frag} {H : Hp}
theorem dp_tk {v : V} {t : Tk} (h : TkAt H v t) : Dp K H v (tkD t) := by
  cases t with
  | cells n =>
    have e : v = .int n := h
    subst e; exact .int n
  | fit =>
    have e : v = .str "fit" := h
    subst e; exact .str _
  | share k =>
    obtain ⟨r, rfl, g⟩ := h
    exact .tup (sqT g) (.cons (.str _) (.cons (.int _) .nil))
theorem dpAll_of {α : Type} {f : α → PyData} : ∀ {vs : List V} {xs : List α}, vs.length = xs.length → (∀ (i : Nat) (v : V) (x : α), vs[i]? = some v → xs[i]? = some x → Dp K H v (f x)) → DpAll K H vs (xs.map f)
  | [], [], _, _ => .nil
  | [], _ :: _, h, _ => by cases h
  | _ :: _, [], h, _ => by cases h
  | v :: vs, x :: xs, h, k => .cons (k 0 v x rfl rfl) (dpAll_of (by simpa using h) fun i w y a b => k (i + 1) w y a b)
theorem dp_tks {vs : List V} {ts : List Tk} (h : TksAt H vs ts) : DpAll K H vs (ts.map tkD) := dpAll_of h.1 fun i v t a b => dp_tk (h.2 i v t a b)
theorem dp_ask {v : V} {q : Ask3} (h : AskAt H v q) : Dp K H v (askD q) := by
  obtain ⟨r, rfl, g⟩ := h
  exact .tup (sqT g) (.cons (.int _) (.cons (.int _) (.cons (.int _) .nil)))
theorem dp_asks {vs : List V} {qs : List Ask3} (h : AsksAt H vs qs) : DpAll K H vs (qs.map askD) := dpAll_of h.1 fun i v t a b => dp_ask (h.2 i v t a b)
end
theorem tkD_can (t : Tk) : (tkD t).canLay0 = true ∧ (tkD t).depth ≤ 1 := by cases t <;> simp [tkD, PyData.canLay0, PyData.canLayAll0, PyData.depth, PyData.depthAll] <;> decide +kernel
theorem tkD_nob (t : Tk) : nob (tkD t) = true := by cases t <;> simp [tkD, nob, nobAll]
theorem askD_can (q : Ask3) : (askD q).canLay0 = true ∧ (askD q).depth ≤ 1 := by simp [askD, PyData.canLay0, PyData.canLayAll0, PyData.depth, PyData.depthAll]
theorem askD_nob (q : Ask3) : nob (askD q) = true := by simp [askD, nob, nobAll]
theorem tks_shaped (ts : List Tk) : SeqAt.shaped (.list (ts.map tkD)) = true := shaped_map (m := 1) (by decide) (fun t => (tkD_can t).1) (fun t => (tkD_can t).2) ts
theorem asks_shaped (qs : List Ask3) : SeqAt.shaped (.list (qs.map askD)) = true := shaped_map (m := 1) (by decide) (fun t => (askD_can t).1) (fun t => (askD_can t).2) qs
/-- a thing's kind -/
def Tk.ty : Tk → String
  | .cells _ => "int"
  | .fit => "str"
  | .share _ => "tuple"
theorem TkAt.t7 {H : Hp} {v : V} {t : Tk} (h : TkAt H v t) : Ty7 H v t.ty := by
  cases t with
  | cells n =>
    have e : v = .int n := h
    subst e; exact .int n
  | fit =>
    have e : v = .str "fit" := h
    subst e; exact .str _
  | share k =>
    obtain ⟨r, rfl, g⟩ := h
    exact .tup g
theorem TkAt.isI {H : Hp} {v : V} {t : Tk} (h : TkAt H v t) : isI v = !t.free := by
  cases t with
  | cells n =>
    have e : v = .int n := h
    subst e; rfl
  | fit =>
    have e : v = .str "fit" := h
    subst e; rfl
  | share k =>
    obtain ⟨r, rfl, g⟩ := h
    rfl
theorem free_nats {ts : List Tk} {f m : Nat} : ((List.range m).filter fun i => tkF ts (f + i)).map (fun i : Nat => V.int ((f : Int) + (i : Int))) = natsV (freeL ts f m) := by
  unfold freeL natsV
  rw [List.filter_map, List.map_map]
  refine List.map_congr_left fun i _ => ?_
  show _ = V.int ((f + i : Nat) : Int)
  rw [Int.natCast_add]
theorem cut_ints (ss : List Int) (f m : Nat) : cutV (ss.map V.int) (some (f : Int)) (some ((f : Int) + (m : Int))) = ((ss.take (f + m)).drop f).map V.int := by
  rw [← Int.natCast_add, cutV_mid _ _ _ (by omega), ← List.map_take, ← List.map_drop]
theorem growM_skip {n : Nat} {ts : List Tk} {ss g : List Int} {f m : Nat} {wanted : Int} (hl : ¬ 0 < wanted - sliceSum ss f m) (hg : ∀ z ∈ g, 0 ≤ z) (lg : g.length = n) : growM n ts ss g f m wanted = g := by
  refine list_ext_wAt (by rw [growM_len, lg]) fun i hi => ?_
  rw [growM_len] at hi
  rw [growM_at hi]
  exact (growP_skip hl (hg _ (wAt_mem (by omega)))).symm
abbrev growL (n : Nat) (ts : List Tk) (ss g : List Int) (f m : Nat) (wanted : Int) (p : Nat) : List Int := (List.range n).map (growP ts ss g f m wanted p)
theorem growL_zero {n : Nat} {ts : List Tk} {ss g : List Int} {f m : Nat} {wanted : Int} (lg : g.length = n) : growL n ts ss g f m wanted 0 = g := by
  refine list_ext_wAt (by rw [List.length_map, List.length_range, lg]) fun i hi => ?_
  rw [List.length_map, List.length_range] at hi
  unfold wAt
  rw [List.getD_eq_getElem?_getD, List.getElem?_map, range_get hi]
  show growP ts ss g f m wanted 0 i = _
  rw [growP_zero]; rfl
theorem growL_end {n : Nat} {ts : List Tk} {ss g : List Int} {f m : Nat} {wanted : Int} (hl : 0 < wanted - sliceSum ss f m) (hg : ∀ z ∈ g, 0 ≤ z) (lg : g.length = n) : growL n ts ss g f m wanted (freeL ts f m).length = growM n ts ss g f m wanted := by
  unfold growL growM
  refine List.map_congr_left fun i hi => ?_
  have hi := List.mem_range.mp hi
  exact growP_end hl (hg _ (wAt_mem (by omega)))
theorem growL_at {n : Nat} {ts : List Tk} {ss g : List Int} {f m : Nat} {wanted : Int} {p c : Nat} (hc : c < n) : ((growL n ts ss g f m wanted p).map V.int)[c]? = some (.int (growP ts ss g f m wanted p c)) := by
  rw [List.getElem?_map, List.getElem?_map, range_get hc]; rfl
theorem growL_set {n : Nat} {ts : List Tk} {ss g : List Int} {f m : Nat} {wanted : Int} {p c : Nat} (h : (freeL ts f m)[p]? = some c) :
    ((growL n ts ss g f m wanted p).map V.int).set c (.int (max (growP ts ss g f m wanted p c) (partA (wanted - sliceSum ss f m) (freeL ts f m).length p))) = (growL n ts ss g f m wanted (p + 1)).map V.int := by
  apply List.ext_getElem?
  intro i
  rw [List.getElem?_set, List.getElem?_map, List.getElem?_map, List.getElem?_map, List.getElem?_map]
  by_cases hi : i < n
  · rw [range_get hi]
    by_cases hci : c = i
    · subst hci
      rw [if_pos rfl, if_pos (by rw [List.length_map, List.length_map, List.length_range]; exact hi)]
      show _ = some (V.int (growP ts ss g f m wanted (p + 1) c))
      rw [growP_succ h, if_pos rfl]
    · rw [if_neg hci]
      show some (V.int (growP ts ss g f m wanted p i)) = some (V.int (growP ts ss g f m wanted (p + 1) i))
      rw [growP_succ h, if_neg (fun e => hci e.symm)]
  · rw [List.getElem?_eq_none (by rw [List.length_range]; omega)]
    by_cases hci : c = i
    · subst hci
      rw [if_pos rfl, if_neg (by rw [List.length_map, List.length_map, List.length_range]; exact hi)]; rfl
    · rw [if_neg hci]; rfl
theorem AskAt.but {H H' : Hp} {v : V} {q : Ask3} {a : Addr} {xs : List V} (h : AskAt H v q) (g : H a = some (.lst xs)) (b : But a H H') : AskAt H' v q := let ⟨r, e, g2⟩ := h; ⟨r, e, b.app (fun z => by rw [z, g] at g2; cases g2) g2⟩
theorem grow1_nonneg {n : Nat} {ts : List Tk} {gap : Int} {ss : List Int} {many : Nat} {g : List Int} {q : Ask3} (h : ∀ z ∈ g, 0 ≤ z) : ∀ z ∈ grow1 n ts gap ss many g q, 0 ≤ z := fun z hz => by
  unfold grow1 at hz
  split at hz
  · unfold growM at hz
    obtain ⟨i, _, rfl⟩ := List.mem_map.mp hz
    have := pA_nonneg ts ss q.1 q.2.1 (q.2.2 - gap * ((many : Int) - 1)) i
    omega
  · exact h z hz
theorem grown_nonneg {n : Nat} {ts : List Tk} {gap : Int} {ss : List Int} {many : Nat} : ∀ (qs : List Ask3) (g : List Int), (∀ z ∈ g, 0 ≤ z) → ∀ z ∈ qs.foldl (grow1 n ts gap ss many) g, 0 ≤ z
  | [], g, h => h
  | q :: qs, g, h => grown_nonneg qs _ (grow1_nonneg h)
theorem foldl_take {α β : Type} {f : β → α → β} {l : List α} {x : β} {i : Nat} {a : α} (h : l[i]? = some a) : (l.take (i + 1)).foldl f x = f ((l.take i).foldl f x) a := by
  rw [List.take_add_one, h, List.foldl_append]; rfl
theorem stepM_V {ts : List Tk} {qs : List Ask3} {gap : Int} {ss : List Int} {many : Nat} : (List.range ts.length).map (fun i => V.int (wAt ss i + wAt (grownM ts qs gap ss many) i)) = (stepM ts qs gap ss many).map V.int := by
  unfold stepM
  rw [List.map_map]; rfl
theorem AsksAt.but {H H' : Hp} {vs : List V} {qs : List Ask3} {a : Addr} {xs : List V} (h : AsksAt H vs qs) (g : H a = some (.lst xs)) (b : But a H H') : AsksAt H' vs qs := ⟨h.1, fun i v q x y => (h.2 i v q x y).but g b⟩
theorem TksAt.dr {H H' : Hp} {vs : List V} {ts : List Tk} {a : Addr} (h : TksAt H vs ts) (hs : Src H a) (d : Dr a H H') : TksAt H' vs ts := let ⟨_, e⟩ := hs; h.but e d.b
theorem AsksAt.dr {H H' : Hp} {vs : List V} {qs : List Ask3} {a : Addr} (h : AsksAt H vs qs) (hs : Src H a) (d : Dr a H H') : AsksAt H' vs qs := let ⟨_, e⟩ := hs; h.but e d.b
theorem TkAt.dr {H H' : Hp} {v : V} {t : Tk} {a : Addr} (h : TkAt H v t) (hs : Src H a) (d : Dr a H H') : TkAt H' v t := let ⟨_, e⟩ := hs; h.but e d.b
theorem AsksAt.snoc {H : Hp} {vs : List V} {qs : List Ask3} {v : V} {q : Ask3} (h : AsksAt H vs qs) (hv : AskAt H v q) : AsksAt H (vs ++ [v]) (qs ++ [q]) := by
  have l := h.1
  refine ⟨by simp [l], fun i x y hx hy => ?_⟩
  by_cases hi : i < vs.length
  · rw [List.getElem?_append_left hi] at hx
    rw [List.getElem?_append_left (by omega)] at hy
    exact h.2 i x y hx hy
  · have : i = vs.length := by
      have := (List.getElem?_eq_some_iff.mp hx).1
      simp at this; omega
    subst this
    rw [List.getElem?_concat_length] at hx
    rw [l, List.getElem?_concat_length] at hy
    cases hx; cases hy; exact hv
theorem both_shaped (ts : List Tk) (qs : List Ask3) : SeqAt.shaped (.list [.list (ts.map tkD), .list (qs.map askD)]) = true := by
  unfold SeqAt.shaped
  have c1 := canLayAll0_map (g := tkD) (fun x => (tkD_can x).1) ts
  have c2 := canLayAll0_map (g := askD) (fun x => (askD_can x).1) qs
  have d1 := depthAll_map (g := tkD) (m := 1) (fun x => (tkD_can x).2) ts
  have d2 := depthAll_map (g := askD) (m := 1) (fun x => (askD_can x).2) qs
  rw [Bool.and_eq_true]
  refine ⟨by simp only [PyData.canLay0, PyData.canLayAll0, c1, c2, Bool.and_self], decide_eq_true ?_⟩
  simp only [PyData.depth, PyData.depthAll]; omega
theorem both_same (ts : List Tk) (qs : List Ask3) : PyData.eqv (.list [.list (ts.map tkD), .list (qs.map askD)]) (.list [.list (ts.map tkD), .list (qs.map askD)]) = true := by
  have n : nob (.list [.list (ts.map tkD), .list (qs.map askD)]) = true := by
    have h1 := nobAll_map (g := tkD) tkD_nob ts
    have h2 := nobAll_map (g := askD) askD_nob qs
    simp only [nob, nobAll, h1, h2, Bool.and_self]
  exact (eqv_iff n n).mpr rfl
end My

/-! ### tracks: asks reached, asks in another order: plain mathematics -/
namespace My
open PySem L2
theorem trackM_rev (ts : List Tk) (qs : List Ask3) (gap : Int) : trackM ts qs.reverse gap = trackM ts qs gap := by
  have h : ∀ ss many, stepM ts qs.reverse gap ss many = stepM ts qs gap ss many := fun ss many => by
    unfold stepM
    refine List.map_congr_left fun i hi => ?_
    have hi := List.mem_range.mp hi
    rw [grownM_at hi, grownM_at hi]
    congr 1
    refine maxF_perm fun y => ?_
    unfold dealsA
    rw [List.filter_reverse, List.map_reverse, List.mem_reverse]
  unfold trackM
  have e : (fun s k => stepM ts qs.reverse gap s (k + 1)) = (fun s k => stepM ts qs gap s (k + 1)) := by
    funext s k
    exact h s (k + 1)
  rw [e]
abbrev seg (f m : Nat) : List Nat := (List.range m).map fun k => f + k
theorem seg_mem {f m i : Nat} : i ∈ seg f m ↔ f ≤ i ∧ i < f + m := by
  rw [List.mem_map]
  constructor
  · rintro ⟨k, hk, rfl⟩
    have := List.mem_range.mp hk
    omega
  · intro h
    exact ⟨i - f, List.mem_range.mpr (by omega), by omega⟩
theorem slice_S {ss : List Int} {f : Nat} : ∀ {m : Nat}, f + m ≤ ss.length → sliceSum ss f m = S (wAt ss) (seg f m) := by
  intro m
  induction m with
  | zero => intro _; unfold sliceSum; simp [S]
  | succ m ih =>
    intro h
    have h2 := ih (by omega)
    have e1 : seg f (m + 1) = seg f m ++ [f + m] := by unfold seg; rw [List.range_succ, List.map_append]; rfl
    rw [e1, S_append, ← h2]
    unfold sliceSum
    have e2 : (ss.take (f + (m + 1))) = ss.take (f + m) ++ [wAt ss (f + m)] := by
      rw [← Nat.add_assoc, List.take_add_one, List.getElem?_eq_getElem (by omega : f + m < ss.length)]
      congr 1
      unfold wAt
      rw [List.getD_eq_getElem?_getD, List.getElem?_eq_getElem (by omega : f + m < ss.length)]; rfl
    rw [e2, List.drop_append_of_le_length (by rw [List.length_take]; omega), List.sum_append]
    rfl
theorem parts_all (lack : Int) {L : Nat} (hL : 0 < L) : S (fun j => partA lack L j) (List.range L) = lack := by
  have key : ∀ n, S (fun j => partA lack L j) (List.range n) = lack * (n : Int) / (L : Int) := by
    intro n
    induction n with
    | zero => simp [S]
    | succ n ih =>
      rw [List.range_succ, S_append, ih, S_cons, S_nil]
      unfold partA
      have : ((n + 1 : Nat) : Int) = (n : Int) + 1 := by omega
      rw [this]; omega
  rw [key, Int.mul_ediv_cancel _ (by omega)]
theorem pA_sum {ts : List Tk} {ss : List Int} {f m : Nat} {wanted : Int} (hl : 0 < wanted - sliceSum ss f m) (hne : freeL ts f m ≠ []) : S (pA ts ss f m wanted) (seg f m) = wanted - sliceSum ss f m := by
  have hL : 0 < (freeL ts f m).length := List.length_pos_iff.mpr hne
  rw [S_split _ (tkF ts)]
  have e0 : S (pA ts ss f m wanted) ((seg f m).filter fun i => !tkF ts i) = 0 := by
    have : S (pA ts ss f m wanted) ((seg f m).filter fun i => !tkF ts i) = S (fun _ => 0 * 0) ((seg f m).filter fun i => !tkF ts i) := S_congr fun i hi => by
      have h := (List.mem_filter.mp hi).2
      unfold pA
      rw [if_neg (fun z => ?_)]; rfl
      have := (freeL_mem.mp z.1).2.2
      rw [this] at h; cases h
    rw [this, S_mul, Int.zero_mul]
  have e1 : S (pA ts ss f m wanted) ((seg f m).filter (tkF ts)) = S (fun j => partA (wanted - sliceSum ss f m) (freeL ts f m).length j) (List.range (freeL ts f m).length) := by
    show ((freeL ts f m).map _).sum = _
    unfold S
    congr 1
    apply List.ext_getElem?
    intro j
    rw [List.getElem?_map, List.getElem?_map]
    by_cases hj : j < (freeL ts f m).length
    · rw [List.getElem?_eq_getElem hj, range_get hj]
      show some (pA ts ss f m wanted (freeL ts f m)[j]) = some _
      unfold pA
      rw [if_pos ⟨List.getElem_mem _, hl⟩, idxOf_at (freeL_nodup ts f m) (List.getElem?_eq_getElem hj)]
    · rw [List.getElem?_eq_none (by omega), List.getElem?_eq_none (by rw [List.length_range]; omega)]; rfl
  rw [e0, e1, parts_all _ hL]; omega
theorem step_ge {ts : List Tk} {qs : List Ask3} {gap : Int} {k i : Nat} (hi : i < ts.length) : wAt (stepsM ts qs gap k) i ≤ wAt (stepsM ts qs gap (k + 1)) i := by
  rw [stepsM_succ, stepM_at hi, grownM_at hi]
  have : 0 ≤ maxF 0 (dealsA ts qs gap (stepsM ts qs gap k) (k + 1) i) := maxF_ge
  omega
theorem steps_ge {ts : List Tk} {qs : List Ask3} {gap : Int} {i : Nat} (hi : i < ts.length) : ∀ (d k : Nat), wAt (stepsM ts qs gap k) i ≤ wAt (stepsM ts qs gap (k + d)) i
  | 0, _ => Int.le_refl _
  | d + 1, k => Int.le_trans (steps_ge hi d k) (step_ge hi)
/-- each ask that has a track that isn't of so many cells has its size at least -/
theorem ask_reached {ts : List Tk} {qs : List Ask3} {gap : Int} {q : Ask3} (hq : q ∈ qs) (ok : AskOk ts.length q) (hne : freeL ts q.1 q.2.1 ≠ []) : q.2.2 ≤ sliceSum (trackM ts qs gap) q.1 q.2.1 + gap * ((q.2.1 : Int) - 1) := by
  obtain ⟨o1, o2, o3⟩ := ok
  obtain ⟨f, m, size⟩ := q
  have o1 : 1 ≤ m := o1
  obtain ⟨k, rfl⟩ : ∃ k, m = k + 1 := ⟨m - 1, by omega⟩
  have o1 : 1 ≤ k + 1 := o1
  have o2 : f + (k + 1) ≤ ts.length := o2
  show size ≤ sliceSum (trackM ts qs gap) f (k + 1) + gap * (((k + 1 : Nat) : Int) - 1)
  have hne : freeL ts f (k + 1) ≠ [] := hne
  have e : trackM ts qs gap = stepsM ts qs gap ((k + 1) + (ts.length - (k + 1))) := by
    rw [show (k + 1) + (ts.length - (k + 1)) = ts.length by omega]; rfl
  have l1 : ∀ j, (stepsM ts qs gap j).length = ts.length := stepsM_len ts qs gap
  rw [e, slice_S (by rw [l1]; exact o2)]
  have h1 : S (wAt (stepsM ts qs gap (k + 1))) (seg f (k + 1)) ≤ S (wAt (stepsM ts qs gap ((k + 1) + (ts.length - (k + 1))))) (seg f (k + 1)) := S_le fun i hi => by
    have := seg_mem.mp hi
    exact steps_ge (by omega) _ _
  obtain ⟨wd, hwd⟩ : ∃ wd, wd = size - gap * (((k + 1 : Nat) : Int) - 1) := ⟨_, rfl⟩
  have h2 : S (wAt (stepsM ts qs gap k)) (seg f (k + 1)) + S (pA ts (stepsM ts qs gap k) f (k + 1) wd) (seg f (k + 1)) ≤ S (wAt (stepsM ts qs gap (k + 1))) (seg f (k + 1)) := by
    have : S (fun i => wAt (stepsM ts qs gap k) i + pA ts (stepsM ts qs gap k) f (k + 1) wd i) (seg f (k + 1)) = S (wAt (stepsM ts qs gap k)) (seg f (k + 1)) + S (pA ts (stepsM ts qs gap k) f (k + 1) wd) (seg f (k + 1)) := by
      have add : ∀ R : List Nat, S (fun i => wAt (stepsM ts qs gap k) i + pA ts (stepsM ts qs gap k) f (k + 1) wd i) R = S (wAt (stepsM ts qs gap k)) R + S (pA ts (stepsM ts qs gap k) f (k + 1) wd) R := fun R => by
        induction R with
        | nil => rfl
        | cons i R ih => rw [S_cons, S_cons, S_cons, ih]; omega
      exact add _
    rw [← this]
    refine S_le fun i hi => ?_
    have hi := seg_mem.mp hi
    rw [stepsM_succ, stepM_at (by omega), grownM_at (by omega)]
    have : pA ts (stepsM ts qs gap k) f (k + 1) wd i ≤ maxF 0 (dealsA ts qs gap (stepsM ts qs gap k) (k + 1) i) := by
      refine maxF_all ?_
      unfold dealsA
      refine List.mem_map.mpr ⟨(f, k + 1, size), List.mem_filter.mpr ⟨hq, decide_eq_true rfl⟩, ?_⟩
      rw [hwd]
    omega
  have h3 : sliceSum (stepsM ts qs gap k) f (k + 1) = S (wAt (stepsM ts qs gap k)) (seg f (k + 1)) := slice_S (by rw [l1]; exact o2)
  by_cases hl : 0 < wd - sliceSum (stepsM ts qs gap k) f (k + 1)
  · rw [pA_sum hl hne] at h2
    omega
  · have h4 : 0 ≤ S (pA ts (stepsM ts qs gap k) f (k + 1) wd) (seg f (k + 1)) := S_nonneg fun i _ => pA_nonneg ..
    omega
theorem AsksAt.rev {H : Hp} {vs : List V} {qs : List Ask3} (h : AsksAt H vs qs) : AsksAt H vs.reverse qs.reverse := by
  have l := h.1
  refine ⟨by rw [List.length_reverse, List.length_reverse, l], fun i v q hv hq => ?_⟩
  have hi := (List.getElem?_eq_some_iff.mp hv).1
  rw [List.length_reverse] at hi
  rw [List.getElem?_reverse hi] at hv
  rw [List.getElem?_reverse (by omega), ← l] at hq
  exact h.2 _ v q hv hq
theorem natI_ne {l : List Nat} : (!decide (natI l = [])) = !decide (l = []) := by
  rw [decide_eq_decide.mpr natI_nil]
end My

/-! ### boxes and trees of boxes as they stand -/
namespace My
open PySem PySem.Spec PyProof.Rows L2
inductive Kd | words | picture | row | pile | grid
  deriving DecidableEq
/-- what a box has of its own -/
inductive Own
  | words (t : List Nat)
  | picture (a d : Int)
  | row (turn : Bool) (gap lane : Int) (pack stands : String)
  | pile (gap : Int) (pack stands : String)
  | grid (sp : List (Int × Int × Int × Int)) (cs rs : List Tk) (gap lane : Int) (stands : String)
def Own.kd : Own → Kd
  | .words _ => .words
  | .picture _ _ => .picture
  | .row .. => .row
  | .pile .. => .pile
  | .grid .. => .grid
/-- a tree: the box at x, its name, its style's values, its own, the boxes in it -/
inductive At
  | mk (x : Addr) (nm : List Nat) (st : List V) (o : Own) (kids : List At)
def At.x : At → Addr | .mk x _ _ _ _ => x
def At.nm : At → List Nat | .mk _ n _ _ _ => n
def At.st : At → List V | .mk _ _ s _ _ => s
def At.own : At → Own | .mk _ _ _ o _ => o
def At.kids : At → List At | .mk _ _ _ _ ks => ks
def refs (ks : List At) : List V := ks.map fun k => .ref k.x
/-- four numbers in a tuple -/
def SpAt (H : Hp) (v : V) (q : Int × Int × Int × Int) : Prop := ∃ p, v = .ref p ∧ H p = some (.tup [.int q.1, .int q.2.1, .int q.2.2.1, .int q.2.2.2])
def SpsAt (H : Hp) (vs : List V) (qs : List (Int × Int × Int × Int)) : Prop := vs.length = qs.length ∧ ∀ (i : Nat) (v : V) (q : Int × Int × Int × Int), vs[i]? = some v → qs[i]? = some q → SpAt H v q
inductive BoxAt (bc : Kd → Addr) (S : Addr) (K : PySem.W.Frag) (H : Hp) : At → Prop
  | words {x dx y dy : Addr} {nm t : List Nat} {st : List V} (hx : H x = some (.ins (bc .words) dx [("name", .str (sO nm)), ("text", .str (sO t)), ("style", .ref y)])) (hy : H y = some (.ins S dy (styL st))) (ok : OkL K H st) (hn : NameOk nm) (ht : t.length ≤ 10000) : BoxAt bc S K H (.mk x nm st (.words t) [])
  | picture {x dx y dy : Addr} {nm : List Nat} {a d : Int} {st : List V} (hx : H x = some (.ins (bc .picture) dx [("name", .str (sO nm)), ("across", .int a), ("down", .int d), ("style", .ref y)])) (hy : H y = some (.ins S dy (styL st))) (ok : OkL K H st) (hn : NameOk nm) (ha : 1 ≤ a) (hd : 1 ≤ d) : BoxAt bc S K H (.mk x nm st (.picture a d) [])
  | row {x dx y dy b : Addr} {nm : List Nat} {turn : Bool} {gap lane : Int} {pack stands : String} {st : List V} {kids : List At} (hx : H x = some (.ins (bc .row) dx [("name", .str (sO nm)), ("boxes", .ref b), ("turn", .bl turn), ("gap", .int gap), ("lane", .int lane), ("pack", sX pack), ("stands", sX stands), ("style", .ref y)]))
      (hy : H y = some (.ins S dy (styL st))) (ok : OkL K H st) (hn : NameOk nm) (g0 : 0 ≤ gap) (l0 : 0 ≤ lane) (hb : H b = some (.tup (refs kids))) (lk : kids.length ≤ 1000) (hk : ∀ k ∈ kids, BoxAt bc S K H k) : BoxAt bc S K H (.mk x nm st (.row turn gap lane pack stands) kids)
  | pile {x dx y dy b : Addr} {nm : List Nat} {gap : Int} {pack stands : String} {st : List V} {kids : List At} (hx : H x = some (.ins (bc .pile) dx [("name", .str (sO nm)), ("boxes", .ref b), ("gap", .int gap), ("pack", sX pack), ("stands", sX stands), ("style", .ref y)]))
      (hy : H y = some (.ins S dy (styL st))) (ok : OkL K H st) (hn : NameOk nm) (g0 : 0 ≤ gap) (hb : H b = some (.tup (refs kids))) (lk : kids.length ≤ 1000) (hk : ∀ k ∈ kids, BoxAt bc S K H k) : BoxAt bc S K H (.mk x nm st (.pile gap pack stands) kids)
  | grid {x dx y dy b pc pr ps : Addr} {nm : List Nat} {sp : List (Int × Int × Int × Int)} {cs rs : List Tk} {gap lane : Int} {stands : String} {st us vs ws : List V} {kids : List At} (hx : H x = some (.ins (bc .grid) dx [("name", .str (sO nm)), ("boxes", .ref b), ("columns", .ref pc), ("rows", .ref pr), ("spots", .ref ps), ("gap", .int gap), ("lane", .int lane), ("stands", sX stands), ("style", .ref y)]))
      (hy : H y = some (.ins S dy (styL st))) (ok : OkL K H st) (hn : NameOk nm) (g0 : 0 ≤ gap) (l0 : 0 ≤ lane) (hb : H b = some (.tup (refs kids))) (lk : kids.length ≤ 1000) (hk : ∀ k ∈ kids, BoxAt bc S K H k)
      (hc : H pc = some (.tup us)) (tc : TksAt H us cs) (oc : ∀ t ∈ cs, t.ok) (nc : cs ≠ []) (hr : H pr = some (.tup vs)) (tr : TksAt H vs rs) (or : ∀ t ∈ rs, t.ok) (nr : rs ≠ []) (hs : H ps = some (.tup ws)) (ts : SpsAt H ws sp) (lsp : sp.length = kids.length) (lcs : cs.length ≤ 1000) (lrs : rs.length ≤ 1000) : BoxAt bc S K H (.mk x nm st (.grid sp cs rs gap lane stands) kids)
/-- what is no list and no dict -/
def Still : HO → Prop
  | .lst _ => False
  | .dK _ => False
  | .dT _ => False
  | .ins _ _ [] => False
  | .tbl _ => False
  | .frz _ (.ext _) => False
  | _ => True
/-- all but lists, dicts and bare instances stay -/
def KeepS (H H' : Hp) : Prop := ∀ (a : Addr) (o : HO), H a = some o → Still o → H' a = some o
section
variable {K : PySem.W.Frag} {H H1 H2 H' : Hp} {bc : Kd → Addr} {S : Addr}
theorem Same.ks (s : Same H H') : KeepS H H' := fun a o h _ => s a o h
theorem KeepS.refl : KeepS H H := fun a o h _ => h
theorem KeepS.trans (p : KeepS H H1) (q : KeepS H1 H2) : KeepS H H2 := fun a o h s => q a o (p a o h s) s
theorem KeepS.butL {l : Addr} {xs : List V} (p : KeepS H H1) (b : But l H1 H2) (h : H1 l = some (.lst xs)) : KeepS H H2 := fun a o e s => b a o (by rintro rfl; rw [p _ _ e s] at h; cases h; exact s) (p a o e s)
theorem KeepS.butT {l : Addr} {xs : List (List Key × V)} (p : KeepS H H1) (b : But l H1 H2) (h : H1 l = some (.dT xs)) : KeepS H H2 := fun a o e s => b a o (by rintro rfl; rw [p _ _ e s] at h; cases h; exact s) (p a o e s)
theorem KeepS.butK {l : Addr} {xs : List (Key × V)} (p : KeepS H H1) (b : But l H1 H2) (h : H1 l = some (.dK xs)) : KeepS H H2 := fun a o e s => b a o (by rintro rfl; rw [p _ _ e s] at h; cases h; exact s) (p a o e s)
theorem KeepS.new {l : Addr} (p : KeepS H H1) (b : But l H1 H2) (h : H l = none) : KeepS H H2 := fun a o e s => b a o (ne_of_none e h) (p a o e s)
theorem KeepS.same (p : KeepS H H1) (s : Same H1 H2) : KeepS H H2 := p.trans (Same.ks s)
theorem Dr.ks {s : Addr} (d : Dr s H H') (hs : Src H s) : KeepS H H' := let ⟨_, e⟩ := hs; KeepS.refl.butL d.b e
theorem KeepS.tup {a : Addr} {xs : List V} (p : KeepS H H') (h : H a = some (.tup xs)) : H' a = some (.tup xs) := p _ _ h True.intro
theorem KeepS.ins {a C d : Addr} {f : Str × V} {fs : List (Str × V)} (p : KeepS H H') (h : H a = some (.ins C d (f :: fs))) : H' a = some (.ins C d (f :: fs)) := p _ _ h True.intro
theorem KeepS.butE {x C d : Addr} (b : But x H H') (h : H x = some (.ins C d [])) : KeepS H H' := fun a o e s => b a o (by rintro rfl; rw [h] at e; cases e; exact s) e
theorem KeepS.butX {x C d : Addr} (p : KeepS H H1) (b : But x H1 H2) (h : H x = some (.ins C d [])) : KeepS H H2 := fun a o e s => b a o (by rintro rfl; rw [h] at e; cases e; exact s) (p a o e s)
theorem KeepS.sty {a C d : Addr} {st : List V} (p : KeepS H H') (ok : st.length = 10) (h : H a = some (.ins C d (styL st))) : H' a = some (.ins C d (styL st)) := by
  obtain ⟨w, h', lw, lh, mw, mh, g, s, r, q, rfl⟩ := ten ok
  exact p.ins h
theorem KeepS.sqT {a : Addr} {xs : List V} (p : KeepS H H') (h : SqT K H a xs) : SqT K H' a xs := by
  rcases h with (h | ⟨o, h⟩) | h
  · exact .inl (.inl (p.tup h))
  · exact .inl (.inr ⟨o, p _ _ h True.intro⟩)
  · exact .inr h
theorem KeepS.szAt {v : V} (p : KeepS H H') (h : SzAt H v) : SzAt H' v := by
  cases h with
  | non => exact .non
  | cells n => exact .cells n
  | part a n h => exact .part a n (p.tup h)
  | tie a l sd m hl hs h => exact .tie a l sd m hl hs (p.tup h)
theorem KeepS.okF {i : Nat} {v : V} (p : KeepS H H') (h : OkF K H i v) : OkF K H' i v :=
  match i, h with
  | 0, h => p.szAt h
  | 1, h => p.szAt h
  | 2, h => h
  | 3, h => h
  | 4, h => h
  | 5, h => h
  | 6, h => h
  | 7, h => h
  | 8, h => let ⟨a, n0, n1, n2, n3, e, g⟩ := h; ⟨a, n0, n1, n2, n3, e, p.sqT g⟩
  | _ + 9, h => h
theorem KeepS.okL {fs : List V} (p : KeepS H H') (h : OkL K H fs) : OkL K H' fs := ⟨h.1, fun i v e => p.okF (h.2 i v e)⟩
theorem KeepS.tks {us : List V} {ts : List Tk} (p : KeepS H H') (h : TksAt H us ts) : TksAt H' us ts := ⟨h.1, fun i v t a b => by
  have q := h.2 i v t a b
  cases t with
  | cells n => exact q
  | fit => exact q
  | share k => obtain ⟨r, e, g⟩ := q; exact ⟨r, e, p.tup g⟩⟩
theorem KeepS.sps {us : List V} {qs : List (Int × Int × Int × Int)} (p : KeepS H H') (h : SpsAt H us qs) : SpsAt H' us qs := ⟨h.1, fun i v q e1 e2 => let ⟨r, e, g⟩ := h.2 i v q e1 e2; ⟨r, e, p.tup g⟩⟩
theorem BoxAt.ks {t : At} (h : BoxAt bc S K H t) (p : KeepS H H') : BoxAt bc S K H' t := by
  induction h with
  | words hx hy ok hn ht => exact .words (p.ins hx) (p.sty ok.1 hy) (p.okL ok) hn ht
  | picture hx hy ok hn ha hd => exact .picture (p.ins hx) (p.sty ok.1 hy) (p.okL ok) hn ha hd
  | row hx hy ok hn g0 l0 hb lk hk ih => exact .row (p.ins hx) (p.sty ok.1 hy) (p.okL ok) hn g0 l0 (p.tup hb) lk ih
  | pile hx hy ok hn g0 hb lk hk ih => exact .pile (p.ins hx) (p.sty ok.1 hy) (p.okL ok) hn g0 (p.tup hb) lk ih
  | grid hx hy ok hn g0 l0 hb lk hk hc tc oc nc hr tr or nr hs ts lsp lcs lrs ih => exact .grid (p.ins hx) (p.sty ok.1 hy) (p.okL ok) hn g0 l0 (p.tup hb) lk ih (p.tup hc) (p.tks tc) oc nc (p.tup hr) (p.tks tr) or nr (p.tup hs) (p.sps ts) lsp lcs lrs
end
/-! #### what isinstance asks of the five classes -/
structure KdF (K : PySem.W.Frag) (bc : Kd → Addr) (B : Addr) : Prop where
  cl : ∀ k, Cls K (bc k)
  wc : ∀ k, PySem.W.findIn K (.ref (bc k)) "__class__" = some (some (.builtin "object.__class__"))
  wg : PySem.W.specialIn K (.builtin "object.__class__") "__get__" = some (some (.builtin "getset_descriptor.__get__"))
  wt : PySem.W.takesIn K (.builtin "object.__class__") = some true
  wm : ∀ k, PySem.W.mroIn K (bc k) (.type "object") = some true
  is_ : ∀ k j, PySem.W.kitOne K (.ref (bc k)) (.ref (bc j)) = some (decide (k = j))
  box : ∀ k, PySem.W.kitOne K (.ref (bc k)) (.ref B) = some true
  nm : ∀ k, PySem.W.findIn K (.ref (bc k)) "name" = some none
  sy : ∀ k, PySem.W.findIn K (.ref (bc k)) "style" = some none
/-- the box's object: its class, its fields -/
theorem BoxAt.ob {bc : Kd → Addr} {S : Addr} {K : PySem.W.Frag} {H : Hp} {t : At} (h : BoxAt bc S K H t) : ∃ (dx y dy : Addr) (fs : List (Str × V)), H t.x = some (.ins (bc t.own.kd) dx fs) ∧ fs.lookup (Str.ofString "name") = some (.str (sO t.nm)) ∧ fs.lookup (Str.ofString "style") = some (.ref y) ∧ H y = some (.ins S dy (styL t.st)) ∧ fs.lookup (Str.ofString "held_boxes") = none ∧ NameOk t.nm ∧ OkL K H t.st := by
  cases h with
  | words hx hy ok hn ht => exact ⟨_, _, _, _, hx, rfl, rfl, hy, rfl, hn, ok⟩
  | picture hx hy ok hn ha hd => exact ⟨_, _, _, _, hx, rfl, rfl, hy, rfl, hn, ok⟩
  | row hx hy ok hn g0 l0 hb lk hk => exact ⟨_, _, _, _, hx, rfl, rfl, hy, rfl, hn, ok⟩
  | pile hx hy ok hn g0 hb lk hk => exact ⟨_, _, _, _, hx, rfl, rfl, hy, rfl, hn, ok⟩
  | grid hx hy ok hn g0 l0 hb lk hk hc tc oc nc hr tr or nr hs ts lsp lcs lrs => exact ⟨_, _, _, _, hx, rfl, rfl, hy, rfl, hn, ok⟩
theorem BoxAt.tyx {bc : Kd → Addr} {S B : Addr} {K : PySem.W.Frag} {H : Hp} {t : At} (h : BoxAt bc S K H t) (F : KdF K bc B) : TyX K H (.ref t.x) (.ref (bc t.own.kd)) := by
  obtain ⟨dx, y, dy, fs, hx, _⟩ := h.ob
  exact .base (.ins hx (F.cl _) (F.wc _) F.wg F.wt (F.wm _))
theorem BoxAt.kid {bc : Kd → Addr} {S : Addr} {K : PySem.W.Frag} {H : Hp} {t : At} (h : BoxAt bc S K H t) : ∀ k ∈ t.kids, BoxAt bc S K H k := by
  cases h with
  | words hx hy ok hn ht => exact fun k m => by cases m
  | picture hx hy ok hn ha hd => exact fun k m => by cases m
  | row hx hy ok hn g0 l0 hb lk hk => exact hk
  | pile hx hy ok hn g0 hb lk hk => exact hk
  | grid hx hy ok hn g0 l0 hb lk hk hc tc oc nc hr tr or nr hs ts lsp lcs lrs => exact hk
theorem BoxAt.few {bc : Kd → Addr} {S : Addr} {K : PySem.W.Frag} {H : Hp} {t : At} (h : BoxAt bc S K H t) : t.kids.length ≤ 1000 := by
  cases h with
  | words hx hy ok hn ht => exact Nat.zero_le _
  | picture hx hy ok hn ha hd => exact Nat.zero_le _
  | row hx hy ok hn g0 l0 hb lk hk => exact lk
  | pile hx hy ok hn g0 hb lk hk => exact lk
  | grid hx hy ok hn g0 l0 hb lk hk hc tc oc nc hr tr or nr hs ts lsp lcs lrs => exact lk
/-! #### in order, each with its holder's name -/
mutual
def At.pre : At → V → List (Addr × List Nat × V)
  | .mk x nm _ _ ks, h => (x, nm, h) :: preL ks (.str (sO nm))
def preL : List At → V → List (Addr × List Nat × V)
  | [], _ => []
  | k :: ks, h => k.pre h ++ preL ks h
end
mutual
def At.depth : At → Nat
  | .mk _ _ _ _ ks => depthL ks + 1
def depthL : List At → Nat
  | [] => 0
  | k :: ks => max k.depth (depthL ks)
end
theorem preL_app : ∀ (a b : List At) (h : V), preL (a ++ b) h = preL a h ++ preL b h
  | [], b, h => by rw [List.nil_append, preL, List.nil_append]
  | k :: a, b, h => by rw [List.cons_append, preL, preL, preL_app a b h, List.append_assoc]
theorem preL_snoc {ks : List At} {i : Nat} {k : At} (h : ks[i]? = some k) (v : V) : preL (ks.take (i + 1)) v = preL (ks.take i) v ++ k.pre v := by
  rw [List.take_add_one, h, preL_app]
  show preL _ v ++ preL [k] v = _
  rw [preL, preL, List.append_nil]
theorem preL_le (ks : List At) (i : Nat) (v : V) : (preL (ks.take i) v).length ≤ (preL ks v).length := by
  conv => rhs; rw [← List.take_append_drop i ks, preL_app, List.length_append]
  omega
theorem At.pre_eq (t : At) (h : V) : t.pre h = (t.x, t.nm, h) :: preL t.kids (.str (sO t.nm)) := by
  cases t; rw [At.pre]; rfl
theorem At.depth_eq (t : At) : t.depth = depthL t.kids + 1 := by
  cases t; rw [At.depth]; rfl
theorem depth_kid {k : At} : ∀ {ks : List At}, k ∈ ks → k.depth ≤ depthL ks
  | j :: ks, m => by
    rw [depthL]
    rcases List.mem_cons.mp m with rfl | m
    · exact Nat.le_max_left _ _
    · exact Nat.le_trans (depth_kid m) (Nat.le_max_right _ _)
/-! #### a method of one name in each of the classes -/
structure HeldM (P : Program) (w : World) (K : PySem.W.Frag) (mg : Str → Option Value) (base : Heap) (k : Nat) (C : Addr) (m : Str) (sp : Sp) : Prop where
  ex : ∃ (f : Addr) (fd : FuncData) (ps : List Str), Cls K C ∧ Meth K C m f ∧ FnOk P w K mg base CX0 k f fd ps sp ∧ Binds K fd ps []
def tMethK (bc : Kd → Addr) (m : Str) (sp : Kd → Sp) (ta : TE) : TE := fun σ H Q => ta σ H fun x H1 => ∃ a kd dx fs, x = .ref a ∧ H1 a = some (.ins (bc kd) dx fs) ∧ fs.lookup m = none ∧ sp kd [x] H1 Q E0
section
variable {X : Cx} {k : Nat} {bc : Kd → Addr} {sp : Kd → Sp} {m : Str} {pos apos : Pos} {o : Expr} {ta : TE}
theorem pe_methK {pl : Sem Bool} (he : PE X o ta) (A : ∀ kd, HeldM X.prog X.w X.K X.mg X.base k (bc kd) m (sp kd)) (hr : Room k X.A)
    (ht : eval (.Call (.Attribute o m apos) [] [] pos) X.env = (do
      let ov ← eval o X.env
      standAt apos.atName
      let (f, first) ← holding [ov] (getMethod ov m pl)
      callWith pos f first (backTo pos (starEach [] X.env)) (backToKw pos (keywordEach [] X.env))) := by rfl) :
    PE X (.Call (.Attribute o m apos) [] [] pos) (tMethK bc m sp ta) := by
  refine ⟨fun pins s σ H Q I h => ?_⟩
  refine PySem.W.methodCall_KW (pl := pl) (thn (he.run pins s σ H _ I h) fun u s1 ⟨x, H1, I1, rx, a, kd, dx, fs, ex, ea, l, q⟩ => ?_) ht
  subst ex
  obtain rfl : u = Value.ref a := rx
  obtain ⟨f, fd, ps, c, hm, F, hb⟩ := (A kd).ex
  refine getmeth_ok I1 ea c hm l ?_
  exact PySem.W.callWith_K0 (first := [.ref a]) I1.kIn hm.kp (run_fn (us := [.ref a]) (vs := [.ref a]) (dvs := []) F hr hb .nil pass0 I1 (.cons rfl .nil) q)
end
end My
namespace My
open PySem PySem.Spec PyProof.Rows L2
/-- what may be handed in as a style: nothing, or a style's object -/
def StyAt (K : PySem.W.Frag) (H : Hp) (S U : Addr) (v : V) : Prop := v = .non ∨ ∃ (y dy : Addr) (st : List V), v = .ref y ∧ H y = some (.ins S dy (styL st)) ∧ OkL K H st
/-- the values that the box's style has then -/
def StyIs (K : PySem.W.Frag) (H : Hp) (S U : Addr) (v : V) (st : List V) : Prop := (v = .non ∧ st = dfltL U) ∨ ∃ (y dy : Addr), v = .ref y ∧ H y = some (.ins S dy (styL st))
/-- the style's step in an __init__: what checked_style asks -/
theorem sty_step {K : PySem.W.Frag} {H H3 : Hp} {S U : Addr} {sv : V} {R : Addr → Hp → Prop} (hs : StyAt K H S U sv) (t : ∀ H, SqT K H U [.int 0, .int 0, .int 0, .int 0]) (p : KeepS H H3)
    (k : ∀ (y dy : Addr) (st : List V) (H' : Hp), Same H3 H' → StyIs K H S U sv st → H' y = some (.ins S dy (styL st)) → st.length = 10 → (∀ H4, KeepS H H4 → OkL K H4 st) → R y H') :
    (sv = .non ∧ ∀ (y dy : Addr) H', Same H3 H' → H' y = some (.ins S dy (styL (dfltL U))) → R y H') ∨ ∃ (y dy : Addr) (st : List V), sv = .ref y ∧ H3 y = some (.ins S dy (styL st)) ∧ R y H3 := by
  rcases hs with rfl | ⟨y, dy, st, rfl, hy, ok⟩
  · exact .inl ⟨rfl, fun y dy H' s g => k y dy _ H' s (.inl ⟨rfl, rfl⟩) g rfl fun H4 _ => dflt_ok t⟩
  · exact .inr ⟨y, dy, st, rfl, p.sty ok.1 hy, k y dy st H3 (Same.refl _) (.inr ⟨y, dy, rfl, hy⟩) (p.sty ok.1 hy) ok.1 fun H4 q => q.okL ok⟩
theorem sty_ne {H : Hp} {x y S C dx dy : Addr} {st : List V} {fs : List (Str × V)} (gy : H y = some (.ins S dy (styL st))) (ok : st.length = 10) (gx : H x = some (.ins C dx fs)) (n : fs.length ≠ 10) : y ≠ x := by
  rintro rfl
  rw [gx] at gy
  cases gy
  exact n (by unfold styL; rw [List.length_zip, ok]; rfl)
/-- the boxes right in a box -/
def sp_held (bc : Kd → Addr) (S : Addr) (K : PySem.W.Frag) (kd : Kd) : Sp := fun vs H Q _ => ∃ t : At, vs = [.ref t.x] ∧ BoxAt bc S K H t ∧ t.own.kd = kd ∧ ∀ b H', Same H H' → H' b = some (.tup (refs t.kids)) → Q (.ref b) H'
def sp_held2 (bc : Kd → Addr) (S : Addr) (K : PySem.W.Frag) : Sp := fun vs H Q _ => ∃ t : At, vs = [.ref t.x] ∧ BoxAt bc S K H t ∧ (t.own.kd = .words ∨ t.own.kd = .picture) ∧ ∀ b H', Same H H' → H' b = some (.tup (refs t.kids)) → Q (.ref b) H'
theorem BoxAt.leaf {bc : Kd → Addr} {S : Addr} {K : PySem.W.Frag} {H : Hp} {t : At} (h : BoxAt bc S K H t) (k : t.own.kd = .words ∨ t.own.kd = .picture) : t.kids = [] := by
  cases h with
  | words hx hy ok hn ht => rfl
  | picture hx hy ok hn ha hd => rfl
  | row => rcases k with k | k <;> cases k
  | pile => rcases k with k | k <;> cases k
  | grid => rcases k with k | k <;> cases k
end My
namespace My
open PySem PySem.Spec PyProof.Rows L2
theorem kdct_mk {K : PySem.W.Frag} {w : World} {a C : Addr} {x : Str} {es : Array DictEntry} {n : Nat} (l : K.lookup a = some ⟨.type "dict", none, .dict es n, #[]⟩) (k : PySem.W.KeysLit w.params es.toList) (e : PySem.W.nsIn K a x = some (some (.ref C))) : KDct K w a x (.ref C) := ⟨es, n, _, l, k, e, rfl⟩
theorem ix_kdictK {X : Cx} {K : PySem.W.Frag} {w : World} (h : X.K = K) (hw : X.w = w) : IxR X (rIxD K w) := by subst h hw; exact ix_kdict
end My
namespace My
open PySem PySem.Spec PyProof.Rows L2
/-- a def with keyword-only defaults -/
def dfKs_mk {K : PySem.W.Frag} {mg : Str → Option Value} {x : Str} {st : Stmt} {ps : List Str} {kws : List (Str × V)} {h : Heap} (X : K.In h) (G : h.Ns mainGlobals mg) {f D : Addr} {oc : Value} {od an : Option Addr} {osl : Array (Option Value)} {doc pm cdv ct : Value} (n : Nat)
    (a : PySem.W.nsIn K mainGlobals x = some (some (.ref f))) (l : K.lookup f = some ⟨oc, od, .func (PySem.W.fnOf x x (defArgs st) (defBody st) (defScope st) .none (.ref D) doc pm an cdv ct), osl⟩)
    (c : PySem.W.codeIn K cdv x = true) (k : PySem.W.keepIn K (.ref f) = true) (kw : KwIn K D kws) (hk : kws ≠ []) (hn : n + kws.length = ps.length)
    (hb : ∀ (D : Addr) (doc pm : Value) (an : Option Addr) (cdv ct : Value) (us ks : List Value), us.length = n → ks.length = kws.length →
      KwChain D ((kws.map (·.1)).zip ks) (bindArgs (PySem.W.fnOf x x (defArgs st) (defBody st) (defScope st) .none (.ref D) doc pm an cdv ct) ⟨us, []⟩) (ps.zip (us ++ ks))) : DfK K mg x st ps kws :=
  have F : FunD K x x (defArgs st) (defBody st) (defScope st) [] kws f (PySem.W.fnOf x x (defArgs st) (defBody st) (defScope st) .none (.ref D) doc pm an cdv ct) := ⟨⟨oc, od, .none, .ref D, doc, pm, an, cdv, ct, osl, rfl, l, c, .inl ⟨rfl, rfl⟩, .inr ⟨D, rfl, kw.all⟩⟩, k⟩
  ⟨f, _, F, F.binds0 n hk hn hb, PySem.W.mg_of X G a⟩
end My
namespace My
open PySem PySem.Spec PyProof.Rows L2
/-- an __init__ without defaults -/
structure Ini0 (K : PySem.W.Frag) (q : Str) (st : Stmt) (C : Addr) (ps : List Str) where
  f : Addr
  fd : FuncData
  F : Fun K "__init__" q st f fd
  b : Binds K fd ps []
  mks : Mk K C f
def ini0_mk {K : PySem.W.Frag} {q : Str} {st : Stmt} {C : Addr} {ps : List Str} {f : Addr} {oc : Value} {od an : Option Addr} {osl : Array (Option Value)} {kV doc pm cdv ct : Value}
    (i : PySem.W.findIn K (.ref C) "__init__" = some (some (.ref f))) (m : PySem.W.makesIn K C = true) (fn : PySem.W.isFn K (.ref f) = true) (kc : PySem.W.keepIn K (.ref C) = true)
    (l : K.lookup f = some ⟨oc, od, .func (PySem.W.fnOf "__init__" q (defArgs st) (defBody st) (defScope st) .none kV doc pm an cdv ct), osl⟩) (c : PySem.W.codeIn K cdv q = true) (k : PySem.W.keepIn K (.ref f) = true)
    (hb : ∀ (kV doc pm : Value) (an : Option Addr) (cdv ct : Value) (us : List Value), us.length = ps.length → bindArgs (PySem.W.fnOf "__init__" q (defArgs st) (defBody st) (defScope st) .none kV doc pm an cdv ct) ⟨us, []⟩ = pure (ps.zip us)) : Ini0 K q st C ps :=
  ⟨f, _, fun_mk l c k, (fun_mk l c k).binds hb, ⟨m, i, fn, kc⟩⟩
end My

/-! ### functions handed on: their cells lie still meanwhile -/
namespace My
open PySem PySem.Spec PyProof.Rows L2 LamX NdefX
/-- a cell that lies still -/
abbrev fz (o : Obj) : HO := .frz o (.ext fun _ => True)
def dropC (cs : List Addr) (H : Hp) : Hp := fun a => if a ∈ cs then none else H a
def addC (cs : List Addr) (h : Heap) (H : Hp) : Hp := fun a => if a ∈ cs then (h.get? a).map fz else H a
def reC (cs : List Addr) (H H' : Hp) : Hp := fun a => if a ∈ cs then H a else H' a
theorem dropC_in {cs : List Addr} {H : Hp} {a : Addr} (h : a ∈ cs) : dropC cs H a = none := if_pos h
theorem dropC_out {cs : List Addr} {H : Hp} {a : Addr} (h : a ∉ cs) : dropC cs H a = H a := if_neg h
theorem addC_out {cs : List Addr} {h : Heap} {H : Hp} {a : Addr} (n : a ∉ cs) : addC cs h H a = H a := if_neg n
theorem addC_in {cs : List Addr} {h : Heap} {H : Hp} {a : Addr} {o : Obj} (n : a ∈ cs) (e : h.get? a = some o) : addC cs h H a = some (fz o) := by
  unfold addC; rw [if_pos n, e]; rfl
theorem reC_in {cs : List Addr} {H H' : Hp} {a : Addr} (h : a ∈ cs) : reC cs H H' a = H a := if_pos h
theorem reC_out {cs : List Addr} {H H' : Hp} {a : Addr} (h : a ∉ cs) : reC cs H H' a = H' a := if_neg h
theorem fz_still {o : Obj} (h : Still (fz o)) : False := h
theorem ks_drop {cs : List Addr} {H : Hp} (h : ∀ c ∈ cs, ∃ o, H c = some (fz o)) : KeepS H (dropC cs H) := fun a o e st => by
  by_cases m : a ∈ cs
  · obtain ⟨u, q⟩ := h a m
    rw [q] at e; cases e; exact (fz_still st).elim
  · rw [dropC_out m]; exact e
theorem ks_ext {H H' : Hp} (e : ExtN H H') : KeepS H H' := fun a o h st => e a o h fun ps z => by subst z; exact st
theorem same_re {cs : List Addr} {H H' : Hp} (n : ∀ c ∈ cs, H' c = none) : Same H' (reC cs H H') := fun a o e => by
  rw [reC_out fun m => by rw [n a m] at e; cases e]; exact e
theorem re_same {cs : List Addr} {H H' : Hp} (s : Same (dropC cs H) H') : Same H (reC cs H H') := fun a o e => by
  by_cases m : a ∈ cs
  · rw [reC_in m]; exact e
  · rw [reC_out m]; exact s a o (by rw [dropC_out m]; exact e)
section
variable {P : Program} {w : World} {K : PySem.W.Frag} {mg : Str → Option Value} {base : Heap} {cs : List Addr} {H H' : Hp} {h : Heap}
theorem hok_add (ok : HOk P w H h) (n : ∀ c ∈ cs, H c = none) (e : ∀ c ∈ cs, ∃ o, h.get? c = some o) : HOk P w (addC cs h H) h := fun a u q => by
  by_cases m : a ∈ cs
  · obtain ⟨o, eo⟩ := e a m
    rw [addC_in m eo] at q
    cases q
    exact ⟨eo, trivial, ⟨o, eo⟩, fun _ _ _ _ => trivial⟩
  · rw [addC_out m] at q
    refine (ok a u q).stay (fun b v _ z => z) (fun b z => ?_) fun b xs z => ?_
    · rw [addC_out fun mb => by rw [n b mb] at z; cases z]; exact z
    · rw [addC_out fun mb => by rw [n b mb] at z; cases z]; exact z
theorem hok_drop (ok : HOk P w H h) (f : ∀ c ∈ cs, ∃ o, H c = some (fz o)) : HOk P w (dropC cs H) h := fun a u q => by
  by_cases m : a ∈ cs
  · rw [dropC_in m] at q; cases q
  · rw [dropC_out m] at q
    refine (ok a u q).stay (fun b v _ z => z) (fun b z => ?_) fun b xs z => ?_
    · rw [dropC_out fun mb => by obtain ⟨o, e⟩ := f b mb; rw [e] at z; cases z]; exact z
    · rw [dropC_out fun mb => by obtain ⟨o, e⟩ := f b mb; rw [e] at z; cases z]; exact z
/-- behind a call in which the cells lay still -/
theorem ce_drop {outer : List Env} {s s' : Shared} {Q : VK} {u : Value} (n : ∀ c ∈ cs, H c = none) (e : ∀ c ∈ cs, ∃ o, s.heap.get? c = some o)
    (q : CE outer P w (addC cs s.heap H) s (fun v H' => (∀ c ∈ cs, H' c = addC cs s.heap H c) → Q v (dropC cs H')) u s') : CE outer P w H s Q u s' := by
  obtain ⟨v, H', os, bare, un, ok, r, k⟩ := q
  have fr : ∀ c ∈ cs, ∃ o, s.heap.get? c = some o ∧ H' c = some (fz o) := fun c m => by
    obtain ⟨o, eo⟩ := e c m
    exact ⟨o, eo, un.frzs c o _ (addC_in m eo)⟩
  have out : ∀ {b : Addr} {x : HO}, H b = some x → b ∉ cs := fun {b x} z m => by rw [n b m] at z; cases z
  refine ⟨v, dropC cs H', os, bare, ⟨fun b o eb nb hb hx => ?_, fun b o eb nb hb hx => ?_, fun b o eb nb hx => ?_, fun b o eb hx => un.there b o eb hx, fun b xs z => ?_, fun b o x z => ?_, fun b ps z => ?_⟩, hok_drop ok fun c m => let ⟨o, _, z⟩ := fr c m; ⟨o, z⟩, r, k fun c m => by
    obtain ⟨o, eo, z⟩ := fr c m
    rw [z, addC_in m eo]⟩
  · by_cases m : b ∈ cs
    · obtain ⟨o2, e2, z⟩ := fr b m
      rw [eb] at e2; cases e2
      exact (ok b _ z).1
    · exact un.keep b o eb (by rw [addC_out m]; exact nb) hb hx
  · by_cases m : b ∈ cs
    · obtain ⟨o2, e2, z⟩ := fr b m
      rw [eb] at e2; cases e2
      exact ⟨o.slots, (ok b _ z).1⟩
    · exact un.slot b o eb (by rw [addC_out m]; exact nb) hb hx
  · by_cases m : b ∈ cs
    · exact dropC_in m
    · rw [dropC_out m]; exact un.free b o eb (by rw [addC_out m]; exact nb) hx
  · rw [dropC_out (out z)]; exact un.tups b xs (by rw [addC_out (out z)]; exact z)
  · rw [dropC_out (out z)]; exact un.frzs b o x (by rw [addC_out (out z)]; exact z)
  · obtain ⟨more, q⟩ := un.tbls b ps (by rw [addC_out (out z)]; exact z)
    exact ⟨more, by rw [dropC_out (out z)]; exact q⟩
/-- behind a call that could reach the cells -/
theorem ce_re {outer : List Env} {s s' : Shared} {Q : VK} {u : Value} (ok0 : HOk P w H s.heap) (f : ∀ c ∈ cs, ∃ o, H c = some (fz o)) (nf : ∀ c ∈ cs, c ∉ frs outer)
    (q : CE outer P w (dropC cs H) s (fun v H' => (∀ c ∈ cs, H' c = none) → Q v (reC cs H H')) u s') : CE outer P w H s Q u s' := by
  obtain ⟨v, H', os, bare, un, ok, r, k⟩ := q
  have there : ∀ c ∈ cs, ∃ o, s.heap.get? c = some o ∧ H c = some (fz o) := fun c m => by
    obtain ⟨o, z⟩ := f c m
    exact ⟨o, (ok0 c _ z).1, z⟩
  have none' : ∀ c ∈ cs, H' c = none := fun c m => by
    obtain ⟨o, eo, _⟩ := there c m
    exact un.free c o eo (dropC_in m) (by simp)
  have kept : ∀ c ∈ cs, ∀ o, s.heap.get? c = some o → s'.heap.get? c = some o := fun c m o eo => un.keep c o eo (dropC_in m) (nf c m) (by simp)
  have outN : ∀ {b : Addr}, H b = none → b ∉ cs := fun {b} z m => by obtain ⟨o, e⟩ := f b m; rw [e] at z; cases z
  refine ⟨v, reC cs H H', os, bare, ⟨fun b o eb nb hb hx => ?_, fun b o eb nb hb hx => ?_, fun b o eb nb hx => ?_, fun b o eb hx => un.there b o eb hx, fun b xs z => ?_, fun b o x z => ?_, fun b ps z => ?_⟩, fun a x z => ?_, r, k none'⟩
  · exact un.keep b o eb (by rw [dropC_out (outN nb)]; exact nb) hb hx
  · exact un.slot b o eb (by rw [dropC_out (outN nb)]; exact nb) hb hx
  · rw [reC_out (outN nb)]; exact un.free b o eb (by rw [dropC_out (outN nb)]; exact nb) hx
  · have m : b ∉ cs := fun m => by obtain ⟨o, e⟩ := f b m; rw [e] at z; cases z
    rw [reC_out m]; exact un.tups b xs (by rw [dropC_out m]; exact z)
  · by_cases m : b ∈ cs
    · rw [reC_in m]; exact z
    · rw [reC_out m]; exact un.frzs b o x (by rw [dropC_out m]; exact z)
  · have m : b ∉ cs := fun m => by obtain ⟨o, e⟩ := f b m; rw [e] at z; cases z
    obtain ⟨more, q⟩ := un.tbls b ps (by rw [dropC_out m]; exact z)
    exact ⟨more, by rw [reC_out m]; exact q⟩
  · by_cases m : a ∈ cs
    · rw [reC_in m] at z
      obtain ⟨o, eo, zo⟩ := there a m
      rw [zo] at z; cases z
      have e' := kept a m o eo
      exact ⟨e', trivial, ⟨o, e'⟩, fun _ _ _ _ => trivial⟩
    · rw [reC_out m] at z
      have nC : ∀ {d : Addr} {y : HO}, H' d = some y → d ∉ cs := fun {d y} q md => by rw [none' d md] at q; cases q
      refine (ok a x z).stay (fun b y _ q => q) (fun b q => ?_) fun b xs q => ?_
      · rw [reC_out (nC q)]; exact q
      · rw [reC_out (nC q)]; exact q
end
/-- what the captured cells hold, lying still -/
structure CelZ (cl : List (Str × Addr)) (fr : List Str) (ws : List (Option V)) (H : Hp) : Prop where
  len : ws.length = fr.length
  fz : ∀ p ∈ cl, ∃ o u, H p.2 = some (My.fz o) ∧ o.data = .cell u
  inj : ∀ x y c, cl.lookup x = some c → cl.lookup y = some c → x = y
  has : ∀ (i : Nat) (y : Str), fr[i]? = some y → ∃ c, cl.lookup y = some c ∧ ∀ v, ws[i]? = some (some v) → ∃ o u, H c = some (My.fz o) ∧ o.data = .cell (some u) ∧ RelV v u
theorem CelZ.keep {cl : List (Str × Addr)} {fr : List Str} {ws : List (Option V)} {H H' : Hp} (h : CelZ cl fr ws H) (e : Same H H') : CelZ cl fr ws H' :=
  ⟨h.len, fun p m => let ⟨o, u, a, b⟩ := h.fz p m; ⟨o, u, e _ _ a, b⟩, h.inj, fun i y q => let ⟨c, a, b⟩ := h.has i y q; ⟨c, a, fun v z => let ⟨o, u, p, r⟩ := b v z; ⟨o, u, e _ _ p, r⟩⟩⟩
theorem CelZ.drops {cl : List (Str × Addr)} {fr : List Str} {ws : List (Option V)} {H : Hp} (h : CelZ cl fr ws H) : ∀ c ∈ cl.map (·.2), ∃ o, H c = some (My.fz o) := fun c m => by
  obtain ⟨p, mp, rfl⟩ := List.mem_map.mp m
  obtain ⟨o, u, e, _⟩ := h.fz p mp
  exact ⟨o, e⟩
/-- the cells of a frame, laid still for a call -/
structure FzAt (cl : List (Str × Addr)) (fr : List Str) (ws : List (Option V)) (H H2 : Hp) : Prop extends CelZ cl fr ws H2 where
  none : ∀ p ∈ cl, H p.2 = Option.none
  out : ∀ a, a ∉ cl.map (·.2) → H2 a = H a
theorem FzAt.same {cl : List (Str × Addr)} {fr : List Str} {ws : List (Option V)} {H H2 : Hp} (h : FzAt cl fr ws H H2) : Same H H2 := fun a o e => by
  rw [h.out a fun m => by obtain ⟨p, mp, rfl⟩ := List.mem_map.mp m; rw [h.none p mp] at e; cases e]; exact e
theorem FzAt.back {cl : List (Str × Addr)} {fr : List Str} {ws : List (Option V)} {H H2 H' : Hp} (h : FzAt cl fr ws H H2) (s : Same H2 H') : Same H (dropC (cl.map (·.2)) H') := fun a o e => by
  rw [dropC_out fun m => by obtain ⟨p, mp, rfl⟩ := List.mem_map.mp m; rw [h.none p mp] at e; cases e]
  exact s a o (h.same a o e)
theorem FzAt.ks {cl : List (Str × Addr)} {fr : List Str} {ws : List (Option V)} {H H2 H' : Hp} (h : FzAt cl fr ws H H2) (z : ∀ c ∈ cl.map (·.2), H' c = H2 c) : KeepS H' (dropC (cl.map (·.2)) H') :=
  ks_drop fun c m => by
    obtain ⟨o, e⟩ := h.toCelZ.drops c m
    exact ⟨o, by rw [z c m]; exact e⟩
/-! #### a call during which the frame's captured cells lie still -/
def tCallZ (cl : List (Str × Addr)) (fr : List Str) (js : List Nat) (sp : Sp) (dvs : List V) (t : TA) : TE := fun σ H Q => t σ H fun vs H1 => ∀ H2, FzAt cl fr (js.map (slotAt σ)) H1 H2 → sp (vs ++ dvs) H2 (fun v H' => (∀ c ∈ cl.map (·.2), H' c = H2 c) → Q v (dropC (cl.map (·.2)) H')) E0
section
variable {X : Cx} {pins : List (Addr × Obj)} {σ : L2.St} {H : Hp} {s : Shared} {cl : List (Str × Addr)} {fr : List Str} {js : List Nat} {k : Nat} {f : Addr} {fd : FuncData} {ps : List Str} {sp : Sp} {dvs : List V} {ds : List Value} {t : TA} {x : Str} {p pos : Pos} {e : Expr} {es : List Expr}
theorem env0_add {cs : List Addr} (I : Inv X pins σ H s) (nw : ∀ c ∈ cs, X.s_0.heap.objs.size ≤ c ∧ c ≠ X.env.locals ∧ H c = none ∧ ∃ o, s.heap.get? c = some o) : Env0 X.prog X.w X.K X.mg X.base X.A X.stack s (addC cs s.heap H) := by
  have q := I.env0
  refine ⟨q.frames, q.mod, fun b o eb => ⟨(q.bs b o eb).1, ?_⟩, q.bsz, q.funs, fun b hb => ?_, hok_add I.hok (fun c m => (nw c m).2.2.1) fun c m => (nw c m).2.2.2, q.bare⟩
  · rw [addC_out fun m => ?_]
    · exact (q.bs b o eb).2
    · exact absurd (Nat.lt_of_lt_of_le (Heap.lt_size eb) (Nat.le_trans I.ok.bsz (nw b m).1)) (Nat.lt_irrefl _)
  · rw [addC_out fun m => ?_]
    · exact q.frf b hb
    · rcases List.mem_cons.mp (I.stkSub b hb) with z | z
      · exact (nw b m).2.1 z
      · obtain ⟨_, o, ho, _⟩ := I.ok.funs.mem z
        exact absurd (Nat.lt_of_lt_of_le (Heap.lt_size ho) (nw b m).1) (Nat.lt_irrefl _)
theorem run_fnZ {Q : VK} {us : List Value} {vs : List V} (F : FnOk X.prog X.w X.K X.mg X.base CX0 k f fd ps sp) (hr : Room k X.A) (hb : Binds X.K fd ps ds) (hd : Vals dvs ds) (cp : Caps X cl fr js) (hin : ∀ q ∈ cl, X.env.cells.lookup q.1 = some q.2 ∧ X.fn q.1 = true) (I : Inv X pins σ H s) (r : Vals vs us)
    (h : ∀ H2, FzAt cl fr (js.map (slotAt σ)) H H2 → sp (vs ++ dvs) H2 (fun v H' => (∀ c ∈ cl.map (·.2), H' c = H2 c) → Q v (dropC (cl.map (·.2)) H')) E0) : wpAny (model X.prog X.w) X.A (call (.ref f) us) (EP X pins σ Q) X.xe s := by
  have C := cells_of I cp
  have nw : ∀ c ∈ cl.map (·.2), X.s_0.heap.objs.size ≤ c ∧ c ≠ X.env.locals ∧ H c = none ∧ ∃ o, s.heap.get? c = some o := fun c m => by
    obtain ⟨q, mq, rfl⟩ := List.mem_map.mp m
    obtain ⟨e1, e2⟩ := hin q mq
    obtain ⟨v, o, ho, _⟩ := I.cell _ _ e1
    exact ⟨I.ok.cab _ _ e2 e1, I.cne _ _ e1, I.freeC _ _ e1, o, ho⟩
  have hz : FzAt cl fr (js.map (slotAt σ)) H (addC (cl.map (·.2)) s.heap H) := by
    refine ⟨⟨C.len, fun q mq => ?_, C.inj, fun i y ey => ?_⟩, fun q mq => (nw _ (List.mem_map.mpr ⟨q, mq, rfl⟩)).2.2.1, fun a ha => addC_out ha⟩
    · obtain ⟨v, o, ho, hd⟩ := I.cell _ _ (hin q mq).1
      exact ⟨o, v, addC_in (List.mem_map.mpr ⟨q, mq, rfl⟩) ho, hd⟩
    · obtain ⟨c, hc, hv⟩ := C.has i y ey
      refine ⟨c, hc, fun v ev => ?_⟩
      obtain ⟨u, ru, o, ho, hd⟩ := hv v ev
      exact ⟨o, u, addC_in (List.mem_map.mpr ⟨(y, c), PySem.mem_of_lookup hc, rfl⟩) ho, hd, ru⟩
  have r2 : Vals (vs ++ dvs) (us ++ ds) := r.append hd
  have q := h _ hz
  have hl : (us ++ ds).length = ps.length := by rw [← r2.length]; exact F.len _ _ _ _ q
  refine wpAny_call (codeAny_mono (F.run X.A X.stack s _ ⟨us, []⟩ (us ++ ds) (vs ++ dvs) _ E0 hr (env0_add I nw) (hb s us I.kIn hl) r2 q) fun r s' hq => ?_)
  cases r with
  | error e => exact (show False from hq).elim
  | ok fl =>
    cases fl with
    | ret u => exact I.after (ce_drop (fun c m => (nw c m).2.2.1) (fun c m => (nw c m).2.2.2) hq)
    | next => exact False.elim hq
    | brk => exact False.elim hq
    | cont => exact False.elim hq
theorem pe_callZ (F : FnOk X.prog X.w X.K X.mg X.base CX0 k f fd ps sp) (hr : Room k X.A) (hg : Gl X x) (hm : X.mg x = some (.ref f)) (hk : PySem.W.keepIn X.K (.ref f) = true) (hb : Binds X.K fd ps ds) (hd : Vals dvs ds) (cp : X.Ok → Caps X cl fr js) (hin : X.Ok → ∀ q ∈ cl, X.env.cells.lookup q.1 = some q.2 ∧ X.fn q.1 = true)
    (ha : PA X (e :: es) t) (z1 : (x == ("__debug__" : Str)) = false := by decide) (z2 : starEach (e :: es) X.env = (false, eval e X.env) :: starEach es X.env := by rfl) (z3 : (backTo pos (starEach es X.env)).any (·.1) = false := by rfl) :
    PE X (.Call (.Name x p) (e :: es) [] pos) (tCallZ cl fr js sp dvs t) := by
  refine ⟨fun pins s σ H Q I h => ?_⟩
  refine wpAny_Call_Name_kw (ld_glob I hg hm ?_ z1)
  refine PySem.W.callWith_K (h₀ := X.base) I.ok.mod.kin hk (thn (ha.run pos pins s σ H _ I h) fun us s1 ⟨vs, H1, I1, r, q⟩ => ⟨I1.kIn, ?_⟩) z2 z3
  exact run_fnZ F hr hb hd (cp I1.ok) (hin I1.ok) I1 r q
end
/-! #### a function that was handed on, by what its call does -/
/-- a function stands at f -/
def IsFn (H : Hp) (f : Addr) : Prop := ∃ φ : Heap → Prop, H f = some (.ext φ) ∧ ∀ h, φ h → PySem.W.FnAt f h
theorem IsFn.same {H H' : Hp} {f : Addr} (h : IsFn H f) (s : Same H H') : IsFn H' f := let ⟨φ, e, q⟩ := h; ⟨φ, s _ _ e, q⟩
theorem IsFn.at {P : Program} {w : World} {H : Hp} {h : Heap} {f : Addr} (x : IsFn H f) (ok : HOk P w H h) : PySem.W.FnAt f h := by
  obtain ⟨φ, e, q⟩ := x
  obtain ⟨a, _, _⟩ := ok f _ e
  exact q h a
structure ClosOk (P : Program) (w : World) (K : PySem.W.Frag) (mg : Str → Option Value) (base : Heap) (k : Nat) (H0 : Hp) (f : Addr) (m : Nat) (sp : Sp) : Prop where
  fn : IsFn H0 f
  run : ∀ H, Same H0 H → ∀ (A : Around) (outer : List Env) (s : Shared) (us : List Value) (vs : List V) (Q : VK), Room k A → Env0 P w K mg base A outer s H → Vals vs us → vs.length = m → sp vs H Q E0 → codeAny (model P w) A (.call (.ref f) ⟨us, []⟩) (CR CX0 outer P w H s Q E0) s
theorem ClosOk.same {P : Program} {w : World} {K : PySem.W.Frag} {mg : Str → Option Value} {base : Heap} {k : Nat} {H0 H1 : Hp} {f : Addr} {m : Nat} {sp : Sp} (h : ClosOk P w K mg base k H0 f m sp) (s : Same H0 H1) : ClosOk P w K mg base k H1 f m sp :=
  ⟨h.fn.same s, fun H t => h.run H (s.trans t)⟩
def tCallC (P : Program) (w : World) (K : PySem.W.Frag) (mg : Str → Option Value) (base : Heap) (k i : Nat) (t : TA) : TE := fun σ H Q => ∃ f, σ[i]? = some (some (.ref f)) ∧ IsFn H f ∧ t σ H fun vs H1 => ∃ sp, ClosOk P w K mg base k H1 f vs.length sp ∧ sp vs H1 Q E0
section
variable {X : Cx} {k i : Nat} {x : Str} {p pos : Pos} {e : Expr} {es : List Expr} {t : TA}
theorem pe_callC (hr : Room k X.A) (hN : X.N[i]? = some x) (hv : Vis X.env.scope x) (ha : PA X (e :: es) t) (z1 : (x == ("__debug__" : Str)) = false := by decide) (z0 : (x == ("__classdict__" : Str)) = false := by decide)
    (z2 : starEach (e :: es) X.env = (false, eval e X.env) :: starEach es X.env := by rfl) (z3 : (backTo pos (starEach es X.env)).any (·.1) = false := by rfl) : PE X (.Call (.Name x p) (e :: es) [] pos) (tCallC X.prog X.w X.K X.mg X.base k i t) := by
  refine ⟨fun pins s σ H Q I h => ?_⟩
  obtain ⟨f, hs, hf, ht⟩ := h
  refine wpAny_Call_Name_kw (thn ((pe_var (pos := p) hN hv z1 z0).run pins s σ H (fun v H1 => v = .ref f ∧ H1 = H) I ⟨.ref f, hs, rfl, rfl⟩) fun u s1 ⟨v, H1, I1, r1, q1⟩ => ?_)
  obtain ⟨ev, eH⟩ := q1
  subst ev
  rw [eH] at I1
  obtain rfl : u = Value.ref f := r1
  refine PySem.W.callWith_F (first := []) (hf.at I1.hok) (thn (ha.run pos pins s1 σ H _ I1 ht) fun us s2 ⟨vs, H2, I2, r, sp, hc, q⟩ => ⟨hc.fn.at I2.hok, ?_⟩) z2 z3
  refine wpAny_call (codeAny_mono (hc.run H2 (Same.refl _) X.A X.stack s2 us vs Q hr I2.env0 r rfl q) fun r s' hq => ?_)
  cases r with
  | error e => exact (show False from hq).elim
  | ok fl =>
    cases fl with
    | ret u => exact I2.after hq
    | next => exact False.elim hq
    | brk => exact False.elim hq
    | cont => exact False.elim hq
end
/-! #### what a call of a function does: a def's, a lambda's -/
/-- the object ob at f, its code object at c; the promise: sp ws, ws what its cells hold -/
structure CRun (P : Program) (w : World) (K : PySem.W.Frag) (mg : Str → Option Value) (base : Heap) (k : Nat) (f : Addr) (ob : HO) (c : Addr) (q : Str) (cl : List (Str × Addr)) (ps fr : List Str) (sp : List (Option V) → Sp) : Prop where
  run : ∀ (A : Around) (outer : List Env) (s : Shared) (H : Hp) (us : List Value) (vs : List V) (ws : List (Option V)) (Q : VK), Room k A → Env0 P w K mg base A outer s H → H f = some ob → H c = some (CodeO c q) → CellsAt cl fr ws s.heap H → Vals vs us → vs.length = ps.length → sp ws vs H Q E0 →
    codeAny (model P w) A (.call (.ref f) ⟨us, []⟩) (CR CX0 outer P w H s Q E0) s
theorem env0_drop {P : Program} {w : World} {K : PySem.W.Frag} {mg : Str → Option Value} {base : Heap} {A : Around} {outer : List Env} {s : Shared} {H : Hp} {cs : List Addr} (e : Env0 P w K mg base A outer s H) (f : ∀ c ∈ cs, ∃ o, H c = some (fz o)) : Env0 P w K mg base A outer s (dropC cs H) := by
  have nn : ∀ {a : Addr}, H a = none → dropC cs H a = none := fun {a} n => by
    by_cases m : a ∈ cs
    · exact dropC_in m
    · rw [dropC_out m]; exact n
  exact ⟨e.frames, e.mod, fun b o q => ⟨(e.bs b o q).1, nn (e.bs b o q).2⟩, e.bsz, e.funs, fun b hb => nn (e.frf b hb), hok_drop e.hok f, e.bare⟩
/-- the function is one that may be handed on -/
theorem CRun.clos {P : Program} {w : World} {K : PySem.W.Frag} {mg : Str → Option Value} {base : Heap} {k : Nat} {f c : Addr} {φ : Heap → Prop} {q : Str} {cl : List (Str × Addr)} {ps fr : List Str} {sp : List (Option V) → Sp} (R : CRun P w K mg base k f (.ext φ) c q cl ps fr sp) (hφ : ∀ h, φ h → PySem.W.FnAt f h)
    {H0 : Hp} {ws : List (Option V)} (hf : H0 f = some (.ext φ)) (hc : H0 c = some (CodeO c q)) (hz : CelZ cl fr ws H0) : ClosOk P w K mg base k H0 f ps.length (fun vs H Q _ => sp ws vs (dropC (cl.map (·.2)) H) (fun v H' => (∀ c ∈ cl.map (·.2), H' c = none) → Q v (reC (cl.map (·.2)) H H')) E0) := by
  refine ⟨⟨φ, hf, hφ⟩, fun H s0 A outer s us vs Q hr e0 r hl h => ?_⟩
  have z := hz.keep s0
  have dz := z.drops
  have nfz : ∀ {a : Addr} {x : HO}, H a = some x → (∀ o, x ≠ fz o) → a ∉ cl.map (·.2) := fun {a x} e n m => by
    obtain ⟨o, q⟩ := dz a m
    rw [q] at e; cases e; exact n o rfl
  have nfr : ∀ c ∈ cl.map (·.2), c ∉ frs outer := fun c m n => by
    obtain ⟨o, q⟩ := dz c m
    rw [e0.frf c n] at q; cases q
  have C : CellsAt cl fr ws s.heap (dropC (cl.map (·.2)) H) := by
    refine ⟨z.len, fun y a e => ?_, z.inj, fun i y e => ?_⟩
    · have m : a ∈ cl.map (·.2) := List.mem_map.mpr ⟨(y, a), PySem.mem_of_lookup e, rfl⟩
      obtain ⟨o, u, q, hd⟩ := z.fz (y, a) (PySem.mem_of_lookup e)
      exact ⟨dropC_in m, u, o, (e0.hok a _ q).1, hd⟩
    · obtain ⟨a, ha, hv⟩ := z.has i y e
      refine ⟨a, ha, fun v ev => ?_⟩
      obtain ⟨o, u, q, hd, ru⟩ := hv v ev
      exact ⟨u, ru, o, (e0.hok a _ q).1, hd⟩
  refine codeAny_mono (R.run A outer s _ us vs ws _ hr (env0_drop e0 dz) ?_ ?_ C r hl h) fun r s' hq => ?_
  · rw [dropC_out (nfz (s0 _ _ hf) fun o e => by cases e)]; exact s0 _ _ hf
  · rw [dropC_out (nfz (s0 _ _ hc) fun o e => by unfold CodeO at e; cases e)]; exact s0 _ _ hc
  · cases r with
    | error e => exact (show False from hq).elim
    | ok fl =>
      cases fl with
      | ret u => exact ce_re e0.hok dz nfr hq
      | next => exact hq
      | brk => exact hq
      | cont => exact hq
theorem CRun.of {P : Program} {w : World} {K : PySem.W.Frag} {mg : Str → Option Value} {base : Heap} {k : Nat} {f : Addr} {F : NF} {ps fr : List Str} {sp : List (Option V) → Sp} (N : NOk P w K mg base CX0 k f F ps fr sp) : CRun P w K mg base k f (FnO f F) F.c F.qual F.cl ps fr sp :=
  ⟨fun A outer s H us vs ws Q hr e0 hf hc C r hl h => N.run A outer s H us vs ws Q E0 hr e0 hf hc C r h⟩
/-! #### a lambda -/
def LmO (f : Addr) (F : NF) (e : Expr) : HO := .ext fun h => ∃ (od : Option Addr) (sl : Array (Option Value)) (pm ctv : Value), h.get? f = some (⟨.type "function", od, .func (PySem.W.kla_fn F.name F.qual F.params e F.scope F.cl pm (.ref F.c) ctv), sl⟩ : Obj)
theorem fnAt_fnO {f : Addr} {F : NF} : ∀ h : Heap, (∃ (od : Option Addr) (sl : Array (Option Value)) (doc pm ctv : Value), h.get? f = some (⟨.type "function", od, .func (F.fd doc pm ctv), sl⟩ : Obj)) → PySem.W.FnAt f h := fun h ⟨od, sl, doc, pm, ctv, e⟩ => ⟨_, od, _, sl, e⟩
theorem fnAt_lmO {f : Addr} {F : NF} {e : Expr} : ∀ h : Heap, (∃ (od : Option Addr) (sl : Array (Option Value)) (pm ctv : Value), h.get? f = some (⟨.type "function", od, .func (PySem.W.kla_fn F.name F.qual F.params e F.scope F.cl pm (.ref F.c) ctv), sl⟩ : Obj)) → PySem.W.FnAt f h := fun h ⟨od, sl, pm, ctv, e⟩ => ⟨_, od, _, sl, e⟩
section
variable {P : Program} {w : World} {K : PySem.W.Frag} {mg : Str → Option Value} {base : Heap} {N ps fr : List Str} {F : NF} {e : Expr} {f : Addr} {k : Nat} {sp : List (Option V) → Sp}
/-- a lambda by its body -/
theorem CRun.lam (S : NScope N ps fr F.scope) (hb : ∀ (pm ctv : Value) (us : List Value), us.length = ps.length → bindArgs (PySem.W.kla_fn F.name F.qual F.params e F.scope F.cl pm (.ref F.c) ctv) ⟨us, []⟩ = pure (ps.zip us))
    (body : ∀ (A : Around) (outer : List Env) (s : Shared) (H : Hp) (vs : List V) (ws : List (Option V)) (Q : VK), Room k (A.deeper (envF F f s.heap.objs.size)) → ws.length = fr.length → vs.length = ps.length → sp ws vs H Q E0 → ∃ t, PE (ncx CX0 P w K mg base N F f A outer s H E0) e t ∧ t (startF N vs ws) H Q) :
    CRun P w K mg base (k + 1) f (LmO f F e) F.c F.qual F.cl ps fr sp := by
  refine ⟨fun A outer s H us vs ws Q hr e0 hf hc C r hl h => ?_⟩
  have lim : s.heap.NoLimit := e0.mod.nolimit.keeps fun b o e => (e0.bs b o e).1
  obtain ⟨⟨od, sl, pm, ctv, ho⟩, _, _⟩ := e0.hok f _ hf
  refine PySem.W.kla_callFunE hr.depth ho rfl S.co S.gen rfl (codeO_at e0.hok hc) ?_
  rw [hb pm ctv us (by rw [← r.length]; exact hl)]
  refine wpAny_pure (wpAny_newFunctionEnv S.nocell (fun ⟨n, _⟩ hy => S.par n (List.of_mem_zip hy).1) (fun h1 hns hsb => ⟨lim.fresh _ hsb, ?_⟩) S.kind)
  show codeAny _ _ (.expr e (envF F f s.heap.objs.size)) _ _
  have kp : ∀ b o, s.heap.get? b = some o → h1.get? b = some o := fun b o q => hsb.extBut b o (Nat.ne_of_lt (Heap.lt_size q)) (Heap.get?_push_of_some _ q)
  obtain ⟨t, ht, hq⟩ := body A outer s H vs ws Q (hr.deeper _) C.len hl h
  have I : Inv (ncx CX0 P w K mg base N F f A outer s H E0) [] (startF N vs ws) H { s with heap := h1, toks := s.toks + (ps.zip us).length } := inv_startN S hr.hd e0 hl r C hns kp
  refine PySem.W.kla_codeExpr (wpAny_mono (ht.run [] _ (startF N vs ws) H _ I hq) (fun v s' hs => ?_) fun e s' hs => hs)
  obtain ⟨w', H', J, rv, q⟩ := hs
  exact ⟨w', H', J.os, J.bare, J.base, J.hok, rv, q⟩
end
section
variable {X : Cx} {pins : List (Addr × Obj)} {σ : L2.St} {H : Hp} {s : Shared}
/-- a lambda's object just made is known from now on -/
theorem inv_lm {F : NF} {e : Expr} {t' : Nat} {pm ctv : Value} (I : Inv X pins σ H s) : Inv X pins σ (upd H s.heap.objs.size (LmO s.heap.objs.size F e)) { s with heap := s.heap.push { cls := .type "function", data := .func (PySem.W.kla_fn F.name F.qual F.params e F.scope F.cl pm (.ref F.c) ctv) }, toks := t' } := by
  refine I.laid (a := s.heap.objs.size) (fun b u q => Heap.get?_push_of_some _ q) (Nat.le_refl _) ?_
  have q : (s.heap.push ({ cls := .type "function", data := .func (PySem.W.kla_fn F.name F.qual F.params e F.scope F.cl pm (.ref F.c) ctv) } : Obj)).get? s.heap.objs.size = some ({ cls := .type "function", data := .func (PySem.W.kla_fn F.name F.qual F.params e F.scope F.cl pm (.ref F.c) ctv) } : Obj) := Heap.get?_push_size _ rfl
  exact ⟨⟨_, _, pm, ctv, q⟩, ⟨_, q⟩, fun h1 h2 ⟨od, sl, p, t, z⟩ st => ⟨od, sl, p, t, st _ z⟩⟩
theorem lam_made {T : List (Addr × Str)} {c B : Addr} {params : Arguments} {body : Expr} {scope : Scope} {pos : Pos} {E : Value → Shared → Prop} {Q : Value → Shared → Prop} (I : Inv X pins σ H s) (TB : TabB X.base X.mg c B) (hcode : X.env.code = .ref c)
    (hm : (B, X.env.qual ++ "<lambda>") ∈ T) (hu : ∀ p ∈ T, p.1 = B → p.2 = X.env.qual ++ "<lambda>") (hT : Tabs T H) (hdef : defaultsOf params X.env = ([], [])) (hfree : ∀ y ∈ scope.names, y.2 = .free → ∃ c, X.env.cells.lookup y.1 = some c)
    (h : ∀ (f c' : Addr) (H1 : Hp) (s' : Shared), Inv X pins σ H1 s' → ExtN H H1 → Tabs T H1 → H f = none → H1 f = some (LmO f ⟨"<lambda>", X.env.qual ++ "<lambda>", params, [], scope, cloFrom X.env.cells scope.names [], c'⟩ body) → H1 c' = some (CodeO c' (X.env.qual ++ "<lambda>")) → Q (.ref f) s') :
    wpAny (model X.prog X.w) X.A (eval (.Lambda params body scope pos) X.env) Q E s := by
  obtain ⟨ps, eB, tri, among⟩ := hT _ hm
  refine PySem.W.kla_eval hdef ?_
  have bm := TB.bm.keeps I.bk
  have eB' : s.heap.get? B = some { cls := .none, data := .fields ps } := I.hok B _ eB
  cases hc : codeAmong pos ps.toList with
  | none =>
    refine PySem.W.kla_makeFunction (mg := X.mg) (c := c) (P := B) (ps := ps) (closure_ok hfree) I.ok.glob (I.mod.glob.keeps I.bk) hcode (TB.code.keeps I.bk) eB' tri hc TB.gP bm fun c' ctv g tk hx hge hlt hrec htb => ?_
    obtain ⟨c2, oc, vs, t, e2, hoc, hd, hv⟩ := hrec
    cases e2
    have nC : H c' = none := I.hok.fresh hge
    have J := inv_table (t' := tk) (more := #[rawInt pos.line, rawInt pos.col, .ref c']) (h' := g) I eB (fun b o hb e => hx b o hb e) htb hge ⟨oc, vs, t, hoc, hd, hv⟩
    have hE : ExtN H (upd (upd H B (.tbl (ps ++ #[rawInt pos.line, rawInt pos.col, .ref c']))) c' (CodeO c' (X.env.qual ++ "<lambda>"))) := fun b o e n => by
      rw [upd_ne (ne_of_none e nC), upd_ne (fun z => n ps (Option.some.inj (e.symm.trans (by rw [z]; exact eB))))]
      exact e
    have eL : (ps ++ #[rawInt pos.line, rawInt pos.col, .ref c']).toList = ps.toList ++ [rawInt pos.line, rawInt pos.col, .ref c'] := by simp
    have T1 : Tabs T (upd (upd H B (.tbl (ps ++ #[rawInt pos.line, rawInt pos.col, .ref c']))) c' (CodeO c' (X.env.qual ++ "<lambda>"))) := fun p hp => by
      by_cases hb : p.1 = B
      · rw [hu p hp hb, hb]
        refine ⟨_, by rw [upd_ne (ne_of_none eB nC), upd_same], by rw [eL]; exact PySem.TriplesOk_snoc _ _ _ _ tri, fun p' cv hcv => ?_⟩
        rw [eL] at hcv
        rcases among_app _ tri hcv with z | z
        · obtain ⟨c0, e1, e2⟩ := among p' cv z
          exact ⟨c0, e1, hE _ _ e2 codeO_ne⟩
        · exact ⟨c', z, upd_same⟩
      · obtain ⟨qs, a1, a2, a3⟩ := hT p hp
        refine ⟨qs, by rw [upd_ne (ne_of_none a1 nC), upd_ne hb]; exact a1, a2, fun p' cv hcv => ?_⟩
        obtain ⟨c0, e1, e2⟩ := a3 p' cv hcv
        exact ⟨c0, e1, hE _ _ e2 codeO_ne⟩
    have nF := J.hok.fresh (Nat.le_refl _)
    have L := inv_lm (F := ⟨"<lambda>", X.env.qual ++ "<lambda>", params, [], scope, cloFrom X.env.cells scope.names [], c'⟩) (e := body) (t' := tk) (pm := (X.mg "__name__").getD .none) (ctv := ctv) J
    refine h g.objs.size c' _ _ L (fun b o e n => ?_) (T1.ext fun b o e => ?_) (I.hok.fresh (Nat.le_trans hge (Nat.le_of_lt hlt))) upd_same ?_
    · exact (upd_ne (ne_of_none (hE b o e n) nF)).trans (hE b o e n)
    · exact (upd_ne (ne_of_none e nF)).trans e
    · exact (upd_ne (Nat.ne_of_lt hlt)).trans upd_same
  | some cv =>
    obtain ⟨c', e, hco⟩ := among pos cv hc
    subst e
    refine PySem.W.kla_makeFunctionHit (mg := X.mg) (c := c) (P := B) (ps := ps) (closure_ok hfree) I.ok.glob (I.mod.glob.keeps I.bk) hcode (TB.code.keeps I.bk) eB' tri hc bm fun ctv g tk hx hsz => ?_
    have J : Inv X pins σ H { s with heap := g, toks := tk } := I.kept hx
    have nF : H g.objs.size = none := J.hok.fresh (Nat.le_refl _)
    have L := inv_lm (F := ⟨"<lambda>", X.env.qual ++ "<lambda>", params, [], scope, cloFrom X.env.cells scope.names [], c'⟩) (e := body) (t' := tk) (pm := (X.mg "__name__").getD .none) (ctv := ctv) J
    refine h g.objs.size c' _ _ L (fun b o e n => ?_) (hT.ext fun b o e => ?_) nF upd_same ?_
    · exact (upd_ne (ne_of_none e nF)).trans e
    · exact (upd_ne (ne_of_none e nF)).trans e
    · exact (upd_ne (ne_of_none hco nF)).trans hco
end
/-- «lambda ..: e»: the value is the new function -/
def tLamN (T : List (Addr × Str)) (mk : Addr → NF) (e : Expr) : TE := fun _ H Q => Tabs T H ∧ ∀ (f c' : Addr) (H1 : Hp), ExtN H H1 → Tabs T H1 → H f = none → H1 f = some (LmO f (mk c') e) → H1 c' = some (CodeO c' (mk c').qual) → Q (.ref f) H1
theorem pe_lamN {X : Cx} {T : List (Addr × Str)} {c B : Addr} {params : Arguments} {body : Expr} {scope : Scope} {pos : Pos} (TB : TabB X.base X.mg c B) (hcode : X.env.code = .ref c) (hm : (B, X.env.qual ++ "<lambda>") ∈ T) (hu : ∀ p ∈ T, p.1 = B → p.2 = X.env.qual ++ "<lambda>") (hdef : defaultsOf params X.env = ([], []))
    (hfree : ∀ y ∈ scope.names, y.2 = .free → X.env.scope.names.lookup y.1 = some .cell ∨ X.env.scope.names.lookup y.1 = some .free) :
    PE X (.Lambda params body scope pos) (tLamN T (fun c' => ⟨"<lambda>", X.env.qual ++ "<lambda>", params, [], scope, cloFrom X.env.cells scope.names [], c'⟩) body) := by
  refine ⟨fun pins s σ H Q I h => ?_⟩
  obtain ⟨hT, h⟩ := h
  refine lam_made I TB hcode hm hu hT hdef (fun y hy e => (hfree y hy e).elim (fun z => I.ok.has _ (.inl z)) fun z => I.ok.has _ (.inr z)) fun f c' H1 s' I1 eN T1 f0 f1 c1 => ?_
  exact ⟨.ref f, H1, I1, rfl, h f c' H1 eN T1 f0 f1 c1⟩
/-- «def n(..): ..» within a def, with tables of one name each -/
theorem tabsN_of {T : List (Addr × Str)} {H : Hp} (h : Tabs T H) : TabsN (T.map fun p => (p.1, fun _ _ => p.2)) H := fun p hp => by
  obtain ⟨q, mq, rfl⟩ := List.mem_map.mp hp
  exact .of (h q mq)
theorem tabs_of {T : List (Addr × Str)} {H : Hp} (h : TabsN (T.map fun p => (p.1, fun _ _ => p.2)) H) : Tabs T H := fun q mq => (h _ (List.mem_map.mpr ⟨q, mq, rfl⟩)).to
def tNdf (T : List (Addr × Str)) (i : Nat) (mk : Addr → NF) : TS := fun D σ H => Tabs T H ∧ ∀ (f c' : Addr) (H1 : Hp), ExtN H H1 → Tabs T H1 → H f = none → H1 f = some (FnO f (mk c')) → H1 c' = some (CodeO c' (mk c').qual) → D.nx (σ.set i (some (.ref f))) H1
theorem ps_ndf {X : Cx} {st : Stmt} {T : List (Addr × Str)} {c B : Addr} {name : Str} {pos : Pos} {i : Nat} (hst : st = .FunctionDef name (C8.fnArgs st) (C8.fnBody st) [] none [] (C8.fnScope st) none name pos) (TB : TabB X.base X.mg c B) (hcode : X.env.code = .ref c) (hm : (B, X.env.qual ++ name) ∈ T) (hu : ∀ p ∈ T, p.1 = B → p.2 = X.env.qual ++ name)
    (hfree : ∀ y ∈ (C8.fnScope st).names, y.2 = .free → X.env.scope.names.lookup y.1 = some .cell ∨ X.env.scope.names.lookup y.1 = some .free) (hd0 : (C8.fnArgs st).defaults = []) (hk0 : (C8.fnArgs st).kw_defaults = []) (ha : annTrees (C8.fnArgs st) none X.env = [])
    (hN : X.N.Nodup) (hi : X.N[i]? = some name) (hx : Loc X.env.scope name) (hf : X.fn name = true ∨ X.env.scope.names.lookup name = some .local) :
    PS X st (tNdf T i (NF.of st name (X.env.qual ++ name) (cloFrom X.env.cells (C8.fnScope st).names []))) := by
  have q := ps_ndefS (X := X) (st := st) (T := T.map fun p => (p.1, fun _ _ => p.2)) (nm := fun _ _ => X.env.qual ++ name) (c := c) (P := B) (name := name) (pos := pos) (i := i) hst TB hcode (List.mem_map.mpr ⟨_, hm, rfl⟩) rfl (fun p hp e => by
    obtain ⟨z, mz, rfl⟩ := List.mem_map.mp hp
    show (fun _ _ => z.2) = fun _ _ => _
    rw [hu z mz e]) hfree hd0 hk0 ha hN hi hx hf
  refine ⟨fun pins s σ H D I h => q.run pins s σ H D I ?_⟩
  obtain ⟨hT, h⟩ := h
  exact ⟨tabsN_of hT, fun f c' H1 eN T1 => h f c' H1 eN (tabs_of T1)⟩
end My

/-! ### defs that make functions; methods of one name with arguments -/
namespace My
open PySem PySem.Spec PyProof.Rows L2 LamX NdefX
theorem ClosOk.mono {P : Program} {w : World} {K : PySem.W.Frag} {mg : Str → Option Value} {base : Heap} {j k : Nat} {H0 : Hp} {f : Addr} {m : Nat} {sp : Sp} (h : ClosOk P w K mg base j H0 f m sp) (jk : j ≤ k) : ClosOk P w K mg base k H0 f m sp :=
  ⟨h.fn, fun H s A outer s' us vs Q hr => h.run H s A outer s' us vs Q (hr.mono jk)⟩
theorem clo_in {X : Cx} {scope : Scope} (ok : X.Ok) (hfree : ∀ y ∈ scope.names, y.2 = .free → X.env.scope.names.lookup y.1 = some .cell ∨ X.env.scope.names.lookup y.1 = some .free) (hf : ∀ y, X.fn y = true) : ∀ q ∈ cloFrom X.env.cells scope.names [], X.env.cells.lookup q.1 = some q.2 ∧ X.fn q.1 = true := fun q m => by
  refine ⟨?_, hf _⟩
  rcases cloFrom_mem (n := q.1) (c := q.2) m with h | ⟨h1, h2⟩
  · cases h
  · obtain ⟨c1, hc⟩ : ∃ c, X.env.cells.lookup q.1 = some c := (hfree _ h1 rfl).elim (fun z => ok.has _ (.inl z)) fun z => ok.has _ (.inr z)
    rw [h2, hc]
    rfl
/-- the text of a lambda within a def -/
def noE : Expr := .Constant .none 0 ⟨0, 0, 0, 0⟩
def lmT : Stmt → Expr
  | .Return (some e) _ => e
  | .Assign _ e _ => e
  | .Expr e _ => e
  | _ => noE
def lmD : Stmt → List Stmt
  | .For _ _ b _ _ => b
  | .If _ b _ _ => b
  | .While _ b _ _ => b
  | .Try b _ _ _ _ => b
  | _ => []
def lmX (i : Nat) : Expr → Expr
  | .Call _ as _ _ => as.getD i noE
  | .List as _ => as.getD i noE
  | .Tuple as _ _ => as.getD i noE
  | _ => noE
def lmA : Expr → Arguments
  | .Lambda a _ _ _ => a
  | _ => { posonlyargs := [], args := [], vararg := none, kwonlyargs := [], kw_defaults := [], kwarg := none, defaults := [] }
def lmB : Expr → Expr
  | .Lambda _ b _ _ => b
  | _ => noE
def lmS : Expr → Scope
  | .Lambda _ _ s _ => s
  | _ => { kind := .function, names := [], isGenerator := false, isCoroutine := false }
/-- the prefix of the names within a def -/
def qIn (x : String) : Str := Str.ofString x ++ ".<locals>."
section
variable {P : Program} {w : World} {K : PySem.W.Frag} {mg : Str → Option Value} {base : Heap}
/-- a def whose code object is known -/
theorem okC {x qual : Str} {st : Stmt} {f c : Addr} {fd : FuncData} {N ps : List Str} {k : Nat} {sp : Sp} (F : Fun K x qual st f fd) (hc : fd.code = .ref c) (S : FnScope N ps (defScope st)) (len : ∀ vs H Q E, sp vs H Q E → vs.length = ps.length)
    (body : ∀ (A : Around) (outer : List Env) (s : Shared) (H : Hp) (vs : List V) (Q : VK) (E : XK), Room k (A.deeper (envOfC qual (defScope st) s.heap.objs.size f (.ref c))) → sp vs H Q E →
      ∃ t, PSs (cxOf CX0 P w K mg base N qual (defScope st) f (.ref c) A outer s H E).nox (defBody st) t ∧ t { nx := fun _ H' => Q .non H', rt := Q } (start N vs) H) : FnOk P w K mg base CX0 (k + 1) f fd ps sp := by
  obtain ⟨oc, od, kV, doc, pm, an, cdv, ct, osl, rfl, lk, hcd⟩ := F.ex
  obtain rfl : cdv = .ref c := hc
  refine fn_of lk hcd S len fun A outer s H vs Q E hr hsp => ?_
  obtain ⟨t, h, q⟩ := body A outer s H vs Q E hr hsp
  exact ⟨t, h.nox, q⟩
theorem okNC {x qual : Str} {st : Stmt} {f c : Addr} {fd : FuncData} {N ps : List Str} {k : Nat} {sp : Sp} (F : Fun K x qual st f fd) (hc : fd.code = .ref c) (S : FnScope N ps (defScope st)) (len : ∀ vs H Q E, sp vs H Q E → vs.length = ps.length)
    (body : ∀ (A : Around) (outer : List Env) (s : Shared) (H : Hp) (vs : List V) (Q : VK) (E : XK), Room k (A.deeper (envOfC qual (defScope st) s.heap.objs.size f (.ref c))) → sp vs H Q E →
      ∃ t, PSs (cxOf (L2N.CX P w) P w K mg base N qual (defScope st) f (.ref c) A outer s H E) (defBody st) t ∧ t { nx := fun _ H' => Q .non H', rt := Q } (start N vs) H) : FnOk P w K mg base (L2N.CX P w) (k + 1) f fd ps sp := by
  obtain ⟨oc, od, kV, doc, pm, an, cdv, ct, osl, rfl, lk, hcd⟩ := F.ex
  obtain rfl : cdv = .ref c := hc
  exact fn_of lk hcd S len fun A outer s H vs Q E hr hsp => body A outer s H vs Q E hr hsp
end
/-! #### o.m(e, ..), the method of the class that o has -/
def tMethKA (bc : Kd → Addr) (okk : Kd → Bool) (m : Str) (sp : Kd → Sp) (ta : TE) (t : TA) : TE := fun σ H Q => ta σ H fun x H1 => ∃ a kd dx fs, x = .ref a ∧ okk kd = true ∧ H1 a = some (.ins (bc kd) dx fs) ∧ fs.lookup m = none ∧ t σ H1 fun vs H2 => sp kd (x :: vs) H2 Q E0
section
variable {X : Cx} {k : Nat} {bc : Kd → Addr} {okk : Kd → Bool} {sp : Kd → Sp} {m : Str} {pos apos : Pos} {o e : Expr} {es : List Expr} {ta : TE} {t : TA}
theorem pe_methKA {pl : Sem Bool} (he : PE X o ta) (A : ∀ kd, okk kd = true → HeldM X.prog X.w X.K X.mg X.base k (bc kd) m (sp kd)) (hr : Room k X.A) (ha : PA X (e :: es) t)
    (z1 : starEach (e :: es) X.env = (false, eval e X.env) :: starEach es X.env := by rfl) (z2 : (backTo pos (starEach es X.env)).any (·.1) = false := by rfl)
    (ht : eval (.Call (.Attribute o m apos) (e :: es) [] pos) X.env = (do
      let ov ← eval o X.env
      standAt apos.atName
      let (f, first) ← holding [ov] (getMethod ov m pl)
      callWith pos f first (backTo pos (starEach (e :: es) X.env)) (backToKw pos (keywordEach [] X.env))) := by rfl) :
    PE X (.Call (.Attribute o m apos) (e :: es) [] pos) (tMethKA bc okk m sp ta t) := by
  refine ⟨fun pins s σ H Q I h => ?_⟩
  refine PySem.W.methodCall_KW (pl := pl) (thn (he.run pins s σ H _ I h) fun u s1 ⟨x, H1, I1, rx, a, kd, dx, fs, ex, hk, ea, l, q⟩ => ?_) ht
  subst ex
  obtain rfl : u = Value.ref a := rx
  obtain ⟨f, fd, ps, c, hm, F, hb⟩ := (A kd hk).ex
  refine getmeth_ok I1 ea c hm l ?_
  refine PySem.W.callWith_K (first := [.ref a]) (h₀ := X.base) I.ok.mod.kin hm.kp (thn (ha.run pos pins s1 σ H1 _ I1 q) fun us s2 ⟨vs, H2, I2, r, q2⟩ => ⟨I2.kIn, ?_⟩) z1 z2
  refine run_fn (us := .ref a :: us) (vs := .ref a :: vs) (dvs := []) F hr hb .nil pass0 I2 (.cons rfl r) ?_
  rw [List.append_nil]
  exact q2
end
end My

/-! ### a def within a def that has cells of its own besides those it captured -/
namespace My
open PySem PySem.Spec PyProof.Rows L2 LamX NdefX
theorem cells_app : ∀ (names : List (Str × NameKind)) (n : Nat) (acc : List (Str × Addr)), cellsFrom n names acc = cellsFrom n names [] ++ acc
  | [], n, acc => rfl
  | (x, k) :: r, n, acc => by
    unfold cellsFrom
    split
    · rw [cells_app r (n + 1) ((x, n) :: acc), cells_app r (n + 1) [(x, n)], List.append_assoc]; rfl
    · exact cells_app r n acc
theorem own_kind : ∀ {names : List (Str × NameKind)} {n : Nat} {x : Str} {c : Addr}, (x, c) ∈ cellsFrom n names [] → (x, NameKind.cell) ∈ names
  | (y, k) :: r, n, x, c, m => by
    unfold cellsFrom at m
    split at m
    · rename_i hk
      rw [cells_app] at m
      rcases List.mem_append.mp m with m | m
      · exact List.mem_cons_of_mem _ (own_kind m)
      · obtain ⟨rfl, rfl⟩ := Prod.mk.inj (List.mem_singleton.mp m)
        have : k = .cell := by simpa using hk
        rw [this]; exact List.mem_cons_self
    · exact List.mem_cons_of_mem _ (own_kind m)
section
variable {M : Model} {A : Around} {E : Value → Shared → Prop} {s0 s : Shared} {m cm : Str → Option Value} {env : Env} {os : List (Str × Addr)}
theorem storeL_own {n : Str} {v : Value} {Q : Unit → Shared → Prop} (x : InCallC s0 env.locals m os cm s) (hk : env.scope.kind = .function) (hl : env.kindOf n = some .local)
    (h : ∀ s', InCallC s0 env.locals (fun y => if y = n then some v else m y) os cm s' → Q () s') : wpAny M A (storeName env n v) Q E s := by
  refine wpAny_storeName_local hl x.toInCall.ns (fun h' hn' hs' => h _ ⟨⟨?_, hn', fun b o e => ?_, x.toInCall.fresh⟩, fun k c hc => ?_, x.apart, x.above⟩) (by rw [hk]; rfl)
  · obtain ⟨g, tk, rfl⟩ := x.toInCall.same
    exact ⟨h', _, rfl⟩
  · exact hs'.extBut b o (Nat.ne_of_lt (Nat.lt_of_lt_of_le (Heap.lt_size e) x.toInCall.fresh)) (x.toInCall.keep b o e)
  · exact (x.cell k c hc).sameBut hs' (Nat.ne_of_gt (x.above k c (PySem.mem_of_lookup hc)))
theorem storeC_own {n : Str} {c : Addr} {v : Value} {Q : Unit → Shared → Prop} (x : InCallC s0 env.locals m os cm s) (hk : env.scope.kind = .function) (hl : env.kindOf n = some .cell) (ho : os.lookup n = some c) (hc : env.cells.lookup n = some c)
    (h : ∀ s', InCallC s0 env.locals m os (fun y => if y = n then some v else cm y) s' → Q () s') : wpAny M A (storeName env n v) Q E s := by
  have lt := x.above n c (PySem.mem_of_lookup ho)
  refine wpAny_storeName_cell hk hl hc (x.cell n c ho) fun h' hc' hs' => h _ ⟨⟨?_, x.toInCall.ns.sameBut hs' (Nat.ne_of_lt lt), fun b o e => ?_, x.toInCall.fresh⟩, fun k c' hk' => ?_, x.apart, x.above⟩
  · obtain ⟨g, tk, rfl⟩ := x.toInCall.same
    exact ⟨h', _, rfl⟩
  · exact hs'.extBut b o (Nat.ne_of_lt (Nat.lt_trans (Nat.lt_of_lt_of_le (Heap.lt_size e) x.toInCall.fresh) lt)) (x.toInCall.keep b o e)
  · by_cases e : k = n
    · subst e
      rw [ho] at hk'; cases hk'
      simpa using hc'
    · rw [if_neg e]
      exact (x.cell k c' hk').sameBut hs' fun z => e (name_of_addr x.apart (PySem.mem_of_lookup hk') (z ▸ PySem.mem_of_lookup ho))
theorem bind_own (f : Str × Value → PUnit → Sem (ForInStep PUnit)) (hf : ∀ n v u, f (n, v) u = (do storeName env n v; pure (.yield ⟨⟩))) (hk : env.scope.kind = .function) :
    ∀ (bs : List (Str × Value)) (m cm : Str → Option Value) (s : Shared) (Q : PUnit → Shared → Prop), InCallC s0 env.locals m os cm s →
      (∀ x ∈ bs, env.kindOf x.1 = some .local ∨ (env.kindOf x.1 = some .cell ∧ ∃ c, os.lookup x.1 = some c ∧ env.cells.lookup x.1 = some c)) →
      (∀ s', InCallC s0 env.locals (bindL env.kindOf bs m) os (bindC env.kindOf bs cm) s' → Q ⟨⟩ s') → wpAny M A (forIn bs ⟨⟩ f) Q E s
  | [], m, cm, s, Q, x, _, h => by rw [List.forIn_nil]; exact wpAny_pure (h s x)
  | (n, v) :: r, m, cm, s, Q, x, kd, h => by
    rw [List.forIn_cons, hf]
    have kr : ∀ y ∈ r, env.kindOf y.1 = some .local ∨ (env.kindOf y.1 = some .cell ∧ ∃ c, os.lookup y.1 = some c ∧ env.cells.lookup y.1 = some c) := fun y hy => kd y (List.mem_cons_of_mem _ hy)
    rcases kd (n, v) List.mem_cons_self with hl | ⟨hl, c, ho, hc⟩
    · refine wpAny_bind (wpAny_bind (storeL_own x hk hl fun s' x' => wpAny_pure (bind_own f hf hk r _ _ s' Q x' kr fun s'' x'' => h s'' ?_)))
      unfold bindL bindC; rw [if_pos hl, if_pos hl]; exact x''
    · have nl : ¬ env.kindOf n = some .local := by rw [hl]; decide
      refine wpAny_bind (wpAny_bind (storeC_own x hk hl ho hc fun s' x' => wpAny_pure (bind_own f hf hk r _ _ s' Q x' kr fun s'' x'' => h s'' ?_)))
      unfold bindL bindC; rw [if_neg nl, if_neg nl]; exact x''
end
/-- its names: the parameters, the captured ones, its own -/
structure NScC (N ps fr : List Str) (sc : Scope) : Prop where
  kind : sc.kind = .function
  co : sc.isCoroutine = false
  gen : sc.isGenerator = false
  nd : N.Nodup
  nn : (sc.names.map (·.1)).Nodup
  pre : N.take (ps.length + fr.length) = ps ++ fr
  par : ∀ x ∈ ps, sc.names.lookup x = some .local ∨ sc.names.lookup x = some .cell
  free : ∀ y ∈ sc.names, y.2 = .free → y.1 ∈ fr
  frk : ∀ x ∈ fr, sc.names.lookup x = some .free
def nccB (N ps fr : List Str) (sc : Scope) : Bool :=
  decide (sc.kind = .function) && !sc.isCoroutine && !sc.isGenerator && decide N.Nodup && decide (sc.names.map (·.1)).Nodup && decide (N.take (ps.length + fr.length) = ps ++ fr) && ps.all (fun x => decide (sc.names.lookup x = some .local) || decide (sc.names.lookup x = some .cell)) && sc.names.all (fun y => !decide (y.2 = .free) || decide (y.1 ∈ fr)) && fr.all (fun x => decide (sc.names.lookup x = some .free))
theorem ncc_by {N ps fr : List Str} {sc : Scope} (h : nccB N ps fr sc = true) : NScC N ps fr sc := by
  unfold nccB at h
  simp only [Bool.and_eq_true, Bool.not_eq_true', decide_eq_true_eq, List.all_eq_true, Bool.or_eq_true, decide_eq_false_iff_not] at h
  obtain ⟨⟨⟨⟨⟨⟨⟨⟨h1, h2⟩, h3⟩, h4⟩, h5⟩, h6⟩, h7⟩, h8⟩, h9⟩ := h
  exact ⟨h1, h2, h3, h4, h5, h6, h7, fun y hy e => (h8 y hy).elim (fun z => absurd e z) id, h9⟩
abbrev envD (F : NF) (f L : Addr) : Env := PySem.W.envX F.qual F.scope L f (.ref F.c) (cellsFrom (L + 1) F.scope.names F.cl)
def dcx (CX : CXT) (P : Program) (w : World) (K : PySem.W.Frag) (mg : Str → Option Value) (base : Heap) (N : List Str) (F : NF) (f : Addr) (A : Around) (outer : List Env) (s : Shared) (H : Hp) (E : XK) : Cx where
  prog := P
  w := w
  K := K
  mg := mg
  base := base
  A := A.deeper (envD F f s.heap.objs.size)
  N := N
  s_0 := s
  H_0 := H
  env := envD F f s.heap.objs.size
  outer := outer
  stack := envD F f s.heap.objs.size :: outer
  ex := []
  calm := true
  fn := fun x => F.scope.names.lookup x == some .cell
  pn := []
  xe := fun e s' => wpAny (model P w) (A.deeper (envD F f s.heap.objs.size)) (leaving (envD F f s.heap.objs.size) e) (fun _ s'' => CX outer H s E e s'') (fun e' s'' => CX outer H s E e' s'') s'
section
variable {CX : CXT} {P : Program} {w : World} {K : PySem.W.Frag} {mg : Str → Option Value} {base : Heap} {N ps fr : List Str} {F : NF} {f : Addr} {A : Around} {outer : List Env} {s s1 : Shared} {H : Hp} {E : XK} {us : List Value} {vs : List V} {ws : List (Option V)}
theorem lk_app {l r : List (Str × Addr)} {x : Str} : (l ++ r).lookup x = (l.lookup x).or (r.lookup x) := by
  induction l with
  | nil => rfl
  | cons a l ih =>
    obtain ⟨y, c⟩ := a
    rw [List.cons_append, List.lookup_cons, List.lookup_cons]
    cases x == y with
    | true => rfl
    | false => exact ih
theorem inv_startD (S : NScC N ps fr F.scope) (hd : A.handled = none) (e0 : Env0 P w K mg base A outer s H) (hl : vs.length = ps.length) (r : Vals vs us) (C : CellsAt F.cl fr ws s.heap H)
    (x : InCallC s s.heap.objs.size (bindL (envD F f s.heap.objs.size).kindOf (ps.zip us) fun _ => none) (cellsFrom (s.heap.objs.size + 1) F.scope.names []) (bindC (envD F f s.heap.objs.size).kindOf (ps.zip us) fun _ => none) s1) :
    Inv (dcx CX P w K mg base N F f A outer s H E) [] (startF N vs ws) H s1 := by
  have hpl : ps.length + fr.length ≤ N.length := by
    have q := congrArg List.length S.pre
    rw [List.length_take, List.length_append] at q
    omega
  obtain ⟨h1, tk, rfl, kp⟩ := x.done
  have noA : ∀ b : Addr, b ∉ (dcx CX P w K mg base N F f A outer s H E).ex := fun b z => absurd (show b ∈ ([] : List Addr) from z) (by simp)
  have eL : ∀ y : Str, (dcx CX P w K mg base N F f A outer s H E).env.cells.lookup y = ((cellsFrom (s.heap.objs.size + 1) F.scope.names []).lookup y).or (F.cl.lookup y) := fun y => by
    show (cellsFrom (s.heap.objs.size + 1) F.scope.names F.cl).lookup y = _
    rw [cells_app, lk_app]
  have oldC : ∀ {y : Str} {c : Addr}, F.cl.lookup y = some c → c < s.heap.objs.size := fun {y c} e => by
    obtain ⟨_, v, o, ho, _⟩ := C.all y c e
    exact Heap.lt_size ho
  have newC : ∀ {y : Str} {c : Addr}, (cellsFrom (s.heap.objs.size + 1) F.scope.names []).lookup y = some c → s.heap.objs.size < c := fun {y c} e => x.above y c (PySem.mem_of_lookup e)
  have either : ∀ {y : Str} {c : Addr}, (dcx CX P w K mg base N F f A outer s H E).env.cells.lookup y = some c → (cellsFrom (s.heap.objs.size + 1) F.scope.names []).lookup y = some c ∨ F.cl.lookup y = some c := fun {y c} e => by
    rw [eL] at e
    cases q : (cellsFrom (s.heap.objs.size + 1) F.scope.names []).lookup y with
    | none => rw [q] at e; exact .inr e
    | some d => rw [q] at e; exact .inl e
  have nodK : ∀ {l : List (Str × NameKind)} {y : Str} {a b : NameKind}, (l.map (·.1)).Nodup → l.lookup y = some a → (y, b) ∈ l → b = a := fun {l y a b} nd => by
    induction l with
    | nil => intro _ m; cases m
    | cons z l ih =>
      intro e m
      obtain ⟨n, k⟩ := z
      rw [List.map_cons, List.nodup_cons] at nd
      rw [List.lookup_cons] at e
      by_cases hn : y = n
      · subst hn
        rw [beq_self_eq_true] at e
        cases e
        rcases List.mem_cons.mp m with q | q
        · cases q; rfl
        · exact absurd (List.mem_map.mpr ⟨_, q, rfl⟩) nd.1
      · rw [show (y == n) = false from beq_eq_false_iff_ne.mpr hn] at e
        rcases List.mem_cons.mp m with q | q
        · cases q; exact absurd rfl hn
        · exact ih nd.2 e q
  have frN : ∀ {y : Str}, F.scope.names.lookup y = some .free → (cellsFrom (s.heap.objs.size + 1) F.scope.names []).lookup y = none := fun {y} hy => by
    cases q : (cellsFrom (s.heap.objs.size + 1) F.scope.names []).lookup y with
    | none => rfl
    | some d => have := nodK S.nn hy (own_kind (PySem.mem_of_lookup q)); cases this
  have cellK : ∀ {c : Addr} {v : Option Value}, s.heap.IsCell c v → h1.IsCell c v := fun {c v} ⟨o, ho, hd⟩ => ⟨o, kp _ _ ho, hd⟩
  have hasF : ∀ {y : Str}, F.scope.names.lookup y = some .free → ∃ c, F.cl.lookup y = some c ∧ (dcx CX P w K mg base N F f A outer s H E).env.cells.lookup y = some c := fun {y} hy => by
    obtain ⟨i, hi⟩ := List.mem_iff_getElem?.mp (S.free _ (PySem.mem_of_lookup hy) rfl)
    obtain ⟨c, hc, _⟩ := C.has i y hi
    exact ⟨c, hc, by rw [eL, frN hy]; exact hc⟩
  refine ⟨⟨e0.mod, S.kind, rfl, rfl, Nat.le_refl _, fun y z c e1 e2 => ?_, fun y hy => ?_, fun y c hc e => ?_, fun _ => hd, Around.frames_deeper e0.frames, .inr ⟨rfl, rfl⟩, fun b z => absurd z (noA b), e0.bs, e0.bsz, fun b _ _ => noA b, fun b z => absurd z (noA b), e0.funs, e0.frf⟩,
    rfl, e0.bare, Un.kept kp, ⟨_, x.toInCall.ns, fun i y v e1 e2 e3 => ?_⟩, fun y c e => ?_, e0.hok.fresh (Nat.le_refl _), fun y c e => ?_, fun p hp => absurd (show p ∈ ([] : List (Addr × Obj)) from hp) (by simp), e0.hok.kept kp, ?_⟩
  · rcases either e1 with e1 | e1 <;> rcases either e2 with e2 | e2
    · exact name_of_addr x.apart (PySem.mem_of_lookup e1) (PySem.mem_of_lookup e2)
    · exact absurd (Nat.lt_trans (newC e1) (oldC e2)) (Nat.lt_irrefl _)
    · exact absurd (Nat.lt_trans (newC e2) (oldC e1)) (Nat.lt_irrefl _)
    · exact C.inj y z c e1 e2
  · have hy : F.scope.names.lookup y = some .cell ∨ F.scope.names.lookup y = some .free := hy
    rcases hy with hy | hy
    · obtain ⟨c, hc⟩ := cell_has (n := s.heap.objs.size + 1) hy
      exact ⟨c, by rw [eL, hc]; rfl⟩
    · obtain ⟨c, _, hc⟩ := hasF hy
      exact ⟨c, hc⟩
  · have hc : (F.scope.names.lookup y == some NameKind.cell) = true := hc
    have hc : F.scope.names.lookup y = some .cell := by simpa using hc
    obtain ⟨d, hd⟩ := cell_has (n := s.heap.objs.size + 1) hc
    have q : (dcx CX P w K mg base N F f A outer s H E).env.cells.lookup y = some d := by rw [eL, hd]; rfl
    have e : (dcx CX P w K mg base N F f A outer s H E).env.cells.lookup y = some c := e
    rw [q] at e
    cases e
    exact Nat.le_of_lt (newC hd)
  · have e1 : N[i]? = some y := e1
    have clen := C.len
    unfold startF at e2
    by_cases hi : i < ps.length
    · have hq : (ps ++ fr)[i]? = some y := by
        rw [← S.pre, List.getElem?_take_of_lt (by omega)]
        exact e1
      rw [List.getElem?_append_left hi] at hq
      rw [List.getElem?_append_left (by rw [List.length_map]; omega), List.getElem?_map] at e2
      have ha : vs[i]? = some v := by
        cases e : vs[i]? with
        | none => rw [e] at e2; cases e2
        | some a => rw [e] at e2; cases e2; rfl
      obtain ⟨u, hu, rv⟩ := r.get ha
      have ndP : ps.Nodup := by
        have q := S.nd.sublist (List.take_sublist (ps.length + fr.length) N)
        rw [S.pre] at q
        exact (List.nodup_append.mp q).1
      refine ⟨u, rv, ?_⟩
      rcases S.par y (List.mem_of_getElem? hq) with k | k
      · exact .inl ⟨k, bindL_get ndP hq hu k⟩
      · obtain ⟨c, e⟩ := cell_has (n := s.heap.objs.size + 1) k
        refine .inr ⟨.inl k, c, by rw [eL, e]; rfl, ?_⟩
        have q := x.cell y c e
        rw [bindC_get ndP hq hu (by show F.scope.names.lookup y ≠ _; rw [k]; decide)] at q
        exact q
    · rw [List.getElem?_append_right (by rw [List.length_map]; omega), List.length_map] at e2
      by_cases h2 : i < ps.length + fr.length
      · have hq : (ps ++ fr)[i]? = some y := by
          rw [← S.pre, List.getElem?_take_of_lt (by omega)]
          exact e1
        rw [List.getElem?_append_right (by omega)] at hq
        rw [List.getElem?_append_left (by omega), hl] at e2
        have fy := S.frk y (List.mem_of_getElem? hq)
        obtain ⟨c, hc, hv⟩ := C.has (i - ps.length) y hq
        obtain ⟨u, ru, hu⟩ := hv v e2
        exact ⟨u, ru, .inr ⟨.inr fy, c, by rw [eL, frN fy]; exact hc, cellK hu⟩⟩
      · rw [List.getElem?_append_right (by omega), List.getElem?_replicate] at e2
        split at e2 <;> cases e2
  · rcases either e with e | e
    · exact ⟨_, x.cell y c e⟩
    · obtain ⟨_, v, z⟩ := C.all y c e
      exact ⟨v, cellK z⟩
  · rcases either e with e | e
    · exact e0.hok.fresh (Nat.le_of_lt (newC e))
    · exact (C.all y c e).1
  · have clen := C.len
    unfold startF
    show _ = N.length
    rw [List.length_append, List.length_append, List.length_map, List.length_replicate]
    omega
/-- a def within a def, by its body -/
theorem CRun.dfn {k : Nat} {sp : List (Option V) → Sp} (S : NScC N ps fr F.scope) (hb : ∀ (doc pm ctv : Value) (us : List Value), us.length = ps.length → bindArgs (F.fd doc pm ctv) ⟨us, []⟩ = pure (ps.zip us))
    (body : ∀ (A : Around) (outer : List Env) (s : Shared) (H : Hp) (vs : List V) (ws : List (Option V)) (Q : VK), Room k (A.deeper (envD F f s.heap.objs.size)) → ws.length = fr.length → vs.length = ps.length → sp ws vs H Q E0 →
      ∃ t, PSs (dcx CX0 P w K mg base N F f A outer s H E0).nox F.body t ∧ t { nx := fun _ H' => Q .non H', rt := Q } (startF N vs ws) H) : CRun P w K mg base (k + 1) f (FnO f F) F.c F.qual F.cl ps fr sp := by
  refine ⟨fun A outer s H us vs ws Q hr e0 hf hc C r hl h => ?_⟩
  have lim : s.heap.NoLimit := e0.mod.nolimit.keeps fun b o e => (e0.bs b o e).1
  obtain ⟨od, sl, doc, pm, ctv, ho⟩ := fnO_at e0.hok hf
  have un : us.length = ps.length := by rw [← r.length]; exact hl
  have kd : ∀ y ∈ ps.zip us, (envD F f s.heap.objs.size).kindOf y.1 = some .local ∨ ((envD F f s.heap.objs.size).kindOf y.1 = some .cell ∧ ∃ c, (cellsFrom (s.heap.objs.size + 1) F.scope.names []).lookup y.1 = some c ∧ (envD F f s.heap.objs.size).cells.lookup y.1 = some c) := fun ⟨n, v⟩ hy => by
    rcases S.par n (List.of_mem_zip hy).1 with q | q
    · exact .inl q
    · obtain ⟨c, hc⟩ := cell_has (n := s.heap.objs.size + 1) q
      refine .inr ⟨q, c, hc, ?_⟩
      show (cellsFrom (s.heap.objs.size + 1) F.scope.names F.cl).lookup n = some c
      rw [cells_app, lk_app, hc]; rfl
  refine codeAny_call_function hr.depth ho rfl S.co S.gen rfl (codeO_at e0.hok hc) ?_
  rw [hb doc pm ctv us un]
  refine wpAny_pure ?_
  simp only [newFunctionEnv, Option.isSome_none, Bool.false_eq_true, if_false]
  refine wpAny_bind (wpAny_alloc ?_)
  refine wpAny_bind (wpAny_layCells _ (fun name kind cells => by cases hkc : kind == NameKind.cell <;> simp [hkc]) _ _ _ _ ?_)
  have okc := cellsFrom_ok F.scope.names (s.heap.push { cls := .type "frame", data := .dict #[] }) (s.heap.objs.size + 1) [] ⟨fun _ _ hm => (nomatch hm), List.Pairwise.nil⟩ (by rw [Heap.size_push]; exact Nat.le_refl _)
  rw [Heap.size_push] at okc
  rw [show ({ s with heap := s.heap.push { cls := .type "frame", data := .dict #[] } } : Shared).heap.objs.size = s.heap.objs.size + 1 from Heap.size_push ..]
  refine wpAny_bind (bind_own (s0 := s) (os := cellsFrom (s.heap.objs.size + 1) F.scope.names []) (env := envD F f s.heap.objs.size) _ (fun _ _ _ => rfl) S.kind (ps.zip us) (fun _ => none) (fun _ => none) _ _
    ⟨⟨⟨_, _, rfl⟩, (Heap.Ns.new s.heap (.type "frame")).keeps (pushCells_keeps _ _), fun b o e => pushCells_keeps _ _ b o (Heap.get?_push_of_some _ e), Nat.le_refl _⟩,
      fun n c hc => (okc.empty n c (PySem.mem_of_lookup hc)).1, okc.apart, fun n c hm => (okc.empty n c hm).2⟩ kd fun s' x => wpAny_pure ?_)
  refine ⟨lim.keeps x.toInCall.keep, codeAny_func ?_⟩
  obtain ⟨t, ht, hq⟩ := body A outer s H vs ws Q (hr.deeper _) C.len hl h
  have I : Inv (dcx CX0 P w K mg base N F f A outer s H E0) [] (startF N vs ws) H s' := inv_startD S hr.hd e0 hl r C x
  refine wpAny_mono (ht.nox.run [] s' (startF N vs ws) H _ I hq) (fun fl s2 hs => ?_) fun e s2 hs => hs
  cases fl with
  | ret u =>
    obtain ⟨v, σ', H', J, rv, q⟩ := hs
    exact ⟨v, H', J.os, J.bare, J.base, J.hok, rv, q⟩
  | next =>
    obtain ⟨σ', H', J, q⟩ := hs
    exact ⟨V.non, H', J.os, J.bare, J.base, J.hok, rfl, q⟩
  | brk =>
    obtain ⟨_, _, _, q⟩ := hs
    exact False.elim q
  | cont =>
    obtain ⟨_, _, _, q⟩ := hs
    exact False.elim q
end
end My

/-! ### own errors whose __init__ is a def: raised where the context is none; asked about in a suite -/
namespace My
open PySem PySem.Spec PyProof.Rows L2
/-- what the written part says of such a class, as a test -/
def oexB (K : PySem.W.Frag) (C : Addr) : Bool := match K.lookup C with
  | some ⟨.type "type", _, .cls cd, sl⟩ => (match cd.mro, sl.toList with
    | .ref C' :: bm, [_, _, _, _, some (.builtin n), _] => C' == C && n == "ValueError.__new__" && !cd.hasDel && cd.hasDict && PySem.HandSPX.refsVE bm
    | _, _ => false)
  | _ => false
theorem oexC_mk {K : PySem.W.Frag} {C : Addr} (q : oexB K C = true) (sa : PySem.W.findIn K (.ref C) "__setattr__" = some (some (.builtin "object.__setattr__"))) (exC : PySem.W.subIn K (.ref C) (.type "BaseException") = some true)
    (tyC : PySem.W.typeIn K (.ref C) = some (.type "type")) (kC : PySem.W.keepIn K (.ref C) = true) : OexC K C := by
  refine ⟨?_, sa, exC, tyC, kC⟩
  unfold oexB at q
  split at q
  · rename_i dd cd sl ho
    split at q
    · rename_i C' bm k0 k1 k2 k3 n k5 hm hs
      obtain ⟨nm, bs, mro, ns, qn, hd, sn, sub, ab, col, del⟩ := cd
      obtain ⟨l⟩ := sl
      simp only [Bool.and_eq_true, beq_iff_eq, Bool.not_eq_true'] at q hm hs
      obtain ⟨⟨⟨⟨rfl, rfl⟩, rfl⟩, rfl⟩, ht⟩ := q
      subst hm hs
      exact ⟨nm, qn, ns, bs, bm, sn, sub, ab, col, dd, k0, k1, k2, k3, k5, ho, ht⟩
    · cases q
  · cases q
/-- such a class: its __init__, the defaults dvs behind the others -/
structure InX (K : PySem.W.Frag) (q : Str) (st : Stmt) (C : Addr) (ps : List Str) (dvs : List V) where
  f : Addr
  fd : FuncData
  FD : FunD K "__init__" q (defArgs st) (defBody st) (defScope st) dvs [] f fd
  T : OexC K C
  i : PySem.W.findIn K (.ref C) "__init__" = some (some (.ref f))
  t : PySem.W.typeIn K (.ref f) = some (.type "function")
/-- the same, of the class's object -/
def oexO (C : Addr) (o : Obj) : Bool := match o with
  | ⟨.type "type", _, .cls cd, sl⟩ => (match cd.mro, sl.toList with
    | .ref C' :: bm, [_, _, _, _, some (.builtin n), _] => C' == C && n == "ValueError.__new__" && !cd.hasDel && cd.hasDict && PySem.HandSPX.refsVE bm
    | _, _ => false)
  | _ => false
theorem oexB_of {K : PySem.W.Frag} {C : Addr} {o : Obj} (l : K.lookup C = some o) (h : oexO C o = true) : oexB K C = true := by
  unfold oexB
  rw [l]
  unfold oexO at h
  split at h
  · exact h
  · cases h
def inx_mk {K : PySem.W.Frag} {q : Str} {st : Stmt} {C : Addr} {ps : List Str} {dvs : List V} {f D : Addr} {oc : Value} {od an : Option Addr} {osl : Array (Option Value)} {kV doc pm cdv ct : Value} {o oC : Obj} {its : List Value} {n : Nat}
    (i : PySem.W.findIn K (.ref C) "__init__" = some (some (.ref f))) (lC : K.lookup C = some oC) (xC : oexO C oC = true) (sa : PySem.W.findIn K (.ref C) "__setattr__" = some (some (.builtin "object.__setattr__"))) (exC : PySem.W.subIn K (.ref C) (.type "BaseException") = some true)
    (tyC : PySem.W.typeIn K (.ref C) = some (.type "type")) (kC : PySem.W.keepIn K (.ref C) = true)
    (l : K.lookup f = some ⟨oc, od, .func (PySem.W.fnOf "__init__" q (defArgs st) (defBody st) (defScope st) (.ref D) kV doc pm an cdv ct), osl⟩) (c : PySem.W.codeIn K cdv q = true) (k : PySem.W.keepIn K (.ref f) = true) (t : PySem.W.typeIn K (.ref f) = some (.type "function"))
    (lT : K.lookup D = some o) (oT : o.data = .seq its.toArray n) (ne : dvs ≠ []) (r : Vals dvs its) : InX K q st C ps dvs :=
  ⟨f, _, ⟨⟨oc, od, .ref D, kV, doc, pm, an, cdv, ct, osl, rfl, l, c, .inr ⟨ne, D, o, its, n, rfl, lT, oT, r⟩, .inl rfl⟩, k⟩, oexC_mk (oexB_of lC xC) sa exC tyC kC, i, t⟩
section
variable {X : Cx} {e : Expr} {es : List Expr} {ta : TA} {p pos : Pos}
/-- C(e, ..) by C's own __init__: what is raised has no context -/
theorem pmk_oexN {CX : CXT} {x : Str} {C fI : Addr} {k : Nat} {fd : FuncData} {ps : List Str} {sp : Sp} {ds : List Value} {dvs : List V} (T : OexC X.K C) (iC : PySem.W.findIn X.K (.ref C) "__init__" = some (some (.ref fI))) (tI : PySem.W.typeIn X.K (.ref fI) = some (.type "function"))
    (F1 : FnOk X.prog X.w X.K X.mg X.base CX k fI fd ps sp) (hr : Room (k + 1) X.A) (hb : Binds X.K fd ps ds) (hd : Vals dvs ds) (hx : Passes CX X (fun _ _ _ => False)) (hg : Gl X x) (hm : X.mg x = some (.ref C)) (ha : PA X (e :: es) ta)
    (hdb : (x == ("__debug__" : Str)) = false := by decide) (he : starEach (e :: es) X.env = (false, eval e X.env) :: starEach es X.env := by rfl) (hpl : (backTo pos (starEach es X.env)).any (·.1) = false := by rfl) :
    L2N.PMk X (.Call (.Name x p) (e :: es) [] pos) (tMkO C sp dvs ta) := by
  intro pins s σ H Q I h
  obtain ⟨nm, q, N, bs, bm, sn, sub, ab, col, dd, k0, k1, k2, k3, k5, hC, hbm⟩ := T.cls
  refine wpAny_Call_Name_kw (ld_glob I hg hm ?_ hdb)
  refine PySem.W.callWith_K (h₀ := X.base) I.ok.mod.kin T.kC (thn (ha.run pos pins s σ H _ I h) fun us s1 ⟨vs, H1, I1, r1, hz, q1⟩ => ⟨I1.kIn, ?_⟩) he hpl
  show wpAny _ _ (call (.ref C) us) _ _ _
  obtain ⟨hp, g, dr, tk, os⟩ := s1
  let a : Addr := hp.objs.size + 1
  have le : hp.objs.size ≤ a := Nat.le_succ _
  have old : ∀ b o, hp.get? b = some o → ((hp.push (PySem.W.kdv_tup us)).push (PySem.HandSPX.excO C hp.objs.size)).get? b = some o := fun b o z => Heap.get?_push_of_some _ (Heap.get?_push_of_some _ z)
  have new : ((hp.push (PySem.W.kdv_tup us)).push (PySem.HandSPX.excO C hp.objs.size)).get? a = some (PySem.HandSPX.excO C hp.objs.size) := by show Heap.get? _ (hp.objs.size + 1) = _; heap_get
  have I2 := I1.laid (t' := tk) (a := a) (o := exo a C none) old le (exo_ok new)
  have hq := q1 a (I1.hok.fresh le)
  have r2 : Vals (V.ref a :: (vs ++ dvs)) (Value.ref a :: (us ++ ds)) := .cons rfl (r1.append hd)
  have len : (Value.ref a :: us ++ ds).length = ps.length := (r2.length.symm.trans (F1.len _ _ _ _ hq))
  have few : us.length ≤ sizeLine := by rw [← Paired.length r1, sizeLine_eq]; omega
  refine wpAny_call (PySem.HandSPX.call_own F.excBase_ValueError (fun Y => PySem.HandSPX.refsVE_contains Y bm hbm) (I1.kIn _ _ hC) (PySem.W.looks_findIn I1.kIn iC) (fun self => PySem.W.bind_fn I1.kIn self tI) few
    (codeAny_mono (F1.run _ X.stack _ _ ⟨Value.ref a :: us, []⟩ (Value.ref a :: (us ++ ds)) _ _ (fun _ _ _ => False) (hr.make C us []) (I2.env0.make C us []) (hb _ (Value.ref a :: us) I2.kIn len) r2 hq) fun r s' hq' => ?_))
  cases r with
  | error er => exact hx pins σ _ _ er s' I2 hq'
  | ok fl =>
    cases fl with
    | next => exact False.elim hq'
    | brk => exact False.elim hq'
    | cont => exact False.elim hq'
    | ret u =>
      obtain ⟨v, H2, os2, bare2, un2, hok2, rv, ev, d, fs, ea, ed, hd1, q2⟩ := hq'
      subst ev
      obtain ⟨h2, g2, d2, t2, os'⟩ := s'
      obtain ⟨t0, G, J, kG, ge, hoe, na⟩ := mk_end0 (d2 := d2) (t2 := t2) I1 le old un2 hok2 os2 bare2 ea ed hd1
      exact ⟨rv, a, _, _, ⟨G, g2, d2, t2, os'⟩, _, .ref C, some d, rfl, J, kG, ge, hoe, ⟨rfl, rfl, fun vs hv => by cases hv; rfl⟩, rfl, rfl, na, rfl, bare2, raises_own T.exC T.tyC, q2⟩
end
end My

/-! ### a def that is handed the exception that is handled -/
namespace My
open PySem PySem.Spec PyProof.Rows L2 L2H
/-- what such a def promises: a promise for each class of the exception, at its address -/
structure FnX (P : Program) (w : World) (K : PySem.W.Frag) (mg : Str → Option Value) (base : Heap) (CX : CXT) (k : Nat) (f : Addr) (fd : FuncData) (ps : List Str) (sp : Addr → Value → Option Addr → Sp) : Prop where
  len : ∀ a cls d vs H Q E, sp a cls d vs H Q E → vs.length = ps.length
  run : ∀ (A : Around) (outer : List Env) (s : Shared) (H : Hp) (args : Args) (us : List Value) (vs : List V) (Q : VK) (E : XK) (p : Addr × Obj) (cls : Value) (d : Option Addr), RoomH k A → Hot1 A p → Zc cls d p.2 → PinOk outer H s p → Env0 P w K mg base A outer s H → BindsTo s fd args (ps.zip us) → Vals vs us → sp p.1 cls d vs H Q E →
    codeAny (model P w) A (.call (.ref f) args) (CR CX outer P w H s Q E) s
/-- such a def by its body: the rule for a def called in a suite, at this one exception -/
theorem fnX_of {CX : CXT} {P : Program} {w : World} {K : PySem.W.Frag} {mg : Str → Option Value} {base : Heap} {k : Nat} {x qual : Str} {st : Stmt} {f : Addr} {fd : FuncData} {N ps : List Str} {sp : Addr → Value → Option Addr → Sp} (F : Fun K x qual st f fd) (S : FnScope N ps (defScope st))
    (len : ∀ a cls d vs H Q E, sp a cls d vs H Q E → vs.length = ps.length)
    (hbody : ∀ (cdv : Value) (A : Around) (outer : List Env) (s : Shared) (H : Hp) (vs : List V) (Q : VK) (E : XK) (p : Addr × Obj) (cls : Value) (d : Option Addr), Hot1 A p → Zc cls d p.2 → RoomH k (A.deeper (envOfC qual (defScope st) s.heap.objs.size f cdv)) → sp p.1 cls d vs H Q E →
      ∃ t, PSs (cxH CX P w K mg base N qual (defScope st) f cdv A outer s H E p) (defBody st) t ∧ t { nx := fun _ H' => Q .non H', rt := Q } (L2.start N vs) H) :
    FnX P w K mg base CX (k + 1) f fd ps sp := by
  obtain ⟨oc, od, kV, doc, pm, an, cdv, ct, osl, rfl, lk, hcd⟩ := F.ex
  refine ⟨len, fun A outer s H args us vs Q E p cls d hr hot hz hpin e0 hb r hsp => ?_⟩
  have hl := len _ _ _ _ _ _ _ hsp
  have KX : K.In s.heap := e0.mod.kin.keeps fun b o e => (e0.bs b o e).1
  have lim : s.heap.NoLimit := e0.mod.nolimit.keeps fun b o e => (e0.bs b o e).1
  have hkind : ∀ y ∈ ps.zip us, (defScope st).names.lookup y.1 = some .local ∨ ((defScope st).names.lookup y.1 = some .cell ∧ ((cellsFrom (s.heap.objs.size + 1) (defScope st).names []).lookup y.1).isSome = true) := fun ⟨n, v⟩ hy => by
    rcases S.par n (List.of_mem_zip hy).1 with q | q
    · exact .inl q
    · exact .inr ⟨q, PySem.W.cellsFrom_some _ _ _ (.inl q)⟩
  refine codeAny_call_function hr.depth (KX _ _ lk) rfl S.co S.gen rfl (PySem.W.codeRec_of KX hcd) (hb _ _ _ _ ?_)
  refine wpAny_newFunctionEnv_cells S.kind hkind fun env he s1 x => ?_
  subst he
  refine ⟨lim.keeps x.toInCall.keep, codeAny_func ?_⟩
  obtain ⟨t, ht, hq⟩ := hbody cdv A outer s H vs Q E p cls d hot hz (hr.deeper _) hsp
  have I : Inv (cxH CX P w K mg base N qual (defScope st) f cdv A outer s H E p) [] (L2.start N vs) H s1 := inv_startH S hpin e0 hl r x
  refine wpAny_mono (ht.run [] s1 (L2.start N vs) H _ I hq) (fun fl s' hs => ?_) fun e s' hs => hs
  cases fl with
  | ret u =>
    obtain ⟨v, σ', H', J, rv, q⟩ := hs
    exact ⟨v, H', J.os, J.bare, J.base, J.hok, rv, q⟩
  | next =>
    obtain ⟨σ', H', J, q⟩ := hs
    exact ⟨V.non, H', J.os, J.bare, J.base, J.hok, rfl, q⟩
  | brk =>
    obtain ⟨_, _, _, q⟩ := hs
    exact False.elim q
  | cont =>
    obtain ⟨_, _, _, q⟩ := hs
    exact False.elim q
section
variable {X : Cx} {CX : CXT} {k : Nat} {f a : Addr} {fd : FuncData} {ps : List Str} {sp : Addr → Value → Option Addr → Sp} {E : L2.St → XK} {x : Str} {q pos : Pos} {e : Expr} {es : List Expr} {t : TA} {oe : Obj} {cls : Value} {d : Option Addr} {pn : List (Addr × Obj)}
/-- its call in the suite -/
theorem pe_callX (F : FnX X.prog X.w X.K X.mg X.base CX k f fd ps sp) (hr : Room k X.A) (hz : L2N.Zn cls d oe) (hf : ∃ vs, oe.data = .fields vs) (hg : Gl (X.suite a ((a, oe) :: pn)) x) (hm : X.mg x = some (.ref f)) (hk : PySem.W.keepIn X.K (.ref f) = true) (hb : Binds X.K fd ps []) (hx : ∀ σ, PassesAt CX (X.suite a ((a, oe) :: pn)) σ (E σ))
    (ha : PA (X.suite a ((a, oe) :: pn)) (e :: es) t) (hdb : (x == ("__debug__" : Str)) = false := by decide) (he : starEach (e :: es) X.env = (false, eval e X.env) :: starEach es X.env := by rfl) (hpl : (backTo pos (starEach es X.env)).any (·.1) = false := by rfl) :
    PE (X.suite a ((a, oe) :: pn)) (.Call (.Name x q) (e :: es) [] pos) (tCallS (sp a cls d) E t) := by
  refine ⟨fun pins s σ H Q I h => ?_⟩
  refine wpAny_Call_Name_kw (ld_glob I hg hm ?_ hdb)
  refine PySem.W.callWith_K (h₀ := X.base) I.ok.mod.kin hk (thn (ha.run pos pins s σ H _ I h) fun us s1 ⟨vs, H1, I1, r, q⟩ => ⟨I1.kIn, ?_⟩) he hpl
  have hl : us.length = ps.length := by rw [← r.length]; exact F.len _ _ _ _ _ _ _ q
  have b := hb s1 us I1.kIn (by rw [List.append_nil]; exact hl)
  rw [List.append_nil] at b
  have P1 := I1.pin (a, oe) (List.mem_append.mpr (.inl List.mem_cons_self))
  have hpin : PinOk (X.suite a ((a, oe) :: pn)).stack H1 s1 (a, oe) := ⟨P1.1, P1.2.1, fun hm => (List.mem_cons.mp (I1.stkSub a hm)).elim P1.2.2.1 P1.2.2.2.1, P1.2.2.2.2⟩
  obtain ⟨vs', e1⟩ := hf
  refine wpAny_call (codeAny_mono (F.run (X.suite a ((a, oe) :: pn)).A (X.suite a ((a, oe) :: pn)).stack s1 H1 ⟨us, []⟩ us vs Q (E σ) (a, oe) cls d ⟨hr.dp, hr.un⟩ ⟨rfl, vs', e1, hz.2.2 vs' e1⟩ hz.zc hpin I1.env0 b r q) fun r s' hq => ?_)
  cases r with
  | error e => exact hx σ pins H1 s1 e s' I1 hq
  | ok fl =>
    cases fl with
    | ret u => exact I1.after hq
    | next => exact False.elim hq
    | brk => exact False.elim hq
    | cont => exact False.elim hq
/-- isinstance(e, c) in such a def -/
theorem call_isXd {X : Cx} {p : Addr × Obj} {cls : Value} {d : Option Addr} (hp : p ∈ X.pn) (hz : Zc cls d p.2) (hf : ∃ vs : Array Value, p.2.data = .fields vs ∧ vs[2]? = some .none) : CallR X (.builtin "isinstance") (rIsX X.K cls d p.1) := by
  intro pins s σ H xs us Q I r h
  obtain ⟨D, c, cv, b, rfl, rfl, C, rfl, hcv, e, q⟩ := h
  cases r with
  | cons rx rr =>
    cases rr with
    | cons rt rr =>
      cases rr
      cases rx
      have ec := hcv _ rt
      subst ec
      obtain ⟨hget, _⟩ := I.pin p (List.mem_append.mpr (.inl hp))
      obtain ⟨vs, hv, _⟩ := hf
      have J : PySem.W.InstAt s.heap p.1 p.2 D none := by
        obtain ⟨p1, oc, od, oda, osl⟩ := p
        obtain ⟨h1, h2⟩ := hz
        dsimp only at h1 h2 hv hget ⊢
        subst h1 h2 hv
        exact ⟨hget, rfl, rfl, trivial⟩
      exact PySem.W.kia_one (PySem.W.handS_kitx_exc C.hg C.hk C.hs C.hd C.ha C.hn C.ht C.hm) I.kIn J e (fun z => nomatch z) fun tk => ⟨.bl b, H, I.kept (t' := tk) fun _ _ z => z, rfl, q⟩
end
end My

/-! ### isinstance of the exception that is handled, whether it has fields of its own or none -/
namespace My
open PySem PySem.Spec PyProof.Rows L2 L2H
/-- its own dict, if it has one -/
def DctAt (d : Option Addr) (H : Hp) : Prop := ∀ dd, d = some dd → ∃ fs, H dd = some (.xd fs)
theorem DctAt.same {d : Option Addr} {H H' : Hp} (h : DctAt d H) (s : Same H H') : DctAt d H' := fun dd e => let ⟨fs, q⟩ := h dd e; ⟨fs, s _ _ q⟩
theorem DctAt.non {H : Hp} : DctAt none H := fun dd e => by cases e
def rIsXe (K : PySem.W.Frag) (cls : Value) (d : Option Addr) (a : Addr) : List V → Hp → VK → Prop := fun xs H Q => ∃ (D : Addr) (c : V) (cv : Value) (b : Bool), cls = .ref D ∧ DctAt d H ∧ ExcC K D ∧ xs = [.ref a, c] ∧ (∀ u, RelV c u → u = cv) ∧ PySem.W.kitOne K (.ref D) cv = some b ∧ Q (.bl b) H
theorem excC_cls {K : PySem.W.Frag} {D : Addr} (C : ExcC K D) : (PySem.W.clsIn K D).isSome = true := by
  have := C.hd
  unfold PySem.W.hasDictIn at this
  cases q : PySem.W.clsIn K D with
  | none => rw [q] at this; cases this
  | some c => rfl
theorem call_isXe {X : Cx} {p : Addr × Obj} {cls : Value} {d : Option Addr} (hp : p ∈ X.pn) (hz : Zc cls d p.2) (hf : ∃ vs : Array Value, p.2.data = .fields vs ∧ vs[2]? = some .none) : CallR X (.builtin "isinstance") (rIsXe X.K cls d p.1) := by
  intro pins s σ H xs us Q I r h
  obtain ⟨D, c, cv, b, rfl, hd, C, rfl, hcv, e, q⟩ := h
  cases r with
  | cons rx rr =>
    cases rr with
    | cons rt rr =>
      cases rr
      cases rx
      have ec := hcv _ rt
      subst ec
      obtain ⟨hget, _⟩ := I.pin p (List.mem_append.mpr (.inl hp))
      obtain ⟨vs, hv, _⟩ := hf
      have no : PySem.W.notCls p.2 = true := by unfold PySem.W.notCls; rw [hv] <;> rfl
      have J : ∃ od, PySem.W.InstAt s.heap p.1 p.2 D od := by
        cases d with
        | none => exact ⟨none, hget, hz.1, no, by rw [hz.2]; trivial⟩
        | some dd =>
          obtain ⟨fs, hx⟩ := hd dd rfl
          have hx : ObjOk X.prog X.w H s.heap dd (.xd fs) := I.hok dd _ hx
          obtain ⟨mA, hns, hr⟩ := hx
          obtain ⟨od, ho, hl⟩ := lookIn_ns hns
          exact ⟨some od, hget, hz.1, no, by rw [hz.2]; exact ho⟩
      obtain ⟨od, J⟩ := J
      exact PySem.W.kia_one (PySem.W.kitx_exc (excC_cls C) C.hg C.hk C.hs C.ha C.hn C.ht C.hm) I.kIn J e (fun z => nomatch z) fun tk => ⟨.bl b, H, I.kept (t' := tk) fun _ _ z => z, rfl, q⟩
/-- an own class's two answers by the chains -/
structure Xt (K : PySem.W.Frag) (D : Addr) : Prop where
  E : ExcC K D
theorem Xt.kitX {K : PySem.W.Frag} {mg : Str → Option Value} {x : Str} {D : Addr} {b : Bool} (d : Xt K D) (e : Ex K mg x) (s : PySem.W.subIn K (.ref D) (.ref D) = some true) (h : PySem.W.subIn K (.ref D) (.ref e.C) = some b) : PySem.W.kitOne K (.ref D) (.ref e.C) = some b := by
  unfold PySem.W.kitOne
  split
  · next q =>
    have z : (Value.ref D) = .ref e.C := beq_iff_eq.mp q
    rw [← z, s] at h
    cases h
    rfl
  · exact e.kcls h
theorem Xt.kitC {K : PySem.W.Frag} {mg : Str → Option Value} {x : Str} {D : Addr} {b : Bool} (d : Xt K D) (e : Ec K mg x) (s : PySem.W.subIn K (.ref D) (.ref D) = some true) (h : PySem.W.subIn K (.ref D) (.ref e.C) = some b) : PySem.W.kitOne K (.ref D) (.ref e.C) = some b := by
  unfold PySem.W.kitOne
  split
  · next q =>
    have z : (Value.ref D) = .ref e.C := beq_iff_eq.mp q
    rw [← z, s] at h
    cases h
    rfl
  · have e2 : ((PySem.W.clsIn K e.C).isSome && PySem.W.typeIn K (.ref e.C) == some (.type "type")) = true := by
      have := e.d
      unfold PySem.W.hasDictIn at this
      cases q : PySem.W.clsIn K e.C with
      | none => rw [q] at this; cases this
      | some c => rw [e.t] <;> rfl
    show (if ((PySem.W.clsIn K e.C).isSome && PySem.W.typeIn K (.ref e.C) == some (.type "type")) = true then PySem.W.subIn K (.ref D) (.ref e.C) else none) = some b
    rw [if_pos e2]
    exact h
theorem xt_mk {K : PySem.W.Frag} {D : Addr} (y1 : PySem.W.findIn K (.ref D) "__getattribute__" = some (some (.builtin "BaseException.__getattribute__"))) (y2 : PySem.W.findIn K (.ref D) "__getattr__" = some none) (x3 : PySem.W.subIn K (.ref D) (.type "BaseException") = some true) (y3 : PySem.W.hasDictIn K D = true) (y4 : PySem.W.findIn K (.ref D) "__class__" = some (some (.builtin "object.__class__")))
    (y5 : PySem.W.specialIn K (.builtin "object.__class__") "__get__" = some (some (.builtin "getset_descriptor.__get__"))) (y6 : PySem.W.takesIn K (.builtin "object.__class__") = some true) (y7 : PySem.W.mroIn K D (.type "object") = some true) : Xt K D := ⟨⟨y1, y2, x3, y3, y4, y5, y6, y7⟩⟩
end My

/-! ### isinstance of the exception in its own except suite, with or without fields -/
namespace My
open PySem PySem.Spec PyProof.Rows L2 L2H
theorem call_isXs {X : Cx} {a : Addr} {cls : Value} {d : Option Addr} {oe : Obj} {pn : List (Addr × Obj)} (hz : L2N.Zn cls d oe) (hf : ∃ vs, oe.data = .fields vs) : CallR (X.suite a ((a, oe) :: pn)) (.builtin "isinstance") (rIsXe X.K cls d a) := by
  obtain ⟨vs, hv⟩ := hf
  exact call_isXe (X := X.suite a ((a, oe) :: pn)) (p := (a, oe)) (show (a, oe) ∈ (a, oe) :: pn from List.mem_cons_self) hz.zc ⟨vs, hv, hz.2.2 vs hv⟩
theorem kit_exT {K : PySem.W.Frag} {C : Addr} {b : Bool} {n : String} (h : PySem.W.subIn K (.ref C) (.type n) = some b) (m : PySem.W.kitMeta n = true := by decide +kernel) : PySem.W.kitOne K (.ref C) (.type n) = some b := by
  unfold PySem.W.kitOne
  split
  · next q =>
    have z : (Value.ref C) = .type n := beq_iff_eq.mp q
    cases z
  · show (if PySem.W.kitMeta n = true then PySem.W.subIn K (.ref C) (.type n) else none) = some b
    rw [if_pos m]
    exact h
end My

/-! ### a plain thing != [] -/
namespace PySem.SeqAt
open MeetsSeq MeetsSeq2 MeetsSeq3
theorem my_list_ne_declines_dict (l b : Addr) (items : Array Value) (n : Nat) (dd : Option Addr) (sl : Array (Option Value)) (o : Obj) (ho : o.cls = .type "dict") :
    Meets (Builtin.«list.__ne__» ⟨[.ref l, .ref b], []⟩) (fun _ R s => s.heap.get? l = some { cls := .type "list", dict := dd, data := .seq items n, slots := sl } ∧ s.heap.get? b = some o ∧ R (.ok (.ret .notImplemented)) s) :=
  .of_wp fun prog w A R s h => by obtain ⟨hp, g, d, tk, os⟩ := s; obtain ⟨hl, hb, h⟩ := h; obtain ⟨cls, dd2, data2, sl2⟩ := o; subst ho; have f1 := F.sub_dict_list; wp_walk using _root_.PySem.AutoSeq1.wpAny_loadPart' hl, _root_.PySem.AutoSeq1.wpAny_loadPart' hb; exact ⟨_, rfl, h⟩
theorem my_dict_ne_declines {M : Unit} {prog : Program} {w : World} {A : Around} {E Q : Value → Shared → Prop} {s : Shared} {a b : Addr} (da : s.TypeIs (.ref a) "dict") (tb : s.TypeIs (.ref b) "list") (h : Q .notImplemented s) :
    wpAny (model prog w) A (call (.builtin "dict.__ne__") [.ref a, .ref b]) Q E s := by
  refine wpAny_call_entry PySem.F.slot_dict_ne da PySem.F.entry_dict_ne ?_ (PySem.F.args_dict_ne_2 _ _)
  show wpAny _ _ (Builtin.Dict.dictSlotArgs "__ne__" ⟨[.ref a, .ref b], []⟩ >>= _) _ _ s
  refine wpAny_bind ?_
  unfold Builtin.Dict.dictSlotArgs
  refine wpAny_bind (wpAny_notOrdered_dict da ?_)
  show wpAny _ _ (pure (Value.ref a, Value.ref b)) _ _ s
  refine wpAny_pure ?_
  refine wpAny_bind (wpAny_isInstance (T := "list") tb PySem.F.sub_list_dict ?_)
  simp only [Bool.not_false, if_true]
  exact wpAny_bind (wpAny_rule (wpAny_pure ⟨_, rfl, h⟩))
theorem RcNeAt.my_dict_list {A : Around} {s : Shared} {l b : Addr} {o : Obj} {items2 : Array Value} (ho : s.heap.get? l = some o) (oc : o.cls = .type "dict") (hb : s.heap.IsList b items2) (hu : A.units < cLine) : RcNeAt A s (.ref l) (.ref b) true := fun prog w E Q h => by
  obtain ⟨⟨cls2, dd2, data2, sl2⟩, ho2, hc2, n2, hd2⟩ := id hb
  simp only at hc2 hd2
  subst hc2 hd2
  have hne : l ≠ b := fun e => by subst e; rw [ho] at ho2; cases ho2; exact absurd oc (by simp)
  exact (rc_ne_decline_or (k := false) ⟨_, ho, oc⟩ ⟨_, ho2, rfl⟩ (by decide) F.sub_list_dict F.slot_dict_ne F.slot_list_ne_refl
    (fun _ hq => my_dict_ne_declines (M := ()) ⟨_, ho, oc⟩ ⟨_, ho2, rfl⟩ hq)
    (fun _ hq => call_meets F.slot_list_ne_refl ⟨_, ho2, rfl⟩ F.entry_list_ne (F.args_list_ne_2 _ _) (my_list_ne_declines_dict b l items2 n2 dd2 sl2 o oc) ⟨ho2, ho, hq⟩)
    (fun _ hq => wpAny_isSame_ref_other' hne ho ho2 (by simp) hq) (.inr hu) h)
end PySem.SeqAt
namespace My
open PySem PySem.Spec PyProof.Rows L2
def rNe0 (K : PySem.W.Frag) : R2 := fun x y H Q => ∃ b, y = .ref b ∧ SqL K H b [] ∧ ((∃ ty, Ty7 H x ty ∧ ty ≠ "list" ∧ Q (.bl true) H) ∨ ∃ a xs, x = .ref a ∧ SqL K H a xs ∧ Q (.bl (!xs.isEmpty)) H)
theorem op_ne0 {X : Cx} (hu : X.A.units + 64 < cLine) : OpR X (compareOp .NotEq) (rNe0 X.K) := by
  intro pins s σ H x y v u Q I rx ry h
  obtain ⟨b, rfl, hb, h⟩ := h
  cases (show u = Value.ref b from ry)
  obtain ⟨ws, r2, p2, _⟩ := I.list hb
  have h1 : X.A.units < cLine := by omega
  cases r2
  rcases h with ⟨ty, h7, n, q⟩ | ⟨a, xs, rfl, ha, q⟩
  · suffices hh : SeqAt.RcNeAt X.A s v (.ref b) true from hh _ _ _ _ ⟨.bl true, H, I, rfl, q⟩
    cases h7 with
    | non => cases (show v = Value.none from rx); exact (SeqAt.RcNeAt.none_list p2.isList h1)
    | bl t => cases (show v = Value.bool t from rx); exact (SeqAt.RcNeAt.bool_list t p2.isList h1)
    | int i => obtain ⟨tk, rfl⟩ := (show ∃ tk, v = Value.int i tk from rx); exact (SeqAt.RcNeAt.int_list i tk p2.isList h1)
    | str i => obtain ⟨tk, rfl⟩ := (show ∃ tk, v = Value.str i tk from rx); exact (SeqAt.RcNeAt.str_list i tk p2.isList h1)
    | lst g => exact absurd rfl n
    | @tup c zs g =>
      cases (show v = Value.ref c from rx)
      obtain ⟨us, r1, p1, _⟩ := I.tuple (sqT g)
      exact (SeqAt.RcNeAt.tuple_list p1 p2.isList h1)
    | @dK c kvs g =>
      cases (show v = Value.ref c from rx)
      obtain ⟨_, _, vs, _, d⟩ := I.hok _ _ g
      obtain ⟨o, ho, oc⟩ := d.typeIs
      exact (SeqAt.RcNeAt.my_dict_list ho oc p2.isList h1)
  · cases (show v = Value.ref a from rx)
    obtain ⟨us, r1, p1, _⟩ := I.list ha
    cases xs with
    | nil =>
      cases r1
      have k := SeqAt.RcNeAt.lists (e := fun _ => true) p1.isList p2.isList rfl h1 (fun j h1 h2 => absurd h1 (Nat.not_lt_zero j))
      exact k _ _ _ _ ⟨.bl false, H, I, rfl, q⟩
    | cons x xs =>
      cases r1 with
      | cons a1 b1 =>
        have k := SeqAt.RcNeAt.lists_lengths p1.isList p2.isList (by simp) h1
        exact k _ _ _ _ ⟨.bl true, H, I, rfl, q⟩
theorem op_ne0K {X : Cx} {K : PySem.W.Frag} (hu : X.A.units + 64 < cLine) (h : X.K = K) : OpR X (compareOp .NotEq) (rNe0 K) := by subst h; exact op_ne0 hu
end My

/-! ### things of any kind: asked by isinstance, sought in a tuple of texts -/
namespace PySem.SeqAt
open MeetsSeq MeetsSeq2 MeetsSeq3
theorem my_str_eq_declines_dict (b : Str) (u : Tok) (l : Addr) (o : Obj) (ho : o.cls = .type "dict") (hp : ∀ z, o.data ≠ .prim z) :
    Meets (Builtin.«str.__eq__» ⟨[.str b u, .ref l], []⟩) (fun _ R s => s.heap.get? l = some o ∧ R (.ok (.ret .notImplemented)) s) :=
  .of_wp fun prog w A R s h => by obtain ⟨hpp, g, d, tk, os⟩ := s; obtain ⟨hl, h⟩ := h; obtain ⟨cls, dd2, data2, sl2⟩ := o; subst ho; have f1 := F.sub_dict_str; cases data2 <;> first | exact absurd rfl (hp _) | (wp_walk using _root_.PySem.AutoSeq1.wpAny_loadPart' hl; exact ⟨_, rfl, h⟩)
theorem my_dict_eq_declines {M : Unit} {prog : Program} {w : World} {A : Around} {E Q : Value → Shared → Prop} {s : Shared} {a : Addr} {b : Str} {u : Tok} (da : s.TypeIs (.ref a) "dict") (h : Q .notImplemented s) :
    wpAny (model prog w) A (call (.builtin "dict.__eq__") [.ref a, .str b u]) Q E s := by
  refine wpAny_call_entry PySem.F.slot_dict_eq_refl da PySem.F.entry_dict_eq ?_ (PySem.F.args_dict_eq_2 _ _)
  show wpAny _ _ (Builtin.Dict.dictSlotArgs "__eq__" ⟨[.ref a, .str b u], []⟩ >>= _) _ _ s
  refine wpAny_bind ?_
  unfold Builtin.Dict.dictSlotArgs
  refine wpAny_bind (wpAny_notOrdered_dict da ?_)
  show wpAny _ _ (pure (Value.ref a, Value.str b u)) _ _ s
  refine wpAny_pure ?_
  refine wpAny_bind (wpAny_isInstance (T := "str") (typeIs_str s b u) PySem.F.sub_str_dict ?_)
  simp only [Bool.not_false, if_true]
  exact wpAny_bind (wpAny_rule (wpAny_pure ⟨_, rfl, h⟩))
theorem RcAt.my_str_dict {A : Around} {s : Shared} {l : Addr} {o : Obj} (b : Str) (u : Tok) (ho : s.heap.get? l = some o) (oc : o.cls = .type "dict") (hp : ∀ z, o.data ≠ .prim z) (hu : A.units < cLine) : RcAt A s (.str b u) (.ref l) false := fun prog w E Q h => by
  exact rc_eq_decline_or (k := false) (typeIs_str s b u) ⟨_, ho, oc⟩ (by decide) F.sub_dict_str F.slot_str_eq F.slot_dict_eq_refl
    (fun _ hq => call_meets F.slot_str_eq (typeIs_str s b u) F.entry_str_eq (F.args_str_eq_2 _ _) (my_str_eq_declines_dict b u l o oc hp) ⟨ho, hq⟩)
    (fun _ hq => my_dict_eq_declines (M := ()) ⟨_, ho, oc⟩ hq)
    (fun _ hq => wpAny_of_eq (rfl : isSame (.str b u) (.ref l) = pure false) hq) (.inr hu) h
theorem EqAt.my_str_dict {A : Around} {s : Shared} {l : Addr} {o : Obj} (b : Str) (u : Tok) (ho : s.heap.get? l = some o) (oc : o.cls = .type "dict") (hp : ∀ z, o.data ≠ .prim z) (hu : A.units < cLine) : EqAt A s (.str b u) (.ref l) false := fun prog w E Q h => by
  unfold eqBool
  refine wpAny_holding ?_
  refine wpAny_ite_split (fun hab => absurd (eq_of_beq hab) nofun) (fun _ => ?_)
  exact wpAny_bind (RcAt.my_str_dict b u ho oc hp hu prog w E _ (wpAny_truthy_bool h))
end PySem.SeqAt
namespace My
open PySem PySem.Spec PyProof.Rows L2
/-! #### instances among plain things -/
theorem kit_ownT {K : PySem.W.Frag} {C : Addr} {b : Bool} {n : String} (h : PySem.W.subIn K (.ref C) (.type n) = some b) (m : PySem.W.kitMeta n = true := by decide +kernel) : PySem.W.kitOne K (.ref C) (.type n) = some b := by
  unfold PySem.W.kitOne
  split
  · next q =>
    have z : (Value.ref C) = .type n := beq_iff_eq.mp q
    cases z
  · show (if PySem.W.kitMeta n = true then PySem.W.subIn K (.ref C) (.type n) else none) = some b
    rw [if_pos m]
    exact h
/-- what isinstance asks of the own class C: it is none of the builtin ones -/
structure Pl (K : PySem.W.Frag) (C : Addr) : Prop where
  cl : Cls K C
  ha : PySem.W.findIn K (.ref C) "__class__" = some (some (.builtin "object.__class__"))
  hn : PySem.W.specialIn K (.builtin "object.__class__") "__get__" = some (some (.builtin "getset_descriptor.__get__"))
  ht : PySem.W.takesIn K (.builtin "object.__class__") = some true
  hm : PySem.W.mroIn K C (.type "object") = some true
  ki : PySem.W.kitOne K (.ref C) (.type "int") = some false
  kb : PySem.W.kitOne K (.ref C) (.type "bool") = some false
  ks : PySem.W.kitOne K (.ref C) (.type "str") = some false
  kt : PySem.W.kitOne K (.ref C) (.type "tuple") = some false
  kl : PySem.W.kitOne K (.ref C) (.type "list") = some false
inductive Ty8 (K : PySem.W.Frag) (H : Hp) : V → String → Prop
  | of {x : V} {t : String} (h : Ty7 H x t) : Ty8 K H x t
  | ins {a C dx : Addr} {fs : List (Str × V)} (h : H a = some (.ins C dx fs)) (p : Pl K C) : Ty8 K H (.ref a) "object"
section
variable {K : PySem.W.Frag} {H H' : Hp} {x : V} {t : String}
theorem Ty8.same (h : Ty8 K H x t) (s : Same H H') : Ty8 K H' x t := by
  cases h with
  | of h => exact .of (h.mono s)
  | ins h p => exact .ins (s _ _ h) p
def rIs8 (K : PySem.W.Frag) (T : String) (ans : V → String → Bool) : List V → Hp → VK → Prop := fun xs H Q => ∃ x t, xs = [x, .ty T] ∧ Ty8 K H x t ∧ Q (.bl (ans x t)) H
theorem call_isTy8 {X : Cx} (hK : X.K = K) (T : String) (ans : V → String → Bool) (h : ∀ H x t, Ty7 H x t → kitB t T = some (ans x t)) (h2 : ∀ a C, Pl K C → PySem.W.kitOne K (.ref C) (.type T) = some (ans (.ref a) "object")) : CallR X (.builtin "isinstance") (rIs8 K T ans) := by
  subst hK
  exact callR_imp call_isi fun _ H Q ⟨x, t, e, ht, q⟩ => by
    cases ht with
    | of ht => exact ⟨x, _, _, _, _, e, .ty _, ht.tx, kit_ty (h H x t ht), q⟩
    | ins hg p => exact ⟨_, _, _, _, _, e, .ty _, .base (.ins hg p.cl p.ha p.hn p.ht p.hm), h2 _ _ p, q⟩
end
section
variable {X : Cx} {K : PySem.W.Frag} (hK : X.K = K)
include hK
theorem is_list8 : CallR X (.builtin "isinstance") (rIs8 K "list" fun _ t => decide (t = "list")) := call_isTy8 hK _ _ (fun _ _ _ h => h.kl) fun _ _ p => p.kl
theorem is_tuple8 : CallR X (.builtin "isinstance") (rIs8 K "tuple" fun _ t => decide (t = "tuple")) := call_isTy8 hK _ _ (fun _ _ _ h => h.kt) fun _ _ p => p.kt
theorem is_str8 : CallR X (.builtin "isinstance") (rIs8 K "str" fun _ t => decide (t = "str")) := call_isTy8 hK _ _ (fun _ _ _ h => h.ks) fun _ _ p => p.ks
theorem is_int8 : CallR X (.builtin "isinstance") (rIs8 K "int" fun x _ => isI x || isB x) := call_isTy8 hK _ _ (fun _ _ _ h => h.ki) fun _ _ p => p.ki
theorem is_bool8 : CallR X (.builtin "isinstance") (rIs8 K "bool" fun x _ => isB x) := call_isTy8 hK _ _ (fun _ _ _ h => h.kb) fun _ _ p => p.kb
end
def rIsT8 (K : PySem.W.Frag) : List V → Hp → VK → Prop := fun xs H Q => ∃ x, xs = [x, .ty "tuple"] ∧ ((∃ t, Ty8 K H x t ∧ Q (.bl (decide (t = "tuple"))) H) ∨ ∃ (a : Addr) (ys : List V), x = .ref a ∧ SqT K H a ys ∧ Q (.bl true) H)
theorem is_tuple9 {X : Cx} {K : PySem.W.Frag} (hK : X.K = K) : CallR X (.builtin "isinstance") (rIsT8 K) := by
  intro pins s σ H xs us Q I r h
  obtain ⟨x, rfl, ⟨t, h8, q⟩ | ⟨a, ys, rfl, hs, q⟩⟩ := h
  · exact is_tuple8 hK pins s σ H _ us Q I r ⟨x, t, rfl, h8, q⟩
  · exact call_isTupK hK pins s σ H _ us Q I r (.inr ⟨a, ys, rfl, hs, q⟩)
/-! #### sought in a tuple of texts -/
def isSt (ts : List Str) : V → Bool
  | .str s => decide (s ∈ ts)
  | _ => false
def rIn7 (K : PySem.W.Frag) (neg : Bool) : R2 := fun x y H Q => ∃ (p : Addr) (ts : List Str) (t : String), y = .ref p ∧ SqT K H p (ts.map V.str) ∧ Ty7 H x t ∧ Q (.bl (if neg = true then !(isSt ts x) else isSt ts x)) H
def eqS7 (u : Value) (x : V) : Bool :=
  match u, x with
  | .str s _, .str s' => s == s'
  | _, _ => false
theorem any_eqS7 {x : V} : ∀ {ts : List Str} {us : List Value}, Vals (ts.map V.str) us → us.any (fun u => eqS7 u x) = isSt ts x
  | [], _, .nil => by cases x <;> rfl
  | t :: ts, _, .cons r v => by
    obtain ⟨tk, rfl⟩ := (show ∃ tk, _ = Value.str t tk from r)
    rw [List.any_cons, any_eqS7 v]
    cases x with
    | str s =>
      show ((t == s) || decide (s ∈ ts)) = decide (s ∈ t :: ts)
      by_cases e : t = s
      · subst e; simp
      · rw [show (t == s) = false from beq_false_of_ne e]
        rw [Bool.false_or]; exact decide_eq_decide.mpr ⟨fun m => List.mem_cons_of_mem _ m, fun m => (List.mem_cons.mp m).elim (fun z => absurd z.symm e) id⟩
    | _ => rfl
theorem eq_at7 {X : Cx} {A : Around} {pins : List (Addr × Obj)} {σ : L2.St} {H : Hp} {s : Shared} {x : V} {v : Value} {t : String} (h1 : A.units < cLine) (I : Inv X pins σ H s) (rx : RelV x v) (h7 : Ty7 H x t) : ∀ {ts : List Str} {us : List Value}, Vals (ts.map V.str) us → ∀ u ∈ us, SeqAt.EqAt A s u v (eqS7 u x)
  | [], _, .nil, u, m => by cases m
  | z :: ts, _, .cons r vv, u, m => by
    rcases List.mem_cons.mp m with rfl | m
    · obtain ⟨tk, rfl⟩ := (show ∃ tk, u = Value.str z tk from r)
      cases h7 with
      | non => cases (show v = Value.none from rx); exact SeqAt.EqAt.str_none _ _
      | bl b => cases (show v = Value.bool b from rx); exact SeqAt.EqAt.str_bool _ _ _
      | int i => obtain ⟨tk', rfl⟩ := (show ∃ tk, v = Value.int i tk from rx); exact SeqAt.EqAt.str_int _ _ _ _
      | str i => obtain ⟨tk', rfl⟩ := (show ∃ tk, v = Value.str i tk from rx); exact SeqAt.EqAt.str_str _ _ _ _
      | lst g =>
        cases (show v = Value.ref _ from rx)
        obtain ⟨us, r1, p1, _⟩ := I.list (sqL g)
        exact SeqAt.EqAt.str_list _ _ p1.isList h1
      | tup g =>
        cases (show v = Value.ref _ from rx)
        obtain ⟨us, r1, p1, _⟩ := I.tuple (sqT g)
        exact SeqAt.EqAt.str_tuple _ _ p1 h1
      | dK g =>
        cases (show v = Value.ref _ from rx)
        obtain ⟨_, _, vs, _, d⟩ := I.hok _ _ g
        obtain ⟨o, es, ep, ho, hx, hdt, _⟩ := id d
        exact SeqAt.EqAt.my_str_dict _ _ ho hx.1 (fun z e => by rw [hdt] at e; cases e) h1
    · exact eq_at7 h1 I rx h7 vv u m
theorem op_in7 {X : Cx} {K : PySem.W.Frag} (hu : X.A.units + 64 < cLine) (hK : X.K = K) : OpR X (compareOp .In) (rIn7 K false) := by
  subst hK
  intro pins s σ H x y v u Q I rx ry h
  obtain ⟨p, ts, t, rfl, hq, h7, q⟩ := h
  cases ry
  obtain ⟨its, r, pl, hz⟩ := I.tuple hq
  refine SeqAt.in_tupleAt (fun w => eqS7 w x) pl (fun w hw => eq_at7 (show X.A.units + 1 < cLine by omega) I rx h7 r w (by simpa using hw)) ⟨.bl _, H, I, rfl, ?_⟩
  rw [show its.toArray.any (fun w => eqS7 w x) = its.any (fun w => eqS7 w x) by simp, any_eqS7 r]
  exact q
theorem op_notIn7 {X : Cx} {K : PySem.W.Frag} (hu : X.A.units + 64 < cLine) (hK : X.K = K) : OpR X (compareOp .NotIn) (rIn7 K true) := by
  subst hK
  intro pins s σ H x y v u Q I rx ry h
  obtain ⟨p, ts, t, rfl, hq, h7, q⟩ := h
  cases ry
  obtain ⟨its, r, pl, hz⟩ := I.tuple hq
  refine SeqAt.notIn_tupleAt (fun w => eqS7 w x) pl (fun w hw => eq_at7 (show X.A.units + 1 < cLine by omega) I rx h7 r w (by simpa using hw)) ⟨.bl _, H, I, rfl, ?_⟩
  rw [show its.toArray.any (fun w => eqS7 w x) = its.any (fun w => eqS7 w x) by simp, any_eqS7 r]
  exact q
end My

namespace My
open PySem PySem.Spec PyProof.Rows L2
def top (i : Nat) : Stmt := PySem.Challenge.pw_nestlaid_k19_boxes_refused.main.body.getD i (.Pass ⟨0, 0, 0, 0⟩)
abbrev s_NoText_init : Stmt := inClass (top 4) 0
abbrev N_NoText_init : List Str := ["self", "why", "line"]
theorem sc_NoText_init : FnScope N_NoText_init ["self", "why", "line"] (defScope s_NoText_init) := ⟨rfl, rfl, rfl, by decide +kernel, rfl, by decide +kernel, by decide +kernel⟩
abbrev s_is_whole : Stmt := top 17
abbrev N_is_whole : List Str := ["thing"]
theorem sc_is_whole : FnScope N_is_whole ["thing"] (defScope s_is_whole) := ⟨rfl, rfl, rfl, by decide +kernel, rfl, by decide +kernel, by decide +kernel⟩
abbrev s_is_count : Stmt := top 21
abbrev N_is_count : List Str := ["thing"]
theorem sc_is_count : FnScope N_is_count ["thing"] (defScope s_is_count) := ⟨rfl, rfl, rfl, by decide +kernel, rfl, by decide +kernel, by decide +kernel⟩
abbrev s_is_name : Stmt := top 22
abbrev N_is_name : List Str := ["thing", "sign"]
theorem sc_is_name : FnScope N_is_name ["thing"] (defScope s_is_name) := ⟨rfl, rfl, rfl, by decide +kernel, rfl, by decide +kernel, by decide +kernel⟩
abbrev s_is_share : Stmt := top 24
abbrev N_is_share : List Str := ["track"]
theorem sc_is_share : FnScope N_is_share ["track"] (defScope s_is_share) := ⟨rfl, rfl, rfl, by decide +kernel, rfl, by decide +kernel, by decide +kernel⟩
abbrev s_is_track : Stmt := top 25
abbrev N_is_track : List Str := ["thing"]
theorem sc_is_track : FnScope N_is_track ["thing"] (defScope s_is_track) := ⟨rfl, rfl, rfl, by decide +kernel, rfl, by decide +kernel, by decide +kernel⟩
abbrev s_are_tracks : Stmt := top 26
abbrev N_are_tracks : List Str := ["thing", "track"]
theorem sc_are_tracks : FnScope N_are_tracks ["thing"] (defScope s_are_tracks) := ⟨rfl, rfl, rfl, by decide +kernel, rfl, by decide +kernel, by decide +kernel⟩
abbrev s_is_stretch : Stmt := top 27
abbrev N_is_stretch : List Str := ["first", "many", "count"]
theorem sc_is_stretch : FnScope N_is_stretch ["first", "many", "count"] (defScope s_is_stretch) := ⟨rfl, rfl, rfl, by decide +kernel, rfl, by decide +kernel, by decide +kernel⟩
abbrev s_is_spot : Stmt := top 28
abbrev N_is_spot : List Str := ["thing", "columns", "rows"]
theorem sc_is_spot : FnScope N_is_spot ["thing", "columns", "rows"] (defScope s_is_spot) := ⟨rfl, rfl, rfl, by decide +kernel, rfl, by decide +kernel, by decide +kernel⟩
abbrev s_apart : Stmt := top 29
abbrev N_apart : List Str := ["one", "other", "aside"]
theorem sc_apart : FnScope N_apart ["one", "other"] (defScope s_apart) := ⟨rfl, rfl, rfl, by decide +kernel, rfl, by decide +kernel, by decide +kernel⟩
abbrev s_may_stand : Stmt := top 30
abbrev N_may_stand : List Str := ["spot", "spots", "columns", "rows", "one"]
theorem sc_may_stand : FnScope N_may_stand ["spot", "spots", "columns", "rows"] (defScope s_may_stand) := ⟨rfl, rfl, rfl, by decide +kernel, rfl, by decide +kernel, by decide +kernel⟩
abbrev s_are_spots : Stmt := top 31
abbrev N_are_spots : List Str := ["thing", "many", "columns", "rows", "at", "spot"]
theorem sc_are_spots : FnScope N_are_spots ["thing", "many", "columns", "rows"] (defScope s_are_spots) := ⟨rfl, rfl, rfl, by decide +kernel, rfl, by decide +kernel, by decide +kernel⟩
abbrev s_is_part : Stmt := top 36
abbrev N_is_part : List Str := ["size"]
theorem sc_is_part : FnScope N_is_part ["size"] (defScope s_is_part) := ⟨rfl, rfl, rfl, by decide +kernel, rfl, by decide +kernel, by decide +kernel⟩
abbrev s_is_tie : Stmt := top 37
abbrev N_is_tie : List Str := ["size"]
theorem sc_is_tie : FnScope N_is_tie ["size"] (defScope s_is_tie) := ⟨rfl, rfl, rfl, by decide +kernel, rfl, by decide +kernel, by decide +kernel⟩
abbrev s_is_size : Stmt := top 38
abbrev N_is_size : List Str := ["thing"]
theorem sc_is_size : FnScope N_is_size ["thing"] (defScope s_is_size) := ⟨rfl, rfl, rfl, by decide +kernel, rfl, by decide +kernel, by decide +kernel⟩
abbrev s_is_bound : Stmt := top 39
abbrev N_is_bound : List Str := ["thing"]
theorem sc_is_bound : FnScope N_is_bound ["thing"] (defScope s_is_bound) := ⟨rfl, rfl, rfl, by decide +kernel, rfl, by decide +kernel, by decide +kernel⟩
abbrev s_is_rims : Stmt := top 40
abbrev N_is_rims : List Str := ["thing", "rim"]
theorem sc_is_rims : FnScope N_is_rims ["thing"] (defScope s_is_rims) := ⟨rfl, rfl, rfl, by decide +kernel, rfl, by decide +kernel, by decide +kernel⟩
abbrev s_Style_init : Stmt := inClass (top 41) 0
abbrev N_Style_init : List Str := ["self", "wide", "high", "least_wide", "least_high", "most_wide", "most_high", "grow", "shrink", "rims", "stand", "sizes", "bounds", "one"]
theorem sc_Style_init : FnScope N_Style_init ["self", "wide", "high", "least_wide", "least_high", "most_wide", "most_high", "grow", "shrink", "rims", "stand"] (defScope s_Style_init) := ⟨rfl, rfl, rfl, by decide +kernel, rfl, by decide +kernel, by decide +kernel⟩
abbrev s_checked_name : Stmt := top 46
abbrev N_checked_name : List Str := ["name"]
theorem sc_checked_name : FnScope N_checked_name ["name"] (defScope s_checked_name) := ⟨rfl, rfl, rfl, by decide +kernel, rfl, by decide +kernel, by decide +kernel⟩
abbrev s_checked_style : Stmt := top 47
abbrev N_checked_style : List Str := ["style"]
theorem sc_checked_style : FnScope N_checked_style ["style"] (defScope s_checked_style) := ⟨rfl, rfl, rfl, by decide +kernel, rfl, by decide +kernel, by decide +kernel⟩
abbrev s_checked_boxes : Stmt := top 48
abbrev N_checked_boxes : List Str := ["boxes", "box"]
theorem sc_checked_boxes : FnScope N_checked_boxes ["boxes"] (defScope s_checked_boxes) := ⟨rfl, rfl, rfl, by decide +kernel, rfl, by decide +kernel, by decide +kernel⟩
abbrev s_checked_gap : Stmt := top 49
abbrev N_checked_gap : List Str := ["gap"]
theorem sc_checked_gap : FnScope N_checked_gap ["gap"] (defScope s_checked_gap) := ⟨rfl, rfl, rfl, by decide +kernel, rfl, by decide +kernel, by decide +kernel⟩
abbrev s_checked_pack : Stmt := top 50
abbrev N_checked_pack : List Str := ["pack"]
theorem sc_checked_pack : FnScope N_checked_pack ["pack"] (defScope s_checked_pack) := ⟨rfl, rfl, rfl, by decide +kernel, rfl, by decide +kernel, by decide +kernel⟩
abbrev s_checked_stands : Stmt := top 51
abbrev N_checked_stands : List Str := ["stands"]
theorem sc_checked_stands : FnScope N_checked_stands ["stands"] (defScope s_checked_stands) := ⟨rfl, rfl, rfl, by decide +kernel, rfl, by decide +kernel, by decide +kernel⟩
abbrev s_Words_init : Stmt := inClass (top 53) 0
abbrev N_Words_init : List Str := ["self", "name", "text", "style"]
theorem sc_Words_init : FnScope N_Words_init ["self", "name", "text", "style"] (defScope s_Words_init) := ⟨rfl, rfl, rfl, by decide +kernel, rfl, by decide +kernel, by decide +kernel⟩
abbrev s_Picture_init : Stmt := inClass (top 54) 0
abbrev N_Picture_init : List Str := ["self", "name", "across", "down", "style", "size"]
theorem sc_Picture_init : FnScope N_Picture_init ["self", "name", "across", "down", "style"] (defScope s_Picture_init) := ⟨rfl, rfl, rfl, by decide +kernel, rfl, by decide +kernel, by decide +kernel⟩
abbrev s_Row_init : Stmt := inClass (top 55) 0
abbrev N_Row_init : List Str := ["self", "name", "boxes", "turn", "gap", "lane", "pack", "stands", "style"]
theorem sc_Row_init : FnScope N_Row_init ["self", "name", "boxes", "turn", "gap", "lane", "pack", "stands", "style"] (defScope s_Row_init) := ⟨rfl, rfl, rfl, by decide +kernel, rfl, by decide +kernel, by decide +kernel⟩
abbrev s_Pile_init : Stmt := inClass (top 56) 0
abbrev N_Pile_init : List Str := ["self", "name", "boxes", "gap", "pack", "stands", "style"]
theorem sc_Pile_init : FnScope N_Pile_init ["self", "name", "boxes", "gap", "pack", "stands", "style"] (defScope s_Pile_init) := ⟨rfl, rfl, rfl, by decide +kernel, rfl, by decide +kernel, by decide +kernel⟩
abbrev s_Grid_init : Stmt := inClass (top 57) 0
abbrev N_Grid_init : List Str := ["self", "name", "boxes", "spots", "columns", "rows", "gap", "lane", "stands", "style"]
theorem sc_Grid_init : FnScope N_Grid_init ["self", "name", "boxes", "spots", "columns", "rows", "gap", "lane", "stands", "style"] (defScope s_Grid_init) := ⟨rfl, rfl, rfl, by decide +kernel, rfl, by decide +kernel, by decide +kernel⟩
abbrev s_w_cell_at : Stmt := top 59
abbrev N_w_cell_at : List Str := ["_law_script", "_law_k"]
theorem sc_w_cell_at : FnScope N_w_cell_at ["_law_script", "_law_k"] (defScope s_w_cell_at) := ⟨rfl, rfl, rfl, by decide +kernel, rfl, by decide +kernel, by decide +kernel⟩
abbrev s_w_mixed : Stmt := top 60
abbrev N_w_mixed : List Str := ["_law_cell", "_law_k", "_law_number_here"]
theorem sc_w_mixed : FnScope N_w_mixed ["_law_cell", "_law_k"] (defScope s_w_mixed) := ⟨rfl, rfl, rfl, by decide +kernel, rfl, by decide +kernel, by decide +kernel⟩
abbrev s_w_source : Stmt := top 61
abbrev N_w_source : List Str := ["_law_cell"]
theorem sc_w_source : FnScope N_w_source ["_law_cell"] (defScope s_w_source) := ⟨rfl, rfl, rfl, by decide +kernel, rfl, by decide +kernel, by decide +kernel⟩
abbrev s_w_next : Stmt := top 62
abbrev N_w_next : List Str := ["_law_source_here", "_law_many", "_law_found_here"]
theorem sc_w_next : FnScope N_w_next ["_law_source_here", "_law_many"] (defScope s_w_next) := ⟨rfl, rfl, rfl, by decide +kernel, rfl, by decide +kernel, by decide +kernel⟩
abbrev s_w_letters : Stmt := top 63
abbrev N_w_letters : List Str := ["_law_source_here", "_law_many", "_law_letters_here", "_law_k"]
theorem sc_w_letters : FnScope N_w_letters ["_law_source_here", "_law_many"] (defScope s_w_letters) := ⟨rfl, rfl, rfl, by decide +kernel, rfl, by decide +kernel, by decide +kernel⟩
abbrev s_w_number : Stmt := top 64
abbrev N_w_number : List Str := ["_law_source_here"]
theorem sc_w_number : FnScope N_w_number ["_law_source_here"] (defScope s_w_number) := ⟨rfl, rfl, rfl, by decide +kernel, rfl, by decide +kernel, by decide +kernel⟩
abbrev s_w_bad_name : Stmt := top 65
abbrev N_w_bad_name : List Str := ["_law_source_here", "_law_some", "_law_many", "_law_at", "_law_word", "_law_spoilt", "_law_ways"]
theorem sc_w_bad_name : FnScope N_w_bad_name ["_law_source_here"] (defScope s_w_bad_name) := ⟨rfl, rfl, rfl, by decide +kernel, rfl, by decide +kernel, by decide +kernel⟩
abbrev s_w_bad_number : Stmt := top 66
abbrev N_w_bad_number : List Str := ["_law_source_here", "_law_least", "_law_some"]
theorem sc_w_bad_number : FnScope N_w_bad_number ["_law_source_here", "_law_least"] (defScope s_w_bad_number) := ⟨rfl, rfl, rfl, by decide +kernel, rfl, by decide +kernel, by decide +kernel⟩
abbrev s_w_bad_boxes : Stmt := top 67
abbrev N_w_bad_boxes : List Str := ["_law_source_here", "_law_good_here", "_law_other", "_law_at", "_law_some"]
theorem sc_w_bad_boxes : FnScope N_w_bad_boxes ["_law_source_here", "_law_good_here"] (defScope s_w_bad_boxes) := ⟨rfl, rfl, rfl, by decide +kernel, rfl, by decide +kernel, by decide +kernel⟩
abbrev s_w_bad_word : Stmt := top 68
abbrev N_w_bad_word : List Str := ["_law_source_here", "_law_words", "_law_word", "_law_some"]
theorem sc_w_bad_word : FnScope N_w_bad_word ["_law_source_here", "_law_words"] (defScope s_w_bad_word) := ⟨rfl, rfl, rfl, by decide +kernel, rfl, by decide +kernel, by decide +kernel⟩
abbrev s_w_bad_tracks : Stmt := top 69
abbrev N_w_bad_tracks : List Str := ["_law_source_here", "_law_good_here", "_law_at", "_law_other", "_law_one"]
theorem sc_w_bad_tracks : FnScope N_w_bad_tracks ["_law_source_here", "_law_good_here"] (defScope s_w_bad_tracks) := ⟨rfl, rfl, rfl, by decide +kernel, rfl, by decide +kernel, by decide +kernel⟩
abbrev s_w_bad_spots : Stmt := top 70
abbrev N_w_bad_spots : List Str := ["_law_source_here", "_law_good_here", "_law_bad_here"]
theorem sc_w_bad_spots : FnScope N_w_bad_spots ["_law_source_here", "_law_good_here"] (defScope s_w_bad_spots) := ⟨rfl, rfl, rfl, by decide +kernel, rfl, by decide +kernel, by decide +kernel⟩
abbrev s_w_bad : Stmt := top 71
abbrev N_w_bad : List Str := ["_law_source_here", "_law_sort", "_law_good_here"]
theorem sc_w_bad : FnScope N_w_bad ["_law_source_here", "_law_sort", "_law_good_here"] (defScope s_w_bad) := ⟨rfl, rfl, rfl, by decide +kernel, rfl, by decide +kernel, by decide +kernel⟩
abbrev s_w_sorts : Stmt := top 72
abbrev N_w_sorts : List Str := ["_law_kind"]
theorem sc_w_sorts : FnScope N_w_sorts ["_law_kind"] (defScope s_w_sorts) := ⟨rfl, rfl, rfl, by decide +kernel, rfl, by decide +kernel, by decide +kernel⟩
abbrev s_w_good : Stmt := top 73
abbrev N_w_good : List Str := ["_law_source_here", "_law_sort", "_law_count", "_law_many", "_law_k"]
theorem sc_w_good : FnScope N_w_good ["_law_source_here", "_law_sort", "_law_count"] (defScope s_w_good) := ⟨rfl, rfl, rfl, by decide +kernel, rfl, by decide +kernel, by decide +kernel⟩
abbrev s_w_made : Stmt := top 74
abbrev N_w_made : List Str := ["_law_kind", "_law_values"]
theorem sc_w_made : FnScope N_w_made ["_law_kind", "_law_values"] (defScope s_w_made) := ⟨rfl, rfl, rfl, by decide +kernel, rfl, by decide +kernel, by decide +kernel⟩
abbrev s_w_told : Stmt := top 75
abbrev N_w_told : List Str := ["_law_e", "_law_found_here"]
theorem sc_w_told : FnScope N_w_told ["_law_e"] (defScope s_w_told) := ⟨rfl, rfl, rfl, by decide +kernel, rfl, by decide +kernel, by decide +kernel⟩
abbrev s_w_found : Stmt := top 76
abbrev N_w_found : List Str := ["_law_kind", "_law_values", "_law_e"]
theorem sc_w_found : FnScope N_w_found ["_law_kind", "_law_values"] (defScope s_w_found) := ⟨rfl, rfl, rfl, by decide +kernel, rfl, by decide +kernel, by decide +kernel⟩
abbrev s_w_due : Stmt := top 77
abbrev N_w_due : List Str := ["_law_kind", "_law_values", "_law_chosen", "_law_sort"]
theorem sc_w_due : FnScope N_w_due ["_law_kind", "_law_values", "_law_chosen"] (defScope s_w_due) := ⟨rfl, rfl, rfl, by decide +kernel, rfl, by decide +kernel, by decide +kernel⟩
abbrev s_law : Stmt := top 78
abbrev N_law : List Str := ["_law_script", "_law_k", "_law_source_here", "_law_kind", "_law_sorts_here", "_law_count", "_law_chosen", "_law_good_here", "_law_values", "_law_at", "_law_due_here", "_law_j", "_law_sort"]
theorem sc_law : FnScope N_law ["_law_script"] (defScope s_law) := ⟨rfl, rfl, rfl, by decide +kernel, rfl, by decide +kernel, by decide +kernel⟩
structure Tx (w : World) (K : PySem.W.Frag) (mg : Str → Option Value) where
  U_NO_RIMS : Addr
  U_SIDES : Addr
  U_STANDS : Addr
  U_PACKS : Addr
  U_LETTERS : Value
  U_LONGEST : Value
  c_Style : Cl K mg "Style"
  n_Style_wide : PySem.W.findIn K (.ref c_Style.C) "wide" = some none
  n_Style_high : PySem.W.findIn K (.ref c_Style.C) "high" = some none
  n_Style_least_wide : PySem.W.findIn K (.ref c_Style.C) "least_wide" = some none
  n_Style_least_high : PySem.W.findIn K (.ref c_Style.C) "least_high" = some none
  n_Style_most_wide : PySem.W.findIn K (.ref c_Style.C) "most_wide" = some none
  n_Style_most_high : PySem.W.findIn K (.ref c_Style.C) "most_high" = some none
  n_Style_grow : PySem.W.findIn K (.ref c_Style.C) "grow" = some none
  n_Style_shrink : PySem.W.findIn K (.ref c_Style.C) "shrink" = some none
  n_Style_rims : PySem.W.findIn K (.ref c_Style.C) "rims" = some none
  n_Style_stand : PySem.W.findIn K (.ref c_Style.C) "stand" = some none
  c_Box : Cl K mg "Box"
  c_Words : Cl K mg "Words"
  n_Words_name : PySem.W.findIn K (.ref c_Words.C) "name" = some none
  n_Words_text : PySem.W.findIn K (.ref c_Words.C) "text" = some none
  n_Words_style : PySem.W.findIn K (.ref c_Words.C) "style" = some none
  c_Picture : Cl K mg "Picture"
  n_Picture_name : PySem.W.findIn K (.ref c_Picture.C) "name" = some none
  n_Picture_across : PySem.W.findIn K (.ref c_Picture.C) "across" = some none
  n_Picture_down : PySem.W.findIn K (.ref c_Picture.C) "down" = some none
  n_Picture_style : PySem.W.findIn K (.ref c_Picture.C) "style" = some none
  c_Row : Cl K mg "Row"
  n_Row_name : PySem.W.findIn K (.ref c_Row.C) "name" = some none
  n_Row_boxes : PySem.W.findIn K (.ref c_Row.C) "boxes" = some none
  n_Row_turn : PySem.W.findIn K (.ref c_Row.C) "turn" = some none
  n_Row_gap : PySem.W.findIn K (.ref c_Row.C) "gap" = some none
  n_Row_lane : PySem.W.findIn K (.ref c_Row.C) "lane" = some none
  n_Row_pack : PySem.W.findIn K (.ref c_Row.C) "pack" = some none
  n_Row_stands : PySem.W.findIn K (.ref c_Row.C) "stands" = some none
  n_Row_style : PySem.W.findIn K (.ref c_Row.C) "style" = some none
  c_Pile : Cl K mg "Pile"
  n_Pile_name : PySem.W.findIn K (.ref c_Pile.C) "name" = some none
  n_Pile_boxes : PySem.W.findIn K (.ref c_Pile.C) "boxes" = some none
  n_Pile_gap : PySem.W.findIn K (.ref c_Pile.C) "gap" = some none
  n_Pile_pack : PySem.W.findIn K (.ref c_Pile.C) "pack" = some none
  n_Pile_stands : PySem.W.findIn K (.ref c_Pile.C) "stands" = some none
  n_Pile_style : PySem.W.findIn K (.ref c_Pile.C) "style" = some none
  c_Grid : Cl K mg "Grid"
  n_Grid_name : PySem.W.findIn K (.ref c_Grid.C) "name" = some none
  n_Grid_boxes : PySem.W.findIn K (.ref c_Grid.C) "boxes" = some none
  n_Grid_columns : PySem.W.findIn K (.ref c_Grid.C) "columns" = some none
  n_Grid_rows : PySem.W.findIn K (.ref c_Grid.C) "rows" = some none
  n_Grid_spots : PySem.W.findIn K (.ref c_Grid.C) "spots" = some none
  n_Grid_gap : PySem.W.findIn K (.ref c_Grid.C) "gap" = some none
  n_Grid_lane : PySem.W.findIn K (.ref c_Grid.C) "lane" = some none
  n_Grid_stands : PySem.W.findIn K (.ref c_Grid.C) "stands" = some none
  n_Grid_style : PySem.W.findIn K (.ref c_Grid.C) "style" = some none
  d_is_whole : Df K mg "is_whole" s_is_whole ["thing"]
  d_is_count : Df K mg "is_count" s_is_count ["thing"]
  d_is_name : Df K mg "is_name" s_is_name ["thing"]
  d_is_share : Df K mg "is_share" s_is_share ["track"]
  d_is_track : Df K mg "is_track" s_is_track ["thing"]
  d_are_tracks : Df K mg "are_tracks" s_are_tracks ["thing"]
  d_is_stretch : Df K mg "is_stretch" s_is_stretch ["first", "many", "count"]
  d_is_spot : Df K mg "is_spot" s_is_spot ["thing", "columns", "rows"]
  d_apart : Df K mg "apart" s_apart ["one", "other"]
  d_may_stand : Df K mg "may_stand" s_may_stand ["spot", "spots", "columns", "rows"]
  d_are_spots : Df K mg "are_spots" s_are_spots ["thing", "many", "columns", "rows"]
  d_is_part : Df K mg "is_part" s_is_part ["size"]
  d_is_tie : Df K mg "is_tie" s_is_tie ["size"]
  d_is_size : Df K mg "is_size" s_is_size ["thing"]
  d_is_bound : Df K mg "is_bound" s_is_bound ["thing"]
  d_is_rims : Df K mg "is_rims" s_is_rims ["thing"]
  d_Style_init : Ini K "Style.__init__" s_Style_init c_Style.C [("wide", .non), ("high", .non), ("least_wide", .non), ("least_high", .non), ("most_wide", .non), ("most_high", .non), ("grow", .int 0), ("shrink", .int 1), ("rims", .ref U_NO_RIMS), ("stand", .non)]
  d_checked_name : Df K mg "checked_name" s_checked_name ["name"]
  d_checked_style : Df K mg "checked_style" s_checked_style ["style"]
  d_checked_boxes : Df K mg "checked_boxes" s_checked_boxes ["boxes"]
  d_checked_gap : Df K mg "checked_gap" s_checked_gap ["gap"]
  d_checked_pack : Df K mg "checked_pack" s_checked_pack ["pack"]
  d_checked_stands : Df K mg "checked_stands" s_checked_stands ["stands"]
  d_Words_init : Ini K "Words.__init__" s_Words_init c_Words.C [("style", .non)]
  d_Picture_init : Ini K "Picture.__init__" s_Picture_init c_Picture.C [("style", .non)]
  d_Row_init : Ini K "Row.__init__" s_Row_init c_Row.C [("turn", .bl false), ("gap", .int 0), ("lane", .int 0), ("pack", .str (Str.ofString "start")), ("stands", .str (Str.ofString "stretch")), ("style", .non)]
  d_Pile_init : Ini K "Pile.__init__" s_Pile_init c_Pile.C [("gap", .int 0), ("pack", .str (Str.ofString "start")), ("stands", .str (Str.ofString "stretch")), ("style", .non)]
  d_Grid_init : Ini K "Grid.__init__" s_Grid_init c_Grid.C [("gap", .int 0), ("lane", .int 0), ("stands", .str (Str.ofString "stretch")), ("style", .non)]
  d_w_cell_at : Df K mg "_law_cell_at" s_w_cell_at ["_law_script", "_law_k"]
  d_w_mixed : Df K mg "_law_mixed" s_w_mixed ["_law_cell", "_law_k"]
  d_w_source : Df K mg "_law_source" s_w_source ["_law_cell"]
  d_w_next : Df K mg "_law_next" s_w_next ["_law_source_here", "_law_many"]
  d_w_letters : Df K mg "_law_letters" s_w_letters ["_law_source_here", "_law_many"]
  d_w_number : Df K mg "_law_number" s_w_number ["_law_source_here"]
  d_w_bad_name : Df K mg "_law_bad_name" s_w_bad_name ["_law_source_here"]
  d_w_bad_number : Df K mg "_law_bad_number" s_w_bad_number ["_law_source_here", "_law_least"]
  d_w_bad_boxes : Df K mg "_law_bad_boxes" s_w_bad_boxes ["_law_source_here", "_law_good_here"]
  d_w_bad_word : Df K mg "_law_bad_word" s_w_bad_word ["_law_source_here", "_law_words"]
  d_w_bad_tracks : Df K mg "_law_bad_tracks" s_w_bad_tracks ["_law_source_here", "_law_good_here"]
  d_w_bad_spots : Df K mg "_law_bad_spots" s_w_bad_spots ["_law_source_here", "_law_good_here"]
  d_w_bad : Df K mg "_law_bad" s_w_bad ["_law_source_here", "_law_sort", "_law_good_here"]
  d_w_sorts : Df K mg "_law_sorts" s_w_sorts ["_law_kind"]
  d_w_good : Df K mg "_law_good" s_w_good ["_law_source_here", "_law_sort", "_law_count"]
  d_w_made : Df K mg "_law_made" s_w_made ["_law_kind", "_law_values"]
  d_w_told : Df K mg "_law_told" s_w_told ["_law_e"]
  d_w_found : Df K mg "_law_found" s_w_found ["_law_kind", "_law_values"]
  d_w_due : Df K mg "_law_due" s_w_due ["_law_kind", "_law_values", "_law_chosen"]
  d_law : Df K mg "law" s_law ["_law_script"]
  b_ValueError : mg "ValueError" = none
  b_all : mg "all" = none
  b_bool : mg "bool" = none
  b_enumerate : mg "enumerate" = none
  b_int : mg "int" = none
  b_isinstance : mg "isinstance" = none
  b_len : mg "len" = none
  b_list : mg "list" = none
  b_max : mg "max" = none
  b_min : mg "min" = none
  b_range : mg "range" = none
  b_str : mg "str" = none
  b_tuple : mg "tuple" = none
  v_SIDES : mg "SIDES" = some (.ref U_SIDES)
  v_STANDS : mg "STANDS" = some (.ref U_STANDS)
  v_PACKS : mg "PACKS" = some (.ref U_PACKS)
  v_LETTERS : mg "LETTERS" = some (U_LETTERS)
  v_LONGEST : mg "LONGEST" = some (U_LONGEST)
  t_NO_RIMS : ∀ H, SqT K H U_NO_RIMS [.int 0, .int 0, .int 0, .int 0]
  t_SIDES : ∀ H, SqT K H U_SIDES [.str (Str.ofString "wide"), .str (Str.ofString "tall")]
  t_STANDS : ∀ H, SqT K H U_STANDS [.str (Str.ofString "start"), .str (Str.ofString "end"), .str (Str.ofString "middle"), .str (Str.ofString "stretch"), .str (Str.ofString "base")]
  t_PACKS : ∀ H, SqT K H U_PACKS [.str (Str.ofString "start"), .str (Str.ofString "end"), .str (Str.ofString "middle"), .str (Str.ofString "between")]
  r_LETTERS : RelV (.str (Str.ofString "abcdefghijklmnopqrstuvwxyz")) U_LETTERS
  r_LONGEST : RelV (.int 8) U_LONGEST
  e_NestError : Ex K mg "NestError"
  e_NoName : Ex K mg "NoName"
  e_NoNumber : Ex K mg "NoNumber"
  e_NoBox : Ex K mg "NoBox"
  e_NoTruth : Ex K mg "NoTruth"
  e_NoPack : Ex K mg "NoPack"
  e_NoStand : Ex K mg "NoStand"
  e_NoTrack : Ex K mg "NoTrack"
  e_NoSpot : Ex K mg "NoSpot"
  e_NoStyle : Ex K mg "NoStyle"
  e_NoText : Ec K mg "NoText"
  e_NoTree : Ec K mg "NoTree"
  e_NoWords : Ec K mg "NoWords"
  e_NoPlace : Ec K mg "NoPlace"
  r_NoName : PySem.W.subIn K (.ref e_NoName.C) (.ref e_NestError.C) = some true
  v_NoName : PySem.W.subIn K (.ref e_NoName.C) (.type "ValueError") = some true
  i_NoName_NoName : PySem.W.subIn K (.ref e_NoName.C) (.ref e_NoName.C) = some true
  i_NoName_NoNumber : PySem.W.subIn K (.ref e_NoName.C) (.ref e_NoNumber.C) = some false
  i_NoName_NoBox : PySem.W.subIn K (.ref e_NoName.C) (.ref e_NoBox.C) = some false
  i_NoName_NoTruth : PySem.W.subIn K (.ref e_NoName.C) (.ref e_NoTruth.C) = some false
  i_NoName_NoPack : PySem.W.subIn K (.ref e_NoName.C) (.ref e_NoPack.C) = some false
  i_NoName_NoStand : PySem.W.subIn K (.ref e_NoName.C) (.ref e_NoStand.C) = some false
  i_NoName_NoTrack : PySem.W.subIn K (.ref e_NoName.C) (.ref e_NoTrack.C) = some false
  i_NoName_NoSpot : PySem.W.subIn K (.ref e_NoName.C) (.ref e_NoSpot.C) = some false
  i_NoName_NoStyle : PySem.W.subIn K (.ref e_NoName.C) (.ref e_NoStyle.C) = some false
  i_NoName_NoText : PySem.W.subIn K (.ref e_NoName.C) (.ref e_NoText.C) = some false
  i_NoName_NoTree : PySem.W.subIn K (.ref e_NoName.C) (.ref e_NoTree.C) = some false
  i_NoName_NoWords : PySem.W.subIn K (.ref e_NoName.C) (.ref e_NoWords.C) = some false
  i_NoName_NoPlace : PySem.W.subIn K (.ref e_NoName.C) (.ref e_NoPlace.C) = some false
  r_NoNumber : PySem.W.subIn K (.ref e_NoNumber.C) (.ref e_NestError.C) = some true
  v_NoNumber : PySem.W.subIn K (.ref e_NoNumber.C) (.type "ValueError") = some true
  i_NoNumber_NoName : PySem.W.subIn K (.ref e_NoNumber.C) (.ref e_NoName.C) = some false
  i_NoNumber_NoNumber : PySem.W.subIn K (.ref e_NoNumber.C) (.ref e_NoNumber.C) = some true
  i_NoNumber_NoBox : PySem.W.subIn K (.ref e_NoNumber.C) (.ref e_NoBox.C) = some false
  i_NoNumber_NoTruth : PySem.W.subIn K (.ref e_NoNumber.C) (.ref e_NoTruth.C) = some false
  i_NoNumber_NoPack : PySem.W.subIn K (.ref e_NoNumber.C) (.ref e_NoPack.C) = some false
  i_NoNumber_NoStand : PySem.W.subIn K (.ref e_NoNumber.C) (.ref e_NoStand.C) = some false
  i_NoNumber_NoTrack : PySem.W.subIn K (.ref e_NoNumber.C) (.ref e_NoTrack.C) = some false
  i_NoNumber_NoSpot : PySem.W.subIn K (.ref e_NoNumber.C) (.ref e_NoSpot.C) = some false
  i_NoNumber_NoStyle : PySem.W.subIn K (.ref e_NoNumber.C) (.ref e_NoStyle.C) = some false
  i_NoNumber_NoText : PySem.W.subIn K (.ref e_NoNumber.C) (.ref e_NoText.C) = some false
  i_NoNumber_NoTree : PySem.W.subIn K (.ref e_NoNumber.C) (.ref e_NoTree.C) = some false
  i_NoNumber_NoWords : PySem.W.subIn K (.ref e_NoNumber.C) (.ref e_NoWords.C) = some false
  i_NoNumber_NoPlace : PySem.W.subIn K (.ref e_NoNumber.C) (.ref e_NoPlace.C) = some false
  r_NoBox : PySem.W.subIn K (.ref e_NoBox.C) (.ref e_NestError.C) = some true
  v_NoBox : PySem.W.subIn K (.ref e_NoBox.C) (.type "ValueError") = some true
  i_NoBox_NoName : PySem.W.subIn K (.ref e_NoBox.C) (.ref e_NoName.C) = some false
  i_NoBox_NoNumber : PySem.W.subIn K (.ref e_NoBox.C) (.ref e_NoNumber.C) = some false
  i_NoBox_NoBox : PySem.W.subIn K (.ref e_NoBox.C) (.ref e_NoBox.C) = some true
  i_NoBox_NoTruth : PySem.W.subIn K (.ref e_NoBox.C) (.ref e_NoTruth.C) = some false
  i_NoBox_NoPack : PySem.W.subIn K (.ref e_NoBox.C) (.ref e_NoPack.C) = some false
  i_NoBox_NoStand : PySem.W.subIn K (.ref e_NoBox.C) (.ref e_NoStand.C) = some false
  i_NoBox_NoTrack : PySem.W.subIn K (.ref e_NoBox.C) (.ref e_NoTrack.C) = some false
  i_NoBox_NoSpot : PySem.W.subIn K (.ref e_NoBox.C) (.ref e_NoSpot.C) = some false
  i_NoBox_NoStyle : PySem.W.subIn K (.ref e_NoBox.C) (.ref e_NoStyle.C) = some false
  i_NoBox_NoText : PySem.W.subIn K (.ref e_NoBox.C) (.ref e_NoText.C) = some false
  i_NoBox_NoTree : PySem.W.subIn K (.ref e_NoBox.C) (.ref e_NoTree.C) = some false
  i_NoBox_NoWords : PySem.W.subIn K (.ref e_NoBox.C) (.ref e_NoWords.C) = some false
  i_NoBox_NoPlace : PySem.W.subIn K (.ref e_NoBox.C) (.ref e_NoPlace.C) = some false
  r_NoTruth : PySem.W.subIn K (.ref e_NoTruth.C) (.ref e_NestError.C) = some true
  v_NoTruth : PySem.W.subIn K (.ref e_NoTruth.C) (.type "ValueError") = some true
  i_NoTruth_NoName : PySem.W.subIn K (.ref e_NoTruth.C) (.ref e_NoName.C) = some false
  i_NoTruth_NoNumber : PySem.W.subIn K (.ref e_NoTruth.C) (.ref e_NoNumber.C) = some false
  i_NoTruth_NoBox : PySem.W.subIn K (.ref e_NoTruth.C) (.ref e_NoBox.C) = some false
  i_NoTruth_NoTruth : PySem.W.subIn K (.ref e_NoTruth.C) (.ref e_NoTruth.C) = some true
  i_NoTruth_NoPack : PySem.W.subIn K (.ref e_NoTruth.C) (.ref e_NoPack.C) = some false
  i_NoTruth_NoStand : PySem.W.subIn K (.ref e_NoTruth.C) (.ref e_NoStand.C) = some false
  i_NoTruth_NoTrack : PySem.W.subIn K (.ref e_NoTruth.C) (.ref e_NoTrack.C) = some false
  i_NoTruth_NoSpot : PySem.W.subIn K (.ref e_NoTruth.C) (.ref e_NoSpot.C) = some false
  i_NoTruth_NoStyle : PySem.W.subIn K (.ref e_NoTruth.C) (.ref e_NoStyle.C) = some false
  i_NoTruth_NoText : PySem.W.subIn K (.ref e_NoTruth.C) (.ref e_NoText.C) = some false
  i_NoTruth_NoTree : PySem.W.subIn K (.ref e_NoTruth.C) (.ref e_NoTree.C) = some false
  i_NoTruth_NoWords : PySem.W.subIn K (.ref e_NoTruth.C) (.ref e_NoWords.C) = some false
  i_NoTruth_NoPlace : PySem.W.subIn K (.ref e_NoTruth.C) (.ref e_NoPlace.C) = some false
  r_NoPack : PySem.W.subIn K (.ref e_NoPack.C) (.ref e_NestError.C) = some true
  v_NoPack : PySem.W.subIn K (.ref e_NoPack.C) (.type "ValueError") = some true
  i_NoPack_NoName : PySem.W.subIn K (.ref e_NoPack.C) (.ref e_NoName.C) = some false
  i_NoPack_NoNumber : PySem.W.subIn K (.ref e_NoPack.C) (.ref e_NoNumber.C) = some false
  i_NoPack_NoBox : PySem.W.subIn K (.ref e_NoPack.C) (.ref e_NoBox.C) = some false
  i_NoPack_NoTruth : PySem.W.subIn K (.ref e_NoPack.C) (.ref e_NoTruth.C) = some false
  i_NoPack_NoPack : PySem.W.subIn K (.ref e_NoPack.C) (.ref e_NoPack.C) = some true
  i_NoPack_NoStand : PySem.W.subIn K (.ref e_NoPack.C) (.ref e_NoStand.C) = some false
  i_NoPack_NoTrack : PySem.W.subIn K (.ref e_NoPack.C) (.ref e_NoTrack.C) = some false
  i_NoPack_NoSpot : PySem.W.subIn K (.ref e_NoPack.C) (.ref e_NoSpot.C) = some false
  i_NoPack_NoStyle : PySem.W.subIn K (.ref e_NoPack.C) (.ref e_NoStyle.C) = some false
  i_NoPack_NoText : PySem.W.subIn K (.ref e_NoPack.C) (.ref e_NoText.C) = some false
  i_NoPack_NoTree : PySem.W.subIn K (.ref e_NoPack.C) (.ref e_NoTree.C) = some false
  i_NoPack_NoWords : PySem.W.subIn K (.ref e_NoPack.C) (.ref e_NoWords.C) = some false
  i_NoPack_NoPlace : PySem.W.subIn K (.ref e_NoPack.C) (.ref e_NoPlace.C) = some false
  r_NoStand : PySem.W.subIn K (.ref e_NoStand.C) (.ref e_NestError.C) = some true
  v_NoStand : PySem.W.subIn K (.ref e_NoStand.C) (.type "ValueError") = some true
  i_NoStand_NoName : PySem.W.subIn K (.ref e_NoStand.C) (.ref e_NoName.C) = some false
  i_NoStand_NoNumber : PySem.W.subIn K (.ref e_NoStand.C) (.ref e_NoNumber.C) = some false
  i_NoStand_NoBox : PySem.W.subIn K (.ref e_NoStand.C) (.ref e_NoBox.C) = some false
  i_NoStand_NoTruth : PySem.W.subIn K (.ref e_NoStand.C) (.ref e_NoTruth.C) = some false
  i_NoStand_NoPack : PySem.W.subIn K (.ref e_NoStand.C) (.ref e_NoPack.C) = some false
  i_NoStand_NoStand : PySem.W.subIn K (.ref e_NoStand.C) (.ref e_NoStand.C) = some true
  i_NoStand_NoTrack : PySem.W.subIn K (.ref e_NoStand.C) (.ref e_NoTrack.C) = some false
  i_NoStand_NoSpot : PySem.W.subIn K (.ref e_NoStand.C) (.ref e_NoSpot.C) = some false
  i_NoStand_NoStyle : PySem.W.subIn K (.ref e_NoStand.C) (.ref e_NoStyle.C) = some false
  i_NoStand_NoText : PySem.W.subIn K (.ref e_NoStand.C) (.ref e_NoText.C) = some false
  i_NoStand_NoTree : PySem.W.subIn K (.ref e_NoStand.C) (.ref e_NoTree.C) = some false
  i_NoStand_NoWords : PySem.W.subIn K (.ref e_NoStand.C) (.ref e_NoWords.C) = some false
  i_NoStand_NoPlace : PySem.W.subIn K (.ref e_NoStand.C) (.ref e_NoPlace.C) = some false
  r_NoTrack : PySem.W.subIn K (.ref e_NoTrack.C) (.ref e_NestError.C) = some true
  v_NoTrack : PySem.W.subIn K (.ref e_NoTrack.C) (.type "ValueError") = some true
  i_NoTrack_NoName : PySem.W.subIn K (.ref e_NoTrack.C) (.ref e_NoName.C) = some false
  i_NoTrack_NoNumber : PySem.W.subIn K (.ref e_NoTrack.C) (.ref e_NoNumber.C) = some false
  i_NoTrack_NoBox : PySem.W.subIn K (.ref e_NoTrack.C) (.ref e_NoBox.C) = some false
  i_NoTrack_NoTruth : PySem.W.subIn K (.ref e_NoTrack.C) (.ref e_NoTruth.C) = some false
  i_NoTrack_NoPack : PySem.W.subIn K (.ref e_NoTrack.C) (.ref e_NoPack.C) = some false
  i_NoTrack_NoStand : PySem.W.subIn K (.ref e_NoTrack.C) (.ref e_NoStand.C) = some false
  i_NoTrack_NoTrack : PySem.W.subIn K (.ref e_NoTrack.C) (.ref e_NoTrack.C) = some true
  i_NoTrack_NoSpot : PySem.W.subIn K (.ref e_NoTrack.C) (.ref e_NoSpot.C) = some false
  i_NoTrack_NoStyle : PySem.W.subIn K (.ref e_NoTrack.C) (.ref e_NoStyle.C) = some false
  i_NoTrack_NoText : PySem.W.subIn K (.ref e_NoTrack.C) (.ref e_NoText.C) = some false
  i_NoTrack_NoTree : PySem.W.subIn K (.ref e_NoTrack.C) (.ref e_NoTree.C) = some false
  i_NoTrack_NoWords : PySem.W.subIn K (.ref e_NoTrack.C) (.ref e_NoWords.C) = some false
  i_NoTrack_NoPlace : PySem.W.subIn K (.ref e_NoTrack.C) (.ref e_NoPlace.C) = some false
  r_NoSpot : PySem.W.subIn K (.ref e_NoSpot.C) (.ref e_NestError.C) = some true
  v_NoSpot : PySem.W.subIn K (.ref e_NoSpot.C) (.type "ValueError") = some true
  i_NoSpot_NoName : PySem.W.subIn K (.ref e_NoSpot.C) (.ref e_NoName.C) = some false
  i_NoSpot_NoNumber : PySem.W.subIn K (.ref e_NoSpot.C) (.ref e_NoNumber.C) = some false
  i_NoSpot_NoBox : PySem.W.subIn K (.ref e_NoSpot.C) (.ref e_NoBox.C) = some false
  i_NoSpot_NoTruth : PySem.W.subIn K (.ref e_NoSpot.C) (.ref e_NoTruth.C) = some false
  i_NoSpot_NoPack : PySem.W.subIn K (.ref e_NoSpot.C) (.ref e_NoPack.C) = some false
  i_NoSpot_NoStand : PySem.W.subIn K (.ref e_NoSpot.C) (.ref e_NoStand.C) = some false
  i_NoSpot_NoTrack : PySem.W.subIn K (.ref e_NoSpot.C) (.ref e_NoTrack.C) = some false
  i_NoSpot_NoSpot : PySem.W.subIn K (.ref e_NoSpot.C) (.ref e_NoSpot.C) = some true
  i_NoSpot_NoStyle : PySem.W.subIn K (.ref e_NoSpot.C) (.ref e_NoStyle.C) = some false
  i_NoSpot_NoText : PySem.W.subIn K (.ref e_NoSpot.C) (.ref e_NoText.C) = some false
  i_NoSpot_NoTree : PySem.W.subIn K (.ref e_NoSpot.C) (.ref e_NoTree.C) = some false
  i_NoSpot_NoWords : PySem.W.subIn K (.ref e_NoSpot.C) (.ref e_NoWords.C) = some false
  i_NoSpot_NoPlace : PySem.W.subIn K (.ref e_NoSpot.C) (.ref e_NoPlace.C) = some false
  r_NoStyle : PySem.W.subIn K (.ref e_NoStyle.C) (.ref e_NestError.C) = some true
  v_NoStyle : PySem.W.subIn K (.ref e_NoStyle.C) (.type "ValueError") = some true
  i_NoStyle_NoName : PySem.W.subIn K (.ref e_NoStyle.C) (.ref e_NoName.C) = some false
  i_NoStyle_NoNumber : PySem.W.subIn K (.ref e_NoStyle.C) (.ref e_NoNumber.C) = some false
  i_NoStyle_NoBox : PySem.W.subIn K (.ref e_NoStyle.C) (.ref e_NoBox.C) = some false
  i_NoStyle_NoTruth : PySem.W.subIn K (.ref e_NoStyle.C) (.ref e_NoTruth.C) = some false
  i_NoStyle_NoPack : PySem.W.subIn K (.ref e_NoStyle.C) (.ref e_NoPack.C) = some false
  i_NoStyle_NoStand : PySem.W.subIn K (.ref e_NoStyle.C) (.ref e_NoStand.C) = some false
  i_NoStyle_NoTrack : PySem.W.subIn K (.ref e_NoStyle.C) (.ref e_NoTrack.C) = some false
  i_NoStyle_NoSpot : PySem.W.subIn K (.ref e_NoStyle.C) (.ref e_NoSpot.C) = some false
  i_NoStyle_NoStyle : PySem.W.subIn K (.ref e_NoStyle.C) (.ref e_NoStyle.C) = some true
  i_NoStyle_NoText : PySem.W.subIn K (.ref e_NoStyle.C) (.ref e_NoText.C) = some false
  i_NoStyle_NoTree : PySem.W.subIn K (.ref e_NoStyle.C) (.ref e_NoTree.C) = some false
  i_NoStyle_NoWords : PySem.W.subIn K (.ref e_NoStyle.C) (.ref e_NoWords.C) = some false
  i_NoStyle_NoPlace : PySem.W.subIn K (.ref e_NoStyle.C) (.ref e_NoPlace.C) = some false
  r_NoText : PySem.W.subIn K (.ref e_NoText.C) (.ref e_NestError.C) = some true
  v_NoText : PySem.W.subIn K (.ref e_NoText.C) (.type "ValueError") = some true
  i_NoText_NoName : PySem.W.subIn K (.ref e_NoText.C) (.ref e_NoName.C) = some false
  i_NoText_NoNumber : PySem.W.subIn K (.ref e_NoText.C) (.ref e_NoNumber.C) = some false
  i_NoText_NoBox : PySem.W.subIn K (.ref e_NoText.C) (.ref e_NoBox.C) = some false
  i_NoText_NoTruth : PySem.W.subIn K (.ref e_NoText.C) (.ref e_NoTruth.C) = some false
  i_NoText_NoPack : PySem.W.subIn K (.ref e_NoText.C) (.ref e_NoPack.C) = some false
  i_NoText_NoStand : PySem.W.subIn K (.ref e_NoText.C) (.ref e_NoStand.C) = some false
  i_NoText_NoTrack : PySem.W.subIn K (.ref e_NoText.C) (.ref e_NoTrack.C) = some false
  i_NoText_NoSpot : PySem.W.subIn K (.ref e_NoText.C) (.ref e_NoSpot.C) = some false
  i_NoText_NoStyle : PySem.W.subIn K (.ref e_NoText.C) (.ref e_NoStyle.C) = some false
  i_NoText_NoText : PySem.W.subIn K (.ref e_NoText.C) (.ref e_NoText.C) = some true
  i_NoText_NoTree : PySem.W.subIn K (.ref e_NoText.C) (.ref e_NoTree.C) = some false
  i_NoText_NoWords : PySem.W.subIn K (.ref e_NoText.C) (.ref e_NoWords.C) = some false
  i_NoText_NoPlace : PySem.W.subIn K (.ref e_NoText.C) (.ref e_NoPlace.C) = some false
  n_NoText_line : PySem.W.findIn K (.ref e_NoText.C) "line" = some none
  x_NoText : Xt K e_NoText.C
  wg : PySem.W.specialIn K (.builtin "object.__class__") "__get__" = some (some (.builtin "getset_descriptor.__get__"))
  wt : PySem.W.takesIn K (.builtin "object.__class__") = some true
  wc_Words : PySem.W.findIn K (.ref c_Words.C) "__class__" = some (some (.builtin "object.__class__"))
  wm_Words : PySem.W.mroIn K c_Words.C (.type "object") = some true
  k_Words_int : PySem.W.kitOne K (.ref c_Words.C) (.type "int") = some false
  k_Words_bool : PySem.W.kitOne K (.ref c_Words.C) (.type "bool") = some false
  k_Words_str : PySem.W.kitOne K (.ref c_Words.C) (.type "str") = some false
  k_Words_tuple : PySem.W.kitOne K (.ref c_Words.C) (.type "tuple") = some false
  k_Words_list : PySem.W.kitOne K (.ref c_Words.C) (.type "list") = some false
  wc_Style : PySem.W.findIn K (.ref c_Style.C) "__class__" = some (some (.builtin "object.__class__"))
  wm_Style : PySem.W.mroIn K c_Style.C (.type "object") = some true
  k_Style_int : PySem.W.kitOne K (.ref c_Style.C) (.type "int") = some false
  k_Style_bool : PySem.W.kitOne K (.ref c_Style.C) (.type "bool") = some false
  k_Style_str : PySem.W.kitOne K (.ref c_Style.C) (.type "str") = some false
  k_Style_tuple : PySem.W.kitOne K (.ref c_Style.C) (.type "tuple") = some false
  k_Style_list : PySem.W.kitOne K (.ref c_Style.C) (.type "list") = some false
  kb_Words : PySem.W.kitOne K (.ref c_Words.C) (.ref c_Box.C) = some true
  kx_Style_Box : PySem.W.kitOne K (.ref c_Style.C) (.ref c_Box.C) = some false
  ki_Style : PySem.W.kitOne K (.ref c_Style.C) (.ref c_Style.C) = some true
  kx_Words_Style : PySem.W.kitOne K (.ref c_Words.C) (.ref c_Style.C) = some false
  st_Box : PySem.W.typeIn K (.ref c_Box.C) = some (.type "type")
  st_Style : PySem.W.typeIn K (.ref c_Style.C) = some (.type "type")
  d_NoText_init : InX K "NoText.__init__" s_NoText_init e_NoText.C ["self", "why", "line"] [.int 0]
section
variable {w : World} {K : PySem.W.Frag} {mg : Str → Option Value}
theorem plWords (T : Tx w K mg) : Pl K T.c_Words.C := ⟨T.c_Words.cls, T.wc_Words, T.wg, T.wt, T.wm_Words, T.k_Words_int, T.k_Words_bool, T.k_Words_str, T.k_Words_tuple, T.k_Words_list⟩
theorem plStyle (T : Tx w K mg) : Pl K T.c_Style.C := ⟨T.c_Style.cls, T.wc_Style, T.wg, T.wt, T.wm_Style, T.k_Style_int, T.k_Style_bool, T.k_Style_str, T.k_Style_tuple, T.k_Style_list⟩
def ecW (T : Tx w K mg) : String → Addr
  | "name" => T.e_NoName.C
  | "text" => T.e_NoText.C
  | "size" => T.e_NoNumber.C
  | "gap" => T.e_NoNumber.C
  | "boxes" => T.e_NoBox.C
  | "turn" => T.e_NoTruth.C
  | "pack" => T.e_NoPack.C
  | "stands" => T.e_NoStand.C
  | "tracks" => T.e_NoTrack.C
  | "spots" => T.e_NoSpot.C
  | _ => T.e_NoStyle.C
def clW (T : Tx w K mg) : Nat → Addr
  | 0 => T.c_Words.C
  | 1 => T.c_Picture.C
  | 2 => T.c_Row.C
  | 3 => T.c_Pile.C
  | _ => T.c_Grid.C
end
end My
/-! ### styles made, kept and asked again -/
namespace My
open PySem L2
theorem mix_len (fs ds : List V) (told : List Nat) : (mixL fs ds told).length = 10 := by
  unfold mixL
  rw [List.length_map, List.length_range]
theorem mix_get {fs ds : List V} {told : List Nat} {i : Nat} {v : V} (h : (mixL fs ds told)[i]? = some v) : i < 10 ∧ v = if told.contains i then fs.getD i .non else ds.getD i .non := by
  have hi : i < 10 := by
    have := (List.getElem?_eq_some_iff.mp h).1
    rwa [mix_len] at this
  refine ⟨hi, ?_⟩
  rw [mix_at hi] at h
  exact (Option.some.inj h).symm
theorem okf_alk {K : PySem.W.Frag} {H : Hp} : ∀ {i : Nat} {v : V}, i ≠ 8 → OkF K H i v → AlkAt K H v v
  | 0, _, _, h => SzAt.alk h
  | 1, _, _, h => SzAt.alk h
  | 2, _, _, h => BdAt.alk h
  | 3, _, _, h => BdAt.alk h
  | 4, _, _, h => BdAt.alk h
  | 5, _, _, h => BdAt.alk h
  | 6, _, _, h => CtAt.alk h
  | 7, _, _, h => CtAt.alk h
  | 8, _, n, _ => absurd rfl n
  | _ + 9, _, _, h => StAt.alk h
theorem dflt_alk {K : PySem.W.Frag} {H : Hp} {U u0 : Addr} (t : SqT K H U [.int 0, .int 0, .int 0, .int 0]) (hu : H u0 = some (.tup [.int 0, .int 0, .int 0, .int 0])) : ∀ {i : Nat}, i < 10 → AlkAt K H ((dfltL U).getD i .non) ((dfltL u0).getD i .non)
  | 0, _ => .inl ⟨rfl, .inl rfl⟩
  | 1, _ => .inl ⟨rfl, .inl rfl⟩
  | 2, _ => .inl ⟨rfl, .inl rfl⟩
  | 3, _ => .inl ⟨rfl, .inl rfl⟩
  | 4, _ => .inl ⟨rfl, .inl rfl⟩
  | 5, _ => .inl ⟨rfl, .inl rfl⟩
  | 6, _ => .inl ⟨rfl, .inr (.inl ⟨_, rfl⟩)⟩
  | 7, _ => .inl ⟨rfl, .inr (.inl ⟨_, rfl⟩)⟩
  | 8, _ => .inr ⟨U, u0, _, rfl, rfl, t, hu, fl4, Nat.le_of_ble_eq_true rfl⟩
  | 9, _ => .inl ⟨rfl, .inl rfl⟩
  | n + 10, h => absurd h (by omega)
theorem alk_mix {K : PySem.W.Frag} {H : Hp} {fs : List V} {told : List Nat} {U u0 ra : Addr} {n0 n1 n2 n3 : Nat} (hf : OkL K H fs) (h8 : fs[8]? = some (.ref ra)) (hra : H ra = some (.tup [.int (n0 : Int), .int (n1 : Int), .int (n2 : Int), .int (n3 : Int)]))
    (hu : H u0 = some (.tup [.int 0, .int 0, .int 0, .int 0])) (t : SqT K H U [.int 0, .int 0, .int 0, .int 0]) (i : Nat) (u v : V) (e1 : (mixL fs (dfltL U) told)[i]? = some u) (e2 : (mixL fs (dfltL u0) told)[i]? = some v) : AlkAt K H u v := by
  obtain ⟨hi, rfl⟩ := mix_get e1
  obtain ⟨_, rfl⟩ := mix_get e2
  by_cases hc : told.contains i = true
  · rw [if_pos hc, if_pos hc]
    by_cases h : i = 8
    · subst h
      rw [List.getD_eq_getElem?_getD, h8]
      exact .inr ⟨ra, ra, _, rfl, rfl, sqT hra, hra, fl4, Nat.le_of_ble_eq_true rfl⟩
    · exact okf_alk h (hf.2 i _ (by rw [List.getD_eq_getElem?_getD, List.getElem?_eq_getElem (by rw [hf.1]; exact hi)]; rfl))
  · rw [if_neg hc, if_neg hc]
    exact dflt_alk t hu hi
theorem inV_nat (told : List Nat) (i : Nat) : inV (.int (i : Int)) ((told.map Int.ofNat).map V.int) = told.contains i := by
  induction told with
  | nil => rfl
  | cons a l ih =>
    have e : inV (.int (i : Int)) (((a :: l).map Int.ofNat).map V.int) = ((Int.ofNat a == (i : Int)) || inV (.int (i : Int)) ((l.map Int.ofNat).map V.int)) := rfl
    rw [e, ih, List.contains_cons]
    congr 1
    rw [Bool.eq_iff_iff, beq_iff_eq, beq_iff_eq]
    exact ⟨fun h => (Int.ofNat.inj h).symm, fun h => by rw [h]; rfl⟩
/-- a style kept with what is due -/
def EntAt (K : PySem.W.Frag) (C pS : Addr) (H : Hp) (t : V) : Prop := ∃ (T x dx d : Addr) (gs ds : List V), t = .ref T ∧ H T = some (.tup [.ref x, .ref d]) ∧ H x = some (.ins C dx (styL gs)) ∧ gs.length = 10 ∧ H d = some (.lst ds) ∧ ds.length = 10 ∧ d ≠ pS ∧ ∀ (i : Nat) (u v : V), gs[i]? = some u → ds[i]? = some v → AlkAt K H u v
theorem EntAt.same {K : PySem.W.Frag} {C pS : Addr} {H H' : Hp} {t : V} (h : EntAt K C pS H t) (s : Same H H') : EntAt K C pS H' t := by
  obtain ⟨T, x, dx, d, gs, ds, e, h1, h2, h3, h4, h5, h6, h7⟩ := h
  exact ⟨T, x, dx, d, gs, ds, e, s _ _ h1, s _ _ h2, h3, s _ _ h4, h5, h6, fun i u v e1 e2 => (h7 i u v e1 e2).same s⟩
theorem EntAt.but {K : PySem.W.Frag} {C pS p : Addr} {H H' : Hp} {t : V} {zs : List V} (h : EntAt K C pS H t) (b : But p H H') (hp : H p = some (.lst zs)) (hd : p = pS ∨ zs.length ≠ 10) : EntAt K C pS H' t := by
  obtain ⟨T, x, dx, d, gs, ds, e, h1, h2, h3, h4, h5, h6, h7⟩ := h
  refine ⟨T, x, dx, d, gs, ds, e, tup_but b hp h1, b.app (by rintro rfl; rw [hp] at h2; cases h2) h2, h3, b.app ?_ h4, h5, h6, fun i u v e1 e2 => (h7 i u v e1 e2).but b hp⟩
  rintro rfl
  rcases hd with hd | hd
  · exact h6 hd
  · rw [hp] at h4; cases h4; exact hd h5
theorem EntAt.dr {K : PySem.W.Frag} {C pS p : Addr} {H H' : Hp} {t : V} (h : EntAt K C pS H t) (hs : Src H p) (d : Dr p H H') : EntAt K C pS H' t := by
  obtain ⟨z, hz⟩ := hs
  exact h.but d.b hz (.inr (show (3 : Nat) ≠ 10 by decide))
/-- the script, wherever it stands -/
def ScrAt (K : PySem.W.Frag) (a pS : Addr) (xs : List V) (H : Hp) : Prop := (∃ o, H a = some o ∧ a ≠ pS ∧ ∀ H2 : Hp, H2 a = some o → SqL K H2 a xs) ∨ ∀ H2 : Hp, SqL K H2 a xs
theorem ScrAt.seq {K : PySem.W.Frag} {a pS : Addr} {xs : List V} {H : Hp} (h : ScrAt K a pS xs H) : SqL K H a xs := h.elim (fun ⟨o, h1, _, h3⟩ => h3 H h1) (fun h => h H)
theorem ScrAt.of {K : PySem.W.Frag} {a pS : Addr} {xs : List V} {H : Hp} (h : SqL K H a xs) (f : H pS = none) : ScrAt K a pS xs H := by
  rcases h with (h | ⟨o, h⟩) | h
  · exact .inl ⟨_, h, ne_of_none h f, fun H2 e => .inl (.inl e)⟩
  · exact .inl ⟨_, h, ne_of_none h f, fun H2 e => .inl (.inr ⟨o, e⟩)⟩
  · exact .inr fun H2 => .inr h
theorem ScrAt.same {K : PySem.W.Frag} {a pS : Addr} {xs : List V} {H H' : Hp} (h : ScrAt K a pS xs H) (s : Same H H') : ScrAt K a pS xs H' := h.imp (fun ⟨o, h1, h2, h3⟩ => ⟨o, s _ _ h1, h2, h3⟩) id
theorem ScrAt.but {K : PySem.W.Frag} {a pS : Addr} {xs : List V} {H H' : Hp} (h : ScrAt K a pS xs H) (b : But pS H H') : ScrAt K a pS xs H' := h.imp (fun ⟨o, h1, h2, h3⟩ => ⟨o, b.app h2 h1, h2, h3⟩) id
/-- .. behind a new source -/
theorem ScrAt.new {K : PySem.W.Frag} {a pS s : Addr} {xs : List V} {H H1 H' : Hp} (h : ScrAt K a pS xs H) (sm : Same H H1) (f : H s = none) (d : Dr s H1 H') : ScrAt K a pS xs H' := h.imp (fun ⟨o, h1, h2, h3⟩ => ⟨o, d.app (ne_of_none h1 f) (sm _ _ h1), h2, h3⟩) id
end My

namespace My
open PySem L2
theorem atK {xs : List V} {k : Nat} {v : V} (h : xs[k]? = some v) : atI xs (k : Int) = some v := by
  unfold atI
  rw [ixN_nat (List.getElem?_eq_some_iff.mp h).1]
  exact h
/-- a draw off the first ones of a list -/
theorem pickP {P : V → Prop} {xs : List V} (ys : List V) {n : Int} (h : ∀ x ∈ xs, P x) (h0 : 0 ≤ n) (h1 : n < xs.length) : ∃ x, atI (xs ++ ys) n = some x ∧ P x := by
  obtain ⟨k, rfl⟩ := Int.eq_ofNat_of_zero_le h0
  have hk : k < xs.length := by omega
  exact ⟨xs[k], atK (by rw [List.getElem?_append_left hk]; exact List.getElem?_eq_getElem hk), h _ (List.getElem_mem hk)⟩
theorem allC {P : V → Prop} {x : V} {xs : List V} (h : P x) (t : ∀ y ∈ xs, P y) : ∀ y ∈ x :: xs, P y := List.forall_mem_cons.mpr ⟨h, t⟩
theorem allN {P : V → Prop} : ∀ y ∈ ([] : List V), P y := fun _ h => by cases h
theorem pickA {P : V → Prop} {xs : List V} {n : Int} (h : ∀ x ∈ xs, P x) (h0 : 0 ≤ n) (h1 : n < xs.length) : ∃ x, atI xs n = some x ∧ P x := by
  have := pickP [] h h0 h1
  rwa [List.append_nil] at this
end My

/-! ### texts: signs, pieces -/
namespace My
open PySem L2
theorem at_some {α : Type} {xs : List α} {i : Int} (h0 : 0 ≤ i) (h1 : i < xs.length) : ∃ c, atI xs i = some c ∧ c ∈ xs := by
  obtain ⟨k, rfl⟩ := Int.eq_ofNat_of_zero_le h0
  have hk : k < xs.length := by omega
  refine ⟨xs[k], ?_, List.getElem_mem hk⟩
  unfold atI
  rw [ixN_nat hk]
  exact List.getElem?_eq_getElem hk
theorem strOk_iff {x : Str} : PyData.strOk x = true ↔ ∀ c ∈ x.cps.toList, c < 0x110000 := by
  unfold PyData.strOk
  rw [← Array.all_toList, List.all_eq_true]
  exact ⟨fun h c hc => of_decide_eq_true (h c hc), fun h c hc => decide_eq_true (h c hc)⟩
theorem strOk_one {c : Nat} (h : c < 0x110000) : PyData.strOk ⟨#[c]⟩ = true := strOk_iff.mpr fun d hd => by
  rw [List.mem_singleton.mp hd]; exact h
theorem strOk_append {x y : Str} (hx : PyData.strOk x = true) (hy : PyData.strOk y = true) : PyData.strOk (x ++ y) = true := strOk_iff.mpr fun c hc => by
  have : c ∈ (x.cps ++ y.cps).toList := hc
  rw [Array.toList_append] at this
  rcases List.mem_append.mp this with h | h
  · exact strOk_iff.mp hx c h
  · exact strOk_iff.mp hy c h
theorem strOk_cut {x : Str} {lo hi : Option Int} (hx : PyData.strOk x = true) : PyData.strOk (cutS x lo hi) = true := strOk_iff.mpr fun c hc => by
  have : c ∈ (x.cps.toList.drop (HT.sIx x.length 0 lo)).take (HT.sIx x.length x.length hi - HT.sIx x.length 0 lo) := hc
  exact strOk_iff.mp hx c (List.mem_of_mem_drop (List.mem_of_mem_take this))
theorem str_sign {x : Str} {i : Int} (h0 : 0 ≤ i) (h1 : i < x.length) (ok : PyData.strOk x = true) : ∃ c, atI x.cps.toList i = some c ∧ PyData.strOk ⟨#[c]⟩ = true := by
  obtain ⟨c, h, m⟩ := at_some (xs := x.cps.toList) h0 (by rw [Array.length_toList]; exact h1)
  exact ⟨c, h, strOk_one (strOk_iff.mp ok c m)⟩
end My

/-! ### tracks and asks that may be none -/
namespace My
open PySem L2
def flatD : PyData → Bool
  | .none => true
  | .bool _ => true
  | .int _ => true
  | .str _ => true
  | _ => false
def flV : PyData → V
  | .none => .non
  | .bool b => .bl b
  | .int i => .int i
  | .str s => .str s
  | _ => .non
def tyD : PyData → String
  | .none => "NoneType"
  | .bool _ => "bool"
  | .int _ => "int"
  | .str _ => "str"
  | .list _ => "list"
  | .tuple _ => "tuple"
  | .dict _ => "dict"
inductive It (H : Hp) : V → PyData → Prop
  | fl (d : PyData) (f : flatD d = true) : It H (flV d) d
  | tup {r : Addr} {ds : List PyData} (g : H r = some (.tup (ds.map flV))) (f : ds.all flatD = true) : It H (.ref r) (.tuple ds)
  | lst {r : Addr} {ds : List PyData} (g : H r = some (.lst (ds.map flV))) (f : ds.all flatD = true) : It H (.ref r) (.list ds)
section
variable {H H' : Hp} {v : V} {d : PyData}
theorem fl_t7 : ∀ {d : PyData}, flatD d = true → Ty7 H (flV d) (tyD d)
  | .none, _ => .non
  | .bool b, _ => .bl b
  | .int i, _ => .int i
  | .str s, _ => .str s
  | .list _, h => by cases h
  | .tuple _, h => by cases h
  | .dict _, h => by cases h
theorem It.t7 (h : It H v d) : Ty7 H v (tyD d) := by
  cases h with
  | fl _ f => exact fl_t7 f
  | tup g _ => exact .tup g
  | lst g _ => exact .lst g
theorem It.mono (h : It H v d) (s : Same H H') : It H' v d := by
  cases h with
  | fl _ f => exact .fl _ f
  | tup g f => exact .tup (s _ _ g) f
  | lst g f => exact .lst (s _ _ g) f
theorem It.but {a : Addr} (h : It H v d) (b : But a H H') (n : v ≠ .ref a) : It H' v d := by
  cases h with
  | fl _ f => exact .fl _ f
  | tup g f => exact .tup (b.app (fun e => n (by rw [e])) g) f
  | lst g f => exact .lst (b.app (fun e => n (by rw [e])) g) f
theorem fl_dp {K : PySem.W.Frag} : ∀ {d : PyData}, flatD d = true → Dp K H (flV d) d
  | .none, _ => .non
  | .bool b, _ => .bl b
  | .int i, _ => .int i
  | .str s, _ => .str s
  | .list _, h => by cases h
  | .tuple _, h => by cases h
  | .dict _, h => by cases h
theorem fl_dps {K : PySem.W.Frag} : ∀ {ds : List PyData}, ds.all flatD = true → DpAll K H (ds.map flV) ds
  | [], _ => .nil
  | d :: ds, h => by
    rw [List.all_cons, Bool.and_eq_true] at h
    exact .cons (fl_dp h.1) (fl_dps h.2)
theorem It.dp {K : PySem.W.Frag} (h : It H v d) : Dp K H v d := by
  cases h with
  | fl _ f => exact fl_dp f
  | tup g f => exact .tup (sqT g) (fl_dps f)
  | lst g f => exact .lst (sqL g) (fl_dps f)
/-- flat, or an object -/
theorem It.kind (h : It H v d) : flatB v = true ∨ ∃ r, v = .ref r := by
  cases h with
  | fl d f => cases d <;> first | exact .inl rfl | cases f
  | tup g f => exact .inr ⟨_, rfl⟩
  | lst g f => exact .inr ⟨_, rfl⟩
end
/-! #### what is a track, an ask -/
def isP : V → Bool
  | .int k => decide (1 ≤ k)
  | _ => false
def trackB : PyData → Bool
  | .tuple [a, b] => decide (flV a = .str "share") && isP (flV b)
  | .tuple _ => false
  | .list _ => false
  | .dict _ => false
  | d => isN (flV d) || decide (flV d = .str "fit")
def strD : PyData → Bool
  | .str _ => true
  | _ => false
/-- its first item can be compared; it can be laid -/
def fineD (d : PyData) : Bool := d.canLay0 && decide (d.depth ≤ 1) && (match d with
  | .tuple [a, _] => strD a
  | _ => true)
def stretchB (n : Int) : V → V → Bool
  | .int f, .int m => decide (0 ≤ f) && decide (1 ≤ m) && decide (f + m ≤ n)
  | _, _ => false
def askB (n : Int) : PyData → Bool
  | .tuple [a, b, c] => stretchB n (flV a) (flV b) && isN (flV c)
  | _ => false
def ItsAt (H : Hp) (vs : List V) (ds : List PyData) : Prop := vs.length = ds.length ∧ ∀ (i : Nat) (v : V) (d : PyData), vs[i]? = some v → ds[i]? = some d → It H v d
section
variable {H H' : Hp} {vs : List V} {ds : List PyData} {v : V} {d : PyData}
theorem ItsAt.mono (h : ItsAt H vs ds) (s : Same H H') : ItsAt H' vs ds := ⟨h.1, fun i v d a b => (h.2 i v d a b).mono s⟩
theorem ItsAt.but {a : Addr} (h : ItsAt H vs ds) (b : But a H H') (n : ∀ v ∈ vs, v ≠ .ref a) : ItsAt H' vs ds := ⟨h.1, fun i v d x y => (h.2 i v d x y).but b (n v (List.mem_of_getElem? x))⟩
theorem ItsAt.at' (h : ItsAt H vs ds) {i : Nat} (e : vs[i]? = some v) : ∃ d, ds[i]? = some d ∧ It H v d := by
  have hi := (List.getElem?_eq_some_iff.mp e).1
  have l := h.1
  exact ⟨ds[i], List.getElem?_eq_getElem (by omega), h.2 i v _ e (List.getElem?_eq_getElem (by omega))⟩
theorem ItsAt.dp {K : PySem.W.Frag} : ∀ {vs : List V} {ds : List PyData}, ItsAt H vs ds → DpAll K H vs ds
  | [], [], _ => .nil
  | [], _ :: _, h => by cases h.1
  | _ :: _, [], h => by cases h.1
  | v :: vs, d :: ds, h => .cons (h.2 0 v d rfl rfl).dp (ItsAt.dp ⟨by simpa using h.1, fun i w e a b => h.2 (i + 1) w e a b⟩)
theorem ItsAt.kind (h : ItsAt H vs ds) : ∀ v ∈ vs, flatB v = true ∨ ∃ r, v = .ref r := fun v hv => by
  obtain ⟨i, hi⟩ := List.getElem?_of_mem hv
  obtain ⟨d, _, hd⟩ := h.at' hi
  exact hd.kind
theorem ItsAt.set (h : ItsAt H vs ds) (i : Nat) (hv : It H v d) : ItsAt H (vs.set i v) (ds.set i d) := by
  refine ⟨by rw [List.length_set, List.length_set]; exact h.1, fun j w e a b => ?_⟩
  by_cases hj : i = j
  · subst hj
    have l := (List.getElem?_eq_some_iff.mp a).1
    have l2 := (List.getElem?_eq_some_iff.mp b).1
    rw [List.length_set] at l l2
    rw [List.getElem?_set_self l] at a
    rw [List.getElem?_set_self l2] at b
    cases a; cases b
    exact hv
  · rw [List.getElem?_set_ne hj] at a b
    exact h.2 j w e a b
theorem ItsAt.append {us : List V} {es : List PyData} (h : ItsAt H vs ds) (g : ItsAt H us es) : ItsAt H (vs ++ us) (ds ++ es) := by
  refine ⟨by rw [List.length_append, List.length_append, h.1, g.1], fun j w e a b => ?_⟩
  by_cases hj : j < vs.length
  · rw [List.getElem?_append_left hj] at a
    rw [List.getElem?_append_left (by have := h.1; omega)] at b
    exact h.2 j w e a b
  · rw [List.getElem?_append_right (by omega)] at a
    rw [List.getElem?_append_right (by have := h.1; omega), ← h.1] at b
    exact g.2 _ w e a b
theorem ItsAt.take (h : ItsAt H vs ds) (n : Nat) : ItsAt H (vs.take n) (ds.take n) := by
  refine ⟨by rw [List.length_take, List.length_take, h.1], fun j w e a b => ?_⟩
  rw [List.getElem?_take] at a b
  split at a
  · next q => rw [if_pos q] at b; exact h.2 j w e a b
  · cases a
theorem ItsAt.drop (h : ItsAt H vs ds) (n : Nat) : ItsAt H (vs.drop n) (ds.drop n) := by
  refine ⟨by rw [List.length_drop, List.length_drop, h.1], fun j w e a b => ?_⟩
  rw [List.getElem?_drop] at a b
  exact h.2 _ w e a b
theorem ItsAt.one (hv : It H v d) : ItsAt H [v] [d] := ⟨rfl, fun i w e a b => by
  cases i with
  | zero => cases a; cases b; exact hv
  | succ i => cases a⟩
end
/-! #### good ones -/
section
variable {H H' : Hp} {v : V}
theorem tk_it {t : Tk} (h : TkAt H v t) : It H v (tkD t) := by
  cases t with
  | cells n => have e : v = .int n := h; subst e; exact .fl (.int n) rfl
  | fit => have e : v = .str "fit" := h; subst e; exact .fl (.str "fit") rfl
  | share k => obtain ⟨r, rfl, g⟩ := h; exact .tup (ds := [.str "share", .int k]) g rfl
theorem tk_fine (t : Tk) : fineD (tkD t) = true := by
  have := tkD_can t
  unfold fineD
  rw [this.1, decide_eq_true this.2]
  cases t <;> rfl
theorem tk_ok {t : Tk} (h : t.ok) : trackB (tkD t) = true := by
  cases t with
  | cells n => show (decide (0 ≤ n) || _) = true; rw [decide_eq_true (show 0 ≤ n from h)]; rfl
  | fit => rfl
  | share k =>
    show (decide (V.str "share" = V.str "share") && decide (1 ≤ k)) = true
    rw [decide_eq_true (show 1 ≤ k from h), decide_eq_true rfl]; rfl
theorem ask_it {q : Ask3} (h : AskAt H v q) : It H v (askD q) := by
  obtain ⟨r, rfl, g⟩ := h
  exact .tup (ds := [.int (q.1 : Int), .int (q.2.1 : Int), .int q.2.2]) g rfl
theorem ask_ok {n : Nat} {q : Ask3} (h : AskOk n q) : askB (n : Int) (askD q) = true := by
  obtain ⟨o1, o2, o3⟩ := h
  show (decide ((0 : Int) ≤ (q.1 : Int)) && decide ((1 : Int) ≤ (q.2.1 : Int)) && decide ((q.1 : Int) + (q.2.1 : Int) ≤ (n : Int)) && decide (0 ≤ q.2.2)) = true
  rw [decide_eq_true (by omega), decide_eq_true (by omega), decide_eq_true (by omega), decide_eq_true o3]; rfl
theorem tks_its {vs : List V} {ts : List Tk} (h : TksAt H vs ts) : ItsAt H vs (ts.map tkD) := by
  refine ⟨by rw [List.length_map]; exact h.1, fun i v d a b => ?_⟩
  obtain ⟨t, ht, hat⟩ := h.at' a
  rw [List.getElem?_map, ht] at b
  cases b
  exact tk_it hat
theorem asks_its {vs : List V} {qs : List Ask3} (h : AsksAt H vs qs) : ItsAt H vs (qs.map askD) := by
  refine ⟨by rw [List.length_map]; exact h.1, fun i v d a b => ?_⟩
  obtain ⟨t, ht, hat⟩ := h.at' a
  rw [List.getElem?_map, ht] at b
  cases b
  exact ask_it hat
end
/-! #### lists of them -/
inductive TrsAt (H : Hp) : V → Bool → Prop
  | no {t : V} {ty : String} (h : Ty7 H t ty) (n : ty ≠ "list") : TrsAt H t false
  | lst {a : Addr} {xs : List V} {ds : List PyData} {b : Bool} (g : H a = some (.lst xs)) (its : ItsAt H xs ds) (f : ∀ d ∈ ds, fineD d = true) (n : ds.length ≤ 1000) (e : b = (!ds.isEmpty && ds.all trackB)) : TrsAt H (.ref a) b
inductive AsksB (H : Hp) (n : Int) : V → Bool → Prop
  | no {t : V} {ty : String} (h : Ty7 H t ty) (nl : ty ≠ "list") : AsksB H n t false
  | lst {a : Addr} {xs : List V} {ds : List PyData} {b : Bool} (g : H a = some (.lst xs)) (its : ItsAt H xs ds) (l : ds.length ≤ 1000) (e : b = ds.all (askB n)) : AsksB H n (.ref a) b
section
variable {H H' : Hp} {v : V} {b : Bool}
theorem TrsAt.mono (h : TrsAt H v b) (s : Same H H') : TrsAt H' v b := by
  cases h with
  | no h n => exact .no (h.mono s) n
  | lst g its f n e => exact .lst (s _ _ g) (its.mono s) f n e
theorem AsksB.mono {n : Int} (h : AsksB H n v b) (s : Same H H') : AsksB H' n v b := by
  cases h with
  | no h n => exact .no (h.mono s) n
  | lst g its l e => exact .lst (s _ _ g) (its.mono s) l e
theorem trs_good {a : Addr} {xs : List V} {ts : List Tk} (g : H a = some (.lst xs)) (h : TksAt H xs ts) (ok : ∀ t ∈ ts, t.ok) (ne : ts ≠ []) (n : ts.length ≤ 1000) : TrsAt H (.ref a) true := by
  refine .lst g (tks_its h) (fun d hd => ?_) (by rw [List.length_map]; exact n) ?_
  · obtain ⟨t, _, rfl⟩ := List.mem_map.mp hd
    exact tk_fine t
  · have e1 : (ts.map tkD).all trackB = true := List.all_eq_true.mpr fun d hd => by
      obtain ⟨t, ht, rfl⟩ := List.mem_map.mp hd
      exact tk_ok (ok t ht)
    rw [e1]
    cases ts with
    | nil => exact absurd rfl ne
    | cons t ts => rfl
theorem asks_good {a : Addr} {n : Nat} {xs : List V} {qs : List Ask3} (g : H a = some (.lst xs)) (h : AsksAt H xs qs) (ok : ∀ q ∈ qs, AskOk n q) (l : qs.length ≤ 1000) : AsksB H (n : Int) (.ref a) true := by
  refine .lst g (asks_its h) (by rw [List.length_map]; exact l) ?_
  exact (List.all_eq_true.mpr fun d hd => by
      obtain ⟨q, hq, rfl⟩ := List.mem_map.mp hd
      exact ask_ok (ok q hq)).symm
end
/-- good tracks -/
structure Gt (H : Hp) (t : V) (ts : List Tk) : Prop where
  ex : ∃ a xs, t = .ref a ∧ H a = some (.lst xs) ∧ TksAt H xs ts
  ok : ∀ t ∈ ts, t.ok
  ne : ts ≠ []
  n : ts.length ≤ 1000
structure Ga (H : Hp) (n : Nat) (t : V) (qs : List Ask3) : Prop where
  ex : ∃ a xs, t = .ref a ∧ H a = some (.lst xs) ∧ AsksAt H xs qs
  ok : ∀ q ∈ qs, AskOk n q
  n : qs.length ≤ 1000
/-- how a call ends: 0 told, 1 no track, 2 no ask, 3 no number -/
inductive Way (H : Hp) (t a g : V) : Nat → Prop
  | told {ts : List Tk} {qs : List Ask3} {k : Int} (h : Gt H t ts) (ha : Ga H ts.length a qs) (e : g = .int k) (k0 : 0 ≤ k) : Way H t a g 0
  | track (h : TrsAt H t false) : Way H t a g 1
  | ask {ts : List Tk} (h : Gt H t ts) (ha : AsksB H (ts.length : Int) a false) : Way H t a g 2
  | number {ts : List Tk} {qs : List Ask3} {ty : String} (h : Gt H t ts) (ha : Ga H ts.length a qs) (e : Ty7 H g ty) (n : isN g = false) : Way H t a g 3
section
variable {H H' : Hp} {t a g : V} {w : Nat}
theorem Gt.mono {ts : List Tk} (h : Gt H t ts) (s : Same H H') : Gt H' t ts := ⟨let ⟨a, xs, e, g, k⟩ := h.ex; ⟨a, xs, e, s _ _ g, k.mono s⟩, h.ok, h.ne, h.n⟩
theorem Ga.mono {n : Nat} {qs : List Ask3} (h : Ga H n t qs) (s : Same H H') : Ga H' n t qs := ⟨let ⟨a, xs, e, g, k⟩ := h.ex; ⟨a, xs, e, s _ _ g, k.mono s⟩, h.ok, h.n⟩
theorem Gt.trs {ts : List Tk} (h : Gt H t ts) : TrsAt H t true := by
  obtain ⟨a, xs, rfl, g, k⟩ := h.ex
  exact trs_good g k h.ok h.ne h.n
theorem Ga.asks {n : Nat} {qs : List Ask3} (h : Ga H n t qs) : AsksB H (n : Int) t true := by
  obtain ⟨a, xs, rfl, g, k⟩ := h.ex
  exact asks_good g k h.ok h.n
theorem Way.mono (h : Way H t a g w) (s : Same H H') : Way H' t a g w := by
  cases h with
  | told h ha e k0 => exact .told (h.mono s) (ha.mono s) e k0
  | track h => exact .track (h.mono s)
  | ask h ha => exact .ask (h.mono s) (ha.mono s)
  | number h ha e n => exact .number (h.mono s) (ha.mono s) (e.mono s) n
end
end My
namespace My
open PySem L2
def trackAt (ds : List PyData) (i : Nat) : Bool := match ds[i]? with
  | some d => trackB d
  | none => false
theorem trackAt_of {ds : List PyData} {i : Nat} {d : PyData} (h : ds[i]? = some d) : trackAt ds i = trackB d := by unfold trackAt; rw [h]
theorem at_all {f : PyData → Bool} {g : Nat → Bool} {ds : List PyData} (h : ∀ i d, ds[i]? = some d → g i = f d) : (List.range ds.length).map g = ds.map f := by
  apply List.ext_getElem?
  intro i
  rw [List.getElem?_map, List.getElem?_map]
  by_cases hi : i < ds.length
  · rw [List.getElem?_range hi, List.getElem?_eq_getElem hi]
    show some (g i) = some (f ds[i])
    rw [h i _ (List.getElem?_eq_getElem hi)]
  · rw [List.getElem?_eq_none (by rw [List.length_range]; omega), List.getElem?_eq_none (by omega)]; rfl
theorem trackAt_all {ds : List PyData} : (List.range ds.length).map (fun i => trackAt ds i) = ds.map trackB := at_all fun i d h => trackAt_of h
def askAt (n : Int) (ds : List PyData) (i : Nat) : Bool := match ds[i]? with
  | some d => askB n d
  | none => false
theorem askAt_of {n : Int} {ds : List PyData} {i : Nat} {d : PyData} (h : ds[i]? = some d) : askAt n ds i = askB n d := by unfold askAt; rw [h]
theorem askAt_all {n : Int} {ds : List PyData} : (List.range ds.length).map (fun i => askAt n ds i) = ds.map (askB n) := at_all fun i d h => askAt_of h
theorem fine_shaped {ds : List PyData} (h : ∀ d ∈ ds, fineD d = true) : SeqAt.shaped (.list ds) = true := by
  have f1 : ∀ d : {d // fineD d = true}, d.1.canLay0 = true := fun d => by
    have := d.2; unfold fineD at this; rw [Bool.and_eq_true, Bool.and_eq_true] at this; exact this.1.1
  have f2 : ∀ d : {d // fineD d = true}, d.1.depth ≤ 1 := fun d => by
    have := d.2; unfold fineD at this; rw [Bool.and_eq_true, Bool.and_eq_true] at this; exact of_decide_eq_true this.1.2
  have := shaped_map (m := 1) (g := fun d : {d // fineD d = true} => d.1) (by decide) f1 f2 (ds.attachWith _ h)
  rwa [List.attachWith_map_subtype_val] at this
end My
namespace My
open PySem L2
theorem pick_all {P : V → Prop} {xs : List V} {n : Int} (h0 : 0 ≤ n) (h1 : n < xs.length) (h : ∀ x ∈ xs, P x) : ∃ x, atI xs n = some x ∧ P x := by
  obtain ⟨k, rfl⟩ := Int.eq_ofNat_of_zero_le h0
  have hk : k < xs.length := by omega
  exact ⟨xs[k], atI_nat (List.getElem?_eq_getElem hk), h _ (List.getElem_mem hk)⟩
theorem all_c {P : V → Prop} {x : V} {xs : List V} (h : P x) (t : ∀ y ∈ xs, P y) : ∀ y ∈ x :: xs, P y := List.forall_mem_cons.mpr ⟨h, t⟩
theorem all_n {P : V → Prop} : ∀ y ∈ ([] : List V), P y := fun _ h => by cases h
/-- a bad one that is new, by a test -/
def Bad (f : PyData → Bool) (H0 H : Hp) (v : V) : Prop := ∃ d, It H v d ∧ f d = true ∧ ∀ r, v = .ref r → H0 r = none
section
variable {f : PyData → Bool} {H0 H H' : Hp} {v : V}
theorem bad_fl (d : PyData) (h : flatD d = true) (b : f d = true) : Bad f H0 H (flV d) := ⟨d, .fl d h, b, fun r e => by cases d <;> first | (cases e; done) | cases h⟩
theorem bad_tup {r : Addr} (ds : List PyData) (g : H r = some (.tup (ds.map flV))) (h : ds.all flatD = true) (b : f (.tuple ds) = true) (n : H0 r = none) : Bad f H0 H (.ref r) := ⟨.tuple ds, .tup g h, b, fun r' e => by cases e; exact n⟩
theorem bad_lst {r : Addr} (ds : List PyData) (g : H r = some (.lst (ds.map flV))) (h : ds.all flatD = true) (b : f (.list ds) = true) (n : H0 r = none) : Bad f H0 H (.ref r) := ⟨.list ds, .lst g h, b, fun r' e => by cases e; exact n⟩
theorem Bad.dr {s : Addr} (h : Bad f H0 H v) (hs : Src H0 s) (d : Dr s H H') : Bad f H0 H' v := by
  obtain ⟨x, hi, b, n⟩ := h
  obtain ⟨z, hz⟩ := hs
  exact ⟨x, hi.but d.b (fun e => by rw [n s e] at hz; cases hz), b, n⟩
end
end My
namespace My
open PySem L2
theorem Bad.dr' {f : PyData → Bool} {H0 H H' : Hp} {v : V} {s : Addr} (h : Bad f H0 H v) (hs : Src H0 s) (_ : Src H s) (d : Dr s H H') : Bad f H0 H' v := h.dr hs d
end My
namespace My
open PySem L2
theorem pick_all' {P : V → Prop} {xs : List V} {n : Int} (h : ∀ x ∈ xs, P x) (h0 : 0 ≤ n) (h1 : n < xs.length) : ∃ x, atI xs n = some x ∧ P x := pick_all h0 h1 h
theorem ask_b1 (n : Int) : (!askB n (.tuple [.int 0, .int (n + 1), .int 5])) = true := by
  show (!(decide ((0 : Int) ≤ 0) && decide (1 ≤ n + 1) && decide (0 + (n + 1) ≤ n) && isN (.int 5))) = true
  rw [decide_eq_false (p := 0 + (n + 1) ≤ n) (by omega)]; simp
theorem ask_b2 (n : Int) : (!askB n (.tuple [.int n, .int 1, .int 5])) = true := by
  show (!(decide (0 ≤ n) && decide ((1 : Int) ≤ 1) && decide (n + 1 ≤ n) && isN (.int 5))) = true
  rw [decide_eq_false (p := n + 1 ≤ n) (by omega)]; simp
end My

/-! ### spots of grids: things that may be none -/
namespace My
open PySem L2
/-- a stretch that stands among so many: first, many -/
def strchB (f m : V) (n : Int) : Bool := match f, m with
  | .int a, .int b => decide (0 ≤ a) && (decide (1 ≤ b) && decide (a + b ≤ n))
  | _, _ => false
/-- a thing: a tuple of plain things, or no tuple -/
inductive ThAt (H : Hp) : V → Option (List V) → Prop
  | tup (a : Addr) (xs : List V) (h : H a = some (.tup xs)) (hx : ∀ x ∈ xs, ∃ t, Ty7 H x t) : ThAt H (.ref a) (some xs)
  | other (v : V) (t : String) (h : Ty7 H v t) (n : t ≠ "tuple") : ThAt H v none
theorem ThAt.same {H H' : Hp} {v : V} {o : Option (List V)} (h : ThAt H v o) (s : Same H H') : ThAt H' v o := by
  cases h with
  | tup a xs h hx => exact .tup a xs (s _ _ h) fun x m => let ⟨t, k⟩ := hx x m; ⟨t, k.mono s⟩
  | other v t h n => exact .other v t (h.mono s) n
def spotB (c r : Int) : Option (List V) → Bool
  | some [x, y, w, d] => strchB x w c && strchB y d r
  | _ => false
theorem stretch_int {f m : V} {n : Int} (h : strchB f m n = true) : ∃ a b : Int, f = .int a ∧ m = .int b ∧ 0 ≤ a ∧ 1 ≤ b ∧ a + b ≤ n := by
  unfold strchB at h
  split at h
  · rename_i a b
    simp only [Bool.and_eq_true, decide_eq_true_eq] at h
    exact ⟨a, b, rfl, rfl, h.1, h.2.1, h.2.2⟩
  · cases h
/-- four whole numbers as they stand -/
def four4 (x y w d : Int) : Option (List V) := some [.int x, .int y, .int w, .int d]
theorem spot_int {c r : Int} {o : Option (List V)} (h : spotB c r o = true) : ∃ x y w d : Int, o = four4 x y w d ∧ 0 ≤ x ∧ 1 ≤ w ∧ x + w ≤ c ∧ 0 ≤ y ∧ 1 ≤ d ∧ y + d ≤ r := by
  unfold spotB at h
  split at h
  · rename_i x y w d
    rw [Bool.and_eq_true] at h
    obtain ⟨a, b, rfl, rfl, h1, h2, h3⟩ := stretch_int h.1
    obtain ⟨a', b', rfl, rfl, h4, h5, h6⟩ := stretch_int h.2
    exact ⟨_, _, _, _, rfl, h1, h2, h3, h4, h5, h6⟩
  · cases h
def apartI (x y w d x' y' w' d' : Int) : Bool := (decide (x + w ≤ x') || decide (x' + w' ≤ x)) || (decide (y + d ≤ y') || decide (y' + d' ≤ y))
def apartO : Option (List V) → Option (List V) → Bool
  | some [.int x, .int y, .int w, .int d], some [.int x', .int y', .int w', .int d'] => apartI x y w d x' y' w' d'
  | _, _ => false
/-- each one stands, and apart from those ahead -/
def stB (c r : Int) : List (Option (List V)) → List (Option (List V)) → Bool
  | _, [] => true
  | pre, o :: t => (spotB c r o && pre.all (apartO o)) && stB c r (pre ++ [o]) t
def ThsAt (H : Hp) (vs : List V) (os : List (Option (List V))) : Prop := vs.length = os.length ∧ ∀ (i : Nat) (v : V) (o : Option (List V)), vs[i]? = some v → os[i]? = some o → ThAt H v o
theorem ThsAt.same {H H' : Hp} {vs : List V} {os : List (Option (List V))} (h : ThsAt H vs os) (s : Same H H') : ThsAt H' vs os := ⟨h.1, fun i v o e1 e2 => (h.2 i v o e1 e2).same s⟩
theorem ThsAt.take {H : Hp} {vs : List V} {os : List (Option (List V))} (h : ThsAt H vs os) (p : Nat) : ThsAt H (vs.take p) (os.take p) := ⟨by rw [List.length_take, List.length_take, h.1], fun i v o e1 e2 => by
  rw [List.getElem?_take] at e1 e2
  split at e1
  · rename_i hi
    rw [if_pos hi] at e2
    exact h.2 i v o e1 e2
  · cases e1⟩
theorem ThAt.four {H : Hp} {v : V} {x y w d : Int} (h : ThAt H v (four4 x y w d)) : ∃ a, v = .ref a ∧ H a = some (.tup [.int x, .int y, .int w, .int d]) := by
  unfold four4 at h
  cases h with
  | tup a xs h hx => exact ⟨a, rfl, h⟩
theorem all_getD (pre : List (Option (List V))) (f : Option (List V) → Bool) : ((List.range pre.length).map fun i => f (pre.getD i none)).all id = pre.all f := by
  have e : ((List.range pre.length).map fun i => f (pre.getD i none)) = pre.map f := by
    refine List.ext_getElem? fun i => ?_
    rw [List.getElem?_map, List.getElem?_map]
    by_cases h : i < pre.length
    · rw [List.getElem?_range h, List.getElem?_eq_getElem h]
      show some (f (pre.getD i none)) = some (f pre[i])
      rw [List.getD_eq_getElem?_getD, List.getElem?_eq_getElem h]; rfl
    · rw [List.getElem?_eq_none (l := List.range pre.length) (by rw [List.length_range]; omega), List.getElem?_eq_none (l := pre) (by omega)]; rfl
  rw [e, List.all_map]; rfl
theorem stB_take {c r : Int} : ∀ (os pre : List (Option (List V))), stB c r pre os = true → ∀ o ∈ os, spotB c r o = true
  | [], _, _, _, m => by cases m
  | o :: t, pre, h, q, m => by
    rw [stB, Bool.and_eq_true, Bool.and_eq_true] at h
    rcases List.mem_cons.mp m with rfl | m
    · exact h.1.1
    · exact stB_take t _ h.2 q m
/-- what holds of the first so many -/
theorem stB_step {c r : Int} (os : List (Option (List V))) (pre : List (Option (List V))) : stB c r pre os = true ↔ ∀ p o, os[p]? = some o → (spotB c r o && (pre ++ os.take p).all (apartO o)) = true := by
  induction os generalizing pre with
  | nil => exact ⟨fun _ p o h => by simp at h, fun _ => rfl⟩
  | cons a t ih =>
    rw [stB, Bool.and_eq_true]
    constructor
    · rintro ⟨h1, h2⟩ p o h
      cases p with
      | zero => simp only [List.getElem?_cons_zero, Option.some.injEq] at h; subst h; simpa using h1
      | succ p => have := (ih (pre ++ [a])).mp h2 p o (by simpa using h); simpa [List.append_assoc] using this
    · intro h
      refine ⟨?_, (ih (pre ++ [a])).mpr fun p o hp => ?_⟩
      · have := h 0 a rfl; simpa using this
      · have := h (p + 1) o (by simpa using hp); simpa [List.append_assoc] using this
/-- an instance of a class -/
def InsC (C : Addr) (H : Hp) (v : V) : Prop := ∃ a dx fs, v = .ref a ∧ H a = some (.ins C dx fs)
theorem InsC.same {C : Addr} {H H' : Hp} {v : V} (h : InsC C H v) (s : Same H H') : InsC C H' v := let ⟨a, dx, fs, e, g⟩ := h; ⟨a, dx, fs, e, s _ _ g⟩
theorem upd_gen {R : Hp → Prop} {H : Hp} {x : Addr} {o : HO} (h : ∀ H2, But x H H2 → H2 x = some o → R H2) : R (upd H x o) := h _ But.refl.upd upd_same
/-! #### things as data -/
def toO : PyData → Option (List V)
  | .tuple ds => some (ds.map flV)
  | _ => none
def CelD (d : PyData) : Prop := d.canLay0 = true ∧ d.depth ≤ 1
theorem ty_flat : ∀ {d : PyData}, flatD d = true → tyD d ≠ "tuple"
  | .none, _ => (by decide : ("NoneType" : String) ≠ "tuple")
  | .bool _, _ => (by decide : ("bool" : String) ≠ "tuple")
  | .int _, _ => (by decide : ("int" : String) ≠ "tuple")
  | .str _, _ => (by decide : ("str" : String) ≠ "tuple")
  | .list _, h => by cases h
  | .tuple _, h => by cases h
  | .dict _, h => by cases h
theorem it_th {H : Hp} {v : V} {d : PyData} (h : It H v d) : ThAt H v (toO d) := by
  cases h with
  | fl d f =>
    have e : toO d = none := by cases d <;> first | rfl | cases f
    rw [e]
    exact .other _ (tyD d) (fl_t7 f) (ty_flat f)
  | @tup r ds g f =>
    refine .tup r _ g fun x m => ?_
    obtain ⟨d, hd, rfl⟩ := List.mem_map.mp m
    exact ⟨_, fl_t7 (List.all_eq_true.mp f d hd)⟩
  | @lst r ds g f => exact .other _ "list" (.lst g) (by decide)
theorem its_ths {H : Hp} {vs : List V} {ds : List PyData} (h : ItsAt H vs ds) : ThsAt H vs (ds.map toO) := ⟨by rw [List.length_map, h.1], fun i v o e1 e2 => by
  rw [List.getElem?_map] at e2
  obtain ⟨d, hd, hi⟩ := h.at' e1
  rw [hd] at e2
  cases e2
  exact it_th hi⟩
def cel4 (x y w d : Int) : PyData := .tuple [.int x, .int y, .int w, .int d]
theorem cel4_o (x y w d : Int) : toO (cel4 x y w d) = four4 x y w d := rfl
theorem cel4_c (x y w d : Int) : CelD (cel4 x y w d) := by simp [CelD, cel4, PyData.canLay0, PyData.canLayAll0, PyData.depth, PyData.depthAll]
theorem cels_shaped {ds : List PyData} (h : ∀ d ∈ ds, CelD d) : SeqAt.shaped (.list ds) = true := by
  have := shaped_map (m := 1) (g := fun d : {d // CelD d} => d.1) (by decide) (fun d => d.2.1) (fun d => d.2.2) (ds.attachWith _ h)
  rwa [List.attachWith_map_subtype_val] at this
/-- a dict with tuples as keys, empty -/
def tDNewTA : TE := fun _ H Q => New H (.dT []) Q
theorem pe_dnewTA {X : Cx} {pos : Pos} : PE X (.Dict [] [] pos) tDNewTA := pe_imp pe_dnewT fun _ _ _ h => h.go
/-- four whole numbers in a tuple -/
def IsC4 (d : PyData) : Prop := ∃ x y w h : Int, d = cel4 x y w h ∧ -100 ≤ x ∧ x ≤ 100
/-- a source and a dict may change -/
def But2 (a b : Addr) (H H' : Hp) : Prop := ∀ c o, c ≠ a → c ≠ b → H c = some o → H' c = some o
structure Dg (a g : Addr) (H H' : Hp) : Prop where
  s : Src H' a
  b : But2 a g H H'
theorem But2.trans {a b : Addr} {H H1 H2 : Hp} (p : But2 a b H H1) (q : But2 a b H1 H2) : But2 a b H H2 := fun c o n m h => q c o n m (p c o n m h)
theorem But2.of {a b : Addr} {H H1 : Hp} (p : Same H H1) : But2 a b H H1 := fun c o _ _ h => p c o h
theorem But2.l {a b : Addr} {H H1 : Hp} (p : But a H H1) : But2 a b H H1 := fun c o n _ h => p c o n h
theorem But2.r {a b : Addr} {H H1 : Hp} (p : But b H H1) : But2 a b H H1 := fun c o _ n h => p c o n h
theorem Dg.trans {a b : Addr} {H H1 H2 : Hp} (p : Dg a b H H1) (q : Dg a b H1 H2) : Dg a b H H2 := ⟨q.s, p.b.trans q.b⟩
theorem Dg.refl {a b : Addr} {H : Hp} (h : Src H a) : Dg a b H H := ⟨h, fun _ _ _ _ h => h⟩
theorem Dg.same {a b : Addr} {H H1 H2 : Hp} (p : Dg a b H H1) (q : Same H1 H2) : Dg a b H H2 := ⟨p.s.same q, p.b.trans (.of q)⟩
theorem Dg.dr {a b : Addr} {H H1 H2 : Hp} (p : Dg a b H H1) (q : Dr a H1 H2) : Dg a b H H2 := ⟨q.s, p.b.trans (.l q.b)⟩
theorem Dg.set {a b : Addr} {H H1 H2 : Hp} (p : Dg a b H H1) (q : But b H1 H2) (n : a ≠ b) : Dg a b H H2 := ⟨p.s.but q n, p.b.trans (.r q)⟩
/-- .. a list that was not there, too -/
theorem Dg.mut {a b l : Addr} {H H1 H2 : Hp} (p : Dg a b H H1) (q : But l H1 H2) (n : H l = none) (na : a ≠ l) : Dg a b H H2 := ⟨p.s.but q na, fun c o h1 h2 h => q _ _ (ne_of_none h n) (p.b c o h1 h2 h)⟩
/-- a list of such -/
def Cs4 (H : Hp) (us : List V) (ds : List PyData) : Prop := ItsAt H us ds ∧ ∀ d ∈ ds, IsC4 d
theorem c4_it {H : Hp} {p : Addr} {x y w h : Int} (g : H p = some (.tup [.int x, .int y, .int w, .int h])) : It H (.ref p) (cel4 x y w h) := .tup (ds := [.int x, .int y, .int w, .int h]) g rfl
theorem It.four {H : Hp} {v : V} {x y w h : Int} (i : It H v (cel4 x y w h)) : ∃ p, v = .ref p ∧ H p = some (.tup [.int x, .int y, .int w, .int h]) := by
  unfold cel4 at i
  cases i with
  | fl _ f => cases f
  | tup g f => exact ⟨_, rfl, g⟩
theorem Cs4.nil {H : Hp} : Cs4 H [] [] := ⟨⟨rfl, fun i v d e => by simp at e⟩, fun d h => by cases h⟩
theorem Cs4.same {H H' : Hp} {us : List V} {ds : List PyData} (h : Cs4 H us ds) (s : Same H H') : Cs4 H' us ds := ⟨h.1.mono s, h.2⟩
theorem Cs4.gen {H H' : Hp} {us : List V} {ds : List PyData} (h : Cs4 H us ds) (s : ∀ p xs, H p = some (.tup xs) → H' p = some (.tup xs)) : Cs4 H' us ds := ⟨⟨h.1.1, fun i v d e1 e2 => by
  have hi := h.1.2 i v d e1 e2
  obtain ⟨x, y, w, k, rfl, _⟩ := h.2 d (List.mem_of_getElem? e2)
  obtain ⟨p, rfl, g⟩ := hi.four
  exact c4_it (s _ _ g)⟩, h.2⟩
theorem Cs4.but {H H' : Hp} {us : List V} {ds : List PyData} {a : Addr} {zs : List V} (h : Cs4 H us ds) (b : But a H H') (g : H a = some (.lst zs)) : Cs4 H' us ds := h.gen fun p xs e => b _ _ (by rintro rfl; rw [g] at e; cases e) e
theorem Cs4.dr {H H' : Hp} {us : List V} {ds : List PyData} {a : Addr} (h : Cs4 H us ds) (d : Dr a H H') (g : Src H a) : Cs4 H' us ds := let ⟨_, e⟩ := g; h.but d.b e
theorem Cs4.dg {H H' : Hp} {us : List V} {ds : List PyData} {a g : Addr} {kvs : List (List Key × V)} (h : Cs4 H us ds) (d : Dg a g H H') (s : Src H a) (e : H g = some (.dT kvs)) : Cs4 H' us ds :=
  h.gen fun p xs q => d.b _ _ (by rintro rfl; obtain ⟨_, z⟩ := s; rw [z] at q; cases q) (by rintro rfl; rw [e] at q; cases q) q
theorem Cs4.snoc {H : Hp} {us : List V} {ds : List PyData} {p : Addr} {x y w k : Int} (h : Cs4 H us ds) (g : H p = some (.tup [.int x, .int y, .int w, .int k])) (b : -100 ≤ x ∧ x ≤ 100) : Cs4 H (us ++ [.ref p]) (ds ++ [cel4 x y w k]) :=
  ⟨h.1.append (.one (c4_it g)), fun d m => by
    rcases List.mem_append.mp m with m | m
    · exact h.2 d m
    · rw [List.mem_singleton.mp m]; exact ⟨_, _, _, _, rfl, b⟩⟩
/-- a list of pairs of whole numbers -/
inductive C2s (H : Hp) : List V → List (Int × Int) → Prop
  | nil : C2s H [] []
  | cons {p : Addr} {x y : Int} {us : List V} {cs : List (Int × Int)} (g : H p = some (.tup [.int x, .int y])) (b : -100 ≤ x ∧ x ≤ 100) (t : C2s H us cs) : C2s H (.ref p :: us) ((x, y) :: cs)
theorem C2s.gen {H H' : Hp} (s : ∀ p xs, H p = some (.tup xs) → H' p = some (.tup xs)) : ∀ {us : List V} {cs : List (Int × Int)}, C2s H us cs → C2s H' us cs
  | _, _, .nil => .nil
  | _, _, .cons g b t => .cons (s _ _ g) b (t.gen s)
theorem C2s.same {H H' : Hp} {us : List V} {cs : List (Int × Int)} (h : C2s H us cs) (s : Same H H') : C2s H' us cs := h.gen fun p xs e => s _ _ e
theorem C2s.but {H H' : Hp} {us : List V} {cs : List (Int × Int)} {a : Addr} {zs : List V} (h : C2s H us cs) (b : But a H H') (g : H a = some (.lst zs)) : C2s H' us cs := h.gen fun p xs e => b _ _ (by rintro rfl; rw [g] at e; cases e) e
theorem C2s.snoc {H : Hp} {p : Addr} {x y : Int} (g : H p = some (.tup [.int x, .int y])) (b : -100 ≤ x ∧ x ≤ 100) : ∀ {us : List V} {cs : List (Int × Int)}, C2s H us cs → C2s H (us ++ [.ref p]) (cs ++ [(x, y)])
  | _, _, .nil => .cons g b .nil
  | _, _, .cons h b' t => .cons h b' (t.snoc g b)
theorem C2s.dp {K : PySem.W.Frag} {H : Hp} : ∀ {us : List V} {cs : List (Int × Int)}, C2s H us cs → DpAll K H us (cs.map fun c => .tuple [.int c.1, .int c.2])
  | _, _, .nil => .nil
  | _, _, .cons h _ t => .cons (.tup (sqT h) (.cons (.int _) (.cons (.int _) .nil))) t.dp
theorem C2s.at {H : Hp} : ∀ {us : List V} {cs : List (Int × Int)} {i : Nat} {v : V}, C2s H us cs → us[i]? = some v → ∃ p x y, v = .ref p ∧ H p = some (.tup [.int x, .int y]) ∧ -100 ≤ x ∧ x ≤ 100
  | _, _, i, v, .nil, h => by simp at h
  | _, _, 0, v, .cons g b t, h => by simp only [List.getElem?_cons_zero, Option.some.injEq] at h; subst h; exact ⟨_, _, _, rfl, g, b⟩
  | _, _, i + 1, v, .cons g b t, h => t.at (by simpa using h)
theorem C2s.shaped (cs : List (Int × Int)) : SeqAt.shaped (.list (cs.map fun c => .tuple [.int c.1, .int c.2])) = true := shaped_map (m := 1) (by decide) (fun c => by simp [PyData.canLay0, PyData.canLayAll0]) (fun c => by simp [PyData.depth, PyData.depthAll]) cs
theorem C2s.len {H : Hp} : ∀ {us : List V} {cs : List (Int × Int)}, C2s H us cs → us.length = cs.length
  | _, _, .nil => rfl
  | _, _, .cons _ _ t => congrArg Nat.succ t.len
theorem PyData_cons_nil {d : PyData} {ds : List PyData} : PyData.eqv (.list (d :: ds)) (.list []) = false := by simp [PyData.eqv, PyData.eqvAll]
theorem Dg.free {s g q : Addr} {H H1 : Hp} {o : HO} (d : Dg s g H H1) (e : H1 g = some o) (f : H1 q = none) : H q = none := by
  cases z : H q with
  | none => rfl
  | some u =>
    have n1 : q ≠ s := by rintro rfl; obtain ⟨_, y⟩ := d.s; rw [f] at y; cases y
    have n2 : q ≠ g := by rintro rfl; rw [f] at e; cases e
    rw [d.b _ _ n1 n2 z] at f
    cases f
theorem small1000' {n : Nat} (h : n ≤ 100000) : n < sizeLine := Nat.lt_of_le_of_lt h (by decide)
theorem spot_no {x y w d : V} {c r : Int} (h : (isI x && (isI y && (isI w && isI d))) = false) : spotB c r (some [x, y, w, d]) = false := by
  cases e : spotB c r (some [x, y, w, d]) with
  | false => rfl
  | true =>
    obtain ⟨X, Y, W, D, e2, _⟩ := spot_int e
    unfold four4 at e2
    cases e2
    cases h
theorem its_nil {H : Hp} : ItsAt H [] [] := ⟨rfl, fun i v d e => by simp at e⟩
theorem its_cons {H : Hp} {v : V} {d : PyData} {vs : List V} {ds : List PyData} (h : It H v d) (t : ItsAt H vs ds) : ItsAt H (v :: vs) (d :: ds) := (ItsAt.one h).append t
theorem tupI {H : Hp} {r : Addr} {ds : List PyData} (g : H r = some (.tup (ds.map flV))) (f : ds.all flatD = true) : It H (.ref r) (.tuple ds) := .tup g f
theorem all_cd {d : PyData} {ds : List PyData} (h : CelD d) (t : ∀ e ∈ ds, CelD e) : ∀ e ∈ d :: ds, CelD e := List.forall_mem_cons.mpr ⟨h, t⟩
theorem all_nd : ∀ e ∈ ([] : List PyData), CelD e := fun _ h => by cases h
/-- some things as data -/
def Its1 (H : Hp) (us : List V) : Prop := ∃ ds, ItsAt H us ds ∧ ∀ d ∈ ds, CelD d
theorem Its1.same {H H' : Hp} {us : List V} (h : Its1 H us) (s : Same H H') : Its1 H' us := let ⟨d, a, b⟩ := h; ⟨d, a.mono s, b⟩
theorem Its1.app {H : Hp} {us ws : List V} (h : Its1 H us) (k : Its1 H ws) : Its1 H (us ++ ws) := by
  obtain ⟨d, a, b⟩ := h
  obtain ⟨d', a', b'⟩ := k
  exact ⟨d ++ d', a.append a', fun e m => (List.mem_append.mp m).elim (b e) (b' e)⟩
theorem lstI {H : Hp} {r : Addr} {ds : List PyData} (g : H r = some (.lst (ds.map flV))) (f : ds.all flatD = true) : It H (.ref r) (.list ds) := .lst g f
theorem small_log {x : Int} (h : -100 ≤ x ∧ x ≤ 100) : x.natAbs.log2 < 1920 := Nat.lt_of_le_of_lt (Nat.log2_le_self _) (by omega)
theorem strOk_of (t : String) : PyData.strOk (Str.ofString t) = true := strOk_iff.mpr fun c hc => by
  have e : (Str.ofString t).cps.toList = t.toList.map Char.toNat := by
    show (cpsOfBytes 0 0 t.toByteArray.data.toList).toArray.toList = _
    rw [List.toList_toArray, cpsOfBytes_string]
  rw [e] at hc
  obtain ⟨ch, _, rfl⟩ := List.mem_map.mp hc
  have v : ch.val.isValidChar := ch.valid
  show ch.val.toNat < _
  rcases v with v | v
  · have : ch.val.toNat < 0xd800 := v
    omega
  · exact v.2
theorem its1_all {H : Hp} {us : List V} : Its1 H us ↔ ∀ v ∈ us, ∃ d, It H v d ∧ CelD d := by
  constructor
  · rintro ⟨ds, h, c⟩ v m
    obtain ⟨i, hi⟩ := List.getElem?_of_mem m
    obtain ⟨d, hd, it⟩ := h.at' hi
    exact ⟨d, it, c d (List.mem_of_getElem? hd)⟩
  · intro h
    induction us with
    | nil => exact ⟨[], its_nil, all_nd⟩
    | cons v t ih =>
      obtain ⟨d, it, c⟩ := h v (List.mem_cons_self ..)
      obtain ⟨ds, ht, ct⟩ := ih fun w m => h w (List.mem_cons_of_mem _ m)
      exact ⟨d :: ds, its_cons it ht, all_cd c ct⟩
theorem Its1.dr {H H' : Hp} {us : List V} {s : Addr} (h : Its1 H us) (d : Dr s H H') : Its1 H' us := its1_all.mpr fun v m => by
  obtain ⟨x, it, c⟩ := its1_all.mp h v m
  by_cases e : v = .ref s
  · subst e
    obtain ⟨⟨a, b, c⟩, g⟩ := d.s
    exact ⟨.list [.int a, .int b, .int c], .lst g rfl, by simp [CelD, PyData.canLay0, PyData.canLayAll0, PyData.depth, PyData.depthAll]⟩
  · exact ⟨x, it.but d.b e, c⟩
theorem Its1.sub {H : Hp} {us ws : List V} (h : Its1 H us) (m : ∀ v ∈ ws, v ∈ us) : Its1 H ws := its1_all.mpr fun v mv => its1_all.mp h v (m v mv)
theorem Cs4.its {H : Hp} {us : List V} {ds : List PyData} (h : Cs4 H us ds) : Its1 H us := ⟨ds, h.1, fun d m => by
  obtain ⟨x, y, w, k, rfl, _⟩ := h.2 d m
  exact cel4_c x y w k⟩
/-! #### cells of a grid -/
abbrev Sp4 := Int × Int × Int × Int
def InS (q : Sp4) (a b : Int) : Prop := q.1 ≤ a ∧ a < q.1 + q.2.2.1 ∧ q.2.1 ≤ b ∧ b < q.2.1 + q.2.2.2
def sp4 (q : Sp4) : Option (List V) := four4 q.1 q.2.1 q.2.2.1 q.2.2.2
def KeysI (kvs : List (List Key × V)) (S : Int → Int → Prop) : Prop := ∀ a b : Int, (valV kvs [.inl a, .inl b]).isSome = true ↔ S a b
theorem KeysI.put {kvs : List (List Key × V)} {S : Int → Int → Prop} (h : KeysI kvs S) (a0 b0 : Int) (v : V) : KeysI (putK kvs [.inl a0, .inl b0] v) (fun a b => S a b ∨ (a = a0 ∧ b = b0)) := fun a b => by
  rw [valV_put]
  by_cases e : ([.inl a, .inl b] : List Key) = [.inl a0, .inl b0]
  · rw [if_pos e]
    have : a = a0 ∧ b = b0 := by
      simp only [List.cons.injEq, Sum.inl.injEq, and_true] at e
      exact e
    exact ⟨fun _ => .inr this, fun _ => rfl⟩
  · rw [if_neg e, h a b]
    refine ⟨.inl, fun h => h.elim id fun k => absurd ?_ e⟩
    rw [k.1, k.2]
theorem KeysI.imp {kvs : List (List Key × V)} {S T : Int → Int → Prop} (h : KeysI kvs S) (e : ∀ a b, S a b ↔ T a b) : KeysI kvs T := fun a b => (h a b).trans (e a b)
/-- all of them stand -/
theorem all_sp4 {c r : Int} : ∀ {os : List (Option (List V))}, (∀ o ∈ os, spotB c r o = true) → ∃ qs : List Sp4, os = qs.map sp4 ∧ ∀ q ∈ qs, 0 ≤ q.1 ∧ 1 ≤ q.2.2.1 ∧ q.1 + q.2.2.1 ≤ c ∧ 0 ≤ q.2.1 ∧ 1 ≤ q.2.2.2 ∧ q.2.1 + q.2.2.2 ≤ r
  | [], _ => ⟨[], rfl, fun q h => by cases h⟩
  | o :: t, h => by
    obtain ⟨x, y, w, d, e, h1, h2, h3, h4, h5, h6⟩ := spot_int (h o (List.mem_cons_self ..))
    obtain ⟨qs, eq, hq⟩ := all_sp4 fun o' m => h o' (List.mem_cons_of_mem _ m)
    refine ⟨(x, y, w, d) :: qs, by rw [List.map_cons, ← eq, e]; rfl, fun q m => ?_⟩
    rcases List.mem_cons.mp m with rfl | m
    · exact ⟨h1, h2, h3, h4, h5, h6⟩
    · exact hq q m
theorem apart_sp4 (p q : Sp4) : apartO (sp4 p) (sp4 q) = apartI p.1 p.2.1 p.2.2.1 p.2.2.2 q.1 q.2.1 q.2.2.1 q.2.2.2 := rfl
/-- apart just where no cell is had by both -/
theorem apart_iff {p q : Sp4} (p1 : 1 ≤ p.2.2.1) (p2 : 1 ≤ p.2.2.2) (q1 : 1 ≤ q.2.2.1) (q2 : 1 ≤ q.2.2.2) : apartO (sp4 p) (sp4 q) = true ↔ ∀ a b, InS p a b → ¬ InS q a b := by
  rw [apart_sp4]
  unfold apartI InS
  rw [Bool.or_eq_true, Bool.or_eq_true, Bool.or_eq_true, decide_eq_true_eq, decide_eq_true_eq, decide_eq_true_eq, decide_eq_true_eq]
  constructor
  · intro h a b h1 h2; omega
  · intro h
    by_cases c1 : p.1 + p.2.2.1 ≤ q.1
    · exact .inl (.inl c1)
    by_cases c2 : q.1 + q.2.2.1 ≤ p.1
    · exact .inl (.inr c2)
    by_cases c3 : p.2.1 + p.2.2.2 ≤ q.2.1
    · exact .inr (.inl c3)
    by_cases c4 : q.2.1 + q.2.2.2 ≤ p.2.1
    · exact .inr (.inr c4)
    exact absurd ⟨by omega, by omega, by omega, by omega⟩ (h (max p.1 q.1) (max p.2.1 q.2.1) ⟨by omega, by omega, by omega, by omega⟩)
theorem tks_of {H : Hp} : ∀ {us : List V}, (∀ v ∈ us, ∃ t : Tk, TkAt H v t ∧ t.ok) → ∃ ts : List Tk, TksAt H us ts ∧ ∀ t ∈ ts, t.ok
  | [], _ => ⟨[], ⟨rfl, fun i v t e => by simp at e⟩, fun t h => by cases h⟩
  | v :: us, h => by
    obtain ⟨t, ht, ok⟩ := h v (List.mem_cons_self ..)
    obtain ⟨ts, hts, oks⟩ := tks_of fun w m => h w (List.mem_cons_of_mem _ m)
    refine ⟨t :: ts, ⟨by rw [List.length_cons, List.length_cons, hts.1], fun i w u e1 e2 => ?_⟩, fun u m => ?_⟩
    · cases i with
      | zero => cases e1; cases e2; exact ht
      | succ i => exact hts.2 i w u (by simpa using e1) (by simpa using e2)
    · rcases List.mem_cons.mp m with rfl | m
      · exact ok
      · exact oks u m
theorem InsC.but {C D : Addr} {H H' : Hp} {v : V} {zs : List V} (h : InsC C H v) (b : But D H H') (g : H D = some (.lst zs)) : InsC C H' v := by
  obtain ⟨a, dx, fs, rfl, e⟩ := h
  exact ⟨a, dx, fs, rfl, b _ _ (by rintro rfl; rw [g] at e; cases e) e⟩
theorem InsC.dr {C s : Addr} {H H' : Hp} {v : V} (h : InsC C H v) (hs : Src H s) (d : Dr s H H') : InsC C H' v := let ⟨_, g⟩ := hs; h.but d.b g
theorem letter_at {i : Int} (h0 : 0 ≤ i) (h1 : i < 8) : ∃ c, atI (Str.ofString "abcdefgh").cps.toList i = some c ∧ c ∈ lettersL := by
  have e : (Str.ofString "abcdefgh").cps.toList = [97, 98, 99, 100, 101, 102, 103, 104] := by decide +kernel
  have l : ∀ c ∈ ([97, 98, 99, 100, 101, 102, 103, 104] : List Nat), c ∈ lettersL := by decide +kernel
  rw [e]
  obtain ⟨k, rfl⟩ := Int.eq_ofNat_of_zero_le h0
  have hk : k < ([97, 98, 99, 100, 101, 102, 103, 104] : List Nat).length := by show k < 8; omega
  exact ⟨_, atI_nat (List.getElem?_eq_getElem hk), l _ (List.getElem_mem hk)⟩
theorem canLay_list : ∀ {ds : List PyData}, (∀ d ∈ ds, CelD d) → (PyData.list ds).canLay0 = true := by
  intro ds h
  show PyData.canLayAll0 ds = true
  induction ds with
  | nil => rfl
  | cons d t ih => simp only [PyData.canLayAll0, (h d (List.mem_cons_self ..)).1, ih fun e m => h e (List.mem_cons_of_mem _ m), Bool.and_self]
theorem It.there {H : Hp} {v : V} {d : PyData} (h : It H v d) : ∀ c, v = .ref c → H c ≠ none := fun c e => by
  subst e
  generalize hv : V.ref c = v at h
  cases h with
  | fl d f => cases d <;> first | (cases hv; done) | cases f
  | tup g f => cases hv; rw [g]; exact fun h => by cases h
  | lst g f => cases hv; rw [g]; exact fun h => by cases h
theorem shaped_tup {ds : List PyData} (h : SeqAt.shaped (.list ds) = true) : SeqAt.shaped (.tuple ds) = true := by
  simpa [SeqAt.shaped, PyData.canLay0, PyData.depth] using h
theorem eqv_tup_self {ds : List PyData} (h : (PyData.list ds).canLay0 = true) : PyData.eqv (.tuple ds) (.tuple ds) = true := SeqAt.eqv_refl _ (by simpa [PyData.canLay0] using h)
theorem lcTx {K : PySem.W.Frag} {g : TG} {tt : TT} {te : TE} {vs : List Nat} {σ : L2.St} {H1 : Hp} {D a : Addr} {Qd : Hp → Prop} {xs : List V} (f : Nat → V) (hD : H1 D = none) (hx : SqT K H1 a xs) (hn : xs.length ≤ 100000)
    (hs : ∀ (i : Nat) (x : V) (H : Hp) (Kt : V → Hp → Prop) (Kf : Hp → Prop), xs[i]? = some x → Same H1 H → (∀ H4, Same H H4 → Kt (f i) H4) → LcT g tt te vs σ x H Kt Kf)
    (hd : ∀ H, Same H1 H → H D = some (.lst ((List.range xs.length).map f)) → Qd H) : LcG (Itt K a) g tt te vs σ H1 D Qd :=
  lcTq (ysF f (fun _ => true) (List.range xs.length)) hD hx hn (fun i x H Kt Kf hxi s qq => by
    have hi := (List.getElem?_eq_some_iff.mp hxi).1
    exact hs i x H Kt Kf hxi s (fun H4 s4 => qq.yes _ _ s4 (by unfold ysF; rw [range_get hi]; rfl)))
    (fun H s h => hd H s (by have := ysF_all f (fun _ => true) (List.range xs.length); rw [List.length_range] at this; rw [h, this, List.filter_eq_self.mpr fun _ _ => rfl]))
end My

/-! ### a target with a star at its end: x, *r = a tuple -/
namespace My
open PySem PySem.Spec PyProof.Rows L2
section
variable {prog : Program} {w : World} {A : Around} {E : Value → Shared → Prop} {s : Shared}
theorem walks_off {I : Addr} {fp wr : List Addr} {n : Nat} {P : Nat → Value → Prop} {St : Nat → Heap → Prop} (W : Walks prog w A I fp wr (n + 1) P St) : Walks prog w A I fp wr n (fun i => P (i + 1)) (fun i => St (i + 1)) where
  sub := W.sub
  frame := fun i => W.frame (i + 1)
  item := fun i s Q E hi st hQ => W.item (i + 1) s Q E (Nat.succ_lt_succ hi) st hQ
  done := fun s Q E st hQ => W.done s Q E st hQ
  self := fun i => W.self (i + 1)
theorem unpack_hd_rest {t : Addr} {x : Value} {its : List Value} {Q : List Value → Shared → Prop} (hh : A.handled = none) (hh1 : A.in1.handled = none) (ht : IsTup s.heap t (x :: its).toArray) (hz : its.length ≤ sizeLine)
    (hQ : ∀ (h' : Heap) (tk : Nat), (∀ b o, s.heap.get? b = some o → h'.get? b = some o) → Q [x, .ref h'.objs.size] { s with heap := h'.push { cls := .type "list", data := .seq its.toArray }, toks := tk }) :
    wpAny (model prog w) A (unpackItems (.ref t) 2 (some 1)) Q E s := by
  have hlt : t ≠ s.heap.objs.size := by obtain ⟨o, ho, _⟩ := ht; exact Nat.ne_of_lt (Heap.lt_size ho)
  unfold unpackItems
  refine wpAny_bind ?_
  unfold notIterableAtAll
  refine wpAny_bind (wpAny_specialOf ht.typeIs slot_tuple_iter.lookup ?_)
  refine wpAny_pure ?_
  simp only [Bool.false_eq_true, if_false]
  refine wpAny_bind (wpAny_holding (iter_tuple ht ?_))
  refine wpAny_bind (wpAny_holding (draw_tuple hlt 1 0 _ _ ⟨_, Heap.get?_push_size _ rfl, rfl, rfl⟩ (ht.push _) (by simp) fun h₁ hit₁ hs₁ => ?_))
  have hall : List.take 1 (List.drop 0 (x :: its).toArray.toList) = [x] := rfl
  rw [hall]
  rw [if_neg (by simp)]
  have ht₁ : IsTup h₁ t (x :: its).toArray := (ht.push _).extBut hs₁.extBut hlt
  have W := walks_off (n := its.length) (by have := Walks.tuple (prog := prog) (w := w) (A := A.in1) hh1 s.heap.objs.size t hlt (x :: its).toArray; simpa using this)
  refine wpAny_bind (wpAny_holding (wpAny_collect_iter (.inr (.inr (.inr rfl))) W.toS (fun i s st => st.1.typeIs) ⟨hit₁, ht₁⟩ (fun b hb => ?_) (by simp) (fun s' acc hm hacc => ?_) hz))
  · have hI := hit₁
    obtain ⟨o, ho, _⟩ := hI
    obtain ⟨o2, ho2, _⟩ := ht₁
    rcases List.mem_cons.mp hb with rfl | hb
    · exact Heap.lt_size ho
    · rw [List.mem_singleton.mp hb]; exact Heap.lt_size ho2
  have ea : acc.toList = its := by
    obtain ⟨hl, hi⟩ := hacc
    apply List.ext_getElem?
    intro j
    by_cases hj : j < acc.toList.length
    · rw [List.getElem?_eq_getElem hj]
      have := hi j acc[j] (by rw [Array.getElem?_eq_getElem])
      simpa using this.symm
    · rw [List.getElem?_eq_none (by omega), List.getElem?_eq_none (by rw [Array.length_toList] at hj; omega)]
  rw [ea]
  simp only [Nat.sub_self, Nat.not_lt_zero, if_false, Nat.sub_zero, List.take_length, List.drop_length]
  refine wpAny_bind (m := newList its) (wpAny_newObj_type ?_ (by exact hz))
  refine wpAny_pure ?_
  obtain ⟨hp', g', d', tk', os'⟩ := s'
  have eg : g' = s.gens := hm.gens
  have ed : d' = s.drawn := hm.drawn
  have eo : os' = s.os := hm.os
  subst eg ed eo
  exact hQ hp' tk' fun b o e => hm.heap b o (fun hb => Nat.ne_of_lt (Heap.lt_size e) (List.mem_singleton.mp hb)) (hs₁.extBut b o (Nat.ne_of_lt (Heap.lt_size e)) (Heap.get?_push_of_some _ e))
end
theorem pgs_starred {X : Cx} {e : Expr} {p : Pos} {es : List Expr} {t : TG} {u : TGs} (h1 : PG X e t) (h2 : PGs X es u)
    (hs : (assignEach (.Starred e p :: es) X.env).map (·.2) = assign e X.env :: (assignEach es X.env).map (·.2) := by rfl) : PGs X (.Starred e p :: es) (gCons t u) := by
  refine ⟨fun pins s σ H vs us Q I r h => ?_⟩
  obtain ⟨v, vr, e1, h⟩ := h
  subst e1
  cases r with
  | cons r rr =>
    rw [hs]
    refine assignInOrder_cons (thn (h1.run pins s σ H _ _ _ I r h) fun _ s1 ⟨σ1, H1, I1, q1⟩ => ?_)
    exact h2.run pins s1 σ1 H1 _ _ Q I1 rr q1
/-- x, *r = a tuple: the first one, a new list of the others -/
def gHdRest (K : PySem.W.Frag) (t : TGs) : TG := fun v σ H Q => ∃ a x xs, v = .ref a ∧ SqT K H a (x :: xs) ∧ New H (.lst xs) fun r H' => t [x, r] σ H' Q
theorem pg_hdRest {X : Cx} {es : List Expr} {k : Nat} {pos : Pos} {t : TGs} (hc : X.calm = true) (h : PGs X es t)
    (hn : (assignEach es X.env).length = 2 := by rfl) (hst : (assignEach es X.env).findIdx? (·.1) = some 1 := by rfl) : PG X (.Tuple es k pos) (gHdRest X.K t) := by
  refine ⟨fun pins s σ H v u Q I r hw => ?_⟩
  obtain ⟨a, x, xs, e1, hq, hw⟩ := hw
  subst e1
  cases r
  obtain ⟨its, rv, ht, hz⟩ := I.tuple hq
  cases rv with
  | @cons _ u1 _ us r1 r2 =>
    rw [assign_Tuple]
    refine wpAny_bind (wpAny_standAt ?_)
    unfold unpack
    rw [hn, hst]
    have hz' : us.length ≤ sizeLine := by rw [← r2.length]; exact Nat.le_trans (Nat.le_succ _) hz
    refine wpAny_bind (wpAny_holding (unpack_hd_rest (I.ok.hd hc) (I.ok.hd hc) ht hz' fun h' tk hk => ?_))
    have I1 : Inv X pins σ H { s with heap := h', toks := tk } := I.kept (t' := tk) hk
    have I2 := I1.laid (t' := tk) (a := h'.objs.size) (o := .lst xs) (fun b ob q => Heap.get?_push_of_some { cls := .type "list", data := .seq us.toArray } q) (Nat.le_refl _) ⟨Nat.le_trans (Nat.le_succ _) hz, us, 0, r2, Heap.get?_push_size _ rfl⟩
    exact h.run pins _ σ _ [x, .ref h'.objs.size] [u1, .ref h'.objs.size] Q I2 (.cons r1 (.cons rfl .nil)) (hw.go _ (I1.hok.fresh (Nat.le_refl _)))
/-! ### a star at any place -/
section
variable {prog : Program} {w : World} {A : Around} {E : Value → Shared → Prop} {s : Shared}
theorem walks_offK {I : Addr} {fp wr : List Addr} {n : Nat} {P : Nat → Value → Prop} {St : Nat → Heap → Prop} (k : Nat) (W : Walks prog w A I fp wr (k + n) P St) : Walks prog w A I fp wr n (fun i => P (k + i)) (fun i => St (k + i)) where
  sub := W.sub
  frame := fun i => W.frame (k + i)
  item := fun i s Q E hi st hQ => W.item (k + i) s Q E (Nat.add_lt_add_left hi k) st hQ
  done := fun s Q E st hQ => W.done s Q E st hQ
  self := fun i => W.self (k + i)
theorem unpack_star {t : Addr} {ps ms qs : List Value} {Q : List Value → Shared → Prop} (hh : A.handled = none) (hh1 : A.in1.handled = none) (ht : IsTup s.heap t (ps ++ (ms ++ qs)).toArray) (hz : (ms ++ qs).length ≤ sizeLine)
    (hQ : ∀ (h' : Heap) (tk : Nat), (∀ b o, s.heap.get? b = some o → h'.get? b = some o) → Q (ps ++ [.ref h'.objs.size] ++ qs) { s with heap := h'.push { cls := .type "list", data := .seq ms.toArray }, toks := tk }) :
    wpAny (model prog w) A (unpackItems (.ref t) (ps.length + 1 + qs.length) (some ps.length)) Q E s := by
  have hlt : t ≠ s.heap.objs.size := by obtain ⟨o, ho, _⟩ := ht; exact Nat.ne_of_lt (Heap.lt_size ho)
  unfold unpackItems
  refine wpAny_bind ?_
  unfold notIterableAtAll
  refine wpAny_bind (wpAny_specialOf ht.typeIs slot_tuple_iter.lookup ?_)
  refine wpAny_pure ?_
  simp only [Bool.false_eq_true, if_false]
  refine wpAny_bind (wpAny_holding (iter_tuple ht ?_))
  refine wpAny_bind (wpAny_holding (draw_tuple hlt ps.length 0 _ _ ⟨_, Heap.get?_push_size _ rfl, rfl, rfl⟩ (ht.push _) (by simp) fun h₁ hit₁ hs₁ => ?_))
  have hall : List.take ps.length (List.drop 0 (ps ++ (ms ++ qs)).toArray.toList) = ps := by
    rw [List.drop_zero]
    exact List.take_left
  rw [hall]
  rw [if_neg (by simp)]
  have ht₁ : IsTup h₁ t (ps ++ (ms ++ qs)).toArray := (ht.push _).extBut hs₁.extBut hlt
  have W0 : Walks prog w A.in1 s.heap.objs.size [s.heap.objs.size, t] [s.heap.objs.size] (ps.length + (ms ++ qs).length) (fun i v => (ps ++ (ms ++ qs)).toArray[i]? = some v) (fun i h => h.IsTupleIter s.heap.objs.size t i ∧ h.IsTuple t (ps ++ (ms ++ qs)).toArray) := by
    rw [show ps.length + (ms ++ qs).length = (ps ++ (ms ++ qs)).toArray.size from by rw [List.size_toArray, List.length_append (as := ps)]]
    exact Walks.tuple hh1 s.heap.objs.size t hlt (ps ++ (ms ++ qs)).toArray
  have W := walks_offK ps.length W0
  refine wpAny_bind (wpAny_holding (wpAny_collect_iter (.inr (.inr (.inr rfl))) W.toS (fun i s st => st.1.typeIs) ⟨by rw [Nat.add_zero, ← Nat.zero_add ps.length]; exact hit₁, ht₁⟩ (fun b hb => ?_) (by simp) (fun s' acc hm hacc => ?_) hz))
  · have hI := hit₁
    obtain ⟨o, ho, _⟩ := hI
    obtain ⟨o2, ho2, _⟩ := ht₁
    rcases List.mem_cons.mp hb with rfl | hb
    · exact Heap.lt_size ho
    · rw [List.mem_singleton.mp hb]; exact Heap.lt_size ho2
  have ea : acc.toList = ms ++ qs := by
    obtain ⟨hl, hi⟩ := hacc
    apply List.ext_getElem?
    intro j
    by_cases hj : j < acc.toList.length
    · rw [List.getElem?_eq_getElem hj]
      have := hi j acc[j] (by rw [Array.getElem?_eq_getElem])
      have this : (ps ++ (ms ++ qs)).toArray[ps.length + j]? = some acc[j] := this
      rw [List.getElem?_toArray, List.getElem?_append_right (by omega), Nat.add_sub_cancel_left] at this
      exact this.symm
    · rw [List.getElem?_eq_none (by omega), List.getElem?_eq_none (by rw [Array.length_toList] at hj; omega)]
  rw [ea]
  have e1 : ps.length + 1 + qs.length - 1 - ps.length = qs.length := by omega
  rw [e1, if_neg (by rw [List.length_append]; omega)]
  have e2 : (ms ++ qs).length - qs.length = ms.length := by rw [List.length_append]; omega
  rw [e2, List.take_left, List.drop_left]
  refine wpAny_bind (m := newList ms) (wpAny_newObj_type ?_ (by
    show ms.toArray.size ≤ _
    rw [List.size_toArray]
    rw [List.length_append] at hz
    exact Nat.le_trans (Nat.le_add_right _ _) hz))
  refine wpAny_pure ?_
  obtain ⟨hp', g', d', tk', os'⟩ := s'
  have eg : g' = s.gens := hm.gens
  have ed : d' = s.drawn := hm.drawn
  have eo : os' = s.os := hm.os
  subst eg ed eo
  exact hQ hp' tk' fun b o e => hm.heap b o (fun hb => Nat.ne_of_lt (Heap.lt_size e) (List.mem_singleton.mp hb)) (hs₁.extBut b o (Nat.ne_of_lt (Heap.lt_size e)) (Heap.get?_push_of_some _ e))
end
theorem vals_app {ps qs : List V} {us : List Value} (h : Vals (ps ++ qs) us) : ∃ u1 u2, us = u1 ++ u2 ∧ Vals ps u1 ∧ Vals qs u2 := by
  refine ⟨us.take ps.length, us.drop ps.length, (List.take_append_drop _ _).symm, ?_, ?_⟩
  · have := h.take ps.length
    rwa [List.take_left] at this
  · have := h.drop ps.length
    rwa [List.drop_left] at this
/-- .., *r, .. = a tuple: those ahead, a new list of those amid, those behind -/
def gStar (K : PySem.W.Frag) (i j : Nat) (t : TGs) : TG := fun v σ H Q => ∃ a ps ms qs, v = .ref a ∧ ps.length = i ∧ qs.length = j ∧ SqT K H a (ps ++ (ms ++ qs)) ∧ New H (.lst ms) fun r H' => t (ps ++ [r] ++ qs) σ H' Q
theorem pg_star {X : Cx} {es : List Expr} {k : Nat} {pos : Pos} {t : TGs} (i j : Nat) (hc : X.calm = true) (h : PGs X es t)
    (hn : (assignEach es X.env).length = i + 1 + j := by rfl) (hst : (assignEach es X.env).findIdx? (·.1) = some i := by rfl) : PG X (.Tuple es k pos) (gStar X.K i j t) := by
  refine ⟨fun pins s σ H v u Q I r hw => ?_⟩
  obtain ⟨a, ps, ms, qs, e1, lp, lq, hq, hw⟩ := hw
  subst e1
  cases r
  obtain ⟨its, rv, ht, hz⟩ := I.tuple hq
  obtain ⟨us, r1, e2, rp, rv⟩ := vals_app rv
  obtain ⟨um, uq, e3, rm, rq⟩ := vals_app rv
  subst e2 e3
  rw [assign_Tuple]
  refine wpAny_bind (wpAny_standAt ?_)
  unfold unpack
  rw [hn, hst]
  have hz' : (um ++ uq).length ≤ sizeLine := by
    have := rm.length
    have := rq.length
    have := rp.length
    rw [List.length_append, List.length_append] at hz
    rw [List.length_append]
    omega
  have hl1 : us.length = i := by rw [← rp.length]; exact lp
  have hl2 : uq.length = j := by rw [← rq.length]; exact lq
  rw [← hl1, ← hl2]
  refine wpAny_bind (wpAny_holding (unpack_star (I.ok.hd hc) (I.ok.hd hc) ht hz' fun h' tk hk => ?_))
  have I1 : Inv X pins σ H { s with heap := h', toks := tk } := I.kept (t' := tk) hk
  have I2 := I1.laid (t' := tk) (a := h'.objs.size) (o := .lst ms) (fun b ob q => Heap.get?_push_of_some { cls := .type "list", data := .seq um.toArray } q) (Nat.le_refl _) ⟨by rw [rm.length]; rw [List.length_append] at hz'; omega, um, 0, rm, Heap.get?_push_size _ rfl⟩
  exact h.run pins _ σ _ (ps ++ [.ref h'.objs.size] ++ qs) (us ++ [.ref h'.objs.size] ++ uq) Q I2 ((rp.append (Paired.cons (show RelV (V.ref h'.objs.size) (Value.ref h'.objs.size) from rfl) .nil)).append rq) (hw.go _ (I1.hok.fresh (Nat.le_refl _)))
end My

/-! ### values of styles, good or bad (k16) -/
namespace My
open PySem PySem.Spec PyProof.Rows L2
/-- a thing of any kind -/
inductive Ty9 (K : PySem.W.Frag) (H : Hp) : V → String → Prop
  | non : Ty9 K H .non "NoneType"
  | bl (b : Bool) : Ty9 K H (.bl b) "bool"
  | int (i : Int) : Ty9 K H (.int i) "int"
  | str (x : Str) : Ty9 K H (.str x) "str"
  | lst {a : Addr} {xs : List V} (h : H a = some (.lst xs)) : Ty9 K H (.ref a) "list"
  | tup {a : Addr} {xs : List V} (h : H a = some (.tup xs)) : Ty9 K H (.ref a) "tuple"
  | dK {a : Addr} {xs : List (Key × V)} (h : H a = some (.dK xs)) : Ty9 K H (.ref a) "dict"
  | ins {a C dx : Addr} {fs : List (Str × V)} (h : H a = some (.ins C dx fs)) (p : Pl K C) : Ty9 K H (.ref a) "object"
section
variable {K : PySem.W.Frag} {H H' : Hp} {x v : V} {t : String}
theorem Ty9.t8 (h : Ty9 K H x t) : Ty8 K H x t := by
  cases h with
  | non => exact .of .non
  | bl b => exact .of (.bl b)
  | int i => exact .of (.int i)
  | str s => exact .of (.str s)
  | lst h => exact .of (.lst h)
  | tup h => exact .of (.tup h)
  | dK h => exact .of (.dK h)
  | ins h p => exact .ins h p
theorem Ty9.t7 (h : Ty9 K H x t) (n : t ≠ "object") : Ty7 H x t := by
  cases h with
  | non => exact .non
  | bl b => exact (.bl b)
  | int i => exact (.int i)
  | str s => exact (.str s)
  | lst h => exact (.lst h)
  | tup h => exact (.tup h)
  | dK h => exact (.dK h)
  | ins h p => exact absurd rfl n
/-- what stays: all but lists, which stay lists -/
def Keep (H H' : Hp) : Prop := (∀ (a : Addr) (o : HO), H a = some o → (∀ xs, o ≠ .lst xs) → H' a = some o) ∧ ∀ (a : Addr) (xs : List V), H a = some (.lst xs) → ∃ ys, H' a = some (.lst ys)
theorem Same.keep (s : Same H H') : Keep H H' := ⟨fun a o h _ => s a o h, fun a xs h => ⟨xs, s _ _ h⟩⟩
theorem But.keepL {D : Addr} {xs ys : List V} (b : But D H H') (h : H D = some (.lst xs)) (h' : H' D = some (.lst ys)) : Keep H H' := ⟨fun a o e n => b a o (by rintro rfl; rw [h] at e; cases e; exact n _ rfl) e, fun a zs e => by
  by_cases q : a = D
  · subst q; exact ⟨_, h'⟩
  · exact ⟨zs, b a _ q e⟩⟩
theorem Dr.keep {s : Addr} (d : Dr s H H') (hs : Src H s) : Keep H H' := by
  obtain ⟨_, e⟩ := hs
  obtain ⟨_, e'⟩ := d.s
  exact But.keepL d.b e e'
theorem Keep.tup {a : Addr} {xs : List V} (s : Keep H H') (h : H a = some (.tup xs)) : H' a = some (.tup xs) := s.1 _ _ h fun ys e => by cases e
theorem Ty9.keep (h : Ty9 K H x t) (s : Keep H H') : Ty9 K H' x t := by
  cases h with
  | non => exact .non
  | bl b => exact (.bl b)
  | int i => exact (.int i)
  | str s => exact (.str s)
  | lst h =>
    obtain ⟨ys, h'⟩ := s.2 _ _ h
    exact .lst h'
  | tup h => exact .tup (s.tup h)
  | dK h => exact .dK (s.1 _ _ h fun ys e => by cases e)
  | ins h p => exact .ins (s.1 _ _ h fun ys e => by cases e) p
/-- None, an int or a text -/
def FlN (x : V) : Prop := x = .non ∨ (∃ i, x = .int i) ∨ ∃ s, x = .str s
def nmB (l : List Nat) : Bool := (decide (1 ≤ l.length) && decide (l.length ≤ 8)) && l.all fun c => decide (c ∈ lettersL)
theorem nmB_ok {l : List Nat} (h : NameOk l) : nmB l = true := by
  unfold nmB
  rw [decide_eq_true h.1, decide_eq_true h.2.1, Bool.and_self, Bool.true_and, List.all_eq_true]
  exact fun c m => decide_eq_true (h.2.2 c m)
/-- what is no name -/
def NoNm (K : PySem.W.Frag) (H : Hp) (v : V) : Prop := (∃ t, Ty9 K H v t ∧ t ≠ "str") ∨ ∃ l : List Nat, v = .str (sO l) ∧ nmB l = false ∧ l.length ≤ 1000
def NmAt (K : PySem.W.Frag) (H : Hp) (v : V) (b : Bool) : Prop := (∃ t, Ty9 K H v t ∧ t ≠ "str" ∧ b = false) ∨ ∃ l : List Nat, v = .str (sO l) ∧ nmB l = b ∧ l.length ≤ 1000
theorem NmAt.keep {b : Bool} (h : NmAt K H v b) (s : Keep H H') : NmAt K H' v b := h.imp (fun ⟨t, h, e⟩ => ⟨t, h.keep s, e⟩) id
def sidesL : List Str := [Str.ofString "wide", Str.ofString "tall"]
def standsL : List Str := [Str.ofString "start", Str.ofString "end", Str.ofString "middle", Str.ofString "stretch", Str.ofString "base"]
/-- what is no size -/
inductive NoSz (K : PySem.W.Frag) (H : Hp) : V → Prop
  | jk {v : V} {t : String} (h : Ty9 K H v t) (n1 : t ≠ "NoneType") (n2 : t ≠ "tuple") (n : isN v = false) : NoSz K H v
  | tupN {a : Addr} {xs : List V} (h : H a = some (.tup xs)) (n2 : xs.length ≠ 2) (n4 : xs.length ≠ 4) : NoSz K H (.ref a)
  | two {a : Addr} {x y : V} (h : H a = some (.tup [x, y])) (f : FlN x) (n : x ≠ sX "part") : NoSz K H (.ref a)
  | part {a : Addr} {y : V} {t : String} (h : H a = some (.tup [sX "part", y])) (hy : Ty9 K H y t) (n : isN y = false) : NoSz K H (.ref a)
  | four {a : Addr} {x y z u : V} (h : H a = some (.tup [x, y, z, u])) (f : FlN x) (n : x ≠ sX "as") : NoSz K H (.ref a)
  | nam {a : Addr} {y z u : V} (h : H a = some (.tup [sX "as", y, z, u])) (hy : NmAt K H y false) : NoSz K H (.ref a)
  | sid {a : Addr} {y z u : V} {t : String} (h : H a = some (.tup [sX "as", y, z, u])) (hy : NmAt K H y true) (hz : Ty9 K H z t) (ht : t ≠ "object") (n : isSt sidesL z = false) : NoSz K H (.ref a)
  | num {a : Addr} {y z u : V} {t t' : String} (h : H a = some (.tup [sX "as", y, z, u])) (hy : NmAt K H y true) (hz : Ty9 K H z t') (ht : t' ≠ "object") (n : isSt sidesL z = true) (hu : Ty9 K H u t) (nu : isI u = false) : NoSz K H (.ref a)
theorem NoSz.keep (h : NoSz K H v) (s : Keep H H') : NoSz K H' v := by
  cases h with
  | jk h n1 n2 n => exact .jk (h.keep s) n1 n2 n
  | tupN h n2 n4 => exact .tupN (s.tup h) n2 n4
  | two h f n => exact .two (s.tup h) f n
  | part h hy n => exact .part (s.tup h) (hy.keep s) n
  | four h f n => exact .four (s.tup h) f n
  | nam h hy => exact .nam (s.tup h) (hy.keep s)
  | sid h hy hz ht n => exact .sid (s.tup h) (hy.keep s) (hz.keep s) ht n
  | num h hy hz ht n hu nu => exact .num (s.tup h) (hy.keep s) (hz.keep s) ht n (hu.keep s) nu
theorem SzAt.keep (h : SzAt H v) (s : Keep H H') : SzAt H' v := by
  cases h with
  | non => exact .non
  | cells n => exact .cells n
  | part a n h => exact .part a n (s.tup h)
  | tie a l sd m hl hs h => exact .tie a l sd m hl hs (s.tup h)
/-- what are no rims -/
inductive NoRm (K : PySem.W.Frag) (H : Hp) : V → Prop
  | jk {v : V} {t : String} (h : Ty9 K H v t) (n : t ≠ "tuple") : NoRm K H v
  | tupN {a : Addr} {xs : List V} (h : H a = some (.tup xs)) (n4 : xs.length ≠ 4) : NoRm K H (.ref a)
  | four {a : Addr} {xs : List V} (h : H a = some (.tup xs)) (n4 : xs.length = 4) (hx : ∀ x ∈ xs, ∃ t, Ty9 K H x t) (n : xs.all isN = false) : NoRm K H (.ref a)
theorem NoRm.keep (h : NoRm K H v) (s : Keep H H') : NoRm K H' v := by
  cases h with
  | jk h n => exact .jk (h.keep s) n
  | tupN h n => exact .tupN (s.tup h) n
  | four h n4 hx n => exact .four (s.tup h) n4 (fun x m => let ⟨t, h⟩ := hx x m; ⟨t, h.keep s⟩) n
theorem SqT_keep {a : Addr} {xs : List V} (s : Keep H H') (h : SqT K H a xs) : SqT K H' a xs := by
  rcases h with (h | ⟨o, h⟩) | h
  · exact .inl (.inl (s.tup h))
  · exact .inl (.inr ⟨o, s.1 _ _ h fun ys e => by cases e⟩)
  · exact .inr h
theorem RmAt.keep (h : RmAt K H v) (s : Keep H H') : RmAt K H' v := let ⟨a, n0, n1, n2, n3, e, g⟩ := h; ⟨a, n0, n1, n2, n3, e, SqT_keep s g⟩
/-- a value, good or bad -/
def SzB (K : PySem.W.Frag) (H : Hp) (v : V) (b : Bool) : Prop := (b = true ∧ SzAt H v) ∨ (b = false ∧ NoSz K H v)
def BdB (K : PySem.W.Frag) (H : Hp) (v : V) (b : Bool) : Prop := ∃ t, Ty9 K H v t ∧ b = (decide (v = .non) || isN v)
def CtB (K : PySem.W.Frag) (H : Hp) (v : V) (b : Bool) : Prop := ∃ t, Ty9 K H v t ∧ b = isN v
def RmB (K : PySem.W.Frag) (H : Hp) (v : V) (b : Bool) : Prop := (b = true ∧ RmAt K H v) ∨ (b = false ∧ NoRm K H v)
def StB (K : PySem.W.Frag) (H : Hp) (v : V) (b : Bool) : Prop := ∃ t, Ty9 K H v t ∧ t ≠ "object" ∧ b = (decide (v = .non) || isSt standsL v)
def FB (K : PySem.W.Frag) (H : Hp) : Nat → V → Bool → Prop
  | 0, v, b => SzB K H v b
  | 1, v, b => SzB K H v b
  | 2, v, b => BdB K H v b
  | 3, v, b => BdB K H v b
  | 4, v, b => BdB K H v b
  | 5, v, b => BdB K H v b
  | 6, v, b => CtB K H v b
  | 7, v, b => CtB K H v b
  | 8, v, b => RmB K H v b
  | _, v, b => StB K H v b
theorem SzB.keep {b : Bool} (h : SzB K H v b) (s : Keep H H') : SzB K H' v b := h.imp (fun ⟨e, h⟩ => ⟨e, h.keep s⟩) fun ⟨e, h⟩ => ⟨e, h.keep s⟩
theorem BdB.keep {b : Bool} (h : BdB K H v b) (s : Keep H H') : BdB K H' v b := let ⟨t, h, e⟩ := h; ⟨t, h.keep s, e⟩
theorem CtB.keep {b : Bool} (h : CtB K H v b) (s : Keep H H') : CtB K H' v b := let ⟨t, h, e⟩ := h; ⟨t, h.keep s, e⟩
theorem RmB.keep {b : Bool} (h : RmB K H v b) (s : Keep H H') : RmB K H' v b := h.imp (fun ⟨e, h⟩ => ⟨e, h.keep s⟩) fun ⟨e, h⟩ => ⟨e, h.keep s⟩
theorem StB.keep {b : Bool} (h : StB K H v b) (s : Keep H H') : StB K H' v b := let ⟨t, h, e⟩ := h; ⟨t, h.keep s, e⟩
theorem FB.keep {b : Bool} {i : Nat} (h : FB K H i v b) (s : Keep H H') : FB K H' i v b :=
  match i, h with
  | 0, h => SzB.keep h s
  | 1, h => SzB.keep h s
  | 2, h => BdB.keep h s
  | 3, h => BdB.keep h s
  | 4, h => BdB.keep h s
  | 5, h => BdB.keep h s
  | 6, h => CtB.keep h s
  | 7, h => CtB.keep h s
  | 8, h => RmB.keep h s
  | _ + 9, h => StB.keep h s
theorem isSt_mem {ts : List Str} {s : Str} (h : s ∈ ts) : isSt ts (.str s) = true := decide_eq_true h
theorem OkF.fb {i : Nat} (h : OkF K H i v) : FB K H i v true := by
  have bd : ∀ {v}, BdAt v → BdB K H v true := fun h => by
    rcases h with rfl | ⟨n, rfl⟩
    · exact ⟨_, .non, rfl⟩
    · exact ⟨_, .int _, by rw [isN_nat, Bool.or_true]⟩
  have ct : ∀ {v}, CtAt v → CtB K H v true := fun ⟨n, e⟩ => by subst e; exact ⟨_, .int _, (isN_nat n).symm⟩
  match i, h with
  | 0, h => exact .inl ⟨rfl, h⟩
  | 1, h => exact .inl ⟨rfl, h⟩
  | 2, h => exact bd h
  | 3, h => exact bd h
  | 4, h => exact bd h
  | 5, h => exact bd h
  | 6, h => exact ct h
  | 7, h => exact ct h
  | 8, h => exact .inl ⟨rfl, h⟩
  | _ + 9, h =>
    rcases h with rfl | ⟨s, m, rfl⟩
    · exact ⟨_, .non, by decide, rfl⟩
    · refine ⟨_, .str _, by decide, ?_⟩
      have : Str.ofString s ∈ standsL := List.mem_map_of_mem (f := Str.ofString) m
      rw [isSt_mem this, Bool.or_true]
/-! #### a comprehension over a text -/
section
variable {g : TG} {tt : TT} {te : TE} {vs : List Nat} {σ : L2.St} {H1 : Hp} {D : Addr} {Qd : Hp → Prop} {l : List Nat}
theorem lcSf (f : Nat → V) (hD : H1 D = none) (hz : l.length ≤ 100000)
    (hs : ∀ (i c : Nat) (H' : Hp) (Kt : V → Hp → Prop) (Kf : Hp → Prop), l[i]? = some c → Same H1 H' → (∀ H4, Same H' H4 → Kt (f c) H4) → LcT g tt te vs σ (.str ⟨#[c]⟩) H' Kt Kf)
    (hd : ∀ H, Same H1 H → H D = some (.lst (l.map f)) → Qd H) : LcG (Its (sO l)) g tt te vs σ H1 D Qd := by
  refine ⟨fun i m H => m = l.length - i ∧ i ≤ l.length ∧ Same H1 H ∧ H D = some (.lst ((l.take i).map f)), ⟨l.length, rfl, Nat.zero_le _, Same.upd0 hD, upd_same⟩, ?_⟩
  rintro i m H ⟨rfl, hi, s, e⟩
  by_cases hlt : i < l.length
  · refine .inr ⟨?_, fun H => Same H1 H ∧ H D = some (.lst ((l.take (i + 1)).map f)), fun H' p' => ⟨l.length - (i + 1), by omega, rfl, hlt, p'⟩, fun x H' y => ?_⟩
    · show i < l.toArray.size
      rw [List.size_toArray]; exact hlt
    · obtain ⟨rfl, c, hc, rfl⟩ := y
      have hc : l.toArray[i]? = some c := hc
      rw [List.getElem?_toArray] at hc
      exact hs i c H' _ _ hc s fun H4 s4 => ⟨_, s4 _ _ e, by rw [List.length_map, List.length_take, sizeLine_eq]; omega, Same.mut' (s.trans s4) But.refl.upd hD, by rw [upd_same, List.take_add_one, hc, List.map_append]; rfl⟩
  · have ei : i = l.length := by omega
    subst ei
    refine .inl ⟨?_, hd H s (by rw [e, List.take_length])⟩
    show l.toArray.size ≤ l.length
    rw [List.size_toArray]; exact Nat.le_refl _
end
end
end My
namespace My
open PySem PySem.Spec PyProof.Rows L2
/-! #### a comprehension over a tuple -/
theorem lcTy {K : PySem.W.Frag} {g : TG} {tt : TT} {te : TE} {vs : List Nat} {σ : L2.St} {H1 : Hp} {D a : Addr} {Qd : Hp → Prop} {xs : List V} (f : Nat → V) (hD : H1 D = none) (hx : SqT K H1 a xs) (hn : xs.length ≤ 100000)
    (hs : ∀ (i : Nat) (x : V) (H : Hp) (Kt : V → Hp → Prop) (Kf : Hp → Prop), xs[i]? = some x → Same H1 H → (∀ H4, Same H H4 → Kt (f i) H4) → LcT g tt te vs σ x H Kt Kf)
    (hd : ∀ H, Same H1 H → H D = some (.lst ((List.range xs.length).map f)) → Qd H) : LcG (Itt K a) g tt te vs σ H1 D Qd :=
  lcTq (ysF f (fun _ => true) (List.range xs.length)) hD hx hn (fun i x H Kt Kf hxi s qq => by
    have hi := (List.getElem?_eq_some_iff.mp hxi).1
    exact hs i x H Kt Kf hxi s (fun H4 s4 => qq.yes _ _ s4 (by unfold ysF; rw [range_get hi]; rfl)))
    (fun H s h => hd H s (by have := ysF_all f (fun _ => true) (List.range xs.length); rw [List.length_range] at this; rw [h, this, List.filter_eq_self.mpr fun _ _ => rfl]))
/-! #### the told fields of a style -/
def dfl10 (U : Addr) : List V := [.non, .non, .non, .non, .non, .non, .int 0, .int 1, .ref U, .non]
def ToldAt (H : Hp) (U : Addr) (ws ps : List V) : Prop := ps.length = 10 ∧ ∀ (i : Nat) (v : V), ps[i]? = some v → ∃ (a : Addr) (n : Str) (w d : V), v = .ref a ∧ names10[i]? = some n ∧ ws[i]? = some w ∧ (dfl10 U)[i]? = some d ∧ H a = some (.tup [.str n, w, d])
end My
namespace My
open PySem PySem.Spec PyProof.Rows L2
section
variable {K : PySem.W.Frag} {H H' : Hp} {v : V}
theorem strOk_let {l : List Nat} (h : ∀ c ∈ l, c ∈ lettersL) : PyData.strOk (sO l) = true := by
  have : ∀ c ∈ l, c < 127 := fun c m => by
    have h1 := h c m
    have h2 : ∀ c ∈ lettersL, c < 127 := by decide +kernel
    exact h2 c h1
  exact strOk_iff.mpr fun c hc => by
    have := this c (by simpa [sO] using hc)
    omega
theorem okF_dp {i : Nat} (h : OkF K H i v) : ∃ d : PyData, (∀ H', Same H H' → Dp K H' v d) ∧ d.canLay0 = true ∧ d.depth ≤ 2 := by
  have int : ∀ n : Int, ∃ d : PyData, (∀ H', Same H H' → Dp K H' (.int n) d) ∧ d.canLay0 = true ∧ d.depth ≤ 2 := fun n => ⟨.int n, fun _ _ => .int _, rfl, Nat.zero_le _⟩
  have non : ∃ d : PyData, (∀ H', Same H H' → Dp K H' .non d) ∧ d.canLay0 = true ∧ d.depth ≤ 2 := ⟨.none, fun _ _ => .non, rfl, Nat.zero_le _⟩
  have sz : ∀ {v}, SzAt H v → ∃ d : PyData, (∀ H', Same H H' → Dp K H' v d) ∧ d.canLay0 = true ∧ d.depth ≤ 2 := fun {v} h => by
    cases h with
    | non => exact non
    | cells n => exact int n
    | part a n h => exact ⟨.tuple [.str (Str.ofString "part"), .int n], fun H' s => .tup (sqT (s _ _ h)) (.cons (.str _) (.cons (.int _) .nil)), (show (PyData.strOk (Str.ofString "part") && (true && true)) = true by decide +kernel), Nat.le_of_ble_eq_true rfl⟩
    | tie a l sd m hl hs h =>
      refine ⟨.tuple [.str (Str.ofString "as"), .str (sO l), .str (Str.ofString sd), .int m], fun H' s => .tup (sqT (s _ _ h)) (.cons (.str _) (.cons (.str _) (.cons (.str _) (.cons (.int _) .nil)))), ?_, ?_⟩
      · show (PyData.strOk _ && (PyData.strOk _ && (PyData.strOk _ && (true && true)))) = true
        rw [strOk_let hl.2.2]
        rcases hs with rfl | rfl <;> decide +kernel
      · exact Nat.le_of_ble_eq_true rfl
  have bd : ∀ {v}, BdAt v → ∃ d : PyData, (∀ H', Same H H' → Dp K H' v d) ∧ d.canLay0 = true ∧ d.depth ≤ 2 := fun h => by
    rcases h with rfl | ⟨n, rfl⟩
    · exact non
    · exact int n
  have ct : ∀ {v}, CtAt v → ∃ d : PyData, (∀ H', Same H H' → Dp K H' v d) ∧ d.canLay0 = true ∧ d.depth ≤ 2 := fun ⟨n, e⟩ => by subst e; exact int n
  match i, h with
  | 0, h => exact sz h
  | 1, h => exact sz h
  | 2, h => exact bd h
  | 3, h => exact bd h
  | 4, h => exact bd h
  | 5, h => exact bd h
  | 6, h => exact ct h
  | 7, h => exact ct h
  | 8, ⟨a, n0, n1, n2, n3, e, g⟩ =>
    subst e
    exact ⟨.tuple [.int n0, .int n1, .int n2, .int n3], fun H' s => .tup (Same.seqT s g) (.cons (.int _) (.cons (.int _) (.cons (.int _) (.cons (.int _) .nil)))), rfl, Nat.le_of_ble_eq_true rfl⟩
  | _ + 9, h =>
    rcases h with rfl | ⟨s, m, rfl⟩
    · exact non
    · refine ⟨.str (Str.ofString s), fun _ _ => .str _, ?_, Nat.zero_le _⟩
      simp only [stands5, List.mem_cons, List.not_mem_nil, or_false] at m
      rcases m with rfl | rfl | rfl | rfl | rfl <;> decide +kernel
theorem ToldAt.same {U : Addr} {ws ps : List V} (h : ToldAt H U ws ps) (s : Same H H') : ToldAt H' U ws ps := ⟨h.1, fun i v e => let ⟨a, n, w, d, e1, e2, e3, e4, g⟩ := h.2 i v e; ⟨a, n, w, d, e1, e2, e3, e4, s _ _ g⟩⟩
theorem dpAll_ofB : ∀ {xs : List V} {ds : List PyData}, xs.length = ds.length → (∀ (i : Nat) (v : V) (d : PyData), xs[i]? = some v → ds[i]? = some d → Dp K H v d) → DpAll K H xs ds
  | [], [], _, _ => .nil
  | [], _ :: _, h, _ => by cases h
  | _ :: _, [], h, _ => by cases h
  | x :: xs, d :: ds, h, k => .cons (k 0 x d rfl rfl) (dpAll_ofB (by simpa using h) fun i v d e1 e2 => k (i + 1) v d e1 e2)
theorem choose10 {P : Nat → PyData → Prop} (n : Nat) (h : ∀ i, i < n → ∃ d, P i d) : ∃ ds : List PyData, ds.length = n ∧ ∀ i d, ds[i]? = some d → P i d := by
  induction n with
  | zero => exact ⟨[], rfl, fun i d e => by cases e⟩
  | succ n ih =>
    obtain ⟨ds, hl, hd⟩ := ih fun i hi => h i (by omega)
    obtain ⟨d, hp⟩ := h n (by omega)
    refine ⟨ds ++ [d], by rw [List.length_append, hl]; rfl, fun i e he => ?_⟩
    by_cases hi : i < n
    · rw [List.getElem?_append_left (by omega)] at he; exact hd i e he
    · rw [List.getElem?_append_right (by omega), hl] at he
      have : i - n = 0 := by
        cases hz : i - n with
        | zero => rfl
        | succ m => rw [hz] at he; cases he
      rw [this] at he
      cases he
      have : i = n := by omega
      subst this
      exact hp
theorem canAll : ∀ {ds : List PyData}, (∀ d ∈ ds, d.canLay0 = true) → PyData.canLayAll0 ds = true
  | [], _ => rfl
  | d :: ds, h => by
    show (d.canLay0 && PyData.canLayAll0 ds) = true
    rw [h d List.mem_cons_self, canAll fun z m => h z (List.mem_cons_of_mem _ m)]; rfl
theorem told_dp {ws : List V} {U : Addr} (ok : OkL K H ws) (hU : ∀ H, SqT K H U [.int 0, .int 0, .int 0, .int 0]) : ∃ ds : List PyData, SeqAt.shaped (.tuple ds) = true ∧ (PyData.tuple ds).canLay0 = true ∧
    ∀ H' ps p, Same H H' → H' p = some (.tup ps) → ToldAt H' U ws ps → Dp K H' (.ref p) (.tuple ds) := by
  obtain ⟨ds, hl, hd⟩ := choose10 (P := fun i d => (∀ H' ps, Same H H' → ToldAt H' U ws ps → ∀ v, ps[i]? = some v → Dp K H' v d) ∧ d.canLay0 = true ∧ d.depth ≤ 4) 10 fun i hi => by
    obtain ⟨w, hw⟩ : ∃ w, ws[i]? = some w := ⟨_, List.getElem?_eq_getElem (by rw [ok.1]; exact hi)⟩
    obtain ⟨d, h1, h2, h3⟩ := okF_dp (ok.2 i w hw)
    obtain ⟨n, hn⟩ : ∃ n, names10[i]? = some n := ⟨_, List.getElem?_eq_getElem (by exact hi)⟩
    obtain ⟨u, hu⟩ : ∃ u, (dfl10 U)[i]? = some u := ⟨_, List.getElem?_eq_getElem (by exact hi)⟩
    have sn : PyData.strOk n = true := by
      match i, hn with
      | 0, e => cases e; decide +kernel
      | 1, e => cases e; decide +kernel
      | 2, e => cases e; decide +kernel
      | 3, e => cases e; decide +kernel
      | 4, e => cases e; decide +kernel
      | 5, e => cases e; decide +kernel
      | 6, e => cases e; decide +kernel
      | 7, e => cases e; decide +kernel
      | 8, e => cases e; decide +kernel
      | 9, e => cases e; decide +kernel
      | n + 10, e => cases e
    have su : ∃ e : PyData, (∀ H', Dp K H' u e) ∧ e.canLay0 = true ∧ e.depth ≤ 2 := by
      have nn : ∃ e : PyData, (∀ H', Dp K H' V.non e) ∧ e.canLay0 = true ∧ e.depth ≤ 2 := ⟨.none, fun _ => .non, rfl, Nat.zero_le _⟩
      have ni : ∀ n : Int, ∃ e : PyData, (∀ H', Dp K H' (V.int n) e) ∧ e.canLay0 = true ∧ e.depth ≤ 2 := fun n => ⟨.int n, fun _ => .int _, rfl, Nat.zero_le _⟩
      match i, hu with
      | 0, e => cases e; exact nn
      | 1, e => cases e; exact nn
      | 2, e => cases e; exact nn
      | 3, e => cases e; exact nn
      | 4, e => cases e; exact nn
      | 5, e => cases e; exact nn
      | 6, e => cases e; exact ni 0
      | 7, e => cases e; exact ni 1
      | 8, e => cases e; exact ⟨.tuple [.int 0, .int 0, .int 0, .int 0], fun H' => .tup (hU H') (.cons (.int _) (.cons (.int _) (.cons (.int _) (.cons (.int _) .nil)))), rfl, by decide⟩
      | 9, e => cases e; exact nn
      | n + 10, e => cases e
    obtain ⟨e, e1, e2, e3⟩ := su
    refine ⟨.tuple [.str n, d, e], fun H' ps s tl v hv => ?_, ?_, ?_⟩
    · obtain ⟨a, n', w', u', rfl, q1, q2, q3, q4⟩ := tl.2 i v hv
      rw [hn] at q1
      rw [hw] at q2
      rw [hu] at q3
      cases q1
      cases q2
      cases q3
      exact .tup (sqT q4) (.cons (.str _) (.cons (h1 H' s) (.cons (e1 H') .nil)))
    · show (PyData.strOk n && (d.canLay0 && (e.canLay0 && true))) = true
      rw [sn, h2, e2]; rfl
    · show max 0 (max d.depth (max e.depth 0)) + 1 ≤ 4
      omega
  refine ⟨ds, ?_, ?_, fun H' ps p s g tl => .tup (sqT g) (dpAll_ofB (by rw [tl.1, hl]) fun i v d e1 e2 => (hd i d e2).1 H' ps s tl v e1)⟩
  · refine Bool.and_eq_true_iff.mpr ⟨canAll fun d m => by obtain ⟨i, e⟩ := List.getElem?_of_mem m; exact (hd i d e).2.1, decide_eq_true ?_⟩
    have : ∀ es : List PyData, (∀ d ∈ es, d.depth ≤ 4) → PyData.depthAll es ≤ 4 := fun es => by
      induction es with
      | nil => exact fun _ => Nat.zero_le _
      | cons a l ih => exact fun h => Nat.max_le.mpr ⟨h a List.mem_cons_self, ih fun z m => h z (List.mem_cons_of_mem _ m)⟩
    have := this ds fun d m => by obtain ⟨i, e⟩ := List.getElem?_of_mem m; exact (hd i d e).2.2
    show PyData.depthAll ds + 1 ≤ 64
    omega
  · exact canAll fun d m => by obtain ⟨i, e⟩ := List.getElem?_of_mem m; exact (hd i d e).2.1
end
end My
namespace My
open PySem PySem.Spec PyProof.Rows L2
/-! #### a style made of values, good or bad -/
def sp_Style_b (K : PySem.W.Frag) (C N : Addr) : Sp := fun vs H Q E => ∃ (x dx : Addr) (w h lw lh mw mh g s r st : V) (b0 b1 b2 b3 b4 b5 b6 b7 b8 b9 : Bool), vs = [.ref x, w, h, lw, lh, mw, mh, g, s, r, st] ∧ H x = some (.ins C dx []) ∧
  SzB K H w b0 ∧ SzB K H h b1 ∧ BdB K H lw b2 ∧ BdB K H lh b3 ∧ BdB K H mw b4 ∧ BdB K H mh b5 ∧ CtB K H g b6 ∧ CtB K H s b7 ∧ RmB K H r b8 ∧ StB K H st b9 ∧
  ∀ H', But x H H' → ((b0 && b1 && (b2 && b3 && b4 && b5) && (b6 && b7 && b8) && b9) = true → H' x = some (.ins C dx (styL [w, h, lw, lh, mw, mh, g, s, r, st])) → Q .non H') ∧ ((b0 && b1 && (b2 && b3 && b4 && b5) && (b6 && b7 && b8) && b9) = false → E (.ref N) none H')
def FBL (K : PySem.W.Frag) (H : Hp) (fs : List V) (bs : List Bool) : Prop := fs.length = 10 ∧ bs.length = 10 ∧ ∀ (i : Nat) (v : V) (b : Bool), fs[i]? = some v → bs[i]? = some b → FB K H i v b
section
variable {K : PySem.W.Frag} {H H' : Hp} {v : V}
theorem FBL.keep {fs : List V} {bs : List Bool} (h : FBL K H fs bs) (s : Keep H H') : FBL K H' fs bs := ⟨h.1, h.2.1, fun i v b e1 e2 => (h.2.2 i v b e1 e2).keep s⟩
theorem OkL.fbl {fs : List V} (h : OkL K H fs) : FBL K H fs (List.replicate 10 true) := ⟨h.1, rfl, fun i v b e1 e2 => by
  have hb : b = true := by
    have := List.mem_of_getElem? e2
    exact List.eq_of_mem_replicate this
  subst hb
  exact (h.2 i v e1).fb⟩
theorem ten_b {fs : List Bool} (h : fs.length = 10) : ∃ w h' lw lh mw mh g s r st, fs = [w, h', lw, lh, mw, mh, g, s, r, st] :=
  match fs, h with
  | [w, h', lw, lh, mw, mh, g, s, r, st], _ => ⟨w, h', lw, lh, mw, mh, g, s, r, st, rfl⟩
theorem mk_b {C N : Addr} {fs : List V} {bs : List Bool} {Q : VK} {E : XK} (ok : FBL K H fs bs) (k : ∀ H', Same H H' → (bs.all id = true → ∀ (x dx : Addr), H x = none → H' x = some (.ins C dx (styL fs)) → Q (.ref x) H') ∧ (bs.all id = false → E (.ref N) none H')) :
    ∀ x dx, H x = none → H dx = none → dx ≠ x → sp_Style_b K C N (.ref x :: fs) (upd (upd H dx (.own x)) x (.ins C dx [])) (fun v H3 => v = .non ∧ Q (.ref x) H3) E := by
  intro x dx fx fdx n
  obtain ⟨w, h, lw, lh, mw, mh, g, s, r, st, rfl⟩ := ten ok.1
  obtain ⟨b0, b1, b2, b3, b4, b5, b6, b7, b8, b9, rfl⟩ := ten_b ok.2.1
  have sm := make_same (o := HO.own x) (o' := HO.ins C dx []) fx fdx n
  have o := ok.keep (Same.keep sm)
  have e : (b0 && b1 && (b2 && b3 && b4 && b5) && (b6 && b7 && b8) && b9) = [b0, b1, b2, b3, b4, b5, b6, b7, b8, b9].all id := by
    simp [Bool.and_assoc]
  refine ⟨x, dx, w, h, lw, lh, mw, mh, g, s, r, st, b0, b1, b2, b3, b4, b5, b6, b7, b8, b9, rfl, upd_same, o.2.2 0 _ _ rfl rfl, o.2.2 1 _ _ rfl rfl, o.2.2 2 _ _ rfl rfl, o.2.2 3 _ _ rfl rfl, o.2.2 4 _ _ rfl rfl, o.2.2 5 _ _ rfl rfl, o.2.2 6 _ _ rfl rfl, o.2.2 7 _ _ rfl rfl, o.2.2 8 _ _ rfl rfl, o.2.2 9 _ _ rfl rfl, fun H' b => ?_⟩
  have kk := k H' (Same.mut' sm b fx)
  rw [e]
  exact ⟨fun h1 h2 => ⟨rfl, kk.1 h1 x dx fx h2⟩, kk.2⟩
theorem mk_bat {C N x dx : Addr} {fs : List V} {bs : List Bool} {R : Hp → Prop} {E : XK} (ok : FBL K H fs bs) (fx : H x = none) (fdx : H dx = none) (n : dx ≠ x) (k : ∀ H', Same H H' → (bs.all id = true → H' x = some (.ins C dx (styL fs)) → R H') ∧ (bs.all id = false → E (.ref N) none H')) :
    sp_Style_b K C N (.ref x :: fs) (upd (upd H dx (.own x)) x (.ins C dx [])) (fun v H3 => v = .non ∧ R H3) E := by
  obtain ⟨w, h, lw, lh, mw, mh, g, s, r, st, rfl⟩ := ten ok.1
  obtain ⟨b0, b1, b2, b3, b4, b5, b6, b7, b8, b9, rfl⟩ := ten_b ok.2.1
  have sm := make_same (o := HO.own x) (o' := HO.ins C dx []) fx fdx n
  have o := ok.keep (Same.keep sm)
  have e : (b0 && b1 && (b2 && b3 && b4 && b5) && (b6 && b7 && b8) && b9) = [b0, b1, b2, b3, b4, b5, b6, b7, b8, b9].all id := by
    simp [Bool.and_assoc]
  refine ⟨x, dx, w, h, lw, lh, mw, mh, g, s, r, st, b0, b1, b2, b3, b4, b5, b6, b7, b8, b9, rfl, upd_same, o.2.2 0 _ _ rfl rfl, o.2.2 1 _ _ rfl rfl, o.2.2 2 _ _ rfl rfl, o.2.2 3 _ _ rfl rfl, o.2.2 4 _ _ rfl rfl, o.2.2 5 _ _ rfl rfl, o.2.2 6 _ _ rfl rfl, o.2.2 7 _ _ rfl rfl, o.2.2 8 _ _ rfl rfl, o.2.2 9 _ _ rfl rfl, fun H' b => ?_⟩
  have kk := k H' (Same.mut' sm b fx)
  rw [e]
  exact ⟨fun h1 h2 => ⟨rfl, kk.1 h1 h2⟩, kk.2⟩
theorem set_all : ∀ {i : Nat} {b : Bool}, i < 10 → ((List.replicate 10 true).set i b).all id = b
  | 0, b, _ => by cases b <;> rfl
  | 1, b, _ => by cases b <;> rfl
  | 2, b, _ => by cases b <;> rfl
  | 3, b, _ => by cases b <;> rfl
  | 4, b, _ => by cases b <;> rfl
  | 5, b, _ => by cases b <;> rfl
  | 6, b, _ => by cases b <;> rfl
  | 7, b, _ => by cases b <;> rfl
  | 8, b, _ => by cases b <;> rfl
  | 9, b, _ => by cases b <;> rfl
  | n + 10, _, h => absurd h (by omega)
theorem FBL.set {fs : List V} {bs : List Bool} {i : Nat} {b : Bool} (h : FBL K H fs bs) (hv : FB K H i v b) : FBL K H (fs.set i v) (bs.set i b) := by
  refine ⟨by rw [List.length_set]; exact h.1, by rw [List.length_set]; exact h.2.1, fun j u c e1 e2 => ?_⟩
  rw [List.getElem?_set] at e1 e2
  split at e1
  · next q =>
    subst q
    rw [if_pos rfl] at e2
    split at e1
    · split at e2
      · cases e1; cases e2; exact hv
      · cases e2
    · cases e1
  · next q =>
    rw [if_neg q] at e2
    exact h.2.2 j u c e1 e2
theorem dflt_fbl {U : Addr} (t : ∀ H, SqT K H U [.int 0, .int 0, .int 0, .int 0]) : FBL K H (dfltL U) (List.replicate 10 true) := (dflt_ok t).fbl
theorem mk_one {C N U : Addr} {i : Nat} {b : Bool} {Q : VK} {E : XK} (hi : i < 10) (t : ∀ H, SqT K H U [.int 0, .int 0, .int 0, .int 0]) (hv : FB K H i v b) (k : ∀ H', Same H H' → (b = true → ∀ (x : Addr), H x = none → Q (.ref x) H') ∧ (b = false → E (.ref N) none H')) :
    ∀ x dx, H x = none → H dx = none → dx ≠ x → sp_Style_b K C N (.ref x :: (dfltL U).set i v) (upd (upd H dx (.own x)) x (.ins C dx [])) (fun v H3 => v = .non ∧ Q (.ref x) H3) E :=
  mk_b ((dflt_fbl t).set hv) fun H' s => by
    rw [set_all hi]
    exact ⟨fun e x dx fx _ => (k H' s).1 e x fx, (k H' s).2⟩
end
end My
namespace My
open PySem PySem.Spec PyProof.Rows L2
/-! #### what is no whole number -/
def JkC (K : PySem.W.Frag) (H : Hp) (v : V) : Prop := ∃ t, Ty9 K H v t ∧ t ≠ "NoneType" ∧ isN v = false ∧ (t = "tuple" → ∃ (a : Addr) (xs : List V), v = .ref a ∧ H a = some (.tup xs) ∧ xs.length ≤ 1)
theorem JkC.keep {K : PySem.W.Frag} {H H' : Hp} {v : V} (h : JkC K H v) (s : Keep H H') : JkC K H' v := let ⟨t, h, n, e, q⟩ := h; ⟨t, h.keep s, n, e, fun z => let ⟨a, xs, e1, e2, e3⟩ := q z; ⟨a, xs, e1, s.tup e2, e3⟩⟩
theorem JkC.ct {K : PySem.W.Frag} {H : Hp} {v : V} (h : JkC K H v) : CtB K H v false := let ⟨t, h, n, e, q⟩ := h; ⟨t, h, e.symm⟩
theorem Ty9.nn {K : PySem.W.Frag} {H : Hp} {v : V} {t : String} (h : Ty9 K H v t) (n : t ≠ "NoneType") : v ≠ .non := by rintro rfl; cases h; exact n rfl
theorem JkC.bd {K : PySem.W.Frag} {H : Hp} {v : V} (h : JkC K H v) : BdB K H v false := let ⟨t, h, n, e, q⟩ := h; ⟨t, h, by rw [e, decide_eq_false (h.nn n)]; rfl⟩
theorem JkC.sz {K : PySem.W.Frag} {H : Hp} {v : V} (h : JkC K H v) : NoSz K H v := by
  obtain ⟨t, h, n, e, q⟩ := h
  by_cases et : t = "tuple"
  · obtain ⟨a, xs, rfl, g, l⟩ := q et
    exact .tupN g (by omega) (by omega)
  · exact .jk h n et e
end My
namespace My
open PySem PySem.Spec PyProof.Rows L2
theorem cutS_drop (l : List Nat) (m : Nat) (h : m ≤ l.length) : cutS (sO l) (some (m : Int)) none = sO (l.drop m) := by
  unfold cutS
  rw [HT.sIx_none, HT.sIx_nat, sO_len, Nat.min_eq_left h]
  show sO ((l.drop m).take (l.length - m)) = _
  rw [List.take_of_length_le (by rw [List.length_drop]; exact Nat.le_refl _)]
theorem nmB_odd {a b : List Nat} {c : Nat} (h : c ∉ lettersL) : nmB (a ++ [c] ++ b) = false := by
  unfold nmB
  rw [Bool.and_eq_false_iff]
  right
  rw [List.all_append, List.all_append]
  simp [h]
theorem nmB_long {l : List Nat} (h : 8 < l.length) : nmB l = false := by
  unfold nmB
  rw [decide_eq_false (show ¬ l.length ≤ 8 by omega), Bool.and_false, Bool.false_and]
def oddsL : List Nat := (Str.ofString "ABCDEFGHIJKLMNOPQRSTUVWXYZ0123456789 -_.,:+=\n").cps.toList
theorem odds_no : ∀ c ∈ oddsL, c ∉ lettersL := by decide +kernel
theorem odds_len : oddsL.length = 45 := by decide +kernel
end My
namespace My
open PySem PySem.Spec PyProof.Rows L2
theorem st_len {z : String} (m : z ∈ stands5) : (Str.ofString z).length ≤ 7 := by
  simp only [stands5, List.mem_cons, List.not_mem_nil, or_false] at m
  rcases m with rfl | rfl | rfl | rfl | rfl <;> decide +kernel
theorem st_no {z : String} (m : z ∈ stands5) : isSt standsL (.str (Str.ofString z ++ Str.ofString " ")) = false ∧ isSt standsL (.str (Str.ofString " " ++ Str.ofString z)) = false ∧ isSt standsL (.str (Txt.upper (Str.ofString z))) = false ∧ isSt standsL (.str (cutS (Str.ofString z) none (some (-1)))) = false ∧ isSt standsL (.str (Str.ofString z ++ Str.ofString "s")) = false := by
  simp only [stands5, List.mem_cons, List.not_mem_nil, or_false] at m
  rcases m with rfl | rfl | rfl | rfl | rfl <;> decide +kernel
def NoSt (K : PySem.W.Frag) (H : Hp) (v : V) : Prop := ∃ t, Ty9 K H v t ∧ t ≠ "object" ∧ t ≠ "NoneType" ∧ isSt standsL v = false
theorem NoSt.keep {K : PySem.W.Frag} {H H' : Hp} {v : V} (h : NoSt K H v) (s : Keep H H') : NoSt K H' v := let ⟨t, h, a⟩ := h; ⟨t, h.keep s, a⟩
theorem NoSt.st {K : PySem.W.Frag} {H : Hp} {v : V} (h : NoSt K H v) : StB K H v false := by
  obtain ⟨t, h, n, n2, e⟩ := h
  exact ⟨t, h, n, by rw [e, decide_eq_false (h.nn n2)]; rfl⟩
end My
namespace My
open PySem PySem.Spec PyProof.Rows L2
theorem side_a (l : List Nat) : isSt sidesL (.str (sO l ++ Str.ofString "a")) = false := by
  refine decide_eq_false fun m => ?_
  rw [show Str.ofString "a" = sO [97] from by decide +kernel, sO_append] at m
  have key : ∀ q : List Nat, sO (l ++ [97]) = sO q → q.getLast? = some 97 := fun q e => by
    have e2 : l ++ [97] = q := by
      have := congrArg (fun z : Str => z.cps.toList) e
      simpa [sO] using this
    rw [← e2, List.getLast?_append]; rfl
  simp only [sidesL, List.mem_cons, List.not_mem_nil, or_false] at m
  rcases m with m | m
  · rw [show Str.ofString "wide" = sO [119, 105, 100, 101] from by decide +kernel] at m
    have := key _ m
    cases this
  · rw [show Str.ofString "tall" = sO [116, 97, 108, 108] from by decide +kernel] at m
    have := key _ m
    cases this
theorem wide_nm {K : PySem.W.Frag} {H : Hp} : NmAt K H (sX "wide") true := .inr ⟨[119, 105, 100, 101], by rw [show sX "wide" = V.str (Str.ofString "wide") from rfl, show Str.ofString "wide" = sO [119, 105, 100, 101] from by decide +kernel], by decide +kernel, by decide⟩
end My
namespace My
open PySem PySem.Spec PyProof.Rows L2
section
variable {K : PySem.W.Frag} {a s : Addr} {g : TG} {tt : TT} {te : TE} {vs : List Nat} {σ : L2.St} {H1 : Hp} {D : Addr} {Qd : Hp → Prop} {α : Type}
/-- over a list, items that are drawn and are new objects -/
theorem lcLo (ρ0 : α → V) {ys : List α} (R : Nat → V → Hp → Prop) (mono : ∀ i v H H', R i v H → Keep H H' → R i v H') (h0 : Src H1 s) (hD : H1 D = none) (na : a ≠ s) (hx : SqL K H1 a (ys.map ρ0)) (hn : ys.length ≤ 100000)
    (hs : ∀ (i : Nat) (y : α) (H : Hp) (Kt : V → Hp → Prop) (Kf : Hp → Prop), ys[i]? = some y → Dr s H1 H → (∀ v H4, Dr s H H4 → R i v H4 → Kt v H4) → LcT g tt te vs σ (ρ0 y) H Kt Kf)
    (hd : ∀ (us : List V) (H : Hp), Dr s H1 H → us.length = ys.length → (∀ (i : Nat) (b : V), us[i]? = some b → R i b H) → D ≠ s → H D = some (.lst us) → Qd H) : LcG (Itl K a) g tt te vs σ H1 D Qd :=
  have nD : D ≠ s := h0.ne hD
  lcL (fun i acc H' => Dr s H1 H' ∧ acc.length = i ∧ ∀ (i : Nat) (b : V), acc[i]? = some b → R i b H')
    (fun H' s' _ => ⟨Dr.of h0 s', rfl, fun i b h => by cases h⟩) hD (fun i acc H' p => p.1.seq na hx) (fun i x acc H' Kt Kf hxi p e kk => by
      obtain ⟨y, hy, rfl⟩ := of_map hxi
      have hi := (List.getElem?_eq_some_iff.mp hy).1
      obtain ⟨dp, hul, hub⟩ := p
      exact hs i y H' Kt Kf hy dp fun b H4 d4 hR => kk.yes _ _ (d4.app nD e) (Nat.lt_of_lt_of_le (show _ < 100001 by omega) (by decide)) fun H5 b5 g5 => ⟨Dr.mut (dp.trans d4) b5 hD nD.symm, by rw [List.length_append, hul]; rfl, fun j c hc => by
        have kp : Keep H4 H5 := But.keepL b5 (d4.app nD e) g5
        by_cases hj : j < acc.length
        · rw [List.getElem?_append_left hj] at hc
          exact mono _ _ _ _ (mono _ _ _ _ (hub j c hc) (Dr.keep d4 dp.s)) kp
        · have hj2 : j = i := by
            have := (List.getElem?_eq_some_iff.mp hc).1
            rw [List.length_append] at this
            simp at this; omega
          subst hj2
          rw [← hul, List.getElem?_concat_length] at hc
          cases hc; exact mono _ _ _ _ hR kp⟩)
    (fun acc H' p e => by
      obtain ⟨dp, hul, hub⟩ := p
      rw [List.length_map] at hul
      exact hd acc H' dp hul hub nD e)
end
end My
namespace My
open PySem PySem.Spec PyProof.Rows L2
theorem OkF.keep {K : PySem.W.Frag} {H H' : Hp} {i : Nat} {v : V} (h : OkF K H i v) (s : Keep H H') : OkF K H' i v :=
  match i, h with
  | 0, h => SzAt.keep h s
  | 1, h => SzAt.keep h s
  | 2, h => h
  | 3, h => h
  | 4, h => h
  | 5, h => h
  | 6, h => h
  | 7, h => h
  | 8, h => RmAt.keep h s
  | _ + 9, h => h
theorem OkL.keep {K : PySem.W.Frag} {H H' : Hp} {fs : List V} (h : OkL K H fs) (s : Keep H H') : OkL K H' fs := ⟨h.1, fun i v e => (h.2 i v e).keep s⟩
theorem Keep.trans {H H1 H2 : Hp} (a : Keep H H1) (b : Keep H1 H2) : Keep H H2 := ⟨fun c o e n => b.1 c o (a.1 c o e n) n, fun c xs e => let ⟨ys, q⟩ := a.2 c xs e; b.2 c ys q⟩
theorem all_bad {bs : List Bool} {c : Nat} (h : bs[c]? = some false) : bs.all id = false := by
  rw [List.all_eq_false]
  exact ⟨false, List.mem_of_getElem? h, by decide⟩
end My

/-! ### copies that stay -/
namespace My
open PySem L2
def Plain (x : V) : Prop := flatB x = true ∨ ∃ r, x = .ref r
theorem Ty7.but {H H' : Hp} {v : V} {t : String} {a : Addr} (h : Ty7 H v t) (b : But a H H') (n : v ≠ .ref a) : Ty7 H' v t := by
  cases h with
  | non => exact .non
  | bl b => exact .bl b
  | int i => exact .int i
  | str i => exact .str i
  | lst h => exact .lst (b.app (fun e => n (by rw [e])) h)
  | tup h => exact .tup (b.app (fun e => n (by rw [e])) h)
  | dK h => exact .dK (b.app (fun e => n (by rw [e])) h)
theorem Ty7.plain {H : Hp} {v : V} {t : String} (h : Ty7 H v t) : Plain v := by
  cases h <;> first | exact .inl rfl | exact .inr ⟨_, rfl⟩
inductive KindV (H : Hp) : V → Prop
  | no {v : V} {ty : String} (h : Ty7 H v ty) (n : ty ≠ "list") : KindV H v
  | lst {a : Addr} {xs : List V} (g : H a = some (.lst xs)) (p : ∀ x ∈ xs, Plain x) (l : xs.length ≤ 2000) : KindV H (.ref a)
theorem KindV.mono {H H' : Hp} {v : V} (h : KindV H v) (s : Same H H') : KindV H' v := by
  cases h with
  | no h n => exact .no (h.mono s) n
  | lst g p l => exact .lst (s _ _ g) p l
theorem KindV.but {H H' : Hp} {v : V} {a : Addr} (h : KindV H v) (b : But a H H') (n : v ≠ .ref a) : KindV H' v := by
  cases h with
  | no h k => exact .no (h.but b n) k
  | lst g p l => exact .lst (b.app (fun e => n (by rw [e])) g) p l
/-- x is t, or a copy of it; none of them is p -/
def Cp (H : Hp) (p : Addr) (x t : V) : Prop := x = t ∨ ∃ a b xs, x = .ref a ∧ t = .ref b ∧ a ≠ p ∧ b ≠ p ∧ H a = some (.lst xs) ∧ H b = some (.lst xs)
theorem Cp.mono {H H' : Hp} {p : Addr} {x t : V} (h : Cp H p x t) (s : Same H H') : Cp H' p x t := by
  rcases h with h | ⟨a, b, xs, e1, e2, n1, n2, g1, g2⟩
  · exact .inl h
  · exact .inr ⟨a, b, xs, e1, e2, n1, n2, s _ _ g1, s _ _ g2⟩
theorem Cp.but {H H' : Hp} {p : Addr} {x t : V} (h : Cp H p x t) (s : But p H H') : Cp H' p x t := by
  rcases h with h | ⟨a, b, xs, e1, e2, n1, n2, g1, g2⟩
  · exact .inl h
  · exact .inr ⟨a, b, xs, e1, e2, n1, n2, s.app n1 g1, s.app n2 g2⟩
theorem plain_eq {K : PySem.W.Frag} {H : Hp} {n : Nat} {x : V} (h : Plain x) : EqV K H (n + 1) x x := by
  rcases h with h | ⟨r, rfl⟩
  · exact .inl ⟨rfl, h⟩
  · exact .inr (.inl ⟨r, rfl, rfl⟩)
theorem plain_pair {K : PySem.W.Frag} {H : Hp} {n : Nat} : ∀ {xs : List V}, (∀ x ∈ xs, Plain x) → Paired (EqV K H (n + 1)) xs xs
  | [], _ => .nil
  | x :: xs, h => .cons (plain_eq (h x List.mem_cons_self)) (plain_pair fun y hy => h y (List.mem_cons_of_mem _ hy))
theorem KindV.plain {H : Hp} {v : V} (h : KindV H v) : Plain v := by
  cases h with
  | no h n => exact h.plain
  | lst g p l => exact .inr ⟨_, rfl⟩
theorem cp_eq {K : PySem.W.Frag} {H : Hp} {p : Addr} {x t : V} (h : Cp H p x t) (k : KindV H t) : EqV K H 2 x t := by
  rcases h with rfl | ⟨a, b, xs, rfl, rfl, n1, n2, g1, g2⟩
  · exact plain_eq k.plain
  · have pl : ∀ x ∈ xs, Plain x := by
      cases k with
      | no h n =>
        cases h with
        | lst h => exact absurd rfl n
        | tup h => rw [g2] at h; cases h
        | dK h => rw [g2] at h; cases h
      | lst g p l =>
        rw [g2] at g; cases g
        exact p
    exact .inr (.inr (.inl ⟨a, b, xs, xs, rfl, rfl, sqL g1, sqL g2, plain_pair pl⟩))
theorem tks_plain {H : Hp} {us : List V} {ts : List Tk} (h : TksAt H us ts) : ∀ x ∈ us, Plain x := (tks_its h).kind
theorem asks_plain {H : Hp} {us : List V} {qs : List Ask3} (h : AsksAt H us qs) : ∀ x ∈ us, Plain x := (asks_its h).kind
/-- the gap, told or none -/
def Gw (H : Hp) (g : V) (w : Nat) : Prop := (w = 0 ∧ ∃ k : Int, g = .int k ∧ 0 ≤ k) ∨ (w = 3 ∧ ∃ ty, Ty7 H g ty ∧ isN g = false)
theorem Gw.way {H : Hp} {g t a : V} {w : Nat} {ts : List Tk} {qs : List Ask3} (h : Gw H g w) (ht : Gt H t ts) (ha : Ga H ts.length a qs) : Way H t a g w := by
  rcases h with ⟨rfl, k, e, k0⟩ | ⟨rfl, ty, e, n⟩
  · exact .told ht ha e k0
  · exact .number ht ha e n
theorem all_set {f : PyData → Bool} {ds : List PyData} {j : Nat} {d : PyData} (hj : j < ds.length) (h : f d = false) : false = (!(ds.set j d).isEmpty && (ds.set j d).all f) := by
  have : (ds.set j d).all f = false := List.all_eq_false.mpr ⟨d, List.mem_of_getElem? (i := j) (List.getElem?_set_self hj), by rw [h]; exact Bool.false_ne_true⟩
  rw [this, Bool.and_false]
theorem all_ins {f : PyData → Bool} {ds : List PyData} {j : Nat} {d : PyData} (h : f d = false) : false = (ds.take j ++ [d] ++ ds.drop j).all f :=
  (List.all_eq_false.mpr ⟨d, by simp, by rw [h]; exact Bool.false_ne_true⟩).symm
theorem bad_fine {d : PyData} (h : (fineD d && !trackB d) = true) : fineD d = true ∧ trackB d = false := by
  rw [Bool.and_eq_true] at h
  exact ⟨h.1, by simpa using h.2⟩
end My

/-! ### what a box is made of, good or spoilt, and what refuses it -/
namespace My
open PySem PySem.Spec PyProof.Rows L2
theorem drop_same {ps : List Addr} {H H' : Hp} (s : Same H H') : Same (dropC ps H) (dropC ps H') := fun a o e => by
  by_cases m : a ∈ ps
  · rw [dropC_in m] at e; cases e
  · rw [dropC_out m] at e ⊢; exact s a o e
theorem drop_sub {ps : List Addr} {H : Hp} : Same (dropC ps H) H := fun a o e => by
  by_cases m : a ∈ ps
  · rw [dropC_in m] at e; cases e
  · rw [dropC_out m] at e; exact e
theorem drop_but {ps : List Addr} {p : Addr} {H H' : Hp} (b : But p H H') (m : p ∈ ps) : Same (dropC ps H) (dropC ps H') := fun a o e => by
  by_cases q : a ∈ ps
  · rw [dropC_in q] at e; cases e
  · rw [dropC_out q] at e ⊢; exact b a o (fun z => q (z ▸ m)) e
theorem drop_dr {s : Addr} {H H' : Hp} (d : Dr s H H') : Same (dropC [s] H) (dropC [s] H') := drop_but d.b List.mem_cons_self
theorem drop_at {ps : List Addr} {H : Hp} {a : Addr} {o : HO} (e : H a = some o) (n : a ∉ ps) : dropC ps H a = some o := (dropC_out n).trans e
theorem drop_le {ps qs : List Addr} {H : Hp} (h : ∀ a ∈ ps, a ∈ qs) : Same (dropC qs H) (dropC ps H) := fun a o e => by
  by_cases m : a ∈ qs
  · rw [dropC_in m] at e; cases e
  · rw [dropC_out m] at e
    exact (dropC_out fun z => m (h a z)).trans e
/-- isinstance of a plain thing by an own class -/
theorem kit_tyO {K : PySem.W.Frag} {H : Hp} {z : V} {n : String} {D : Addr} (h : Ty7 H z n) (t : PySem.W.typeIn K (.ref D) = some (.type "type")) (hd : PySem.W.hasDictIn K D = true) : PySem.W.kitOne K (.type n) (.ref D) = some false := by
  have hs : PySem.W.subIn K (.type n) (.ref D) = some false := by cases h <;> rfl
  unfold PySem.W.kitOne
  split
  · next q =>
    have z : (Value.type n) = .ref D := beq_iff_eq.mp q
    cases z
  · have hc : (PySem.W.clsIn K D).isSome = true := by
      have := hd
      unfold PySem.W.hasDictIn at this
      cases q : PySem.W.clsIn K D with
      | none => rw [q] at this; cases this
      | some c => rfl
    have e2 : ((PySem.W.clsIn K D).isSome && PySem.W.typeIn K (.ref D) == some (.type "type")) = true := by rw [hc, t] <;> rfl
    show (if ((PySem.W.clsIn K D).isSome && PySem.W.typeIn K (.ref D) == some (.type "type")) = true then PySem.W.subIn K (.type n) (.ref D) else none) = some false
    rw [if_pos e2]
    exact hs
inductive Srt where
  | name | text | size | boxes | turn | gap | pack | stands | tracks | spots | style
  deriving DecidableEq
def Srt.tx : Srt → String
  | .name => "name" | .text => "text" | .size => "size" | .boxes => "boxes" | .turn => "turn" | .gap => "gap" | .pack => "pack" | .stands => "stands" | .tracks => "tracks" | .spots => "spots" | .style => "style"
def Srt.er : Srt → String
  | .size => "number" | .gap => "number" | s => s.tx
def srts : Nat → List Srt
  | 0 => [.name, .text, .style]
  | 1 => [.name, .size, .size, .style]
  | 2 => [.name, .boxes, .turn, .gap, .gap, .pack, .stands, .style]
  | 3 => [.name, .boxes, .gap, .pack, .stands, .style]
  | _ => [.name, .boxes, .tracks, .tracks, .spots, .gap, .gap, .stands, .style]
theorem srts_len (k : Nat) : 3 ≤ (srts k).length ∧ (srts k).length ≤ 9 := by
  unfold srts; split <;> decide
def szB : V → Bool
  | .int i => decide (1 ≤ i)
  | _ => false
def packsL : List Str := [Str.ofString "start", Str.ofString "end", Str.ofString "middle", Str.ofString "between"]
/-- it can be laid -/
def fineE (d : PyData) : Bool := d.canLay0 && decide (d.depth ≤ 1)
theorem fineE_shaped {ds : List PyData} (h : ∀ d ∈ ds, fineE d = true) : SeqAt.shaped (.list ds) = true := by
  have two : ∀ d : {d // fineE d = true}, d.1.canLay0 = true ∧ d.1.depth ≤ 1 := fun d => by
    have q := d.2
    unfold fineE at q
    rw [Bool.and_eq_true] at q
    exact ⟨q.1, of_decide_eq_true q.2⟩
  have q := shaped_map (m := 1) (g := fun d : {d // fineE d = true} => d.1) (by decide) (fun d => (two d).1) (fun d => (two d).2) (ds.attachWith _ h)
  rwa [List.attachWith_map_subtype_val] at q
/-- one of the boxes, or none -/
def ItB (K : PySem.W.Frag) (S W : Addr) (H : Hp) (x : V) (c : Bool) : Prop := (c = true ∧ ∃ a d fs, x = .ref a ∧ H a = some (.ins W d fs)) ∨ (c = false ∧ ((∃ t, Ty7 H x t) ∨ ∃ a d fs, x = .ref a ∧ H a = some (.ins S d fs)))
theorem ItB.same {K : PySem.W.Frag} {S W : Addr} {H H' : Hp} {x : V} {c : Bool} (h : ItB K S W H x c) (s : Same H H') : ItB K S W H' x c :=
  h.imp (fun ⟨e, a, d, fs, q, r⟩ => ⟨e, a, d, fs, q, s _ _ r⟩) fun ⟨e, h⟩ => ⟨e, h.imp (fun ⟨t, h⟩ => ⟨t, h.mono s⟩) fun ⟨a, d, fs, q, r⟩ => ⟨a, d, fs, q, s _ _ r⟩⟩
def ItBs (K : PySem.W.Frag) (S W : Addr) (H : Hp) (xs : List V) (bs : List Bool) : Prop := xs.length = bs.length ∧ ∀ (i : Nat) (x : V) (c : Bool), xs[i]? = some x → bs[i]? = some c → ItB K S W H x c
theorem ItBs.same {K : PySem.W.Frag} {S W : Addr} {H H' : Hp} {xs : List V} {bs : List Bool} (h : ItBs K S W H xs bs) (s : Same H H') : ItBs K S W H' xs bs := ⟨h.1, fun i x c a b => (h.2 i x c a b).same s⟩
/-- a value of a sort, for c boxes: whether it is let by -/
def ValR (K : PySem.W.Frag) (S W : Addr) (c : Nat) (H : Hp) (v : V) (b : Bool) : Srt → Prop
  | .name => NmAt K H v b
  | .text => ∃ t, Ty9 K H v t ∧ b = decide (t = "str")
  | .size => ∃ t, Ty9 K H v t ∧ b = szB v
  | .boxes => (∃ t, Ty9 K H v t ∧ t ≠ "list" ∧ b = false) ∨ ∃ p xs bs, v = .ref p ∧ H p = some (.lst xs) ∧ xs.length ≤ 1000 ∧ ItBs K S W H xs bs ∧ b = bs.all id ∧ (b = true → xs.length = c)
  | .turn => ∃ t, Ty9 K H v t ∧ b = isB v
  | .gap => ∃ t, Ty9 K H v t ∧ b = isN v
  | .pack => ∃ t, Ty7 H v t ∧ b = isSt packsL v
  | .stands => ∃ t, Ty7 H v t ∧ b = isSt standsL v
  | .tracks => (∃ t, Ty7 H v t ∧ t ≠ "list" ∧ b = false) ∨ ∃ p xs ds, v = .ref p ∧ H p = some (.lst xs) ∧ ItsAt H xs ds ∧ (∀ d ∈ ds, fineE d = true) ∧ ds.length ≤ 1000 ∧ b = (!ds.isEmpty && ds.all trackB) ∧ (b = true → xs.length = max 1 c)
  | .spots => (∃ t, Ty7 H v t ∧ t ≠ "list" ∧ b = false) ∨ ∃ p ws os, v = .ref p ∧ H p = some (.lst ws) ∧ ThsAt H ws os ∧ os.length ≤ 1000 ∧ b = (decide (os.length = c) && stB (max 1 c : Nat) (max 1 c : Nat) [] os)
  | .style => (v = .non ∧ b = true) ∨ (∃ y d fs, v = .ref y ∧ H y = some (.ins S d fs) ∧ b = true) ∨ (v ≠ .non ∧ b = false ∧ ((∃ t, Ty7 H v t) ∨ ∃ y d fs, v = .ref y ∧ H y = some (.ins W d fs)))
section
variable {K : PySem.W.Frag} {S W : Addr} {c : Nat} {H H' : Hp} {v : V} {b : Bool} {s : Srt}
theorem Ty9.same {t : String} (h : Ty9 K H v t) (e : Same H H') : Ty9 K H' v t := h.keep (Same.keep e)
theorem ValR.same (h : ValR K S W c H v b s) (e : Same H H') : ValR K S W c H' v b s := by
  cases s with
  | name => exact NmAt.keep h (Same.keep e)
  | text => obtain ⟨t, a, q⟩ := h; exact ⟨t, a.same e, q⟩
  | size => obtain ⟨t, a, q⟩ := h; exact ⟨t, a.same e, q⟩
  | boxes =>
    rcases h with ⟨t, a, q⟩ | ⟨p, xs, bs, e1, e2, e3, e4, e5⟩
    · exact .inl ⟨t, a.same e, q⟩
    · exact .inr ⟨p, xs, bs, e1, e _ _ e2, e3, e4.same e, e5⟩
  | turn => obtain ⟨t, a, q⟩ := h; exact ⟨t, a.same e, q⟩
  | gap => obtain ⟨t, a, q⟩ := h; exact ⟨t, a.same e, q⟩
  | pack => obtain ⟨t, a, q⟩ := h; exact ⟨t, a.mono e, q⟩
  | stands => obtain ⟨t, a, q⟩ := h; exact ⟨t, a.mono e, q⟩
  | tracks =>
    rcases h with ⟨t, a, q⟩ | ⟨p, xs, ds, e1, e2, e3, e4⟩
    · exact .inl ⟨t, a.mono e, q⟩
    · exact .inr ⟨p, xs, ds, e1, e _ _ e2, e3.mono e, e4⟩
  | spots =>
    rcases h with ⟨t, a, q⟩ | ⟨p, ws, os, e1, e2, e3, e4⟩
    · exact .inl ⟨t, a.mono e, q⟩
    · exact .inr ⟨p, ws, os, e1, e _ _ e2, e3.same e, e4⟩
  | style =>
    rcases h with h | ⟨y, d, fs, e1, e2, e3⟩ | ⟨n, q, h⟩
    · exact .inl h
    · exact .inr (.inl ⟨y, d, fs, e1, e _ _ e2, e3⟩)
    · exact .inr (.inr ⟨n, q, h.imp (fun ⟨t, a⟩ => ⟨t, a.mono e⟩) fun ⟨y, d, fs, e1, e2⟩ => ⟨y, d, fs, e1, e _ _ e2⟩⟩)
end
/-- the first spoilt one -/
def firstBad : List (Srt × Bool) → Option Srt
  | [] => none
  | (s, b) :: r => if b then firstBad r else some s
/-- the refusal for a sort reaches the handler -/
def ErrAt (ec : Srt → Addr) (E : XK) (s : Srt) (H : Hp) : Prop := if s = .text then ∀ dd, H dd = some (.xd [("line", .int 0)]) → E (.ref (ec s)) (some dd) H else E (.ref (ec s)) none H
theorem ErrAt.non {ec : Srt → Addr} {E : XK} {s : Srt} {H : Hp} (h : ErrAt ec E s H) (n : s ≠ .text) : E (.ref (ec s)) none H := by
  unfold ErrAt at h
  rwa [if_neg n] at h
theorem ErrAt.tx {ec : Srt → Addr} {E : XK} {H : Hp} (h : ErrAt ec E .text H) {dd : Addr} (e : H dd = some (.xd [("line", .int 0)])) : E (.ref (ec .text)) (some dd) H := by
  unfold ErrAt at h
  rw [if_pos rfl] at h
  exact h dd e
/-- the constructors' object: all but it stays -/
theorem but_in {G H H' : Hp} {x : Addr} (n : G x = none) (s : Same G H) (b : But x H H') : Same G H' := fun p o e => b _ _ (by rintro rfl; rw [n] at e; cases e) (s _ _ e)
/-- what a making promises: made, with its name; or refused as the first spoilt thing is -/
def MadeR (ec : Srt → Addr) (C x dx : Addr) (n : V) (l : List (Srt × Bool)) (H : Hp) (Q : VK) (E : XK) : Prop := ∀ H', But x H H' → (firstBad l = none → (∃ fs, H' x = some (.ins C dx fs) ∧ fs.lookup (Str.ofString "name") = some n) → Q .non H') ∧ ∀ s, firstBad l = some s → ErrAt ec E s H'
theorem ths_snoc {H : Hp} {vs : List V} {os : List (Option (List V))} {v : V} {o : Option (List V)} (h : ThsAt H vs os) (g : ThAt H v o) : ThsAt H (vs ++ [v]) (os ++ [o]) := by
  refine ⟨by rw [List.length_append, List.length_append, h.1]; rfl, fun i x q a b => ?_⟩
  by_cases hi : i < vs.length
  · rw [List.getElem?_append_left hi] at a
    rw [List.getElem?_append_left (by rw [← h.1]; exact hi)] at b
    exact h.2 i x q a b
  · rw [List.getElem?_append_right (by omega)] at a
    rw [List.getElem?_append_right (by rw [← h.1]; omega), ← h.1] at b
    match i - vs.length, a, b with
    | 0, a, b => cases a; cases b; exact g
    | n + 1, a, _ => cases a
theorem ths_cons {H : Hp} {vs : List V} {os : List (Option (List V))} {v : V} {o : Option (List V)} (g : ThAt H v o) (h : ThsAt H vs os) : ThsAt H (v :: vs) (o :: os) := by
  refine ⟨by rw [List.length_cons, List.length_cons, h.1], fun i x q a b => ?_⟩
  match i, a, b with
  | 0, a, b => cases a; cases b; exact g
  | n + 1, a, b => exact h.2 n x q a b
theorem ths_drop {H : Hp} {vs : List V} {os : List (Option (List V))} (h : ThsAt H vs os) (n : Nat) : ThsAt H (vs.drop n) (os.drop n) := by
  refine ⟨by rw [List.length_drop, List.length_drop, h.1], fun i x q a b => ?_⟩
  rw [List.getElem?_drop] at a b
  exact h.2 _ x q a b
theorem itbs_put {K : PySem.W.Frag} {S W : Addr} {H : Hp} {xs : List V} {bs : List Bool} {v : V} {b : Bool} (h : ItBs K S W H xs bs) (g : ItB K S W H v b) (m : Nat) : ItBs K S W H (xs.take m ++ [v] ++ xs.drop m) (bs.take m ++ [b] ++ bs.drop m) := by
  refine ⟨by simp [h.1], fun i x q a e => ?_⟩
  have lt : (xs.take m).length = (bs.take m).length := by simp [h.1]
  rw [List.append_assoc] at a e
  by_cases hi : i < (xs.take m).length
  · rw [List.getElem?_append_left hi] at a
    rw [List.getElem?_append_left (by omega)] at e
    rw [List.getElem?_take] at a e
    split at a
    · next z =>
      rw [if_pos z] at e
      exact h.2 i x q a e
    · cases a
  · rw [List.getElem?_append_right (by omega)] at a
    rw [List.getElem?_append_right (by omega), ← lt] at e
    match i - (xs.take m).length, a, e with
    | 0, a, e => cases a; cases e; exact g
    | n + 1, a, e =>
      have a : (xs.drop m)[n]? = some x := a
      have e : (bs.drop m)[n]? = some q := e
      rw [List.getElem?_drop] at a e
      exact h.2 _ x q a e
theorem its_put {H : Hp} {xs : List V} {ds : List PyData} {v : V} {d : PyData} (h : ItsAt H xs ds) (g : It H v d) (m : Nat) : ItsAt H (xs.take m ++ [v] ++ xs.drop m) (ds.take m ++ [d] ++ ds.drop m) := ((h.take m).append (.one g)).append (h.drop m)
/-- values of a kind, each let by or not -/
def ValsR (K : PySem.W.Frag) (S W : Addr) (c : Nat) (H : Hp) (ss : List Srt) (vs : List V) (bs : List Bool) : Prop := vs.length = ss.length ∧ bs.length = ss.length ∧ ∀ (i : Nat) (s : Srt) (v : V) (b : Bool), ss[i]? = some s → vs[i]? = some v → bs[i]? = some b → ValR K S W c H v b s
theorem ValsR.same {K : PySem.W.Frag} {S W : Addr} {c : Nat} {H H' : Hp} {ss : List Srt} {vs : List V} {bs : List Bool} (h : ValsR K S W c H ss vs bs) (e : Same H H') : ValsR K S W c H' ss vs bs := ⟨h.1, h.2.1, fun i s v b a1 a2 a3 => (h.2.2 i s v b a1 a2 a3).same e⟩
end My

/-! ### a call that does not know of a list -/
namespace My
open PySem PySem.Spec PyProof.Rows L2 LamX NdefX
/-- the promise for a heap in which a list is not known -/
def hid (sp : Sp) : Sp := fun vs H Q _ => ∃ (c : Addr) (xs : List V), H c = some (.lst xs) ∧ sp vs (dropC [c] H) (fun v H' => H' c = none → Q v (reC [c] H H')) E0
section
variable {P : Program} {w : World} {K : PySem.W.Frag} {mg : Str → Option Value} {base : Heap} {H H' : Hp} {h : Heap} {c : Addr} {xs : List V}
theorem hok_dropL (ok : HOk P w H h) (f : H c = some (.lst xs)) : HOk P w (dropC [c] H) h := fun a u q => by
  have out : ∀ {b : Addr} {x : HO}, H b = some x → x ≠ .lst xs → b ∉ [c] := fun {b x} z n m => by
    rw [List.mem_singleton.mp m, f] at z; cases z; exact n rfl
  by_cases m : a ∈ [c]
  · rw [dropC_in m] at q; cases q
  · rw [dropC_out m] at q
    exact (ok a u q).stay (fun b v _ z => z) (fun b z => by rw [dropC_out (out z fun e => by cases e)]; exact z) fun b ys z => by rw [dropC_out (out z fun e => by cases e)]; exact z
theorem env0_dropL {A : Around} {outer : List Env} {s : Shared} (e : Env0 P w K mg base A outer s H) (f : H c = some (.lst xs)) : Env0 P w K mg base A outer s (dropC [c] H) := by
  have nn : ∀ {a : Addr}, H a = none → dropC [c] H a = none := fun {a} n => by
    by_cases m : a ∈ [c]
    · exact dropC_in m
    · rw [dropC_out m]; exact n
  exact ⟨e.frames, e.mod, fun b o q => ⟨(e.bs b o q).1, nn (e.bs b o q).2⟩, e.bsz, e.funs, fun b hb => nn (e.frf b hb), hok_dropL e.hok f, e.bare⟩
theorem ce_hide {outer : List Env} {s s' : Shared} {Q : VK} {u : Value} (ok0 : HOk P w H s.heap) (f : H c = some (.lst xs)) (nf : c ∉ frs outer)
    (q : CE outer P w (dropC [c] H) s (fun v H' => H' c = none → Q v (reC [c] H H')) u s') : CE outer P w H s Q u s' := by
  obtain ⟨v, H', os, bare, un, ok, r, k⟩ := q
  have mc : c ∈ [c] := List.mem_cons_self
  obtain ⟨zl, its, n, rv, eo⟩ := ok0 c _ f
  have hc : H' c = none := un.free c _ eo (dropC_in mc) (by simp)
  have kept := un.keep c _ eo (dropC_in mc) nf (by simp)
  have outN : ∀ {b : Addr}, H b = none → b ∉ [c] := fun {b} z m => by rw [List.mem_singleton.mp m, f] at z; cases z
  have outS : ∀ {b : Addr} {x : HO}, H b = some x → x ≠ .lst xs → b ∉ [c] := fun {b x} z n m => by
    rw [List.mem_singleton.mp m, f] at z; cases z; exact n rfl
  refine ⟨v, reC [c] H H', os, bare, ⟨fun b o eb nb hb hx => ?_, fun b o eb nb hb hx => ?_, fun b o eb nb hx => ?_, fun b o eb hx => un.there b o eb hx, fun b ys z => ?_, fun b o x z => ?_, fun b ps z => ?_⟩, fun a x z => ?_, r, k hc⟩
  · exact un.keep b o eb (by rw [dropC_out (outN nb)]; exact nb) hb hx
  · exact un.slot b o eb (by rw [dropC_out (outN nb)]; exact nb) hb hx
  · rw [reC_out (outN nb)]; exact un.free b o eb (by rw [dropC_out (outN nb)]; exact nb) hx
  · have m := outS z fun e => by cases e
    rw [reC_out m]; exact un.tups b ys (by rw [dropC_out m]; exact z)
  · have m := outS z fun e => by cases e
    rw [reC_out m]; exact un.frzs b o x (by rw [dropC_out m]; exact z)
  · have m := outS z fun e => by cases e
    obtain ⟨more, q⟩ := un.tbls b ps (by rw [dropC_out m]; exact z)
    exact ⟨more, by rw [reC_out m]; exact q⟩
  · by_cases m : a ∈ [c]
    · rw [reC_in m] at z
      obtain rfl := List.mem_singleton.mp m
      rw [f] at z; cases z
      exact ⟨zl, its, n, rv, kept⟩
    · rw [reC_out m] at z
      have nC : ∀ {d : Addr} {y : HO}, H' d = some y → d ∉ [c] := fun {d y} q md => by rw [List.mem_singleton.mp md, hc] at q; cases q
      refine (ok a x z).stay (fun b y _ q => q) (fun b q => ?_) fun b ys q => ?_
      · rw [reC_out (nC q)]; exact q
      · rw [reC_out (nC q)]; exact q
/-- a def keeps its promise where a list is not known -/
theorem hideOk {k : Nat} {f : Addr} {fd : FuncData} {ps : List Str} {sp : Sp} (F : FnOk P w K mg base CX0 k f fd ps sp) : FnOk P w K mg base CX0 k f fd ps (hid sp) := by
  refine ⟨fun vs H Q E ⟨c, xs, _, q⟩ => F.len _ _ _ _ q, fun A outer s H args us vs Q E hr e0 hb hv ⟨c, xs, e, q⟩ => ?_⟩
  refine codeAny_mono (F.run A outer s _ args us vs _ _ hr (env0_dropL e0 e) hb hv q) fun r s' hq => ?_
  cases r with
  | error e => exact (show False from hq).elim
  | ok fl =>
    cases fl with
    | ret u => exact ce_hide e0.hok e (fun n => by rw [e0.frf c n] at e; cases e) hq
    | next => exact False.elim hq
    | brk => exact False.elim hq
    | cont => exact False.elim hq
/-- what a call with a hidden list gives back: but for it, as it was left -/
theorem re_at {a : Addr} {o : HO} (e : H' a = some o) (n : H' c = none) : reC [c] H H' a = some o := by
  rw [reC_out fun m => by rw [List.mem_singleton.mp m, n] at e; cases e]; exact e
theorem re_in : reC [c] H H' c = H c := reC_in List.mem_cons_self
/-- draws behind a hidden list -/
theorem dr_hide {s : Addr} (d : Dr s (dropC [c] H) H') (n : c ≠ s) (e : H c = some (.lst xs)) (z : H' c = none) : Dr s H (reC [c] H H') := by
  refine ⟨?_, fun a o na q => ?_⟩
  · obtain ⟨ys, q⟩ := d.s
    exact ⟨ys, re_at q z⟩
  · by_cases m : a ∈ [c]
    · rw [reC_in m]; exact q
    · rw [reC_out m]; exact d.b a o na (by rw [dropC_out m]; exact q)
theorem drop_re {s : Addr} (z : H' c = none) : Same (dropC [s] H') (dropC [s, c] (reC [c] H H')) := fun a o e => by
  by_cases m : a ∈ [s]
  · rw [dropC_in m] at e; cases e
  · rw [dropC_out m] at e
    have na : a ≠ c := fun x => by rw [x, z] at e; cases e
    rw [dropC_out (by simp at m ⊢; exact ⟨m, na⟩), reC_out (by simpa using na)]
    exact e
end
end My

namespace My
open PySem PySem.Spec PyProof.Rows L2
section
variable {P : Program} {w : World} {K : PySem.W.Frag} {mg : Str → Option Value} {base : Heap}
def sp_NoText_init (C : Addr) : Sp := fun vs H Q _ => ∃ (a : Addr) (x y : V), vs = [.ref a, x, y] ∧ H a = some (exo a C none) ∧ ∀ dx, H dx = none → dx ≠ a → Q .non (upd (upd H dx (exd dx [("line", y)])) a (exo a C (some dx)))
theorem bx_NoText_init (T : Tx w K mg) : ∃ ds, Vals ([.int 0] : List V) ds ∧ Binds K T.d_NoText_init.fd ["self", "why", "line"] ds :=
  T.d_NoText_init.FD.binds1 2 0 (by intro z; cases z) rfl (fun D kV doc pm an cdv ct us its h1 h2 => match us, its, h1, h2 with | [_, _], [_], _, _ => ⟨_, rfl, rfl⟩)
theorem ok_NoText_init (T : Tx w K mg) : FnOk P w K mg base CX0 1 T.d_NoText_init.f T.d_NoText_init.fd ["self", "why", "line"] (sp_NoText_init T.e_NoText.C) := by
  refine T.d_NoText_init.FD.ok sc_NoText_init (fun vs H Q E h => ?_) (fun cdv A outer s H vs Q E hr h => ?_)
  · obtain ⟨a, x, y, rfl, _⟩ := h
    rfl
  · obtain ⟨a, x, y, rfl, ha, k⟩ := h
    refine ⟨_, (pss_one (ps_ost (pv 0) (pv 2) rfl)), ?_⟩
    tm_at "rzs"
    exact ⟨a, _, rfl, T.d_NoText_init.T, T.n_NoText_line, .inl ⟨ha, fun dx n1 n2 => k dx n1 n2⟩⟩
end
end My
namespace My
open PySem PySem.Spec PyProof.Rows L2
section
variable {P : Program} {w : World} {K : PySem.W.Frag} {mg : Str → Option Value} {base : Heap}
def sp_is_whole (K : PySem.W.Frag) : Sp := fun vs H Q _ => ∃ (x : V) (t : String), vs = [x] ∧ Ty8 K H x t ∧ Q (.bl (isI x)) H
theorem ok_is_whole (T : Tx w K mg) : FnOk P w K mg base CX0 1 T.d_is_whole.f T.d_is_whole.fd ["thing"] (sp_is_whole K) := by
  refine T.d_is_whole.F.ok sc_is_whole (fun vs H Q E h => ?_) (fun cdv A outer s H vs Q E hr h => ?_)
  · obtain ⟨x, t, rfl, _⟩ := h
    rfl
  · obtain ⟨x, t, rfl, ht, k⟩ := h
    refine ⟨_, (pss_one (ps_ret (pe_and (pe_callB (is_int8 (K := K) rfl) (by rfl) T.b_isinstance (by decide +kernel) (pa_cons (pv 0) (pa_cons (pe_bltn (v := .ty "int") (by rfl) T.b_int (by decide +kernel) rfl) pa_nil))) (pe_one (pe_not (pe_callB (is_bool8 (K := K) rfl) (by rfl) T.b_isinstance (by decide +kernel) (pa_cons (pv 0) (pa_cons (pe_bltn (v := .ty "bool") (by rfl) T.b_bool (by decide +kernel) rfl) pa_nil)))))))), ?_⟩
    tm_at "rds"
    refine ite2 (fun e => ?_) (fun e => ?_)
    · tm_at "rds"
      rw [isI_bool e]
      exact k
    · rw [isI_no e]
      exact k
end
end My
namespace My
open PySem PySem.Spec PyProof.Rows L2
section
variable {P : Program} {w : World} {K : PySem.W.Frag} {mg : Str → Option Value} {base : Heap}
def sp_is_count (K : PySem.W.Frag) : Sp := fun vs H Q _ => ∃ (x : V) (t : String), vs = [x] ∧ Ty8 K H x t ∧ Q (.bl (isN x)) H
theorem ok_is_count (T : Tx w K mg) : FnOk P w K mg base CX0 2 T.d_is_count.f T.d_is_count.fd ["thing"] (sp_is_count K) := by
  refine T.d_is_count.F.ok sc_is_count (fun vs H Q E h => ?_) (fun cdv A outer s H vs Q E hr h => ?_)
  · obtain ⟨x, t, rfl, _⟩ := h
    rfl
  · obtain ⟨x, t, rfl, ht, k⟩ := h
    refine ⟨_, (pss_one (ps_ret (pe_and (pe_call (ok_is_whole T) (hr.mono (by decide)) (by rfl) T.d_is_whole.g T.d_is_whole.F.kp T.d_is_whole.b .nil pass0 (pa_cons (pv 0) pa_nil)) (pe_one (pe_cmpR op_ge (pv 0) pe_int (nomark _)))))), ?_⟩
    tm_at "rds"
    refine ite2 (fun e => ?_) (fun e => ?_)
    · obtain ⟨i, rfl⟩ := isI_of e
      tm_at "rds"
      exact k
    · have : false = isN x := by cases x <;> simp_all [isI, isN]
      rw [this]
      exact k
end
end My
namespace My
open PySem PySem.Spec PyProof.Rows L2
section
variable {P : Program} {w : World} {K : PySem.W.Frag} {mg : Str → Option Value} {base : Heap}
def sp_is_name (K : PySem.W.Frag) : Sp := fun vs H Q _ => ∃ (v : V) (b : Bool), vs = [v] ∧ NmAt K H v b ∧ ∀ H', Same H H' → Q (.bl b) H'
theorem ok_is_name (T : Tx w K mg) : FnOk P w K mg base CX0 1 T.d_is_name.f T.d_is_name.fd ["thing"] (sp_is_name K) := by
  refine T.d_is_name.F.ok sc_is_name (fun vs H Q E h => ?_) (fun cdv A outer s H vs Q E hr h => ?_)
  · obtain ⟨v, b, rfl, _⟩ := h
    rfl
  · obtain ⟨v, b, rfl, hv, k⟩ := h
    refine ⟨_, (pss_cons (ps_if (PW.pt (pw_or (pt_not (pt_val (pe_callB (is_str8 (K := K) rfl) (by rfl) T.b_isinstance (by decide +kernel) (pa_cons (pv 0) (pa_cons (pe_bltn (v := .ty "str") (by rfl) T.b_str (by decide +kernel) rfl) pa_nil))))) (pw_or1 (pt_not (pt_chain op_le op_le pe_int (pe_callB (call_lenK (K := K) rfl) (by rfl) T.b_len (by decide +kernel) (pa_cons (pv 0) pa_nil)) (pe_glob (v := .int 8) (by rfl) T.v_LONGEST T.r_LONGEST))))))
      (pss_one (ps_ret pe_bl))
      pss_nil)
      (pss_one (ps_ret (pe_callB (cr_allK (K := K) rfl rfl) (by rfl) T.b_all (by decide +kernel) (pa_cons (pe_lc (own := [("sign", 1)]) (g := gName 1) (by rfl) sc_is_name.nd (pi_str (pv 0)) (blkOk_by (own := [("sign", 1)]) (N := N_is_name) (sc := defScope s_is_name) (by decide +kernel)) (fun _ _ _ _ _ => (pg_name (i := 1) sc_is_name.nd rfl (Or.inl rfl))) (fun _ _ _ _ _ => pts_nil) (fun _ _ _ _ _ => (pe_cmpR op_in_sign (pv 1) (pe_glob (v := .str (Str.ofString "abcdefghijklmnopqrstuvwxyz")) (by rfl) T.v_LETTERS T.r_LETTERS) (by rfl)))) pa_nil))))), ?_⟩
    rcases hv with ⟨t, ht, nt, rfl⟩ | ⟨l, rfl, rfl, hl⟩
    · have h8 := ht.t8
      tm_at "rds"
      have e : decide (t = "str") = false := decide_eq_false nt
      refine ite2 (fun e2 => ?_) (fun e2 => ?_)
      · tm_at "rzs"
        exact k _ (Same.refl _)
      · exact absurd e2 (by show ¬ ¬ ((!(decide (t = "str"))) = true); rw [e]; decide)
    · have h8 : Ty8 K H (.str (sO l)) "str" := .of (.str _)
      tm_at "rzs"
      refine ⟨_, l.length, rfl, ⟨by show l.toArray.size ≤ sizeLine; rw [List.size_toArray, sizeLine_eq]; omega, by show l.length = l.toArray.size; rw [List.size_toArray]⟩, ?_⟩
      tm_at "rds"
      by_cases e1 : 1 ≤ l.length
      · refine iteT' (decide_eq_true (by omega)) ?_
        tm_at "rds"
        by_cases e2 : l.length ≤ 8
        · refine iteF' (by rw [decide_eq_true (by omega)]; rfl) ?_
          tm_at "rds"
          refine fun D hD => lcSf (fun c => .bl (decide (c ∈ lettersL))) hD (by omega) (fun i c H1 Kt Kf hc s1 kt => ?_) (fun H1 s1 g1 => ?_)
          · tm_at "rds"
            exact kt _ (Same.refl _)
          have g1 : H1 D = some (.lst ((l.map fun c => decide (c ∈ lettersL)).map V.bl)) := by rw [g1, List.map_map]; rfl
          tm_at "rzs"
          refine ⟨D, _, rfl, sqL g1, ?_⟩
          have : (l.map fun c => decide (c ∈ lettersL)).all id = nmB l := by
            unfold nmB
            rw [decide_eq_true e1, decide_eq_true e2, List.all_map]; rfl
          rw [this]
          exact k H1 s1
        · refine iteT' (by rw [decide_eq_false (by omega)]; rfl) ?_
          tm_at "rzs"
          have : nmB l = false := by unfold nmB; rw [decide_eq_false e2, Bool.and_false, Bool.false_and]
          rw [this] at k
          exact k _ (Same.refl _)
      · refine iteF' (decide_eq_false (by omega)) ?_
        tm_at "rzs"
        have : nmB l = false := by unfold nmB; rw [decide_eq_false e1, Bool.false_and, Bool.false_and]
        rw [this] at k
        exact k _ (Same.refl _)
end
end My
namespace My
open PySem PySem.Spec PyProof.Rows L2
section
variable {P : Program} {w : World} {K : PySem.W.Frag} {mg : Str → Option Value} {base : Heap}
def sp_is_share : Sp := fun vs H Q _ => ∃ (x : V) (t : String), vs = [x] ∧ Ty7 H x t ∧ Q (.bl (decide (t = "tuple"))) H
theorem ok_is_share (T : Tx w K mg) : FnOk P w K mg base CX0 1 T.d_is_share.f T.d_is_share.fd ["track"] (sp_is_share) := by
  refine T.d_is_share.F.ok sc_is_share (fun vs H Q E h => ?_) (fun cdv A outer s H vs Q E hr h => ?_)
  · obtain ⟨x, t, rfl, _⟩ := h
    rfl
  · obtain ⟨x, t, rfl, ht, k⟩ := h
    refine ⟨_, (pss_one (ps_ret (pe_callB is_tuple (by rfl) T.b_isinstance (by decide +kernel) (pa_cons (pv 0) (pa_cons (pe_bltn (v := .ty "tuple") (by rfl) T.b_tuple (by decide +kernel) rfl) pa_nil))))), ?_⟩
    tm_at "rds"
    exact k
end
end My
namespace My
open PySem PySem.Spec PyProof.Rows L2
section
variable {P : Program} {w : World} {K : PySem.W.Frag} {mg : Str → Option Value} {base : Heap}
def sp_is_track : Sp := fun vs H Q _ => ∃ (x : V) (d : PyData), vs = [x] ∧ It H x d ∧ fineE d = true ∧ Q (.bl (trackB d)) H
theorem ok_is_track (T : Tx w K mg) : FnOk P w K mg base CX0 3 T.d_is_track.f T.d_is_track.fd ["thing"] (sp_is_track) := by
  refine T.d_is_track.F.ok sc_is_track (fun vs H Q E h => ?_) (fun cdv A outer s H vs Q E hr h => ?_)
  · obtain ⟨x, t, rfl, _⟩ := h
    rfl
  · obtain ⟨x, d, rfl, ht, ok, k⟩ := h
    refine ⟨_, (pss_cons (ps_if (pt_val (pe_call (ok_is_share T) (hr.mono (by decide)) (by rfl) T.d_is_share.g T.d_is_share.F.kp T.d_is_share.b .nil pass0 (pa_cons (pv 0) pa_nil)))
      (pss_one (ps_ret (pe_and (pe_cmpR op_eq (pe_callB (call_lenK (K := K) rfl) (by rfl) T.b_len (by decide +kernel) (pa_cons (pv 0) pa_nil)) pe_int (nomark _)) (pe_and (pe_cmpR op_eq (pe_ix (ix_tupK (K := K) rfl) (pv 0) pe_int (fun _ _ => rfl)) pe_str (nomark _)) (pe_and (pe_call (ok_is_whole T) (hr.mono (by decide)) (by rfl) T.d_is_whole.g T.d_is_whole.F.kp T.d_is_whole.b .nil pass0 (pa_cons (pe_ix (ix_tupK (K := K) rfl) (pv 0) pe_int (fun _ _ => rfl)) pa_nil)) (pe_one (pe_cmpR op_ge (pe_ix (ix_tupK (K := K) rfl) (pv 0) pe_int (fun _ _ => rfl)) pe_int (nomark _))))))))
      pss_nil)
      (pss_one (ps_ret (pe_or (pe_call (ok_is_count T) (hr.mono (by decide)) (by rfl) T.d_is_count.g T.d_is_count.F.kp T.d_is_count.b .nil pass0 (pa_cons (pv 0) pa_nil)) (pe_one (pe_and (pe_callB is_str (by rfl) T.b_isinstance (by decide +kernel) (pa_cons (pv 0) (pa_cons (pe_bltn (v := .ty "str") (by rfl) T.b_str (by decide +kernel) rfl) pa_nil))) (pe_one (pe_cmpR op_eq (pv 0) pe_str (nomark _))))))))), ?_⟩
    have ht7 := ht.t7
    have ht8 : Ty8 K H x (tyD d) := .of ht7
    cases ht with
    | fl d f =>
      cases d with
      | none => tm_at "rzs"; exact k
      | bool b => tm_at "rzs"; exact k
      | int n =>
        tm_at "rzs"
        refine ite2 (fun e => ?_) (fun e => ?_)
        · have e : decide (0 ≤ n) = true := e
          have ek : trackB (.int n) = true := by show (decide (0 ≤ n) || _) = true; rw [e]; rfl
          rw [ek] at k
          tm_at "rzs"
          exact k
        · have e : decide (0 ≤ n) = false := Bool.eq_false_iff.mpr e
          have ek : trackB (.int n) = false := by show (decide (0 ≤ n) || _) = false; rw [e]; rfl
          rw [ek] at k
          tm_at "rzs"
          exact k
      | str s =>
        tm_at "rzs"
        exact k
      | list _ => cases f
      | tuple _ => cases f
      | dict _ => cases f
    | lst g f =>
      tm_at "rzs"
      exact k
    | @tup r ds g f =>
      tm_at "rzs"
      match ds, g, f, ok, k with
      | [], g, f, ok, k => 
        tm_at "rzs"
        exact k
      | [a], g, f, ok, k =>
        tm_at "rzs"
        exact k
      | [a, b], g, f, ok, k =>
        have fb : flatD b = true := by
          rw [List.all_cons, List.all_cons, Bool.and_eq_true, Bool.and_eq_true] at f
          exact f.2.1
        have hb7 := fl_t7 (H := H) fb
        have hb8 : Ty8 K H (flV b) (tyD b) := .of hb7
        cases a with
        | str s =>
          tm_at "rzs"
          by_cases e : s = "share"
          · subst e
            refine iteT' (decide_eq_true rfl) ?_
            cases b with
            | int j =>
              tm_at "rzs"
              exact k
            | list _ => cases fb
            | tuple _ => cases fb
            | dict _ => cases fb
            | _ => tm_at "rzs"; exact k
          · have e1 : decide (flV (.str s) = V.str "share") = false := decide_eq_false fun z => e (V.str.inj z)
            refine iteF' e1 ?_
            have ek : trackB (.tuple [.str s, b]) = false := by show (decide (flV (.str s) = V.str "share") && _) = false; rw [e1]; rfl
            rw [ek] at k
            exact k
        | list _ => rw [List.all_cons, Bool.and_eq_true] at f; cases f.1
        | tuple _ => rw [List.all_cons, Bool.and_eq_true] at f; cases f.1
        | dict _ => rw [List.all_cons, Bool.and_eq_true] at f; cases f.1
        | _ => tm_at "rzs"; exact k
      | a :: b :: c :: ds, g, f, ok, k =>
        tm_at "rzs"
        exact k
end
end My
namespace My
open PySem PySem.Spec PyProof.Rows L2
section
variable {P : Program} {w : World} {K : PySem.W.Frag} {mg : Str → Option Value} {base : Heap}
def sp_are_tracks (K : PySem.W.Frag) (S W : Addr) : Sp := fun vs H Q _ => ∃ (t : V) (c : Nat) (b : Bool), vs = [t] ∧ ValR K S W c H t b .tracks ∧ ∀ H', Same H H' → Q (.bl b) H'
theorem ok_are_tracks (T : Tx w K mg) : FnOk P w K mg base CX0 4 T.d_are_tracks.f T.d_are_tracks.fd ["thing"] (sp_are_tracks K T.c_Style.C T.c_Words.C) := by
  refine T.d_are_tracks.F.ok sc_are_tracks (fun vs H Q E h => ?_) (fun cdv A outer s H vs Q E hr h => ?_)
  · obtain ⟨a, c, xs, rfl, _⟩ := h
    rfl
  · obtain ⟨t, c, b, rfl, h, k⟩ := h
    refine ⟨_, (pss_one (ps_ret (pe_and (pe_callB is_list (by rfl) T.b_isinstance (by decide +kernel) (pa_cons (pv 0) (pa_cons (pe_bltn (v := .ty "list") (by rfl) T.b_list (by decide +kernel) rfl) pa_nil))) (pe_and (pe_cmpR (op_neDK (K := K) hr.units rfl) (pv 0) (pe_lstA pa_nil) (nomark _)) (pe_one (pe_callB (cr_allK (K := K) rfl rfl) (by rfl) T.b_all (by decide +kernel) (pa_cons (pe_lc (own := [("track", 1)]) (g := gName 1) (by rfl) sc_are_tracks.nd (pi_listK (K := K) rfl (pv 0)) (blkOk_by (own := [("track", 1)]) (N := N_are_tracks) (sc := defScope s_are_tracks) (by decide +kernel)) (fun _ _ _ _ _ => (pg_name (i := 1) sc_are_tracks.nd rfl (Or.inl rfl))) (fun _ _ _ _ _ => pts_nil) (fun _ _ _ _ _ => (pe_call (ok_is_track T) (hr.mono (by decide)) (by rfl) T.d_is_track.g T.d_is_track.F.kp T.d_is_track.b .nil pass0 (pa_cons (pv 1) pa_nil)))) pa_nil))))))), ?_⟩
    rcases h with ⟨ty, h, n, rfl⟩ | ⟨a, xs, ds, rfl, g, its, fine, n, e, _⟩
    · tm_at "rzs"
      refine iteF' (decide_eq_false n) ?_
      exact k _ (Same.refl _)
    tm_at "rzs"
    intro p H1 f1 s1 g1
    have ha1 := s1 _ _ g
    refine ⟨_, _, .lst (sqL ha1) (its.mono s1).dp, .lst (xs := []) (sqL g1) .nil, fineE_shaped fine, by decide +kernel, ?_⟩
    cases ds with
    | nil =>
      subst e
      tm_at "rzs"
      exact k _ s1
    | cons d ds =>
    have e0 : PyData.eqv (.list (d :: ds)) (.list []) = false := by simp [PyData.eqv, PyData.eqvAll]
    rw [e0]
    tm_at "rzs"
    have lx := its.1
    refine ⟨⟨_, sqL ha1⟩, fun D hD => lcLx (K := K) (xs := xs) (fun i => .bl (trackAt (d :: ds) i)) hD (sqL ha1) (by omega) (fun i x H2 Kt Kf hx s2 kk => ?_) (fun H2 s2 g2 => ?_)⟩
    · obtain ⟨t, ht, hat⟩ := its.at' hx
      have hat2 := hat.mono (s1.trans s2)
      have okt := fine t (List.mem_of_getElem? ht)
      rw [trackAt_of ht] at kk
      tm_at "rzs"
      exact kk _ (Same.refl _)
    rw [bls, lx, trackAt_all] at g2
    tm_at "rzs"
    refine ⟨D, _, rfl, sqL g2, ?_⟩
    have e2 : ((d :: ds).map trackB).all id = b := by rw [e, List.all_map]; rfl
    rw [e2]
    exact k _ (s1.trans s2)
end
end My
namespace My
open PySem PySem.Spec PyProof.Rows L2
section
variable {P : Program} {w : World} {K : PySem.W.Frag} {mg : Str → Option Value} {base : Heap}
def sp_is_stretch : Sp := fun vs H Q _ => ∃ (f m : V) (n : Int) (t1 t2 : String), vs = [f, m, .int n] ∧ Ty7 H f t1 ∧ Ty7 H m t2 ∧ Q (.bl (strchB f m n)) H
theorem ok_is_stretch (T : Tx w K mg) : FnOk P w K mg base CX0 3 T.d_is_stretch.f T.d_is_stretch.fd ["first", "many", "count"] (sp_is_stretch) := by
  refine T.d_is_stretch.F.ok sc_is_stretch (fun vs H Q E h => ?_) (fun cdv A outer s H vs Q E hr h => ?_)
  · obtain ⟨f, m, n, t1, t2, rfl, _⟩ := h
    rfl
  · obtain ⟨f, m, n, t1, t2, rfl, h1, h2, k⟩ := h
    refine ⟨_, (pss_one (ps_ret (pe_and (pe_call (ok_is_count T) (hr.mono (by decide)) (by rfl) T.d_is_count.g T.d_is_count.F.kp T.d_is_count.b .nil pass0 (pa_cons (pv 0) pa_nil)) (pe_and (pe_call (ok_is_whole T) (hr.mono (by decide)) (by rfl) T.d_is_whole.g T.d_is_whole.F.kp T.d_is_whole.b .nil pass0 (pa_cons (pv 1) pa_nil)) (pe_and (pe_cmpR op_ge (pv 1) pe_int (nomark _)) (pe_one (pe_cmpR op_le (pe_op op_add (pv 0) (pv 1)) (pv 2) (nomark _)))))))), ?_⟩
    have z1 : Ty8 K H f t1 := .of h1
    have z2 : Ty8 K H m t2 := .of h2
    tm_at "rzs"
    have kk : ∀ b : Bool, b = strchB f m n → Q (.bl b) H := fun b e => by rw [e]; exact k
    by_cases e1 : isN f = true
    · obtain ⟨a, rfl, a0⟩ : ∃ a : Int, f = .int a ∧ 0 ≤ a := by cases f <;> simp_all [isN]
      refine iteT' e1 ?_
      tm_at "rzs"
      by_cases e2 : isI m = true
      · obtain ⟨b, rfl⟩ := isI_of e2
        refine iteT' e2 ?_
        tm_at "rzs"
        by_cases e3 : 1 ≤ b
        · refine iteT' (decide_eq_true e3) ?_
          tm_at "rzs"
          refine kk _ ?_
          show _ = (decide (0 ≤ a) && (decide (1 ≤ b) && decide (a + b ≤ n)))
          rw [decide_eq_true a0, decide_eq_true e3]
          simp
        · refine iteF' (decide_eq_false e3) ?_
          refine kk _ ?_
          show _ = (decide (0 ≤ a) && (decide (1 ≤ b) && decide (a + b ≤ n)))
          rw [decide_eq_false e3]
          simp
      · have e2 : isI m = false := by simpa using e2
        refine iteF' e2 ?_
        refine kk _ ?_
        cases m <;> simp_all [isI, strchB]
    · have e1 : isN f = false := by simpa using e1
      refine iteF' e1 ?_
      refine kk _ ?_
      cases f with
      | int a =>
        have a0 : ¬ 0 ≤ a := fun h => by rw [show isN (.int a) = decide (0 ≤ a) from rfl, decide_eq_true h] at e1; cases e1
        cases m <;> simp [strchB, a0]
      | _ => rfl
end
end My
namespace My
open PySem PySem.Spec PyProof.Rows L2
section
variable {P : Program} {w : World} {K : PySem.W.Frag} {mg : Str → Option Value} {base : Heap}
def sp_is_spot : Sp := fun vs H Q _ => ∃ (v : V) (o : Option (List V)) (c r : Int), vs = [v, .int c, .int r] ∧ ThAt H v o ∧ Q (.bl (spotB c r o)) H
theorem ok_is_spot (T : Tx w K mg) : FnOk P w K mg base CX0 4 T.d_is_spot.f T.d_is_spot.fd ["thing", "columns", "rows"] (sp_is_spot) := by
  refine T.d_is_spot.F.ok sc_is_spot (fun vs H Q E h => ?_) (fun cdv A outer s H vs Q E hr h => ?_)
  · obtain ⟨v, o, c, r, rfl, _⟩ := h
    rfl
  · obtain ⟨v, o, c, r, rfl, hv, k⟩ := h
    refine ⟨_, (pss_cons (ps_if (PW.pt (pw_or (pt_not (pt_val (pe_callB is_tuple (by rfl) T.b_isinstance (by decide +kernel) (pa_cons (pv 0) (pa_cons (pe_bltn (v := .ty "tuple") (by rfl) T.b_tuple (by decide +kernel) rfl) pa_nil))))) (pw_or1 (pt_cmpR op_ne (pe_callB (call_lenK (K := K) rfl) (by rfl) T.b_len (by decide +kernel) (pa_cons (pv 0) pa_nil)) pe_int (nomark _)))))
      (pss_one (ps_ret pe_bl))
      pss_nil)
      (pss_one (ps_ret (pe_and (pe_call (ok_is_stretch T) (hr.mono (by decide)) (by rfl) T.d_is_stretch.g T.d_is_stretch.F.kp T.d_is_stretch.b .nil pass0 (pa_cons (pe_ix (ix_tupK (K := K) rfl) (pv 0) pe_int (fun _ _ => rfl)) (pa_cons (pe_ix (ix_tupK (K := K) rfl) (pv 0) pe_int (fun _ _ => rfl)) (pa_cons (pv 1) pa_nil)))) (pe_one (pe_call (ok_is_stretch T) (hr.mono (by decide)) (by rfl) T.d_is_stretch.g T.d_is_stretch.F.kp T.d_is_stretch.b .nil pass0 (pa_cons (pe_ix (ix_tupK (K := K) rfl) (pv 0) pe_int (fun _ _ => rfl)) (pa_cons (pe_ix (ix_tupK (K := K) rfl) (pv 0) pe_int (fun _ _ => rfl)) (pa_cons (pv 2) pa_nil))))))))), ?_⟩
    tm_at "rzs"
    cases hv with
    | other v t h n =>
      refine ⟨v, t, rfl, h, ?_⟩
      have e : decide (t = "tuple") = false := decide_eq_false n
      refine ⟨_, rfl, ?_⟩
      show if (!decide (t = "tuple")) = true then _ else _
      rw [e]
      tm_at "rzs"
      exact k
    | tup a xs h hx =>
      refine ⟨_, _, rfl, .tup h, ?_⟩
      tm_at "rzs"
      by_cases e4 : xs.length = 4
      · obtain ⟨x, y, w, d, rfl⟩ := four e4
        obtain ⟨tx, hx0⟩ := hx x (by simp)
        obtain ⟨ty, hy0⟩ := hx y (by simp)
        obtain ⟨tw, hw0⟩ := hx w (by simp)
        obtain ⟨td, hd0⟩ := hx d (by simp)
        tm_at "rzs"
        refine ⟨x, w, c, tx, tw, rfl, hx0, hw0, ?_⟩
        tm_at "rzs"
        have kk : ∀ b : Bool, b = (strchB x w c && strchB y d r) → Q (.bl b) H := fun b e => by rw [e]; exact k
        cases e : strchB x w c with
        | true =>
          rw [e] at kk
          tm_at "rzs"
          refine ⟨y, d, r, ty, td, rfl, hy0, hd0, ?_⟩
          tm_at "rzs"
          exact kk _ (by simp)
        | false =>
          rw [e] at kk
          refine iteF' rfl ?_
          tm_at "rzs"
          exact kk _ (by simp)
      · refine iteT' (by rw [int_inj_dec, decide_eq_false (by omega)]; rfl) ?_
        tm_at "rzs"
        have e : spotB c r (some xs) = false := by
          unfold spotB
          split
          · rename_i e; cases e; exact absurd rfl e4
          · rfl
        rw [e] at k
        exact k
end
end My
namespace My
open PySem PySem.Spec PyProof.Rows L2
section
variable {P : Program} {w : World} {K : PySem.W.Frag} {mg : Str → Option Value} {base : Heap}
def sp_apart : Sp := fun vs H Q _ => ∃ (a b : Addr) (x y w d x' y' w' d' : Int), vs = [.ref a, .ref b] ∧ H a = some (.tup [.int x, .int y, .int w, .int d]) ∧ H b = some (.tup [.int x', .int y', .int w', .int d']) ∧ Q (.bl (apartI x y w d x' y' w' d')) H
theorem ok_apart (T : Tx w K mg) : FnOk P w K mg base CX0 1 T.d_apart.f T.d_apart.fd ["one", "other"] (sp_apart) := by
  refine T.d_apart.F.ok sc_apart (fun vs H Q E h => ?_) (fun cdv A outer s H vs Q E hr h => ?_)
  · obtain ⟨a, b, x, y, w, d, x', y', w', d', rfl, _⟩ := h
    rfl
  · obtain ⟨a, b, x, y, w, d, x', y', w', d', rfl, ha, hb, k⟩ := h
    refine ⟨_, (pss_cons (ps_set (i := 2) sc_apart.nd rfl (Or.inl rfl) (pe_or (pe_cmpR op_le (pe_op op_add (pe_ix (ix_tupK (K := K) rfl) (pv 0) pe_int (fun _ _ => rfl)) (pe_ix (ix_tupK (K := K) rfl) (pv 0) pe_int (fun _ _ => rfl))) (pe_ix (ix_tupK (K := K) rfl) (pv 1) pe_int (fun _ _ => rfl)) (nomark _)) (pe_one (pe_cmpR op_le (pe_op op_add (pe_ix (ix_tupK (K := K) rfl) (pv 1) pe_int (fun _ _ => rfl)) (pe_ix (ix_tupK (K := K) rfl) (pv 1) pe_int (fun _ _ => rfl))) (pe_ix (ix_tupK (K := K) rfl) (pv 0) pe_int (fun _ _ => rfl)) (nomark _)))))
      (pss_one (ps_ret (pe_or (pv 2) (pe_or (pe_cmpR op_le (pe_op op_add (pe_ix (ix_tupK (K := K) rfl) (pv 0) pe_int (fun _ _ => rfl)) (pe_ix (ix_tupK (K := K) rfl) (pv 0) pe_int (fun _ _ => rfl))) (pe_ix (ix_tupK (K := K) rfl) (pv 1) pe_int (fun _ _ => rfl)) (nomark _)) (pe_one (pe_cmpR op_le (pe_op op_add (pe_ix (ix_tupK (K := K) rfl) (pv 1) pe_int (fun _ _ => rfl)) (pe_ix (ix_tupK (K := K) rfl) (pv 1) pe_int (fun _ _ => rfl))) (pe_ix (ix_tupK (K := K) rfl) (pv 0) pe_int (fun _ _ => rfl)) (nomark _)))))))), ?_⟩
    tm_at "rzs"
    have kk : ∀ b : Bool, b = apartI x y w d x' y' w' d' → Q (.bl b) H := fun b e => by rw [e]; exact k
    by_cases e1 : x + w ≤ x'
    · refine iteT' (decide_eq_true e1) ?_
      tm_at "rzs"
      exact kk _ (by unfold apartI; rw [decide_eq_true e1]; rfl)
    refine iteF' (decide_eq_false e1) ?_
    tm_at "rzs"
    by_cases e2 : x' + w' ≤ x
    · refine iteT' (decide_eq_true e2) ?_
      exact kk _ (by unfold apartI; rw [decide_eq_true e2]; simp)
    refine iteF' (decide_eq_false e2) ?_
    tm_at "rzs"
    by_cases e3 : y + d ≤ y'
    · refine iteT' (decide_eq_true e3) ?_
      exact kk _ (by unfold apartI; rw [decide_eq_true e3]; simp)
    refine iteF' (decide_eq_false e3) ?_
    tm_at "rzs"
    refine kk _ ?_
    unfold apartI
    rw [decide_eq_false e1, decide_eq_false e2, decide_eq_false e3]
    simp
end
end My
namespace My
open PySem PySem.Spec PyProof.Rows L2
section
variable {P : Program} {w : World} {K : PySem.W.Frag} {mg : Str → Option Value} {base : Heap}
def sp_may_stand : Sp := fun vs H Q _ => ∃ (v : V) (b : Addr) (o : Option (List V)) (ws : List V) (pre : List (Option (List V))) (c r : Int), vs = [v, .ref b, .int c, .int r] ∧ ThAt H v o ∧ H b = some (.lst ws) ∧ ThsAt H ws pre ∧ (∀ p ∈ pre, spotB c r p = true) ∧ pre.length ≤ 1000 ∧ ∀ H', Same H H' → Q (.bl (spotB c r o && pre.all (apartO o))) H'
theorem ok_may_stand (T : Tx w K mg) : FnOk P w K mg base CX0 5 T.d_may_stand.f T.d_may_stand.fd ["spot", "spots", "columns", "rows"] (sp_may_stand) := by
  refine T.d_may_stand.F.ok sc_may_stand (fun vs H Q E h => ?_) (fun cdv A outer s H vs Q E hr h => ?_)
  · obtain ⟨v, b, o, ws, pre, c, r, rfl, _⟩ := h
    rfl
  · obtain ⟨v, b, o, ws, pre, c, r, rfl, hv, hb, hp, hok, hl, k⟩ := h
    refine ⟨_, (pss_one (ps_ret (pe_and (pe_call (ok_is_spot T) (hr.mono (by decide)) (by rfl) T.d_is_spot.g T.d_is_spot.F.kp T.d_is_spot.b .nil pass0 (pa_cons (pv 0) (pa_cons (pv 2) (pa_cons (pv 3) pa_nil)))) (pe_one (pe_callB (cr_allK (K := K) rfl rfl) (by rfl) T.b_all (by decide +kernel) (pa_cons (pe_lc (own := [("one", 4)]) (g := gName 4) (by rfl) sc_may_stand.nd (pi_listK (K := K) rfl (pv 1)) (blkOk_by (own := [("one", 4)]) (N := N_may_stand) (sc := defScope s_may_stand) (by decide +kernel)) (fun _ _ _ _ _ => (pg_name (i := 4) sc_may_stand.nd rfl (Or.inl rfl))) (fun _ _ _ _ _ => pts_nil) (fun _ _ _ _ _ => (pe_call (ok_apart T) (hr.mono (by decide)) (by rfl) T.d_apart.g T.d_apart.F.kp T.d_apart.b .nil pass0 (pa_cons (pv 0) (pa_cons (pv 4) pa_nil))))) pa_nil)))))), ?_⟩
    tm_at "rzs"
    refine ⟨v, o, c, r, rfl, hv, ?_⟩
    tm_at "rzs"
    have kk : ∀ (b : Bool) H', Same H H' → b = (spotB c r o && pre.all (apartO o)) → Q (.bl b) H' := fun b H' s e => by rw [e]; exact k H' s
    by_cases e1 : spotB c r o = true
    rotate_left
    · have e1 : spotB c r o = false := by simpa using e1
      refine iteF' e1 ?_
      exact kk _ _ (Same.refl _) (by rw [e1]; rfl)
    refine iteT' e1 ?_
    obtain ⟨x, y, w, d, ho, -⟩ := spot_int e1
    subst ho
    obtain ⟨a, rfl, ha⟩ := hv.four
    tm_at "rzs"
    refine ⟨⟨_, sqL hb⟩, fun D hD => lcLx (K := K) (xs := ws) (fun i => .bl (apartO (four4 x y w d) (pre.getD i none))) hD (sqL hb) (by rw [hp.1]; omega) (fun i z H2 Kt Kf hx s2 kq => ?_) (fun H2 s2 g2 => ?_)⟩
    · obtain ⟨q, hq⟩ : ∃ q, pre[i]? = some q := ⟨_, List.getElem?_eq_getElem (by have := (List.getElem?_eq_some_iff.mp hx).1; have := hp.1; omega)⟩
      have hz := hp.2 i z q hx hq
      obtain ⟨x', y', w', d', e, -⟩ := spot_int (hok q (List.mem_of_getElem? hq))
      subst e
      obtain ⟨a', rfl, ha'⟩ := hz.four
      have kq' := kq H2 (Same.refl _)
      have eq : pre.getD i none = four4 x' y' w' d' := by rw [List.getD_eq_getElem?_getD, hq]; rfl
      rw [eq] at kq'
      tm_at "rzs"
      refine ⟨a, a', x, y, w, d, x', y', w', d', rfl, s2 _ _ ha, s2 _ _ ha', ?_⟩
      tm_at "rzs"
      exact kq'
    rw [bls _ fun i => apartO (four4 x y w d) (pre.getD i none)] at g2
    tm_at "rzs"
    refine ⟨D, _, rfl, sqL g2, ?_⟩
    refine kk _ _ s2 ?_
    rw [e1, hp.1, all_getD pre]
    rfl
end
end My
namespace My
open PySem PySem.Spec PyProof.Rows L2
section
variable {P : Program} {w : World} {K : PySem.W.Frag} {mg : Str → Option Value} {base : Heap}
def sp_are_spots : Sp := fun vs H Q _ => ∃ (v : V) (m : Nat) (c r : Int) (b : Bool), vs = [v, .int (m : Int), .int c, .int r] ∧ ((∃ t, Ty7 H v t ∧ t ≠ "list" ∧ b = false) ∨ ∃ (a : Addr) (ws : List V) (os : List (Option (List V))), v = .ref a ∧ H a = some (.lst ws) ∧ ThsAt H ws os ∧ os.length ≤ 1000 ∧ b = (decide (os.length = m) && stB c r [] os)) ∧ ∀ H', Same H H' → Q (.bl b) H'
theorem ok_are_spots (T : Tx w K mg) : FnOk P w K mg base CX0 6 T.d_are_spots.f T.d_are_spots.fd ["thing", "many", "columns", "rows"] (sp_are_spots) := by
  refine T.d_are_spots.F.ok sc_are_spots (fun vs H Q E h => ?_) (fun cdv A outer s H vs Q E hr h => ?_)
  · obtain ⟨v, m, c, r, b, rfl, _⟩ := h
    rfl
  · obtain ⟨v, m, c, r, b, rfl, h, k⟩ := h
    refine ⟨_, (pss_cons (ps_if (PW.pt (pw_or (pt_not (pt_val (pe_callB is_list (by rfl) T.b_isinstance (by decide +kernel) (pa_cons (pv 0) (pa_cons (pe_bltn (v := .ty "list") (by rfl) T.b_list (by decide +kernel) rfl) pa_nil))))) (pw_or1 (pt_cmpR op_ne (pe_callB (call_lenK (K := K) rfl) (by rfl) T.b_len (by decide +kernel) (pa_cons (pv 0) pa_nil)) (pv 1) (nomark _)))))
      (pss_one (ps_ret pe_bl))
      pss_nil)
      (pss_cons (ps_for PassesOwn.never (by rfl) (pi_enumK (K := K) rfl (by rfl) T.b_enumerate (pa_cons (pv 0) pa_nil)) (pg_tup (by rfl) (pgs_cons (pg_name (i := 4) sc_are_spots.nd rfl (Or.inl rfl)) (pgs_cons (pg_name (i := 5) sc_are_spots.nd rfl (Or.inl rfl)) pgs_nil)))
      (pss_one (ps_if (pt_not (pt_val (pe_call (ok_may_stand T) (hr.mono (by decide)) (by rfl) T.d_may_stand.g T.d_may_stand.F.kp T.d_may_stand.b .nil pass0 (pa_cons (pv 5) (pa_cons (pe_slice (sl_listK (K := K) rfl) (pv 0) po_none (po_some (pv 4))) (pa_cons (pv 2) (pa_cons (pv 3) pa_nil)))))))
      (pss_one (ps_ret pe_bl))
      pss_nil)))
      (pss_one (ps_ret pe_bl)))), ?_⟩
    rcases h with ⟨t, ht, nt, rfl⟩ | ⟨a, ws, os, rfl, ha, ho, hl, rfl⟩
    · tm_at "rzs"
      refine iteT' (by show (!decide (t = "list")) = true; rw [decide_eq_false nt]; rfl) ?_
      tm_at "rzs"
      exact k _ (Same.refl _)
    tm_at "rzs"
    have kk : ∀ (b : Bool) H', Same H H' → b = (decide (os.length = m) && stB c r [] os) → Q (.bl b) H' := fun b H' s e => by rw [e]; exact k H' s
    by_cases e0 : os.length = m
    rotate_left
    · refine iteT' (by rw [int_inj_dec, decide_eq_false (by rw [ho.1]; omega)]; rfl) ?_
      tm_at "rzs"
      exact kk _ _ (Same.refl _) (by rw [decide_eq_false e0]; rfl)
    refine iteF' (by rw [int_inj_dec, decide_eq_true (by rw [ho.1]; omega)]; rfl) ?_
    tm_at "rzs"
    have nd : ∀ p o, os[p]? = some o → (∀ q ∈ os.take p, spotB c r q = true) → (spotB c r o && (os.take p).all (apartO o)) = false → stB c r [] os = false := fun p o hp _ hf => by
      cases e : stB c r [] os with
      | false => rfl
      | true => have := (stB_step os []).mp e p o hp; rw [List.nil_append, hf] at this; cases this
    refine ⟨a, _, rfl, sqL ha, for_enum (K := K) (xs := ws) (fun p σ H' => ∃ v4 v5 : Option V, σ = [some (.ref a), some (.int (m : Int)), some (.int c), some (.int r), v4, v5] ∧ Same H H' ∧ ∀ i o, i < p → os[i]? = some o → (spotB c r o && (os.take i).all (apartO o)) = true)
      ⟨none, none, rfl, Same.refl _, fun i o h => absurd h (Nat.not_lt_zero i)⟩ (fun p σ H' ⟨_, _, _, b, _⟩ => sqL (b _ _ ha)) ?_ ?_⟩
    · rintro p x T1 σ H3 H4 hx ⟨v4, v5, rfl, b3, g3⟩ nT sT gT
      obtain ⟨o, hq⟩ : ∃ q, os[p]? = some q := ⟨_, List.getElem?_eq_getElem (by have := (List.getElem?_eq_some_iff.mp hx).1; have := ho.1; omega)⟩
      have hp := (List.getElem?_eq_some_iff.mp hq).1
      have hz := (ho.2 p x o hx hq).same (b3.trans sT)
      have ha4 := sT _ _ (b3 _ _ ha)
      have hall : ∀ q ∈ os.take p, spotB c r q = true := fun q mq => by
        obtain ⟨i, hi, rfl⟩ := List.mem_iff_getElem.mp mq
        rw [List.length_take] at hi
        have hg := g3 i os[i] (by omega) (List.getElem?_eq_getElem (by omega))
        rw [Bool.and_eq_true] at hg
        rw [List.getElem_take]
        exact hg.1
      refine ⟨_, _, rfl, sqT gT, rfl, ?_⟩
      tm_at "rzs"
      refine ⟨a, _, rfl, sqL ha4, fun p2 H5 f5 s5 g5 => ?_⟩
      tm_at "rzs"
      rw [cutV_take] at g5
      have hz5 := hz.same s5
      tm_at "rzs"
      refine ⟨x, p2, o, ws.take p, os.take p, c, r, rfl, hz5, g5, (ho.take p).same (b3.trans (sT.trans s5)), hall, by rw [List.length_take]; omega, fun H6 s6 => ?_⟩
      tm_at "rzs"
      have s06 := b3.trans (sT.trans (s5.trans s6))
      cases e : (spotB c r o && (os.take p).all (apartO o)) with
      | true =>
        refine iteF' rfl ?_
        refine ⟨_, _, rfl, s06, fun i q hi hq2 => ?_⟩
        rcases Nat.lt_or_ge i p with h | h
        · exact g3 i q h hq2
        · obtain rfl : i = p := by omega
          obtain rfl : q = o := Option.some.inj (hq2.symm.trans hq)
          exact e
      | false =>
        refine iteT' rfl ?_
        tm_at "rzs"
        exact kk _ _ s06 (by rw [nd p o hq hall e]; simp)
    · rintro σ H3 ⟨v4, v5, rfl, b3, g3⟩
      tm_at "rzs"
      refine kk _ _ b3 ?_
      rw [decide_eq_true e0, (stB_step os []).mpr fun p o hp => by rw [List.nil_append]; exact g3 p o (by rw [ho.1]; exact (List.getElem?_eq_some_iff.mp hp).1) hp]
      rfl
end
end My
namespace My
open PySem PySem.Spec PyProof.Rows L2
section
variable {P : Program} {w : World} {K : PySem.W.Frag} {mg : Str → Option Value} {base : Heap}
def sp_is_part (K : PySem.W.Frag) : Sp := fun vs H Q _ => ∃ (v : V), vs = [v] ∧ ((∃ t, Ty8 K H v t ∧ t ≠ "tuple" ∧ Q (.bl false) H) ∨ ∃ (a : Addr) (xs : List V), v = .ref a ∧ H a = some (.tup xs) ∧ Q (.bl (decide (xs.length = 2))) H)
theorem ok_is_part (T : Tx w K mg) : FnOk P w K mg base CX0 1 T.d_is_part.f T.d_is_part.fd ["size"] (sp_is_part K) := by
  refine T.d_is_part.F.ok sc_is_part (fun vs H Q E h => ?_) (fun cdv A outer s H vs Q E hr h => ?_)
  · obtain ⟨v, rfl, _⟩ := h
    rfl
  · obtain ⟨v, rfl, k⟩ := h
    refine ⟨_, (pss_one (ps_ret (pe_and (pe_callB (is_tuple8 (K := K) rfl) (by rfl) T.b_isinstance (by decide +kernel) (pa_cons (pv 0) (pa_cons (pe_bltn (v := .ty "tuple") (by rfl) T.b_tuple (by decide +kernel) rfl) pa_nil))) (pe_one (pe_cmpR op_eq (pe_callB (call_lenK (K := K) rfl) (by rfl) T.b_len (by decide +kernel) (pa_cons (pv 0) pa_nil)) pe_int (nomark _)))))), ?_⟩
    rcases k with ⟨t, ht, hn, k⟩ | ⟨a, xs, rfl, ha, k⟩
    · tm_at "rzs"
      have e : decide (t = "tuple") = false := decide_eq_false hn
      show if decide (t = "tuple") = true then _ else _
      rw [e]
      tm_at "rzs"
      exact k
    · have h8 : Ty8 K H (.ref a) "tuple" := .of (.tup ha)
      tm_at "rzs"
      rw [show decide (V.int (xs.length : Int) = V.int 2) = decide (xs.length = 2) from by rw [int_inj_dec]; exact decide_eq_decide.mpr (by omega)]
      exact k
end
end My
namespace My
open PySem PySem.Spec PyProof.Rows L2
section
variable {P : Program} {w : World} {K : PySem.W.Frag} {mg : Str → Option Value} {base : Heap}
def sp_is_tie (K : PySem.W.Frag) : Sp := fun vs H Q _ => ∃ (v : V), vs = [v] ∧ ((∃ t, Ty8 K H v t ∧ t ≠ "tuple" ∧ Q (.bl false) H) ∨ ∃ (a : Addr) (xs : List V), v = .ref a ∧ H a = some (.tup xs) ∧ Q (.bl (decide (xs.length = 4))) H)
theorem ok_is_tie (T : Tx w K mg) : FnOk P w K mg base CX0 1 T.d_is_tie.f T.d_is_tie.fd ["size"] (sp_is_tie K) := by
  refine T.d_is_tie.F.ok sc_is_tie (fun vs H Q E h => ?_) (fun cdv A outer s H vs Q E hr h => ?_)
  · obtain ⟨v, rfl, _⟩ := h
    rfl
  · obtain ⟨v, rfl, k⟩ := h
    refine ⟨_, (pss_one (ps_ret (pe_and (pe_callB (is_tuple8 (K := K) rfl) (by rfl) T.b_isinstance (by decide +kernel) (pa_cons (pv 0) (pa_cons (pe_bltn (v := .ty "tuple") (by rfl) T.b_tuple (by decide +kernel) rfl) pa_nil))) (pe_one (pe_cmpR op_eq (pe_callB (call_lenK (K := K) rfl) (by rfl) T.b_len (by decide +kernel) (pa_cons (pv 0) pa_nil)) pe_int (nomark _)))))), ?_⟩
    rcases k with ⟨t, ht, hn, k⟩ | ⟨a, xs, rfl, ha, k⟩
    · tm_at "rzs"
      have e : decide (t = "tuple") = false := decide_eq_false hn
      show if decide (t = "tuple") = true then _ else _
      rw [e]
      tm_at "rzs"
      exact k
    · have h8 : Ty8 K H (.ref a) "tuple" := .of (.tup ha)
      tm_at "rzs"
      rw [show decide (V.int (xs.length : Int) = V.int 4) = decide (xs.length = 4) from by rw [int_inj_dec]; exact decide_eq_decide.mpr (by omega)]
      exact k
end
end My
namespace My
open PySem PySem.Spec PyProof.Rows L2
section
variable {P : Program} {w : World} {K : PySem.W.Frag} {mg : Str → Option Value} {base : Heap}
def sp_is_size (K : PySem.W.Frag) : Sp := fun vs H Q _ => ∃ (v : V) (b : Bool), vs = [v] ∧ SzB K H v b ∧ ∀ H', Same H H' → Q (.bl b) H'
theorem ok_is_size (T : Tx w K mg) : FnOk P w K mg base CX0 3 T.d_is_size.f T.d_is_size.fd ["thing"] (sp_is_size K) := by
  refine T.d_is_size.F.ok sc_is_size (fun vs H Q E h => ?_) (fun cdv A outer s H vs Q E hr h => ?_)
  · obtain ⟨v, b, rfl, _⟩ := h
    rfl
  · obtain ⟨v, b, rfl, hv, k⟩ := h
    refine ⟨_, (pss_cons (ps_if (PW.pt (pw_or (pt_cmpR op_isN (pv 0) pe_non (nomark _)) (pw_or1 (pt_val (pe_call (ok_is_count T) (hr.mono (by decide)) (by rfl) T.d_is_count.g T.d_is_count.F.kp T.d_is_count.b .nil pass0 (pa_cons (pv 0) pa_nil))))))
      (pss_one (ps_ret pe_bl))
      pss_nil)
      (pss_cons (ps_if (pt_val (pe_call (ok_is_part T) (hr.mono (by decide)) (by rfl) T.d_is_part.g T.d_is_part.F.kp T.d_is_part.b .nil pass0 (pa_cons (pv 0) pa_nil)))
      (pss_one (ps_ret (pe_and (pe_cmpR op_eq (pe_ix (ix_tupK (K := K) rfl) (pv 0) pe_int (fun _ _ => rfl)) pe_str (nomark _)) (pe_one (pe_call (ok_is_count T) (hr.mono (by decide)) (by rfl) T.d_is_count.g T.d_is_count.F.kp T.d_is_count.b .nil pass0 (pa_cons (pe_ix (ix_tupK (K := K) rfl) (pv 0) pe_int (fun _ _ => rfl)) pa_nil))))))
      pss_nil)
      (pss_cons (ps_if (PW.pt (pw_or (pt_not (pt_val (pe_call (ok_is_tie T) (hr.mono (by decide)) (by rfl) T.d_is_tie.g T.d_is_tie.F.kp T.d_is_tie.b .nil pass0 (pa_cons (pv 0) pa_nil)))) (pw_or (pt_cmpR op_ne (pe_ix (ix_tupK (K := K) rfl) (pv 0) pe_int (fun _ _ => rfl)) pe_str (nomark _)) (pw_or1 (pt_not (pt_val (pe_call (ok_is_name T) (hr.mono (by decide)) (by rfl) T.d_is_name.g T.d_is_name.F.kp T.d_is_name.b .nil pass0 (pa_cons (pe_ix (ix_tupK (K := K) rfl) (pv 0) pe_int (fun _ _ => rfl)) pa_nil))))))))
      (pss_one (ps_ret pe_bl))
      pss_nil)
      (pss_one (ps_ret (pe_and (pe_cmpR (op_in7 (K := K) hr.units rfl) (pe_ix (ix_tupK (K := K) rfl) (pv 0) pe_int (fun _ _ => rfl)) (pe_glob (v := .ref T.U_SIDES) (by rfl) T.v_SIDES rfl) (by rfl)) (pe_one (pe_call (ok_is_whole T) (hr.mono (by decide)) (by rfl) T.d_is_whole.g T.d_is_whole.F.kp T.d_is_whole.b .nil pass0 (pa_cons (pe_ix (ix_tupK (K := K) rfl) (pv 0) pe_int (fun _ _ => rfl)) pa_nil))))))))), ?_⟩
    rcases hv with ⟨rfl, hv⟩ | ⟨rfl, hv⟩
    · cases hv with
      | non =>
        tm_at "rzs"
        exact k _ (Same.refl _)
      | cells n =>
        have h8 : Ty8 K H (.int (n : Int)) "int" := .of (.int _)
        tm_at "rzs"
        exact k _ (Same.refl _)
      | part a n h =>
        have h8 : Ty8 K H (.ref a) "tuple" := .of (.tup h)
        have h9 : Ty8 K H (.int (n : Int)) "int" := .of (.int _)
        tm_at "rzs"
        refine .inr ⟨a, _, rfl, h, ?_⟩
        tm_at "rzs"
        rw [isN_nat]
        exact k _ (Same.refl _)
      | tie a l sd m hl hs h =>
        have h8 : Ty8 K H (.ref a) "tuple" := .of (.tup h)
        tm_at "rzs"
        refine .inr ⟨a, _, rfl, h, ?_⟩
        tm_at "rzs"
        refine .inr ⟨a, _, rfl, h, ?_⟩
        tm_at "rzs"
        refine ⟨_, true, rfl, .inr ⟨l, rfl, nmB_ok hl, by have := hl.2.1; omega⟩, fun H1 s1 => ?_⟩
        have h1 := s1 _ _ h
        have h9 : Ty8 K H1 (.int m) "int" := .of (.int _)
        have hin : isSt sidesL (sX sd) = true := by
          rcases hs with rfl | rfl <;> decide +kernel
        tm_at "rzs"
        refine ⟨_, sidesL, _, rfl, T.t_SIDES _, .str _, ?_⟩
        rw [if_neg (by decide), hin]
        tm_at "rzs"
        exact k _ s1
    · cases hv with
      | @jk _ t h n1 n2 n =>
        have h8 := h.t8
        have nn : v ≠ .non := by rintro rfl; cases h; exact n1 rfl
        tm_at "rzs"
        refine iteF' (by cases v <;> first | rfl | exact absurd rfl nn) ?_
        tm_at "rzs"
        rw [n]
        refine iteF' rfl ?_
        tm_at "rzs"
        refine .inl ⟨t, h8, n2, ?_⟩
        tm_at "rzs"
        refine .inl ⟨t, h8, n2, ?_⟩
        tm_at "rzs"
        exact k _ (Same.refl _)
      | @tupN a xs h n2 n4 =>
        have h8 : Ty8 K H (.ref a) "tuple" := .of (.tup h)
        tm_at "rzs"
        refine .inr ⟨a, _, rfl, h, ?_⟩
        refine ⟨_, rfl, ?_⟩
        refine iteF' (decide_eq_false n2) ?_
        tm_at "rzs"
        refine .inr ⟨a, _, rfl, h, ?_⟩
        rw [decide_eq_false n4]
        tm_at "rzs"
        exact k _ (Same.refl _)
      | @two a x y h f n =>
        have h8 : Ty8 K H (.ref a) "tuple" := .of (.tup h)
        tm_at "rzs"
        refine .inr ⟨a, _, rfl, h, ?_⟩
        tm_at "rzs"
        rcases f with rfl | ⟨i, rfl⟩ | ⟨z, rfl⟩
        · tm_at "rzs"
          exact k _ (Same.refl _)
        · tm_at "rzs"
          exact k _ (Same.refl _)
        · tm_at "rzs"
          refine iteF' (decide_eq_false n) ?_
          tm_at "rzs"
          exact k _ (Same.refl _)
      | @part a y t h hy n =>
        have h8 : Ty8 K H (.ref a) "tuple" := .of (.tup h)
        have h9 := hy.t8
        tm_at "rzs"
        refine .inr ⟨a, _, rfl, h, ?_⟩
        tm_at "rzs"
        rw [n]
        exact k _ (Same.refl _)
      | @four a x y z u h f n =>
        have h8 : Ty8 K H (.ref a) "tuple" := .of (.tup h)
        tm_at "rzs"
        refine .inr ⟨a, _, rfl, h, ?_⟩
        tm_at "rzs"
        refine .inr ⟨a, _, rfl, h, ?_⟩
        tm_at "rzs"
        rcases f with rfl | ⟨i, rfl⟩ | ⟨z, rfl⟩
        · tm_at "rzs"
          exact k _ (Same.refl _)
        · tm_at "rzs"
          exact k _ (Same.refl _)
        · tm_at "rzs"
          refine iteT' (by rw [decide_eq_false n]; rfl) ?_
          tm_at "rzs"
          exact k _ (Same.refl _)
      | @nam a y z u h hy =>
        have h8 : Ty8 K H (.ref a) "tuple" := .of (.tup h)
        tm_at "rzs"
        refine .inr ⟨a, _, rfl, h, ?_⟩
        tm_at "rzs"
        refine .inr ⟨a, _, rfl, h, ?_⟩
        tm_at "rzs"
        intro H1 s1
        tm_at "rzs"
        exact k _ s1
      | @sid a y z u t h hy hz ht n =>
        have h8 : Ty8 K H (.ref a) "tuple" := .of (.tup h)
        tm_at "rzs"
        refine .inr ⟨a, _, rfl, h, ?_⟩
        tm_at "rzs"
        refine .inr ⟨a, _, rfl, h, ?_⟩
        tm_at "rzs"
        intro H1 s1
        have h1 := s1 _ _ h
        tm_at "rzs"
        refine ⟨_, sidesL, _, rfl, T.t_SIDES _, (hz.keep (Same.keep s1)).t7 ht, ?_⟩
        rw [if_neg (by decide), n]
        tm_at "rzs"
        exact k _ s1
      | @num a y z u t t' h hy hz ht n hu nu =>
        have h8 : Ty8 K H (.ref a) "tuple" := .of (.tup h)
        tm_at "rzs"
        refine .inr ⟨a, _, rfl, h, ?_⟩
        tm_at "rzs"
        refine .inr ⟨a, _, rfl, h, ?_⟩
        tm_at "rzs"
        intro H1 s1
        have h1 := s1 _ _ h
        have h9 := (hu.keep (Same.keep s1)).t8
        tm_at "rzs"
        refine ⟨_, sidesL, _, rfl, T.t_SIDES _, (hz.keep (Same.keep s1)).t7 ht, ?_⟩
        rw [if_neg (by decide), n]
        tm_at "rzs"
        rw [nu]
        exact k _ s1
end
end My
namespace My
open PySem PySem.Spec PyProof.Rows L2
section
variable {P : Program} {w : World} {K : PySem.W.Frag} {mg : Str → Option Value} {base : Heap}
def sp_is_bound (K : PySem.W.Frag) : Sp := fun vs H Q _ => ∃ (v : V) (t : String), vs = [v] ∧ Ty8 K H v t ∧ Q (.bl (decide (v = .non) || isN v)) H
theorem ok_is_bound (T : Tx w K mg) : FnOk P w K mg base CX0 3 T.d_is_bound.f T.d_is_bound.fd ["thing"] (sp_is_bound K) := by
  refine T.d_is_bound.F.ok sc_is_bound (fun vs H Q E h => ?_) (fun cdv A outer s H vs Q E hr h => ?_)
  · obtain ⟨v, t, rfl, _⟩ := h
    rfl
  · obtain ⟨v, t, rfl, hv, k⟩ := h
    refine ⟨_, (pss_one (ps_ret (pe_or (pe_cmpR op_isN (pv 0) pe_non (nomark _)) (pe_one (pe_call (ok_is_count T) (hr.mono (by decide)) (by rfl) T.d_is_count.g T.d_is_count.F.kp T.d_is_count.b .nil pass0 (pa_cons (pv 0) pa_nil)))))), ?_⟩
    tm_at "rzs"
    by_cases e : v = .non
    · subst e
      refine iteT' rfl ?_
      exact k
    · have e' : decide (v = .non) = false := decide_eq_false e
      rw [e', Bool.false_or] at k
      refine iteF' (by cases v <;> first | rfl | exact absurd rfl e) ?_
      tm_at "rzs"
      exact k
end
end My
namespace My
open PySem PySem.Spec PyProof.Rows L2
section
variable {P : Program} {w : World} {K : PySem.W.Frag} {mg : Str → Option Value} {base : Heap}
def sp_is_rims (K : PySem.W.Frag) : Sp := fun vs H Q _ => ∃ (v : V) (b : Bool), vs = [v] ∧ RmB K H v b ∧ ∀ H', Same H H' → Q (.bl b) H'
theorem ok_is_rims (T : Tx w K mg) : FnOk P w K mg base CX0 3 T.d_is_rims.f T.d_is_rims.fd ["thing"] (sp_is_rims K) := by
  refine T.d_is_rims.F.ok sc_is_rims (fun vs H Q E h => ?_) (fun cdv A outer s H vs Q E hr h => ?_)
  · obtain ⟨v, b, rfl, _⟩ := h
    rfl
  · obtain ⟨v, b, rfl, hv, k⟩ := h
    refine ⟨_, (pss_one (ps_ret (pe_and (pe_callB (is_tuple9 (K := K) rfl) (by rfl) T.b_isinstance (by decide +kernel) (pa_cons (pv 0) (pa_cons (pe_bltn (v := .ty "tuple") (by rfl) T.b_tuple (by decide +kernel) rfl) pa_nil))) (pe_and (pe_cmpR op_eq (pe_callB (call_lenK (K := K) rfl) (by rfl) T.b_len (by decide +kernel) (pa_cons (pv 0) pa_nil)) pe_int (nomark _)) (pe_one (pe_callB (cr_allK (K := K) rfl rfl) (by rfl) T.b_all (by decide +kernel) (pa_cons (pe_lc (own := [("rim", 1)]) (g := gName 1) (by rfl) sc_is_rims.nd (pi_tupK (K := K) rfl (pv 0)) (blkOk_by (own := [("rim", 1)]) (N := N_is_rims) (sc := defScope s_is_rims) (by decide +kernel)) (fun _ _ _ _ _ => (pg_name (i := 1) sc_is_rims.nd rfl (Or.inl rfl))) (fun _ _ _ _ _ => pts_nil) (fun _ _ _ _ _ => (pe_call (ok_is_count T) (hr.mono (by decide)) (by rfl) T.d_is_count.g T.d_is_count.F.kp T.d_is_count.b .nil pass0 (pa_cons (pv 1) pa_nil)))) pa_nil))))))), ?_⟩
    obtain ⟨t, ht, nt, rfl⟩ | ⟨a, ys, rfl, ha, h4, hn⟩ : (∃ t, Ty9 K H v t ∧ t ≠ "tuple" ∧ b = false) ∨ ∃ (a : Addr) (ys : List V), v = .ref a ∧ SqT K H a ys ∧ (ys.length = 4 → (∀ y ∈ ys, ∃ t, Ty9 K H y t) ∧ ys.all isN = b) ∧ (ys.length ≠ 4 → b = false) := by
      rcases hv with ⟨rfl, a, n0, n1, n2, n3, rfl, ha⟩ | ⟨rfl, hv⟩
      · refine .inr ⟨a, _, rfl, ha, fun _ => ⟨fun y m => ?_, ?_⟩, fun e => absurd rfl e⟩
        · simp only [List.mem_cons, List.not_mem_nil, or_false] at m
          rcases m with rfl | rfl | rfl | rfl <;> exact ⟨_, .int _⟩
        · simp only [List.all_cons, List.all_nil, isN_nat, Bool.and_self]
      · cases hv with
        | jk h n => exact .inl ⟨_, h, n, rfl⟩
        | tupN h n => exact .inr ⟨_, _, rfl, sqT h, fun e => absurd e n, fun _ => rfl⟩
        | four h n4 hx n => exact .inr ⟨_, _, rfl, sqT h, fun _ => ⟨hx, n⟩, fun _ => rfl⟩
    · tm_at "rds"
      refine .inl ⟨t, ht.t8, ?_⟩
      rw [decide_eq_false nt]
      tm_at "rzs"
      exact k _ (Same.refl _)
    · tm_at "rds"
      refine .inr ⟨a, ys, rfl, ha, ?_⟩
      tm_at "rzs"
      by_cases e : ys.length = 4
      · obtain ⟨hy, rfl⟩ := h4 e
        refine iteT' (by rw [int_inj_dec]; exact decide_eq_true (by omega)) ?_
        tm_at "rzs"
        refine ⟨⟨_, ha⟩, fun D hD => lcTy (K := K) (xs := ys) (fun i => V.bl (isN (ys.getD i .non))) hD ha (by omega) (fun i y H1 Kt Kf hi s1 kt => ?_) (fun H1 s1 g1 => ?_)⟩
        · obtain ⟨t, h9⟩ := hy y (List.mem_of_getElem? hi)
          have h8 := (h9.keep (Same.keep s1)).t8
          tm_at "rzs"
          have e2 : ys.getD i .non = y := by rw [List.getD_eq_getElem?_getD, hi]; rfl
          rw [e2] at kt
          exact kt _ (Same.refl _)
        have g1 : H1 D = some (.lst ((ys.map isN).map V.bl)) := by
          rw [g1]
          congr 2
          refine List.ext_getElem (by simp) fun i h1 h2 => ?_
          have hi : i < ys.length := by simpa using h2
          simp [List.getD_eq_getElem?_getD, List.getElem?_eq_getElem hi]
        tm_at "rzs"
        refine ⟨D, _, rfl, sqL g1, ?_⟩
        have : (ys.map isN).all id = ys.all isN := by rw [List.all_map]; rfl
        rw [this]
        exact k H1 s1
      · have hb := hn e
        subst hb
        refine iteF' (by rw [int_inj_dec]; exact decide_eq_false (by omega)) ?_
        exact k _ (Same.refl _)
end
end My
namespace My
open PySem PySem.Spec PyProof.Rows L2
section
variable {P : Program} {w : World} {K : PySem.W.Frag} {mg : Str → Option Value} {base : Heap}
theorem kb_Style_init_1_ (T : Tx w K mg) : ∃ mv : List Value, KBn K T.d_Style_init.fd ["self", "wide", "high", "least_wide", "least_high", "most_wide", "most_high", "grow", "shrink", "rims", "stand"] 1 [] (fun us ws => pick1 0 us ++ pick1 0 mv ++ pick1 1 mv ++ pick1 2 mv ++ pick1 3 mv ++ pick1 4 mv ++ pick1 5 mv ++ pick1 6 mv ++ pick1 7 mv ++ pick1 8 mv ++ pick1 9 mv) (fun vs zs => pick1 0 vs ++ pick1 0 (([("wide", .non), ("high", .non), ("least_wide", .non), ("least_high", .non), ("most_wide", .non), ("most_high", .non), ("grow", .int 0), ("shrink", .int 1), ("rims", .ref T.U_NO_RIMS), ("stand", .non)] : List (Str × V)).map (·.2)) ++ pick1 1 (([("wide", .non), ("high", .non), ("least_wide", .non), ("least_high", .non), ("most_wide", .non), ("most_high", .non), ("grow", .int 0), ("shrink", .int 1), ("rims", .ref T.U_NO_RIMS), ("stand", .non)] : List (Str × V)).map (·.2)) ++ pick1 2 (([("wide", .non), ("high", .non), ("least_wide", .non), ("least_high", .non), ("most_wide", .non), ("most_high", .non), ("grow", .int 0), ("shrink", .int 1), ("rims", .ref T.U_NO_RIMS), ("stand", .non)] : List (Str × V)).map (·.2)) ++ pick1 3 (([("wide", .non), ("high", .non), ("least_wide", .non), ("least_high", .non), ("most_wide", .non), ("most_high", .non), ("grow", .int 0), ("shrink", .int 1), ("rims", .ref T.U_NO_RIMS), ("stand", .non)] : List (Str × V)).map (·.2)) ++ pick1 4 (([("wide", .non), ("high", .non), ("least_wide", .non), ("least_high", .non), ("most_wide", .non), ("most_high", .non), ("grow", .int 0), ("shrink", .int 1), ("rims", .ref T.U_NO_RIMS), ("stand", .non)] : List (Str × V)).map (·.2)) ++ pick1 5 (([("wide", .non), ("high", .non), ("least_wide", .non), ("least_high", .non), ("most_wide", .non), ("most_high", .non), ("grow", .int 0), ("shrink", .int 1), ("rims", .ref T.U_NO_RIMS), ("stand", .non)] : List (Str × V)).map (·.2)) ++ pick1 6 (([("wide", .non), ("high", .non), ("least_wide", .non), ("least_high", .non), ("most_wide", .non), ("most_high", .non), ("grow", .int 0), ("shrink", .int 1), ("rims", .ref T.U_NO_RIMS), ("stand", .non)] : List (Str × V)).map (·.2)) ++ pick1 7 (([("wide", .non), ("high", .non), ("least_wide", .non), ("least_high", .non), ("most_wide", .non), ("most_high", .non), ("grow", .int 0), ("shrink", .int 1), ("rims", .ref T.U_NO_RIMS), ("stand", .non)] : List (Str × V)).map (·.2)) ++ pick1 8 (([("wide", .non), ("high", .non), ("least_wide", .non), ("least_high", .non), ("most_wide", .non), ("most_high", .non), ("grow", .int 0), ("shrink", .int 1), ("rims", .ref T.U_NO_RIMS), ("stand", .non)] : List (Str × V)).map (·.2)) ++ pick1 9 (([("wide", .non), ("high", .non), ("least_wide", .non), ("least_high", .non), ("most_wide", .non), ("most_high", .non), ("grow", .int 0), ("shrink", .int 1), ("rims", .ref T.U_NO_RIMS), ("stand", .non)] : List (Str × V)).map (·.2))) := by
  exact T.d_Style_init.FD.kbinds0 1 [] [("wide", .non), ("high", .non), ("least_wide", .non), ("least_high", .non), ("most_wide", .non), ("most_high", .non), ("grow", .int 0), ("shrink", .int 1), ("rims", .ref T.U_NO_RIMS), ("stand", .non)] (fun us mv ws => pick1 0 us ++ pick1 0 mv ++ pick1 1 mv ++ pick1 2 mv ++ pick1 3 mv ++ pick1 4 mv ++ pick1 5 mv ++ pick1 6 mv ++ pick1 7 mv ++ pick1 8 mv ++ pick1 9 mv) (by intro z; cases z) (fun q hq => List.Sublist.subset (show List.Sublist _ _ from (.cons₂ _ (.cons₂ _ (.cons₂ _ (.cons₂ _ (.cons₂ _ (.cons₂ _ (.cons₂ _ (.cons₂ _ (.cons₂ _ (.cons₂ _ .slnil))))))))))) hq) (fun r1 rm r2 => (((((((((((vals_pick r1 0).append (vals_pick rm 0)).append (vals_pick rm 1)).append (vals_pick rm 2)).append (vals_pick rm 3)).append (vals_pick rm 4)).append (vals_pick rm 5)).append (vals_pick rm 6)).append (vals_pick rm 7)).append (vals_pick rm 8)).append (vals_pick rm 9)))
    (fun D doc pm an cdv ct us mv ws h1 hm h2 => match us, mv, ws, h1, hm, h2 with | [_], [_, _, _, _, _, _, _, _, _, _], [], _, _, _ => ⟨_, _, _, _, _, _, rfl, rfl, ⟨_, _, _, _, _, _, rfl, rfl, ⟨_, _, _, _, _, _, rfl, rfl, ⟨_, _, _, _, _, _, rfl, rfl, ⟨_, _, _, _, _, _, rfl, rfl, ⟨_, _, _, _, _, _, rfl, rfl, ⟨_, _, _, _, _, _, rfl, rfl, ⟨_, _, _, _, _, _, rfl, rfl, ⟨_, _, _, _, _, _, rfl, rfl, ⟨_, _, _, _, _, _, rfl, rfl, rfl⟩⟩⟩⟩⟩⟩⟩⟩⟩⟩)
theorem kb_Style_init_1_grow (T : Tx w K mg) : ∃ mv : List Value, KBn K T.d_Style_init.fd ["self", "wide", "high", "least_wide", "least_high", "most_wide", "most_high", "grow", "shrink", "rims", "stand"] 1 ["grow"] (fun us ws => pick1 0 us ++ pick1 0 mv ++ pick1 1 mv ++ pick1 2 mv ++ pick1 3 mv ++ pick1 4 mv ++ pick1 5 mv ++ pick1 0 ws ++ pick1 6 mv ++ pick1 7 mv ++ pick1 8 mv) (fun vs zs => pick1 0 vs ++ pick1 0 (([("wide", .non), ("high", .non), ("least_wide", .non), ("least_high", .non), ("most_wide", .non), ("most_high", .non), ("shrink", .int 1), ("rims", .ref T.U_NO_RIMS), ("stand", .non)] : List (Str × V)).map (·.2)) ++ pick1 1 (([("wide", .non), ("high", .non), ("least_wide", .non), ("least_high", .non), ("most_wide", .non), ("most_high", .non), ("shrink", .int 1), ("rims", .ref T.U_NO_RIMS), ("stand", .non)] : List (Str × V)).map (·.2)) ++ pick1 2 (([("wide", .non), ("high", .non), ("least_wide", .non), ("least_high", .non), ("most_wide", .non), ("most_high", .non), ("shrink", .int 1), ("rims", .ref T.U_NO_RIMS), ("stand", .non)] : List (Str × V)).map (·.2)) ++ pick1 3 (([("wide", .non), ("high", .non), ("least_wide", .non), ("least_high", .non), ("most_wide", .non), ("most_high", .non), ("shrink", .int 1), ("rims", .ref T.U_NO_RIMS), ("stand", .non)] : List (Str × V)).map (·.2)) ++ pick1 4 (([("wide", .non), ("high", .non), ("least_wide", .non), ("least_high", .non), ("most_wide", .non), ("most_high", .non), ("shrink", .int 1), ("rims", .ref T.U_NO_RIMS), ("stand", .non)] : List (Str × V)).map (·.2)) ++ pick1 5 (([("wide", .non), ("high", .non), ("least_wide", .non), ("least_high", .non), ("most_wide", .non), ("most_high", .non), ("shrink", .int 1), ("rims", .ref T.U_NO_RIMS), ("stand", .non)] : List (Str × V)).map (·.2)) ++ pick1 0 zs ++ pick1 6 (([("wide", .non), ("high", .non), ("least_wide", .non), ("least_high", .non), ("most_wide", .non), ("most_high", .non), ("shrink", .int 1), ("rims", .ref T.U_NO_RIMS), ("stand", .non)] : List (Str × V)).map (·.2)) ++ pick1 7 (([("wide", .non), ("high", .non), ("least_wide", .non), ("least_high", .non), ("most_wide", .non), ("most_high", .non), ("shrink", .int 1), ("rims", .ref T.U_NO_RIMS), ("stand", .non)] : List (Str × V)).map (·.2)) ++ pick1 8 (([("wide", .non), ("high", .non), ("least_wide", .non), ("least_high", .non), ("most_wide", .non), ("most_high", .non), ("shrink", .int 1), ("rims", .ref T.U_NO_RIMS), ("stand", .non)] : List (Str × V)).map (·.2))) := by
  exact T.d_Style_init.FD.kbinds0 1 ["grow"] [("wide", .non), ("high", .non), ("least_wide", .non), ("least_high", .non), ("most_wide", .non), ("most_high", .non), ("shrink", .int 1), ("rims", .ref T.U_NO_RIMS), ("stand", .non)] (fun us mv ws => pick1 0 us ++ pick1 0 mv ++ pick1 1 mv ++ pick1 2 mv ++ pick1 3 mv ++ pick1 4 mv ++ pick1 5 mv ++ pick1 0 ws ++ pick1 6 mv ++ pick1 7 mv ++ pick1 8 mv) (by intro z; cases z) (fun q hq => List.Sublist.subset (show List.Sublist _ _ from (.cons₂ _ (.cons₂ _ (.cons₂ _ (.cons₂ _ (.cons₂ _ (.cons₂ _ (.cons _ (.cons₂ _ (.cons₂ _ (.cons₂ _ .slnil))))))))))) hq) (fun r1 rm r2 => (((((((((((vals_pick r1 0).append (vals_pick rm 0)).append (vals_pick rm 1)).append (vals_pick rm 2)).append (vals_pick rm 3)).append (vals_pick rm 4)).append (vals_pick rm 5)).append (vals_pick r2 0)).append (vals_pick rm 6)).append (vals_pick rm 7)).append (vals_pick rm 8)))
    (fun D doc pm an cdv ct us mv ws h1 hm h2 => match us, mv, ws, h1, hm, h2 with | [_], [_, _, _, _, _, _, _, _, _], [_], _, _, _ => ⟨_, _, _, _, _, _, rfl, rfl, ⟨_, _, _, _, _, _, rfl, rfl, ⟨_, _, _, _, _, _, rfl, rfl, ⟨_, _, _, _, _, _, rfl, rfl, ⟨_, _, _, _, _, _, rfl, rfl, ⟨_, _, _, _, _, _, rfl, rfl, ⟨_, _, _, _, _, _, rfl, rfl, ⟨_, _, _, _, _, _, rfl, rfl, ⟨_, _, _, _, _, _, rfl, rfl, rfl⟩⟩⟩⟩⟩⟩⟩⟩⟩)
theorem ok_Style_init (T : Tx w K mg) : FnOk P w K mg base (L2N.CX P w) 4 T.d_Style_init.f T.d_Style_init.fd ["self", "wide", "high", "least_wide", "least_high", "most_wide", "most_high", "grow", "shrink", "rims", "stand"] (sp_Style_b K T.c_Style.C T.e_NoStyle.C) := by
  refine T.d_Style_init.F.okN sc_Style_init (fun vs H Q E h => ?_) (fun cdv A outer s H vs Q E hr h => ?_)
  · obtain ⟨x, dx, w, h, lw, lh, mw, mh, g, s, r, st, b0, b1, b2, b3, b4, b5, b6, b7, b8, b9, rfl, _⟩ := h
    rfl
  · obtain ⟨x, dx, w, h, lw, lh, mw, mh, g, s, r, st, b0, b1, b2, b3, b4, b5, b6, b7, b8, b9, rfl, hx, h0, h1, h2, h3, h4, h5, h6, h7, h8, h9, k⟩ := h
    refine ⟨_, (pss_cons (ps_set (i := 11) sc_Style_init.nd rfl (Or.inl rfl) (pe_and (pe_call (ok_is_size T) (hr.mono (by decide)) (by rfl) T.d_is_size.g T.d_is_size.F.kp T.d_is_size.b .nil pass0 (pa_cons (pv 1) pa_nil)) (pe_one (pe_call (ok_is_size T) (hr.mono (by decide)) (by rfl) T.d_is_size.g T.d_is_size.F.kp T.d_is_size.b .nil pass0 (pa_cons (pv 2) pa_nil)))))
      (pss_cons (ps_set (i := 12) sc_Style_init.nd rfl (Or.inl rfl) (pe_callB (cr_allK (K := K) rfl rfl) (by rfl) T.b_all (by decide +kernel) (pa_cons (pe_lc (own := [("one", 13)]) (g := gName 13) (by rfl) sc_Style_init.nd (pi_tupK (K := K) rfl (pe_tupA (pa_cons (pv 3) (pa_cons (pv 4) (pa_cons (pv 5) (pa_cons (pv 6) pa_nil)))))) (blkOk_by (own := [("one", 13)]) (N := N_Style_init) (sc := defScope s_Style_init) (by decide +kernel)) (fun _ _ _ _ _ => (pg_name (i := 13) sc_Style_init.nd rfl (Or.inl rfl))) (fun _ _ _ _ _ => pts_nil) (fun _ _ _ _ _ => (pe_call (ok_is_bound T) (hr.mono (by decide)) (by rfl) T.d_is_bound.g T.d_is_bound.F.kp T.d_is_bound.b .nil pass0 (pa_cons (pv 13) pa_nil)))) pa_nil)))
      (pss_cons (ps_if (PW.pt (pw_or (pt_not (pt_val (pv 11))) (pw_or1 (pt_not (pt_val (pv 12))))))
      (pss_one (L2N.ps_raise rfl (L2N.takes_of rfl rfl rfl rfl) (L2N.pmk_own PySem.F.excBase_ValueError T.e_NoStyle.x T.e_NoStyle.g T.e_NoStyle.k (raises_own T.e_NoStyle.b T.e_NoStyle.t) rfl)))
      pss_nil)
      (pss_cons (ps_if (PW.pt (pw_or (pt_not (pt_val (pe_call (ok_is_count T) (hr.mono (by decide)) (by rfl) T.d_is_count.g T.d_is_count.F.kp T.d_is_count.b .nil pass0 (pa_cons (pv 7) pa_nil)))) (pw_or (pt_not (pt_val (pe_call (ok_is_count T) (hr.mono (by decide)) (by rfl) T.d_is_count.g T.d_is_count.F.kp T.d_is_count.b .nil pass0 (pa_cons (pv 8) pa_nil)))) (pw_or1 (pt_not (pt_val (pe_call (ok_is_rims T) (hr.mono (by decide)) (by rfl) T.d_is_rims.g T.d_is_rims.F.kp T.d_is_rims.b .nil pass0 (pa_cons (pv 9) pa_nil))))))))
      (pss_one (L2N.ps_raise rfl (L2N.takes_of rfl rfl rfl rfl) (L2N.pmk_own PySem.F.excBase_ValueError T.e_NoStyle.x T.e_NoStyle.g T.e_NoStyle.k (raises_own T.e_NoStyle.b T.e_NoStyle.t) rfl)))
      pss_nil)
      (pss_cons (ps_if (PW.pt (pw_and (pt_cmpR op_notN (pv 10) pe_non (nomark _)) (pw_and1 (pt_cmpR (op_notIn7 (K := K) hr.units rfl) (pv 10) (pe_glob (v := .ref T.U_STANDS) (by rfl) T.v_STANDS rfl) (by rfl)))))
      (pss_one (L2N.ps_raise rfl (L2N.takes_of rfl rfl rfl rfl) (L2N.pmk_own PySem.F.excBase_ValueError T.e_NoStyle.x T.e_NoStyle.g T.e_NoStyle.k (raises_own T.e_NoStyle.b T.e_NoStyle.t) rfl)))
      pss_nil)
      (pss_cons (ps_asg (pe_tupA (pa_cons (pv 1) (pa_cons (pv 2) pa_nil))) (pg_tup (by rfl) (pgs_cons (pg_fldK (K := K) rfl (pv 0)) (pgs_cons (pg_fldK (K := K) rfl (pv 0)) pgs_nil))))
      (pss_cons (ps_asg (pe_tupA (pa_cons (pv 3) (pa_cons (pv 4) pa_nil))) (pg_tup (by rfl) (pgs_cons (pg_fldK (K := K) rfl (pv 0)) (pgs_cons (pg_fldK (K := K) rfl (pv 0)) pgs_nil))))
      (pss_cons (ps_asg (pe_tupA (pa_cons (pv 5) (pa_cons (pv 6) pa_nil))) (pg_tup (by rfl) (pgs_cons (pg_fldK (K := K) rfl (pv 0)) (pgs_cons (pg_fldK (K := K) rfl (pv 0)) pgs_nil))))
      (pss_cons (ps_asg (pe_tupA (pa_cons (pv 7) (pa_cons (pv 8) pa_nil))) (pg_tup (by rfl) (pgs_cons (pg_fldK (K := K) rfl (pv 0)) (pgs_cons (pg_fldK (K := K) rfl (pv 0)) pgs_nil))))
      (pss_one (ps_asg (pe_tupA (pa_cons (pv 9) (pa_cons (pv 10) pa_nil))) (pg_tup (by rfl) (pgs_cons (pg_fldK (K := K) rfl (pv 0)) (pgs_cons (pg_fldK (K := K) rfl (pv 0)) pgs_nil)))))))))))))), ?_⟩
    refine seq_key (M := fun σ H' => ∃ v1 v2 : Option V, σ = [some (.ref x), some w, some h, some lw, some lh, some mw, some mh, some g, some s, some r, some st, some (.bl (b0 && b1)), v1, v2] ∧ Same H H') ?_ (fun NN hNN => ?_)
    rotate_left
    · tm_at "rzs"
      intro H1 s1
      cases b0 with
      | false =>
        tm_at "rzs"
        exact hNN _ _ ⟨_, _, rfl, s1⟩
      | true =>
        tm_at "rzs"
        refine ⟨_, b1, rfl, h1.keep (Same.keep s1), fun H2 s2 => ?_⟩
        exact hNN _ _ ⟨_, _, rfl, s1.trans s2⟩
    rintro σ H1 ⟨v1, v2, rfl, s1⟩
    refine seq_key (M := fun σ H' => ∃ v2 : Option V, σ = [some (.ref x), some w, some h, some lw, some lh, some mw, some mh, some g, some s, some r, some st, some (.bl (b0 && b1)), some (.bl (b2 && b3 && b4 && b5)), v2] ∧ Same H H') ?_ (fun NN hNN => ?_)
    rotate_left
    · tm_at "rzs"
      intro p3 H3 f3 s3 g3
      have S3 := s1.trans s3
      refine ⟨p3, rfl, ⟨_, sqT g3⟩, fun D hD => lcTy (K := K) (xs := [lw, lh, mw, mh]) (fun i => V.bl ([b2, b3, b4, b5].getD i true)) hD (sqT g3) (Nat.le_of_ble_eq_true rfl) (fun i y H4 Kt Kf hy s4 kt => ?_) (fun H4 s4 g4 => ?_)⟩
      · have S4 := Same.keep (S3.trans s4)
        obtain ⟨t, ht, e⟩ : ∃ t, Ty9 K H4 y t ∧ (decide (y = .non) || isN y) = [b2, b3, b4, b5].getD i true := by
          match i, hy with
          | 0, hy => cases hy; obtain ⟨t, h, e⟩ := h2.keep S4; exact ⟨t, h, e.symm⟩
          | 1, hy => cases hy; obtain ⟨t, h, e⟩ := h3.keep S4; exact ⟨t, h, e.symm⟩
          | 2, hy => cases hy; obtain ⟨t, h, e⟩ := h4.keep S4; exact ⟨t, h, e.symm⟩
          | 3, hy => cases hy; obtain ⟨t, h, e⟩ := h5.keep S4; exact ⟨t, h, e.symm⟩
          | n + 4, hy => cases hy
        have h8 := ht.t8
        tm_at "rzs"
        rw [e]
        exact kt _ (Same.refl _)
      have g4 : H4 D = some (.lst (([b2, b3, b4, b5] : List Bool).map V.bl)) := g4
      tm_at "rzs"
      refine ⟨D, _, rfl, sqL g4, ?_⟩
      have e : ([b2, b3, b4, b5] : List Bool).all id = (b2 && b3 && b4 && b5) := by
        simp [Bool.and_assoc]
      rw [e]
      exact hNN _ _ ⟨_, rfl, S3.trans s4⟩
    rintro σ H2 ⟨v2, rfl, s2⟩
    have kb := k H2 (Same.but s2)
    have S2 := Same.keep s2
    obtain ⟨t6, y6, e6⟩ := h6.keep S2
    obtain ⟨t7, y7, e7⟩ := h7.keep S2
    have z6 := y6.t8
    have z7 := y7.t8
    have h8' := h8.keep S2
    cases eA : (b0 && b1) with
    | false =>
      tm_at "rzs"
      exact kb.2 (by rw [eA]; simp)
    | true =>
    cases eB : (b2 && b3 && b4 && b5) with
    | false =>
      tm_at "rzs"
      exact kb.2 (by rw [eA, eB]; simp)
    | true =>
    refine seq_key (M := fun σ H' => σ = [some (.ref x), some w, some h, some lw, some lh, some mw, some mh, some g, some s, some r, some st, some (.bl true), some (.bl true), v2] ∧ H' = H2) ?_ (fun NN hNN => ?_)
    rotate_left
    · tm_at "rzs"
      exact hNN _ _ ⟨rfl, rfl⟩
    rintro σ H2 ⟨rfl, rfl⟩
    refine seq_key (M := fun σ H' => σ = [some (.ref x), some w, some h, some lw, some lh, some mw, some mh, some g, some s, some r, some st, some (.bl true), some (.bl true), v2] ∧ Same H2 H' ∧ (b6 && b7 && b8) = true) ?_ (fun NN hNN => ?_)
    rotate_left
    · tm_at "rzs"
      cases eg : isN g with
      | false =>
        tm_at "rzs"
        exact kb.2 (by rw [e6, eg]; simp)
      | true =>
      tm_at "rzs"
      cases es : isN s with
      | false =>
        tm_at "rzs"
        exact kb.2 (by rw [e7, es]; simp)
      | true =>
      tm_at "rzs"
      intro H3 s3
      cases b8 with
      | false =>
        tm_at "rzs"
        exact (k H3 (Same.but (s2.trans s3))).2 (by simp)
      | true =>
        tm_at "rzs"
        exact hNN _ _ ⟨rfl, s3, by rw [e6, e7, eg, es]; rfl⟩
    rintro σ H3 ⟨rfl, s3, eC⟩
    have S3 := s2.trans s3
    obtain ⟨t9, y9, n9, e9⟩ := h9.keep (Same.keep S3)
    have kb3 := k H3 (Same.but S3)
    refine seq_key (M := fun σ H' => σ = [some (.ref x), some w, some h, some lw, some lh, some mw, some mh, some g, some s, some r, some st, some (.bl true), some (.bl true), v2] ∧ H' = H3 ∧ b9 = true) ?_ (fun NN hNN => ?_)
    rotate_left
    · tm_at "rzs"
      by_cases en : st = .non
      · subst en
        tm_at "rzs"
        exact hNN _ _ ⟨rfl, rfl, e9⟩
      · refine iteT' (by rw [decide_eq_false en]; rfl) ?_
        tm_at "rzs"
        refine ⟨_, standsL, _, rfl, T.t_STANDS _, y9.t7 n9, ?_⟩
        rw [if_pos rfl]
        cases ei : isSt standsL st with
        | false =>
          tm_at "rzs"
          exact kb3.2 (by rw [e9, ei, decide_eq_false en]; simp)
        | true =>
          tm_at "rzs"
          exact hNN _ _ ⟨rfl, rfl, by rw [e9, ei, Bool.or_true]⟩
    rintro σ H5 ⟨rfl, rfl, eD⟩
    have hx5 := S3 _ _ hx
    tm_at "rzs"
    intro p6 H6 f6 s6 g6
    refine ⟨p6, _, rfl, sqT g6, rfl, ?_⟩
    refine ⟨_, _, rfl, ?_⟩
    refine ⟨_, rfl, x, _, dx, _, rfl, s6 _ _ hx5, T.c_Style.cls, T.n_Style_wide, Nat.lt_of_succ_le (Nat.le_of_ble_eq_true rfl), ?_⟩
    refine ⟨_, _, rfl, ?_⟩
    refine ⟨_, rfl, x, _, dx, _, rfl, upd_same, T.c_Style.cls, T.n_Style_high, Nat.lt_of_succ_le (Nat.le_of_ble_eq_true rfl), ?_⟩
    refine ⟨rfl, ?_⟩
    tm_at "rzs"
    intro p7 H7 f7 s7 g7
    refine ⟨p7, _, rfl, sqT g7, rfl, ?_⟩
    refine ⟨_, _, rfl, ?_⟩
    refine ⟨_, rfl, x, _, dx, _, rfl, s7 _ _ upd_same, T.c_Style.cls, T.n_Style_least_wide, Nat.lt_of_succ_le (Nat.le_of_ble_eq_true rfl), ?_⟩
    refine ⟨_, _, rfl, ?_⟩
    refine ⟨_, rfl, x, _, dx, _, rfl, upd_same, T.c_Style.cls, T.n_Style_least_high, Nat.lt_of_succ_le (Nat.le_of_ble_eq_true rfl), ?_⟩
    refine ⟨rfl, ?_⟩
    tm_at "rzs"
    intro p8 H8 f8 s8 g8
    refine ⟨p8, _, rfl, sqT g8, rfl, ?_⟩
    refine ⟨_, _, rfl, ?_⟩
    refine ⟨_, rfl, x, _, dx, _, rfl, s8 _ _ upd_same, T.c_Style.cls, T.n_Style_most_wide, Nat.lt_of_succ_le (Nat.le_of_ble_eq_true rfl), ?_⟩
    refine ⟨_, _, rfl, ?_⟩
    refine ⟨_, rfl, x, _, dx, _, rfl, upd_same, T.c_Style.cls, T.n_Style_most_high, Nat.lt_of_succ_le (Nat.le_of_ble_eq_true rfl), ?_⟩
    refine ⟨rfl, ?_⟩
    tm_at "rzs"
    intro p9 H9 f9 s9 g9
    refine ⟨p9, _, rfl, sqT g9, rfl, ?_⟩
    refine ⟨_, _, rfl, ?_⟩
    refine ⟨_, rfl, x, _, dx, _, rfl, s9 _ _ upd_same, T.c_Style.cls, T.n_Style_grow, Nat.lt_of_succ_le (Nat.le_of_ble_eq_true rfl), ?_⟩
    refine ⟨_, _, rfl, ?_⟩
    refine ⟨_, rfl, x, _, dx, _, rfl, upd_same, T.c_Style.cls, T.n_Style_shrink, Nat.lt_of_succ_le (Nat.le_of_ble_eq_true rfl), ?_⟩
    refine ⟨rfl, ?_⟩
    tm_at "rzs"
    intro p10 H10 f10 s10 g10
    refine ⟨p10, _, rfl, sqT g10, rfl, ?_⟩
    refine ⟨_, _, rfl, ?_⟩
    refine ⟨_, rfl, x, _, dx, _, rfl, s10 _ _ upd_same, T.c_Style.cls, T.n_Style_rims, Nat.lt_of_succ_le (Nat.le_of_ble_eq_true rfl), ?_⟩
    refine ⟨_, _, rfl, ?_⟩
    refine ⟨_, rfl, x, _, dx, _, rfl, upd_same, T.c_Style.cls, T.n_Style_stand, Nat.lt_of_succ_le (Nat.le_of_ble_eq_true rfl), ?_⟩
    refine ⟨rfl, ?_⟩
    refine (k _ (by tm_at "bt")).1 (by rw [eA, eB, eC, eD]; rfl) ?_
    rw [upd_same]
    exact congrArg (fun z => some (HO.ins T.c_Style.C dx z)) (styF_put w h lw lh mw mh g s r st)
end
end My
namespace My
open PySem PySem.Spec PyProof.Rows L2
section
variable {P : Program} {w : World} {K : PySem.W.Frag} {mg : Str → Option Value} {base : Heap}
def sp_checked_name (K : PySem.W.Frag) (N : Addr) : Sp := fun vs H Q E => ∃ (v : V) (b : Bool), vs = [v] ∧ NmAt K H v b ∧ ∀ H', Same H H' → (b = true → Q v H') ∧ (b = false → E (.ref N) none H')
theorem ok_checked_name (T : Tx w K mg) : FnOk P w K mg base (L2N.CX P w) 2 T.d_checked_name.f T.d_checked_name.fd ["name"] (sp_checked_name K T.e_NoName.C) := by
  refine T.d_checked_name.F.okN sc_checked_name (fun vs H Q E h => ?_) (fun cdv A outer s H vs Q E hr h => ?_)
  · obtain ⟨v, b, rfl, _⟩ := h
    rfl
  · obtain ⟨v, b, rfl, hv, k⟩ := h
    refine ⟨_, (pss_cons (ps_if (pt_not (pt_val (pe_call (ok_is_name T) (hr.mono (by decide)) (by rfl) T.d_is_name.g T.d_is_name.F.kp T.d_is_name.b .nil pass0 (pa_cons (pv 0) pa_nil))))
      (pss_one (L2N.ps_raise rfl (L2N.takes_of rfl rfl rfl rfl) (L2N.pmk_own PySem.F.excBase_ValueError T.e_NoName.x T.e_NoName.g T.e_NoName.k (raises_own T.e_NoName.b T.e_NoName.t) rfl)))
      pss_nil)
      (pss_one (ps_ret (pv 0)))), ?_⟩
    tm_at "rzs"
    intro H1 s1
    cases b with
    | false =>
      tm_at "rzs"
      exact (k H1 s1).2 rfl
    | true =>
      tm_at "rzs"
      exact (k H1 s1).1 rfl
end
end My
namespace My
open PySem PySem.Spec PyProof.Rows L2
section
variable {P : Program} {w : World} {K : PySem.W.Frag} {mg : Str → Option Value} {base : Heap}
def sp_checked_style (K : PySem.W.Frag) (S W N : Addr) : Sp := fun vs H Q E => ∃ (v : V) (c : Nat) (b : Bool), vs = [v] ∧ ValR K S W c H v b .style ∧ ∀ H', Same H H' → (b = true → ∀ y, Q (.ref y) H') ∧ (b = false → E (.ref N) none H')
theorem ok_checked_style (T : Tx w K mg) : FnOk P w K mg base (L2N.CX P w) 6 T.d_checked_style.f T.d_checked_style.fd ["style"] (sp_checked_style K T.c_Style.C T.c_Words.C T.e_NoStyle.C) := by
  refine T.d_checked_style.F.okN sc_checked_style (fun vs H Q E h => ?_) (fun cdv A outer s H vs Q E hr h => ?_)
  · obtain ⟨v, c, b, rfl, _⟩ := h
    rfl
  · obtain ⟨v, c, b, rfl, hv, k⟩ := h
    refine ⟨_, (pss_cons (ps_if (pt_cmpR op_isN (pv 0) pe_non (nomark _))
      (pss_one (ps_ret (pe_makeK0 T.d_Style_init.mks (ok_Style_init T) (hr.mono (by decide)) (by rfl) T.c_Style.g (Classical.choose_spec (kb_Style_init_1_ T)) (L2N.passes_call (L2N.takes_of rfl rfl rfl rfl) (fun _ _ _ _ h => h)) pk_nil)))
      pss_nil)
      (pss_cons (ps_if (pt_not (pt_val (pe_callB (call_isiK (K := K) rfl) (by rfl) T.b_isinstance (by decide +kernel) (pa_cons (pv 0) (pa_cons (pe_glob (v := .ref T.c_Style.C) (by rfl) T.c_Style.g rfl) pa_nil)))))
      (pss_one (L2N.ps_raise rfl (L2N.takes_of rfl rfl rfl rfl) (L2N.pmk_own PySem.F.excBase_ValueError T.e_NoStyle.x T.e_NoStyle.g T.e_NoStyle.k (raises_own T.e_NoStyle.b T.e_NoStyle.t) rfl)))
      pss_nil)
      (pss_one (ps_ret (pv 0))))), ?_⟩
    rcases hv with ⟨rfl, rfl⟩ | ⟨y, d, fs, rfl, gy, rfl⟩ | ⟨n, rfl, hv⟩
    · tm_at "rzs"
      intro x dx fx fdx nd
      refine mk_bat (fs := dfltL T.U_NO_RIMS) (dflt_fbl T.t_NO_RIMS) fx fdx nd fun H7 s7 => ⟨fun _ gx => ?_, fun e => absurd e (by decide)⟩
      exact (k _ s7).1 rfl x
    · tm_at "rzs"
      refine ⟨_, _, _, _, true, rfl, .own _, .base (.ins gy T.c_Style.cls T.wc_Style T.wg T.wt T.wm_Style), T.ki_Style, ?_⟩
      tm_at "rzs"
      exact (k _ (Same.refl _)).1 rfl y
    · tm_at "rzs"
      refine iteF' (decide_eq_false n) ?_
      tm_at "rzs"
      rcases hv with ⟨t, ht⟩ | ⟨y, d, fs, rfl, gy⟩
      · refine ⟨_, _, _, _, false, rfl, .own _, ht.tx, kit_tyO ht T.st_Style T.c_Style.cls.hd, ?_⟩
        tm_at "rzs"
        exact (k _ (Same.refl _)).2 rfl
      · refine ⟨_, _, _, _, false, rfl, .own _, .base (.ins gy T.c_Words.cls T.wc_Words T.wg T.wt T.wm_Words), T.kx_Words_Style, ?_⟩
        tm_at "rzs"
        exact (k _ (Same.refl _)).2 rfl
end
end My
namespace My
open PySem PySem.Spec PyProof.Rows L2
section
variable {P : Program} {w : World} {K : PySem.W.Frag} {mg : Str → Option Value} {base : Heap}
def sp_checked_boxes (K : PySem.W.Frag) (S W N : Addr) : Sp := fun vs H Q E => ∃ (v : V) (c : Nat) (b : Bool), vs = [v] ∧ ValR K S W c H v b .boxes ∧ ∀ H', Same H H' → (b = true → ∀ p (xs : List V), H p = none → H' p = some (.tup xs) → Q (.ref p) H') ∧ (b = false → E (.ref N) none H')
theorem ok_checked_boxes (T : Tx w K mg) : FnOk P w K mg base (L2N.CX P w) 1 T.d_checked_boxes.f T.d_checked_boxes.fd ["boxes"] (sp_checked_boxes K T.c_Style.C T.c_Words.C T.e_NoBox.C) := by
  refine T.d_checked_boxes.F.okN sc_checked_boxes (fun vs H Q E h => ?_) (fun cdv A outer s H vs Q E hr h => ?_)
  · obtain ⟨v, c, b, rfl, _⟩ := h
    rfl
  · obtain ⟨v, c, b, rfl, hv, k⟩ := h
    refine ⟨_, (pss_cons (ps_if (PW.pt (pw_or (pt_not (pt_val (pe_callB (is_list8 (K := K) rfl) (by rfl) T.b_isinstance (by decide +kernel) (pa_cons (pv 0) (pa_cons (pe_bltn (v := .ty "list") (by rfl) T.b_list (by decide +kernel) rfl) pa_nil))))) (pw_or1 (pt_not (pt_val (pe_callB (cr_allK (K := K) rfl rfl) (by rfl) T.b_all (by decide +kernel) (pa_cons (pe_lc (own := [("box", 1)]) (g := gName 1) (by rfl) sc_checked_boxes.nd (pi_listK (K := K) rfl (pv 0)) (blkOk_by (own := [("box", 1)]) (N := N_checked_boxes) (sc := defScope s_checked_boxes) (by decide +kernel)) (fun _ _ _ _ _ => (pg_name (i := 1) sc_checked_boxes.nd rfl (Or.inl rfl))) (fun _ _ _ _ _ => pts_nil) (fun _ _ _ _ _ => (pe_callB (call_isiK (K := K) rfl) (by rfl) T.b_isinstance (by decide +kernel) (pa_cons (pv 1) (pa_cons (pe_glob (v := .ref T.c_Box.C) (by rfl) T.c_Box.g rfl) pa_nil))))) pa_nil)))))))
      (pss_one (L2N.ps_raise rfl (L2N.takes_of rfl rfl rfl rfl) (L2N.pmk_own PySem.F.excBase_ValueError T.e_NoBox.x T.e_NoBox.g T.e_NoBox.k (raises_own T.e_NoBox.b T.e_NoBox.t) rfl)))
      pss_nil)
      (pss_one (ps_ret (pe_callTy (call_tupLK (K := K) rfl) (by rfl) T.b_tuple (by decide +kernel) (pa_cons (pv 0) pa_nil))))), ?_⟩
    rcases hv with ⟨t, ht, nt, rfl⟩ | ⟨a, xs, bs, rfl, ha, hl, hb, eb, _⟩
    · have h8 := ht.t8
      tm_at "rzs"
      have e : decide (t = "list") = false := decide_eq_false nt
      refine iteT' (by show (!decide (t = "list")) = true; rw [e]; rfl) ?_
      tm_at "rzs"
      exact (k _ (Same.refl _)).2 rfl
    have h8 : Ty8 K H (.ref a) "list" := .of (.lst ha)
    tm_at "rzs"
    refine ⟨⟨_, sqL ha⟩, fun D hD => lcLx (K := K) (xs := xs) (fun i => .bl (bs.getD i false)) hD (sqL ha) (by omega) (fun i x H2 Kt Kf hx s2 kk => ?_) (fun H2 s2 g2 => ?_)⟩
    · obtain ⟨q, hq⟩ : ∃ q, bs[i]? = some q := ⟨_, List.getElem?_eq_getElem (by have := (List.getElem?_eq_some_iff.mp hx).1; have := hb.1; omega)⟩
      have hi := (hb.2 i x q hx hq).same s2
      have eq : bs.getD i false = q := by rw [List.getD_eq_getElem?_getD, hq]; rfl
      rw [eq] at kk
      tm_at "rzs"
      rcases hi with ⟨rfl, y, d, fs, rfl, gy⟩ | ⟨rfl, ⟨t, ht⟩ | ⟨y, d, fs, rfl, gy⟩⟩
      · refine ⟨_, _, _, _, true, rfl, .own _, .base (.ins gy T.c_Words.cls T.wc_Words T.wg T.wt T.wm_Words), T.kb_Words, ?_⟩
        exact kk _ (Same.refl _)
      · refine ⟨_, _, _, _, false, rfl, .own _, ht.tx, kit_tyO ht T.st_Box T.c_Box.cls.hd, ?_⟩
        exact kk _ (Same.refl _)
      · refine ⟨_, _, _, _, false, rfl, .own _, .base (.ins gy T.c_Style.cls T.wc_Style T.wg T.wt T.wm_Style), T.kx_Style_Box, ?_⟩
        exact kk _ (Same.refl _)
    have e2 : (xs.length : Nat) = bs.length := hb.1
    have g2 : H2 D = some (.lst (bs.map V.bl)) := by
      rw [g2]
      refine congrArg (fun l => some (HO.lst l)) (List.ext_getElem? fun i => ?_)
      simp only [List.getElem?_map]
      by_cases hi : i < bs.length
      · rw [List.getElem?_range (by omega), List.getElem?_eq_getElem hi]
        simp [List.getD_eq_getElem?_getD, List.getElem?_eq_getElem hi]
      · rw [List.getElem?_eq_none (by rw [List.length_range]; omega), List.getElem?_eq_none (by omega)]
        rfl
    tm_at "rzs"
    refine ⟨D, _, rfl, sqL g2, ?_⟩
    rw [← eb]
    cases b with
    | false =>
      tm_at "rzs"
      exact (k _ s2).2 rfl
    | true =>
      tm_at "rzs"
      refine ⟨a, xs, rfl, sqL (s2 _ _ ha), fun p H3 f3 s3 g3 => ?_⟩
      exact (k H3 (s2.trans s3)).1 rfl p xs (s2.free f3) g3
end
end My
namespace My
open PySem PySem.Spec PyProof.Rows L2
section
variable {P : Program} {w : World} {K : PySem.W.Frag} {mg : Str → Option Value} {base : Heap}
def sp_checked_gap (K : PySem.W.Frag) (N : Addr) : Sp := fun vs H Q E => ∃ (v : V) (t : String), vs = [v] ∧ Ty9 K H v t ∧ (isN v = true → Q v H) ∧ (isN v = false → E (.ref N) none H)
theorem ok_checked_gap (T : Tx w K mg) : FnOk P w K mg base (L2N.CX P w) 3 T.d_checked_gap.f T.d_checked_gap.fd ["gap"] (sp_checked_gap K T.e_NoNumber.C) := by
  refine T.d_checked_gap.F.okN sc_checked_gap (fun vs H Q E h => ?_) (fun cdv A outer s H vs Q E hr h => ?_)
  · obtain ⟨v, t, rfl, _⟩ := h
    rfl
  · obtain ⟨v, t, rfl, ht, k1, k2⟩ := h
    refine ⟨_, (pss_cons (ps_if (pt_not (pt_val (pe_call (ok_is_count T) (hr.mono (by decide)) (by rfl) T.d_is_count.g T.d_is_count.F.kp T.d_is_count.b .nil pass0 (pa_cons (pv 0) pa_nil))))
      (pss_one (L2N.ps_raise rfl (L2N.takes_of rfl rfl rfl rfl) (L2N.pmk_own PySem.F.excBase_ValueError T.e_NoNumber.x T.e_NoNumber.g T.e_NoNumber.k (raises_own T.e_NoNumber.b T.e_NoNumber.t) rfl)))
      pss_nil)
      (pss_one (ps_ret (pv 0)))), ?_⟩
    have h8 := ht.t8
    tm_at "rzs"
    cases e : isN v with
    | false =>
      tm_at "rzs"
      exact k2 e
    | true =>
      tm_at "rzs"
      exact k1 e
end
end My
namespace My
open PySem PySem.Spec PyProof.Rows L2
section
variable {P : Program} {w : World} {K : PySem.W.Frag} {mg : Str → Option Value} {base : Heap}
def sp_checked_pack (N : Addr) : Sp := fun vs H Q E => ∃ (v : V) (t : String), vs = [v] ∧ Ty7 H v t ∧ (isSt packsL v = true → Q v H) ∧ (isSt packsL v = false → E (.ref N) none H)
theorem ok_checked_pack (T : Tx w K mg) : FnOk P w K mg base (L2N.CX P w) 1 T.d_checked_pack.f T.d_checked_pack.fd ["pack"] (sp_checked_pack T.e_NoPack.C) := by
  refine T.d_checked_pack.F.okN sc_checked_pack (fun vs H Q E h => ?_) (fun cdv A outer s H vs Q E hr h => ?_)
  · obtain ⟨v, t, rfl, _⟩ := h
    rfl
  · obtain ⟨v, t, rfl, ht, k1, k2⟩ := h
    refine ⟨_, (pss_cons (ps_if (pt_cmpR (op_notIn7 (K := K) hr.units rfl) (pv 0) (pe_glob (v := .ref T.U_PACKS) (by rfl) T.v_PACKS rfl) (by rfl))
      (pss_one (L2N.ps_raise rfl (L2N.takes_of rfl rfl rfl rfl) (L2N.pmk_own PySem.F.excBase_ValueError T.e_NoPack.x T.e_NoPack.g T.e_NoPack.k (raises_own T.e_NoPack.b T.e_NoPack.t) rfl)))
      pss_nil)
      (pss_one (ps_ret (pv 0)))), ?_⟩
    tm_at "rzs"
    refine ⟨_, packsL, _, rfl, T.t_PACKS _, ht, ?_⟩
    rw [if_pos rfl]
    cases e : isSt packsL v with
    | false =>
      tm_at "rzs"
      exact k2 e
    | true =>
      tm_at "rzs"
      exact k1 e
end
end My
namespace My
open PySem PySem.Spec PyProof.Rows L2
section
variable {P : Program} {w : World} {K : PySem.W.Frag} {mg : Str → Option Value} {base : Heap}
def sp_checked_stands (N : Addr) : Sp := fun vs H Q E => ∃ (v : V) (t : String), vs = [v] ∧ Ty7 H v t ∧ (isSt standsL v = true → Q v H) ∧ (isSt standsL v = false → E (.ref N) none H)
theorem ok_checked_stands (T : Tx w K mg) : FnOk P w K mg base (L2N.CX P w) 1 T.d_checked_stands.f T.d_checked_stands.fd ["stands"] (sp_checked_stands T.e_NoStand.C) := by
  refine T.d_checked_stands.F.okN sc_checked_stands (fun vs H Q E h => ?_) (fun cdv A outer s H vs Q E hr h => ?_)
  · obtain ⟨v, t, rfl, _⟩ := h
    rfl
  · obtain ⟨v, t, rfl, ht, k1, k2⟩ := h
    refine ⟨_, (pss_cons (ps_if (pt_cmpR (op_notIn7 (K := K) hr.units rfl) (pv 0) (pe_glob (v := .ref T.U_STANDS) (by rfl) T.v_STANDS rfl) (by rfl))
      (pss_one (L2N.ps_raise rfl (L2N.takes_of rfl rfl rfl rfl) (L2N.pmk_own PySem.F.excBase_ValueError T.e_NoStand.x T.e_NoStand.g T.e_NoStand.k (raises_own T.e_NoStand.b T.e_NoStand.t) rfl)))
      pss_nil)
      (pss_one (ps_ret (pv 0)))), ?_⟩
    tm_at "rzs"
    refine ⟨_, standsL, _, rfl, T.t_STANDS _, ht, ?_⟩
    rw [if_pos rfl]
    cases e : isSt standsL v with
    | false =>
      tm_at "rzs"
      exact k2 e
    | true =>
      tm_at "rzs"
      exact k1 e
end
end My
namespace My
open PySem PySem.Spec PyProof.Rows L2
section
variable {P : Program} {w : World} {K : PySem.W.Frag} {mg : Str → Option Value} {base : Heap}
theorem kb_Words_init_3_style (T : Tx w K mg) : ∃ mv : List Value, KBn K T.d_Words_init.fd ["self", "name", "text", "style"] 3 ["style"] (fun us ws => pick1 0 us ++ pick1 1 us ++ pick1 2 us ++ pick1 0 ws) (fun vs zs => pick1 0 vs ++ pick1 1 vs ++ pick1 2 vs ++ pick1 0 zs) := by
  exact T.d_Words_init.FD.kbinds0 3 ["style"] [] (fun us mv ws => pick1 0 us ++ pick1 1 us ++ pick1 2 us ++ pick1 0 ws) (by intro z; cases z) (fun q hq => List.Sublist.subset (show List.Sublist _ _ from (.cons _ .slnil)) hq) (fun r1 rm r2 => ((((vals_pick r1 0).append (vals_pick r1 1)).append (vals_pick r1 2)).append (vals_pick r2 0)))
    (fun D doc pm an cdv ct us mv ws h1 hm h2 => match us, mv, ws, h1, hm, h2 with | [_, _, _], [], [_], _, _, _ => (show _ = _ by kernel_rfl))
theorem bx_Words_init (T : Tx w K mg) : ∃ ds, Vals (([("style", .non)] : List (Str × V)).map (·.2)) ds ∧ Binds K T.d_Words_init.fd ["self", "name", "text", "style"] ds :=
  T.d_Words_init.bx 3 (by intro z; cases z) rfl (fun D doc pm an cdv ct us ks h1 h2 => match us, ks, h1, h2 with | [_, _, _], [_], _, _ => ⟨_, _, _, _, _, _, rfl, rfl, rfl⟩)
def sp_Words_init (K : PySem.W.Frag) (S W C : Addr) (ec : Srt → Addr) : Sp := fun vs H Q E => ∃ (G : Hp) (x dx : Addr) (c : Nat) (v0 v1 v2 : V) (b0 b1 b2 : Bool), vs = [.ref x, v0, v1, v2] ∧ H x = some (.ins C dx []) ∧ G x = none ∧ Same G H ∧ ValR K S W c G v0 b0 .name ∧ ValR K S W c G v1 b1 .text ∧ ValR K S W c G v2 b2 .style ∧ MadeR ec C x dx v0 [(.name, b0), (.text, b1), (.style, b2)] H Q E
theorem ok_Words_init (T : Tx w K mg) : FnOk P w K mg base (L2N.CX P w) 7 T.d_Words_init.f T.d_Words_init.fd ["self", "name", "text", "style"] (sp_Words_init K T.c_Style.C T.c_Words.C T.c_Words.C (fun s => ecW T s.tx)) := by
  refine T.d_Words_init.F.okN sc_Words_init (fun vs H Q E h => ?_) (fun cdv A outer s H vs Q E hr h => ?_)
  · obtain ⟨G, x, dx, c, v0, v1, v2, b0, b1, b2, rfl, _⟩ := h
    rfl
  · obtain ⟨G, x, dx, c, v0, v1, v2, b0, b1, b2, rfl, hx, gx, sG, h0, h1, h2, k⟩ := h
    refine ⟨_, (pss_cons (ps_fld (pv 0) (pe_call (ok_checked_name T) (hr.mono (by decide)) (by rfl) T.d_checked_name.g T.d_checked_name.F.kp T.d_checked_name.b .nil (L2N.passes_call (L2N.takes_of rfl rfl rfl rfl) (fun _ _ _ _ h => h)) (pa_cons (pv 1) pa_nil)) rfl)
      (pss_cons (ps_if (pt_not (pt_val (pe_callB (is_str8 (K := K) rfl) (by rfl) T.b_isinstance (by decide +kernel) (pa_cons (pv 2) (pa_cons (pe_bltn (v := .ty "str") (by rfl) T.b_str (by decide +kernel) rfl) pa_nil)))))
      (pss_one (L2N.ps_raise rfl (L2N.takes_of rfl rfl rfl rfl) (pmk_oexN T.d_NoText_init.T T.d_NoText_init.i T.d_NoText_init.t (ok_NoText_init T) (hr.mono (by decide)) (Classical.choose_spec (bx_NoText_init T)).2 (Classical.choose_spec (bx_NoText_init T)).1 pass0 (by rfl) T.e_NoText.g (pa_cons pe_str pa_nil))))
      pss_nil)
      (pss_cons (ps_fld (pv 0) (pv 2) rfl)
      (pss_one (ps_fld (pv 0) (pe_call (ok_checked_style T) (hr.mono (by decide)) (by rfl) T.d_checked_style.g T.d_checked_style.F.kp T.d_checked_style.b .nil (L2N.passes_call (L2N.takes_of rfl rfl rfl rfl) (fun _ _ _ _ h => h)) (pa_cons (pv 3) pa_nil)) rfl))))), ?_⟩
    have B0 : But x H H := But.refl
    have S0 : Same G H := sG
    have g0 := hx
    tm_at "rzs"
    refine ⟨v0, b0, rfl, h0.same S0, fun H1 s1 => ?_⟩
    have B1 : But x H H1 := B0.trans (Same.but s1)
    have S1 := S0.trans s1
    refine ⟨fun e => ?_, fun e => ?_⟩
    rotate_left
    · subst e
      exact ((k H1 B1).2 .name rfl).non (by decide)
    subst e
    have g1 := s1 _ _ g0
    tm_at "rzs"
    refine ⟨x, _, dx, _, rfl, g1, T.c_Words.cls, T.n_Words_name, Nat.lt_of_succ_le (Nat.le_of_ble_eq_true rfl), ?_⟩
    refine upd_gen fun H2 b2' g2 => ?_
    have B2 : But x H H2 := B1.trans b2'
    have S2 := but_in gx sG B2
    tm_at "rzs"
    obtain ⟨t1, ty1, e1⟩ := h1.same S2
    have z1 := ty1.t8
    tm_at "rzs"
    cases b1 with
    | false =>
      refine iteT' (by show (!decide (t1 = "str")) = true; rw [← e1]; rfl) ?_
      tm_at "rzs"
      intro a fa
      refine ⟨a, _, _, rfl, upd_same, fun d2 n1 n2 => ⟨rfl, d2, _, upd_same, (upd_ne n2).trans upd_same, ?_, ?_⟩⟩
      · rw [← n1, upd_ne n2]
      · refine ((k _ (B2.trans (Same.but fun q o ec => ?_))).2 .text rfl).tx upd_same
        have ca : q ≠ a := ne_of_none ec fa
        have cd : q ≠ d2 := fun z => by rw [z] at ec; rw [upd_ne n2, ec] at n1; cases n1
        rw [upd_ne cd, del_ne ca, upd_ne ca, upd_ne cd, upd_ne ca]
        exact ec
    | true =>
    refine iteF' (by show (!decide (t1 = "str")) = false; rw [← e1]; rfl) ?_
    tm_at "rzs"
    refine ⟨x, _, dx, _, rfl, g2, T.c_Words.cls, T.n_Words_text, Nat.lt_of_succ_le (Nat.le_of_ble_eq_true rfl), ?_⟩
    refine upd_gen fun H3 b3' g3 => ?_
    have B3 : But x H H3 := B2.trans b3'
    have S3 := but_in gx sG B3
    tm_at "rzs"
    refine ⟨v2, c, b2, rfl, h2.same S3, fun H4 s4 => ?_⟩
    have B4 : But x H H4 := B3.trans (Same.but s4)
    have S4 := S3.trans s4
    refine ⟨fun e => ?_, fun e => ?_⟩
    rotate_left
    · subst e
      exact ((k H4 B4).2 .style rfl).non (by decide)
    subst e
    refine fun y3 => ?_
    have g4 := s4 _ _ g3
    tm_at "rzs"
    refine ⟨x, _, dx, _, rfl, g4, T.c_Words.cls, T.n_Words_style, Nat.lt_of_succ_le (Nat.le_of_ble_eq_true rfl), ?_⟩
    refine upd_gen fun H5 b5' g5 => ?_
    have B5 : But x H H5 := B4.trans b5'
    have S5 := but_in gx sG B5
    exact (k _ B5).1 rfl ⟨_, g5, rfl⟩
/-- making words that are let by -/
theorem mk_words {K : PySem.W.Frag} {S W : Addr} {ec : Srt → Addr} {H : Hp} {n t : V} {x dx : Addr} {R : Hp → Prop} {E : XK} (hn : NmAt K H n true) (ht : ∃ l, t = .str l) (fx : H x = none) (fdx : H dx = none) (nd : dx ≠ x) (k : ∀ fs H', Same H H' → H' x = some (.ins W dx fs) → R H') :
    sp_Words_init K S W W ec [.ref x, n, t, .non] (upd (upd H dx (.own x)) x (.ins W dx [])) (fun v H3 => v = .non ∧ R H3) E := by
  obtain ⟨l, rfl⟩ := ht
  have far : ∀ a o, H a = some o → a ≠ x ∧ a ≠ dx := fun a o e => ⟨ne_of_none e fx, ne_of_none e fdx⟩
  refine ⟨H, x, dx, 0, n, .str l, .non, true, true, true, rfl, upd_same, fx, fun a o e => ?_, hn, ⟨_, .str _, rfl⟩, .inl ⟨rfl, rfl⟩, fun H' b => ⟨fun _ ⟨fs, g, _⟩ => ⟨rfl, k fs H' (fun a o e => b a o (far a o e).1 ?_) g⟩, fun s e => by cases e⟩⟩
  · rw [upd_ne (far a o e).1, upd_ne (far a o e).2]; exact e
  · rw [upd_ne (far a o e).1, upd_ne (far a o e).2]; exact e
end
end My
namespace My
open PySem PySem.Spec PyProof.Rows L2
section
variable {P : Program} {w : World} {K : PySem.W.Frag} {mg : Str → Option Value} {base : Heap}
theorem kb_Picture_init_4_style (T : Tx w K mg) : ∃ mv : List Value, KBn K T.d_Picture_init.fd ["self", "name", "across", "down", "style"] 4 ["style"] (fun us ws => pick1 0 us ++ pick1 1 us ++ pick1 2 us ++ pick1 3 us ++ pick1 0 ws) (fun vs zs => pick1 0 vs ++ pick1 1 vs ++ pick1 2 vs ++ pick1 3 vs ++ pick1 0 zs) := by
  exact T.d_Picture_init.FD.kbinds0 4 ["style"] [] (fun us mv ws => pick1 0 us ++ pick1 1 us ++ pick1 2 us ++ pick1 3 us ++ pick1 0 ws) (by intro z; cases z) (fun q hq => List.Sublist.subset (show List.Sublist _ _ from (.cons _ .slnil)) hq) (fun r1 rm r2 => (((((vals_pick r1 0).append (vals_pick r1 1)).append (vals_pick r1 2)).append (vals_pick r1 3)).append (vals_pick r2 0)))
    (fun D doc pm an cdv ct us mv ws h1 hm h2 => match us, mv, ws, h1, hm, h2 with | [_, _, _, _], [], [_], _, _, _ => (show _ = _ by kernel_rfl))
def sp_Picture_init (K : PySem.W.Frag) (S W C : Addr) (ec : Srt → Addr) : Sp := fun vs H Q E => ∃ (G : Hp) (x dx : Addr) (c : Nat) (v0 v1 v2 v3 : V) (b0 b1 b2 b3 : Bool), vs = [.ref x, v0, v1, v2, v3] ∧ H x = some (.ins C dx []) ∧ G x = none ∧ Same G H ∧ ValR K S W c G v0 b0 .name ∧ ValR K S W c G v1 b1 .size ∧ ValR K S W c G v2 b2 .size ∧ ValR K S W c G v3 b3 .style ∧ MadeR ec C x dx v0 [(.name, b0), (.size, b1), (.size, b2), (.style, b3)] H Q E
theorem ok_Picture_init (T : Tx w K mg) : FnOk P w K mg base (L2N.CX P w) 7 T.d_Picture_init.f T.d_Picture_init.fd ["self", "name", "across", "down", "style"] (sp_Picture_init K T.c_Style.C T.c_Words.C T.c_Picture.C (fun s => ecW T s.tx)) := by
  refine T.d_Picture_init.F.okN sc_Picture_init (fun vs H Q E h => ?_) (fun cdv A outer s H vs Q E hr h => ?_)
  · obtain ⟨G, x, dx, c, v0, v1, v2, v3, b0, b1, b2, b3, rfl, _⟩ := h
    rfl
  · obtain ⟨G, x, dx, c, v0, v1, v2, v3, b0, b1, b2, b3, rfl, hx, gx, sG, h0, h1, h2, h3, k⟩ := h
    refine ⟨_, (pss_cons (ps_fld (pv 0) (pe_call (ok_checked_name T) (hr.mono (by decide)) (by rfl) T.d_checked_name.g T.d_checked_name.F.kp T.d_checked_name.b .nil (L2N.passes_call (L2N.takes_of rfl rfl rfl rfl) (fun _ _ _ _ h => h)) (pa_cons (pv 1) pa_nil)) rfl)
      (pss_cons (ps_for (passes_of rfl) (by rfl) (pi_tupK (K := K) rfl (pe_tupA (pa_cons (pv 2) (pa_cons (pv 3) pa_nil)))) (pg_name (i := 5) sc_Picture_init.nd rfl (Or.inl rfl))
      (pss_one (ps_if (PW.pt (pw_or (pt_not (pt_val (pe_call (ok_is_whole T) (hr.mono (by decide)) (by rfl) T.d_is_whole.g T.d_is_whole.F.kp T.d_is_whole.b .nil pass0 (pa_cons (pv 5) pa_nil)))) (pw_or1 (pt_cmpR op_lt (pv 5) pe_int (nomark _)))))
      (pss_one (L2N.ps_raise rfl (L2N.takes_of rfl rfl rfl rfl) (L2N.pmk_own PySem.F.excBase_ValueError T.e_NoNumber.x T.e_NoNumber.g T.e_NoNumber.k (raises_own T.e_NoNumber.b T.e_NoNumber.t) rfl)))
      pss_nil)))
      (pss_cons (ps_asg (pe_tupA (pa_cons (pv 2) (pa_cons (pv 3) pa_nil))) (pg_tup (by rfl) (pgs_cons (pg_fldK (K := K) rfl (pv 0)) (pgs_cons (pg_fldK (K := K) rfl (pv 0)) pgs_nil))))
      (pss_one (ps_fld (pv 0) (pe_call (ok_checked_style T) (hr.mono (by decide)) (by rfl) T.d_checked_style.g T.d_checked_style.F.kp T.d_checked_style.b .nil (L2N.passes_call (L2N.takes_of rfl rfl rfl rfl) (fun _ _ _ _ h => h)) (pa_cons (pv 4) pa_nil)) rfl))))), ?_⟩
    have B0 : But x H H := But.refl
    have S0 : Same G H := sG
    have g0 := hx
    tm_at "rzs"
    refine ⟨v0, b0, rfl, h0.same S0, fun H1 s1 => ?_⟩
    have B1 : But x H H1 := B0.trans (Same.but s1)
    have S1 := S0.trans s1
    refine ⟨fun e => ?_, fun e => ?_⟩
    rotate_left
    · subst e
      exact ((k H1 B1).2 .name rfl).non (by decide)
    subst e
    have g1 := s1 _ _ g0
    tm_at "rzs"
    refine ⟨x, _, dx, _, rfl, g1, T.c_Picture.cls, T.n_Picture_name, Nat.lt_of_succ_le (Nat.le_of_ble_eq_true rfl), ?_⟩
    refine upd_gen fun H2 b2' g2 => ?_
    have B2 : But x H H2 := B1.trans b2'
    have S2 := but_in gx sG B2
    tm_at "rzs"
    intro pq Hq fq sq gq
    have Sq := S2.trans sq
    have Bq := B2.trans (Same.but sq)
    refine ⟨pq, rfl, ⟨_, sqT gq⟩, for_tup (K := K) (a := pq) (xs := [v1, v2]) (fun i σ H' => ∃ w5 : Option V, σ = [some (.ref x), some v0, some v1, some v2, some v3, w5] ∧ Same Hq H' ∧ (1 ≤ i → b1 = true) ∧ (2 ≤ i → b2 = true)) ⟨_, rfl, Same.refl _, fun h => absurd h (by decide), fun h => absurd h (by decide)⟩ (fun i σ H' _ ⟨_, _, s, _⟩ => sqT (s _ _ gq)) ?_ ?_⟩
    · rintro i v σ Hr hv ⟨w5, rfl, sr, q1, q2⟩
      dsimp only [gName]
      have hi : i < 2 := (List.getElem?_eq_some_iff.mp hv).1
      obtain ⟨b, tv, tyv, ev, hb⟩ : ∃ (b : Bool) (t : String), Ty9 K Hr v t ∧ b = szB v ∧ (if i = 0 then b1 = b else b1 = true ∧ b2 = b) := by
        match i, hv, q1 with
        | 0, e, _ => cases e; obtain ⟨t, ty, e⟩ := h1.same (Sq.trans sr); exact ⟨b1, t, ty, e, rfl⟩
        | 1, e, q1 => cases e; obtain ⟨t, ty, e⟩ := h2.same (Sq.trans sr); exact ⟨b2, t, ty, e, q1 (Nat.le_refl _), rfl⟩
        | n + 2, e, _ => cases e
      have z8 := tyv.t8
      tm_at "rzs"
      have no : b = false → ErrAt (fun s => ecW T s.tx) E .size Hr := fun e => by
        refine (k Hr (Bq.trans (Same.but sr))).2 .size ?_
        subst e
        by_cases h0 : i = 0
        · rw [if_pos h0] at hb; rw [hb]; rfl
        · rw [if_neg h0] at hb; rw [hb.1, hb.2]; rfl
      cases ei : isI v with
      | false =>
        tm_at "rzs"
        exact (no (by rw [ev]; cases v <;> simp_all [isI, szB])).non (by decide)
      | true =>
        obtain ⟨z, rfl⟩ := isI_of ei
        tm_at "rzs"
        by_cases hz : z < 1
        · refine iteT' (decide_eq_true hz) ?_
          tm_at "rzs"
          exact (no (by rw [ev]; exact decide_eq_false (by omega))).non (by decide)
        · refine iteF' (decide_eq_false hz) ?_
          have eb : b = true := by rw [ev]; exact decide_eq_true (by omega)
          refine ⟨_, rfl, sr, fun h => ?_, fun h => ?_⟩
          · by_cases h0 : i = 0
            · rw [if_pos h0] at hb; rw [hb, eb]
            · rw [if_neg h0] at hb; exact hb.1
          · have h0 : i ≠ 0 := by omega
            rw [if_neg h0] at hb
            rw [hb.2, eb]
    rintro σ Hr ⟨w5, rfl, sr, q1, q2⟩
    obtain rfl := q1 (Nat.le_of_ble_eq_true rfl)
    obtain rfl := q2 (Nat.le_of_ble_eq_true rfl)
    tm_at "rzs"
    intro pt Ht ft st gt
    have g25 := st _ _ (sr _ _ (sq _ _ g2))
    refine ⟨pt, _, rfl, sqT gt, rfl, ?_⟩
    refine ⟨_, _, rfl, ?_⟩
    refine ⟨_, rfl, x, _, dx, _, rfl, g25, T.c_Picture.cls, T.n_Picture_across, Nat.lt_of_succ_le (Nat.le_of_ble_eq_true rfl), ?_⟩
    with_reducible refine upd_gen (R := fun Hq => gCons (gFld K (tVar 0) "down") gNil _ _ Hq _) fun Hu bu gu => ?_
    refine ⟨_, _, rfl, ?_⟩
    refine ⟨_, rfl, x, _, dx, _, rfl, gu, T.c_Picture.cls, T.n_Picture_down, Nat.lt_of_succ_le (Nat.le_of_ble_eq_true rfl), ?_⟩
    with_reducible refine upd_gen (R := fun Hq => gNil _ _ Hq _) fun H3 bw g3 => ?_
    refine ⟨rfl, ?_⟩
    have B3 : But x H H3 := Bq.trans ((Same.but (sr.trans st)).trans (bu.trans bw))
    have S3 := but_in gx sG B3
    tm_at "rzs"
    refine ⟨v3, c, b3, rfl, h3.same S3, fun H4 s4 => ?_⟩
    have B4 : But x H H4 := B3.trans (Same.but s4)
    have S4 := S3.trans s4
    refine ⟨fun e => ?_, fun e => ?_⟩
    rotate_left
    · subst e
      exact ((k H4 B4).2 .style rfl).non (by decide)
    subst e
    refine fun y3 => ?_
    have g4 := s4 _ _ g3
    tm_at "rzs"
    refine ⟨x, _, dx, _, rfl, g4, T.c_Picture.cls, T.n_Picture_style, Nat.lt_of_succ_le (Nat.le_of_ble_eq_true rfl), ?_⟩
    refine upd_gen fun H5 b5' g5 => ?_
    have B5 : But x H H5 := B4.trans b5'
    have S5 := but_in gx sG B5
    exact (k _ B5).1 rfl ⟨_, g5, rfl⟩
end
end My
namespace My
open PySem PySem.Spec PyProof.Rows L2
section
variable {P : Program} {w : World} {K : PySem.W.Frag} {mg : Str → Option Value} {base : Heap}
theorem kb_Row_init_3_turn_gap_lane_pack_stands_style (T : Tx w K mg) : ∃ mv : List Value, KBn K T.d_Row_init.fd ["self", "name", "boxes", "turn", "gap", "lane", "pack", "stands", "style"] 3 ["turn", "gap", "lane", "pack", "stands", "style"] (fun us ws => pick1 0 us ++ pick1 1 us ++ pick1 2 us ++ pick1 0 ws ++ pick1 1 ws ++ pick1 2 ws ++ pick1 3 ws ++ pick1 4 ws ++ pick1 5 ws) (fun vs zs => pick1 0 vs ++ pick1 1 vs ++ pick1 2 vs ++ pick1 0 zs ++ pick1 1 zs ++ pick1 2 zs ++ pick1 3 zs ++ pick1 4 zs ++ pick1 5 zs) := by
  exact T.d_Row_init.FD.kbinds0 3 ["turn", "gap", "lane", "pack", "stands", "style"] [] (fun us mv ws => pick1 0 us ++ pick1 1 us ++ pick1 2 us ++ pick1 0 ws ++ pick1 1 ws ++ pick1 2 ws ++ pick1 3 ws ++ pick1 4 ws ++ pick1 5 ws) (by intro z; cases z) (fun q hq => List.Sublist.subset (show List.Sublist _ _ from (.cons _ (.cons _ (.cons _ (.cons _ (.cons _ (.cons _ .slnil))))))) hq) (fun r1 rm r2 => (((((((((vals_pick r1 0).append (vals_pick r1 1)).append (vals_pick r1 2)).append (vals_pick r2 0)).append (vals_pick r2 1)).append (vals_pick r2 2)).append (vals_pick r2 3)).append (vals_pick r2 4)).append (vals_pick r2 5)))
    (fun D doc pm an cdv ct us mv ws h1 hm h2 => match us, mv, ws, h1, hm, h2 with | [_, _, _], [], [_, _, _, _, _, _], _, _, _ => (show _ = _ by kernel_rfl))
def sp_Row_init (K : PySem.W.Frag) (S W C : Addr) (ec : Srt → Addr) : Sp := fun vs H Q E => ∃ (G : Hp) (x dx : Addr) (c : Nat) (v0 v1 v2 v3 v4 v5 v6 v7 : V) (b0 b1 b2 b3 b4 b5 b6 b7 : Bool), vs = [.ref x, v0, v1, v2, v3, v4, v5, v6, v7] ∧ H x = some (.ins C dx []) ∧ G x = none ∧ Same G H ∧ ValR K S W c G v0 b0 .name ∧ ValR K S W c G v1 b1 .boxes ∧ ValR K S W c G v2 b2 .turn ∧ ValR K S W c G v3 b3 .gap ∧ ValR K S W c G v4 b4 .gap ∧ ValR K S W c G v5 b5 .pack ∧ ValR K S W c G v6 b6 .stands ∧ ValR K S W c G v7 b7 .style ∧ MadeR ec C x dx v0 [(.name, b0), (.boxes, b1), (.turn, b2), (.gap, b3), (.gap, b4), (.pack, b5), (.stands, b6), (.style, b7)] H Q E
theorem ok_Row_init (T : Tx w K mg) : FnOk P w K mg base (L2N.CX P w) 7 T.d_Row_init.f T.d_Row_init.fd ["self", "name", "boxes", "turn", "gap", "lane", "pack", "stands", "style"] (sp_Row_init K T.c_Style.C T.c_Words.C T.c_Row.C (fun s => ecW T s.tx)) := by
  refine T.d_Row_init.F.okN sc_Row_init (fun vs H Q E h => ?_) (fun cdv A outer s H vs Q E hr h => ?_)
  · obtain ⟨G, x, dx, c, v0, v1, v2, v3, v4, v5, v6, v7, b0, b1, b2, b3, b4, b5, b6, b7, rfl, _⟩ := h
    rfl
  · obtain ⟨G, x, dx, c, v0, v1, v2, v3, v4, v5, v6, v7, b0, b1, b2, b3, b4, b5, b6, b7, rfl, hx, gx, sG, h0, h1, h2, h3, h4, h5, h6, h7, k⟩ := h
    refine ⟨_, (pss_cons (ps_fld (pv 0) (pe_call (ok_checked_name T) (hr.mono (by decide)) (by rfl) T.d_checked_name.g T.d_checked_name.F.kp T.d_checked_name.b .nil (L2N.passes_call (L2N.takes_of rfl rfl rfl rfl) (fun _ _ _ _ h => h)) (pa_cons (pv 1) pa_nil)) rfl)
      (pss_cons (ps_fld (pv 0) (pe_call (ok_checked_boxes T) (hr.mono (by decide)) (by rfl) T.d_checked_boxes.g T.d_checked_boxes.F.kp T.d_checked_boxes.b .nil (L2N.passes_call (L2N.takes_of rfl rfl rfl rfl) (fun _ _ _ _ h => h)) (pa_cons (pv 2) pa_nil)) rfl)
      (pss_cons (ps_if (pt_not (pt_val (pe_callB (is_bool8 (K := K) rfl) (by rfl) T.b_isinstance (by decide +kernel) (pa_cons (pv 3) (pa_cons (pe_bltn (v := .ty "bool") (by rfl) T.b_bool (by decide +kernel) rfl) pa_nil)))))
      (pss_one (L2N.ps_raise rfl (L2N.takes_of rfl rfl rfl rfl) (L2N.pmk_own PySem.F.excBase_ValueError T.e_NoTruth.x T.e_NoTruth.g T.e_NoTruth.k (raises_own T.e_NoTruth.b T.e_NoTruth.t) rfl)))
      pss_nil)
      (pss_cons (ps_fld (pv 0) (pv 3) rfl)
      (pss_cons (ps_fld (pv 0) (pe_call (ok_checked_gap T) (hr.mono (by decide)) (by rfl) T.d_checked_gap.g T.d_checked_gap.F.kp T.d_checked_gap.b .nil (L2N.passes_call (L2N.takes_of rfl rfl rfl rfl) (fun _ _ _ _ h => h)) (pa_cons (pv 4) pa_nil)) rfl)
      (pss_cons (ps_fld (pv 0) (pe_call (ok_checked_gap T) (hr.mono (by decide)) (by rfl) T.d_checked_gap.g T.d_checked_gap.F.kp T.d_checked_gap.b .nil (L2N.passes_call (L2N.takes_of rfl rfl rfl rfl) (fun _ _ _ _ h => h)) (pa_cons (pv 5) pa_nil)) rfl)
      (pss_cons (ps_fld (pv 0) (pe_call (ok_checked_pack T) (hr.mono (by decide)) (by rfl) T.d_checked_pack.g T.d_checked_pack.F.kp T.d_checked_pack.b .nil (L2N.passes_call (L2N.takes_of rfl rfl rfl rfl) (fun _ _ _ _ h => h)) (pa_cons (pv 6) pa_nil)) rfl)
      (pss_cons (ps_fld (pv 0) (pe_call (ok_checked_stands T) (hr.mono (by decide)) (by rfl) T.d_checked_stands.g T.d_checked_stands.F.kp T.d_checked_stands.b .nil (L2N.passes_call (L2N.takes_of rfl rfl rfl rfl) (fun _ _ _ _ h => h)) (pa_cons (pv 7) pa_nil)) rfl)
      (pss_one (ps_fld (pv 0) (pe_call (ok_checked_style T) (hr.mono (by decide)) (by rfl) T.d_checked_style.g T.d_checked_style.F.kp T.d_checked_style.b .nil (L2N.passes_call (L2N.takes_of rfl rfl rfl rfl) (fun _ _ _ _ h => h)) (pa_cons (pv 8) pa_nil)) rfl)))))))))), ?_⟩
    have B0 : But x H H := But.refl
    have S0 : Same G H := sG
    have g0 := hx
    tm_at "rzs"
    refine ⟨v0, b0, rfl, h0.same S0, fun H1 s1 => ?_⟩
    have B1 : But x H H1 := B0.trans (Same.but s1)
    have S1 := S0.trans s1
    refine ⟨fun e => ?_, fun e => ?_⟩
    rotate_left
    · subst e
      exact ((k H1 B1).2 .name rfl).non (by decide)
    subst e
    have g1 := s1 _ _ g0
    tm_at "rzs"
    refine ⟨x, _, dx, _, rfl, g1, T.c_Row.cls, T.n_Row_name, Nat.lt_of_succ_le (Nat.le_of_ble_eq_true rfl), ?_⟩
    refine upd_gen fun H2 b2' g2 => ?_
    have B2 : But x H H2 := B1.trans b2'
    have S2 := but_in gx sG B2
    tm_at "rzs"
    refine ⟨v1, c, b1, rfl, h1.same S2, fun H3 s3 => ?_⟩
    have B3 : But x H H3 := B2.trans (Same.but s3)
    have S3 := S2.trans s3
    refine ⟨fun e => ?_, fun e => ?_⟩
    rotate_left
    · subst e
      exact ((k H3 B3).2 .boxes rfl).non (by decide)
    subst e
    refine fun p2 ys2 f2 gp2 => ?_
    have g3 := s3 _ _ g2
    tm_at "rzs"
    refine ⟨x, _, dx, _, rfl, g3, T.c_Row.cls, T.n_Row_boxes, Nat.lt_of_succ_le (Nat.le_of_ble_eq_true rfl), ?_⟩
    refine upd_gen fun H4 b4' g4 => ?_
    have B4 : But x H H4 := B3.trans b4'
    have S4 := but_in gx sG B4
    tm_at "rzs"
    obtain ⟨t2, ty2, e2⟩ := h2.same S4
    have z2 := ty2.t8
    tm_at "rzs"
    cases b2 with
    | false =>
      refine iteT' (by show (!isB v2) = true; rw [← e2]; rfl) ?_
      tm_at "rzs"
      exact ((k H4 B4).2 .turn rfl).non (by decide)
    | true =>
    refine iteF' (by show (!isB v2) = false; rw [← e2]; rfl) ?_
    tm_at "rzs"
    refine ⟨x, _, dx, _, rfl, g4, T.c_Row.cls, T.n_Row_turn, Nat.lt_of_succ_le (Nat.le_of_ble_eq_true rfl), ?_⟩
    refine upd_gen fun H5 b5' g5 => ?_
    have B5 : But x H H5 := B4.trans b5'
    have S5 := but_in gx sG B5
    tm_at "rzs"
    obtain ⟨t3, ty3, e3⟩ := h3.same S5
    refine ⟨v3, t3, rfl, ty3, fun e => ?_, fun e => ?_⟩
    rotate_left
    · rw [e] at e3
      subst e3
      exact ((k H5 B5).2 .gap rfl).non (by decide)
    rw [e] at e3
    subst e3
    tm_at "rzs"
    refine ⟨x, _, dx, _, rfl, g5, T.c_Row.cls, T.n_Row_gap, Nat.lt_of_succ_le (Nat.le_of_ble_eq_true rfl), ?_⟩
    refine upd_gen fun H6 b6' g6 => ?_
    have B6 : But x H H6 := B5.trans b6'
    have S6 := but_in gx sG B6
    tm_at "rzs"
    obtain ⟨t4, ty4, e4⟩ := h4.same S6
    refine ⟨v4, t4, rfl, ty4, fun e => ?_, fun e => ?_⟩
    rotate_left
    · rw [e] at e4
      subst e4
      exact ((k H6 B6).2 .gap rfl).non (by decide)
    rw [e] at e4
    subst e4
    tm_at "rzs"
    refine ⟨x, _, dx, _, rfl, g6, T.c_Row.cls, T.n_Row_lane, Nat.lt_of_succ_le (Nat.le_of_ble_eq_true rfl), ?_⟩
    refine upd_gen fun H7 b7' g7 => ?_
    have B7 : But x H H7 := B6.trans b7'
    have S7 := but_in gx sG B7
    tm_at "rzs"
    obtain ⟨t5, ty5, e5⟩ := h5.same S7
    refine ⟨v5, t5, rfl, ty5, fun e => ?_, fun e => ?_⟩
    rotate_left
    · rw [e] at e5
      subst e5
      exact ((k H7 B7).2 .pack rfl).non (by decide)
    rw [e] at e5
    subst e5
    tm_at "rzs"
    refine ⟨x, _, dx, _, rfl, g7, T.c_Row.cls, T.n_Row_pack, Nat.lt_of_succ_le (Nat.le_of_ble_eq_true rfl), ?_⟩
    refine upd_gen fun H8 b8' g8 => ?_
    have B8 : But x H H8 := B7.trans b8'
    have S8 := but_in gx sG B8
    tm_at "rzs"
    obtain ⟨t6, ty6, e6⟩ := h6.same S8
    refine ⟨v6, t6, rfl, ty6, fun e => ?_, fun e => ?_⟩
    rotate_left
    · rw [e] at e6
      subst e6
      exact ((k H8 B8).2 .stands rfl).non (by decide)
    rw [e] at e6
    subst e6
    tm_at "rzs"
    refine ⟨x, _, dx, _, rfl, g8, T.c_Row.cls, T.n_Row_stands, Nat.lt_of_succ_le (Nat.le_of_ble_eq_true rfl), ?_⟩
    refine upd_gen fun H9 b9' g9 => ?_
    have B9 : But x H H9 := B8.trans b9'
    have S9 := but_in gx sG B9
    tm_at "rzs"
    refine ⟨v7, c, b7, rfl, h7.same S9, fun H10 s10 => ?_⟩
    have B10 : But x H H10 := B9.trans (Same.but s10)
    have S10 := S9.trans s10
    refine ⟨fun e => ?_, fun e => ?_⟩
    rotate_left
    · subst e
      exact ((k H10 B10).2 .style rfl).non (by decide)
    subst e
    refine fun y9 => ?_
    have g10 := s10 _ _ g9
    tm_at "rzs"
    refine ⟨x, _, dx, _, rfl, g10, T.c_Row.cls, T.n_Row_style, Nat.lt_of_succ_le (Nat.le_of_ble_eq_true rfl), ?_⟩
    refine upd_gen fun H11 b11' g11 => ?_
    have B11 : But x H H11 := B10.trans b11'
    have S11 := but_in gx sG B11
    exact (k _ B11).1 rfl ⟨_, g11, rfl⟩
end
end My
namespace My
open PySem PySem.Spec PyProof.Rows L2
section
variable {P : Program} {w : World} {K : PySem.W.Frag} {mg : Str → Option Value} {base : Heap}
theorem kb_Pile_init_3_gap_pack_stands_style (T : Tx w K mg) : ∃ mv : List Value, KBn K T.d_Pile_init.fd ["self", "name", "boxes", "gap", "pack", "stands", "style"] 3 ["gap", "pack", "stands", "style"] (fun us ws => pick1 0 us ++ pick1 1 us ++ pick1 2 us ++ pick1 0 ws ++ pick1 1 ws ++ pick1 2 ws ++ pick1 3 ws) (fun vs zs => pick1 0 vs ++ pick1 1 vs ++ pick1 2 vs ++ pick1 0 zs ++ pick1 1 zs ++ pick1 2 zs ++ pick1 3 zs) := by
  exact T.d_Pile_init.FD.kbinds0 3 ["gap", "pack", "stands", "style"] [] (fun us mv ws => pick1 0 us ++ pick1 1 us ++ pick1 2 us ++ pick1 0 ws ++ pick1 1 ws ++ pick1 2 ws ++ pick1 3 ws) (by intro z; cases z) (fun q hq => List.Sublist.subset (show List.Sublist _ _ from (.cons _ (.cons _ (.cons _ (.cons _ .slnil))))) hq) (fun r1 rm r2 => (((((((vals_pick r1 0).append (vals_pick r1 1)).append (vals_pick r1 2)).append (vals_pick r2 0)).append (vals_pick r2 1)).append (vals_pick r2 2)).append (vals_pick r2 3)))
    (fun D doc pm an cdv ct us mv ws h1 hm h2 => match us, mv, ws, h1, hm, h2 with | [_, _, _], [], [_, _, _, _], _, _, _ => (show _ = _ by kernel_rfl))
def sp_Pile_init (K : PySem.W.Frag) (S W C : Addr) (ec : Srt → Addr) : Sp := fun vs H Q E => ∃ (G : Hp) (x dx : Addr) (c : Nat) (v0 v1 v2 v3 v4 v5 : V) (b0 b1 b2 b3 b4 b5 : Bool), vs = [.ref x, v0, v1, v2, v3, v4, v5] ∧ H x = some (.ins C dx []) ∧ G x = none ∧ Same G H ∧ ValR K S W c G v0 b0 .name ∧ ValR K S W c G v1 b1 .boxes ∧ ValR K S W c G v2 b2 .gap ∧ ValR K S W c G v3 b3 .pack ∧ ValR K S W c G v4 b4 .stands ∧ ValR K S W c G v5 b5 .style ∧ MadeR ec C x dx v0 [(.name, b0), (.boxes, b1), (.gap, b2), (.pack, b3), (.stands, b4), (.style, b5)] H Q E
theorem ok_Pile_init (T : Tx w K mg) : FnOk P w K mg base (L2N.CX P w) 7 T.d_Pile_init.f T.d_Pile_init.fd ["self", "name", "boxes", "gap", "pack", "stands", "style"] (sp_Pile_init K T.c_Style.C T.c_Words.C T.c_Pile.C (fun s => ecW T s.tx)) := by
  refine T.d_Pile_init.F.okN sc_Pile_init (fun vs H Q E h => ?_) (fun cdv A outer s H vs Q E hr h => ?_)
  · obtain ⟨G, x, dx, c, v0, v1, v2, v3, v4, v5, b0, b1, b2, b3, b4, b5, rfl, _⟩ := h
    rfl
  · obtain ⟨G, x, dx, c, v0, v1, v2, v3, v4, v5, b0, b1, b2, b3, b4, b5, rfl, hx, gx, sG, h0, h1, h2, h3, h4, h5, k⟩ := h
    refine ⟨_, (pss_cons (ps_fld (pv 0) (pe_call (ok_checked_name T) (hr.mono (by decide)) (by rfl) T.d_checked_name.g T.d_checked_name.F.kp T.d_checked_name.b .nil (L2N.passes_call (L2N.takes_of rfl rfl rfl rfl) (fun _ _ _ _ h => h)) (pa_cons (pv 1) pa_nil)) rfl)
      (pss_cons (ps_fld (pv 0) (pe_call (ok_checked_boxes T) (hr.mono (by decide)) (by rfl) T.d_checked_boxes.g T.d_checked_boxes.F.kp T.d_checked_boxes.b .nil (L2N.passes_call (L2N.takes_of rfl rfl rfl rfl) (fun _ _ _ _ h => h)) (pa_cons (pv 2) pa_nil)) rfl)
      (pss_cons (ps_fld (pv 0) (pe_call (ok_checked_gap T) (hr.mono (by decide)) (by rfl) T.d_checked_gap.g T.d_checked_gap.F.kp T.d_checked_gap.b .nil (L2N.passes_call (L2N.takes_of rfl rfl rfl rfl) (fun _ _ _ _ h => h)) (pa_cons (pv 3) pa_nil)) rfl)
      (pss_cons (ps_fld (pv 0) (pe_call (ok_checked_pack T) (hr.mono (by decide)) (by rfl) T.d_checked_pack.g T.d_checked_pack.F.kp T.d_checked_pack.b .nil (L2N.passes_call (L2N.takes_of rfl rfl rfl rfl) (fun _ _ _ _ h => h)) (pa_cons (pv 4) pa_nil)) rfl)
      (pss_cons (ps_fld (pv 0) (pe_call (ok_checked_stands T) (hr.mono (by decide)) (by rfl) T.d_checked_stands.g T.d_checked_stands.F.kp T.d_checked_stands.b .nil (L2N.passes_call (L2N.takes_of rfl rfl rfl rfl) (fun _ _ _ _ h => h)) (pa_cons (pv 5) pa_nil)) rfl)
      (pss_one (ps_fld (pv 0) (pe_call (ok_checked_style T) (hr.mono (by decide)) (by rfl) T.d_checked_style.g T.d_checked_style.F.kp T.d_checked_style.b .nil (L2N.passes_call (L2N.takes_of rfl rfl rfl rfl) (fun _ _ _ _ h => h)) (pa_cons (pv 6) pa_nil)) rfl))))))), ?_⟩
    have B0 : But x H H := But.refl
    have S0 : Same G H := sG
    have g0 := hx
    tm_at "rzs"
    refine ⟨v0, b0, rfl, h0.same S0, fun H1 s1 => ?_⟩
    have B1 : But x H H1 := B0.trans (Same.but s1)
    have S1 := S0.trans s1
    refine ⟨fun e => ?_, fun e => ?_⟩
    rotate_left
    · subst e
      exact ((k H1 B1).2 .name rfl).non (by decide)
    subst e
    have g1 := s1 _ _ g0
    tm_at "rzs"
    refine ⟨x, _, dx, _, rfl, g1, T.c_Pile.cls, T.n_Pile_name, Nat.lt_of_succ_le (Nat.le_of_ble_eq_true rfl), ?_⟩
    refine upd_gen fun H2 b2' g2 => ?_
    have B2 : But x H H2 := B1.trans b2'
    have S2 := but_in gx sG B2
    tm_at "rzs"
    refine ⟨v1, c, b1, rfl, h1.same S2, fun H3 s3 => ?_⟩
    have B3 : But x H H3 := B2.trans (Same.but s3)
    have S3 := S2.trans s3
    refine ⟨fun e => ?_, fun e => ?_⟩
    rotate_left
    · subst e
      exact ((k H3 B3).2 .boxes rfl).non (by decide)
    subst e
    refine fun p2 ys2 f2 gp2 => ?_
    have g3 := s3 _ _ g2
    tm_at "rzs"
    refine ⟨x, _, dx, _, rfl, g3, T.c_Pile.cls, T.n_Pile_boxes, Nat.lt_of_succ_le (Nat.le_of_ble_eq_true rfl), ?_⟩
    refine upd_gen fun H4 b4' g4 => ?_
    have B4 : But x H H4 := B3.trans b4'
    have S4 := but_in gx sG B4
    tm_at "rzs"
    obtain ⟨t2, ty2, e2⟩ := h2.same S4
    refine ⟨v2, t2, rfl, ty2, fun e => ?_, fun e => ?_⟩
    rotate_left
    · rw [e] at e2
      subst e2
      exact ((k H4 B4).2 .gap rfl).non (by decide)
    rw [e] at e2
    subst e2
    tm_at "rzs"
    refine ⟨x, _, dx, _, rfl, g4, T.c_Pile.cls, T.n_Pile_gap, Nat.lt_of_succ_le (Nat.le_of_ble_eq_true rfl), ?_⟩
    refine upd_gen fun H5 b5' g5 => ?_
    have B5 : But x H H5 := B4.trans b5'
    have S5 := but_in gx sG B5
    tm_at "rzs"
    obtain ⟨t3, ty3, e3⟩ := h3.same S5
    refine ⟨v3, t3, rfl, ty3, fun e => ?_, fun e => ?_⟩
    rotate_left
    · rw [e] at e3
      subst e3
      exact ((k H5 B5).2 .pack rfl).non (by decide)
    rw [e] at e3
    subst e3
    tm_at "rzs"
    refine ⟨x, _, dx, _, rfl, g5, T.c_Pile.cls, T.n_Pile_pack, Nat.lt_of_succ_le (Nat.le_of_ble_eq_true rfl), ?_⟩
    refine upd_gen fun H6 b6' g6 => ?_
    have B6 : But x H H6 := B5.trans b6'
    have S6 := but_in gx sG B6
    tm_at "rzs"
    obtain ⟨t4, ty4, e4⟩ := h4.same S6
    refine ⟨v4, t4, rfl, ty4, fun e => ?_, fun e => ?_⟩
    rotate_left
    · rw [e] at e4
      subst e4
      exact ((k H6 B6).2 .stands rfl).non (by decide)
    rw [e] at e4
    subst e4
    tm_at "rzs"
    refine ⟨x, _, dx, _, rfl, g6, T.c_Pile.cls, T.n_Pile_stands, Nat.lt_of_succ_le (Nat.le_of_ble_eq_true rfl), ?_⟩
    refine upd_gen fun H7 b7' g7 => ?_
    have B7 : But x H H7 := B6.trans b7'
    have S7 := but_in gx sG B7
    tm_at "rzs"
    refine ⟨v5, c, b5, rfl, h5.same S7, fun H8 s8 => ?_⟩
    have B8 : But x H H8 := B7.trans (Same.but s8)
    have S8 := S7.trans s8
    refine ⟨fun e => ?_, fun e => ?_⟩
    rotate_left
    · subst e
      exact ((k H8 B8).2 .style rfl).non (by decide)
    subst e
    refine fun y7 => ?_
    have g8 := s8 _ _ g7
    tm_at "rzs"
    refine ⟨x, _, dx, _, rfl, g8, T.c_Pile.cls, T.n_Pile_style, Nat.lt_of_succ_le (Nat.le_of_ble_eq_true rfl), ?_⟩
    refine upd_gen fun H9 b9' g9 => ?_
    have B9 : But x H H9 := B8.trans b9'
    have S9 := but_in gx sG B9
    exact (k _ B9).1 rfl ⟨_, g9, rfl⟩
end
end My
namespace My
open PySem PySem.Spec PyProof.Rows L2
section
variable {P : Program} {w : World} {K : PySem.W.Frag} {mg : Str → Option Value} {base : Heap}
theorem kb_Grid_init_4_columns_rows_gap_lane_stands_style (T : Tx w K mg) : ∃ mv : List Value, KBn K T.d_Grid_init.fd ["self", "name", "boxes", "spots", "columns", "rows", "gap", "lane", "stands", "style"] 4 ["columns", "rows", "gap", "lane", "stands", "style"] (fun us ws => pick1 0 us ++ pick1 1 us ++ pick1 2 us ++ pick1 3 us ++ pick1 0 ws ++ pick1 1 ws ++ pick1 2 ws ++ pick1 3 ws ++ pick1 4 ws ++ pick1 5 ws) (fun vs zs => pick1 0 vs ++ pick1 1 vs ++ pick1 2 vs ++ pick1 3 vs ++ pick1 0 zs ++ pick1 1 zs ++ pick1 2 zs ++ pick1 3 zs ++ pick1 4 zs ++ pick1 5 zs) := by
  exact T.d_Grid_init.FD.kbinds0 4 ["columns", "rows", "gap", "lane", "stands", "style"] [] (fun us mv ws => pick1 0 us ++ pick1 1 us ++ pick1 2 us ++ pick1 3 us ++ pick1 0 ws ++ pick1 1 ws ++ pick1 2 ws ++ pick1 3 ws ++ pick1 4 ws ++ pick1 5 ws) (by intro z; cases z) (fun q hq => List.Sublist.subset (show List.Sublist _ _ from (.cons _ (.cons _ (.cons _ (.cons _ .slnil))))) hq) (fun r1 rm r2 => ((((((((((vals_pick r1 0).append (vals_pick r1 1)).append (vals_pick r1 2)).append (vals_pick r1 3)).append (vals_pick r2 0)).append (vals_pick r2 1)).append (vals_pick r2 2)).append (vals_pick r2 3)).append (vals_pick r2 4)).append (vals_pick r2 5)))
    (fun D doc pm an cdv ct us mv ws h1 hm h2 => match us, mv, ws, h1, hm, h2 with | [_, _, _, _], [], [_, _, _, _, _, _], _, _, _ => (show _ = _ by kernel_rfl))
def sp_Grid_init (K : PySem.W.Frag) (S W C : Addr) (ec : Srt → Addr) : Sp := fun vs H Q E => ∃ (G : Hp) (x dx : Addr) (c : Nat) (v0 v1 v2 v3 v4 v5 v6 v7 v8 : V) (b0 b1 b2 b3 b4 b5 b6 b7 b8 : Bool), vs = [.ref x, v0, v1, v2, v3, v4, v5, v6, v7, v8] ∧ H x = some (.ins C dx []) ∧ G x = none ∧ Same G H ∧ ValR K S W c G v0 b0 .name ∧ ValR K S W c G v1 b1 .boxes ∧ ValR K S W c G v2 b2 .spots ∧ ValR K S W c G v3 b3 .tracks ∧ ValR K S W c G v4 b4 .tracks ∧ ValR K S W c G v5 b5 .gap ∧ ValR K S W c G v6 b6 .gap ∧ ValR K S W c G v7 b7 .stands ∧ ValR K S W c G v8 b8 .style ∧ MadeR ec C x dx v0 [(.name, b0), (.boxes, b1), (.tracks, b3), (.tracks, b4), (.spots, b2), (.gap, b5), (.gap, b6), (.stands, b7), (.style, b8)] H Q E
theorem ok_Grid_init (T : Tx w K mg) : FnOk P w K mg base (L2N.CX P w) 7 T.d_Grid_init.f T.d_Grid_init.fd ["self", "name", "boxes", "spots", "columns", "rows", "gap", "lane", "stands", "style"] (sp_Grid_init K T.c_Style.C T.c_Words.C T.c_Grid.C (fun s => ecW T s.tx)) := by
  refine T.d_Grid_init.F.okN sc_Grid_init (fun vs H Q E h => ?_) (fun cdv A outer s H vs Q E hr h => ?_)
  · obtain ⟨G, x, dx, c, v0, v1, v2, v3, v4, v5, v6, v7, v8, b0, b1, b2, b3, b4, b5, b6, b7, b8, rfl, _⟩ := h
    rfl
  · obtain ⟨G, x, dx, c, v0, v1, v2, v3, v4, v5, v6, v7, v8, b0, b1, b2, b3, b4, b5, b6, b7, b8, rfl, hx, gx, sG, h0, h1, h2, h3, h4, h5, h6, h7, h8, k⟩ := h
    refine ⟨_, (pss_cons (ps_fld (pv 0) (pe_call (ok_checked_name T) (hr.mono (by decide)) (by rfl) T.d_checked_name.g T.d_checked_name.F.kp T.d_checked_name.b .nil (L2N.passes_call (L2N.takes_of rfl rfl rfl rfl) (fun _ _ _ _ h => h)) (pa_cons (pv 1) pa_nil)) rfl)
      (pss_cons (ps_fld (pv 0) (pe_call (ok_checked_boxes T) (hr.mono (by decide)) (by rfl) T.d_checked_boxes.g T.d_checked_boxes.F.kp T.d_checked_boxes.b .nil (L2N.passes_call (L2N.takes_of rfl rfl rfl rfl) (fun _ _ _ _ h => h)) (pa_cons (pv 2) pa_nil)) rfl)
      (pss_cons (ps_if (PW.pt (pw_or (pt_not (pt_val (pe_call (ok_are_tracks T) (hr.mono (by decide)) (by rfl) T.d_are_tracks.g T.d_are_tracks.F.kp T.d_are_tracks.b .nil pass0 (pa_cons (pv 4) pa_nil)))) (pw_or1 (pt_not (pt_val (pe_call (ok_are_tracks T) (hr.mono (by decide)) (by rfl) T.d_are_tracks.g T.d_are_tracks.F.kp T.d_are_tracks.b .nil pass0 (pa_cons (pv 5) pa_nil)))))))
      (pss_one (L2N.ps_raise rfl (L2N.takes_of rfl rfl rfl rfl) (L2N.pmk_own PySem.F.excBase_ValueError T.e_NoTrack.x T.e_NoTrack.g T.e_NoTrack.k (raises_own T.e_NoTrack.b T.e_NoTrack.t) rfl)))
      pss_nil)
      (pss_cons (ps_if (pt_not (pt_val (pe_call (ok_are_spots T) (hr.mono (by decide)) (by rfl) T.d_are_spots.g T.d_are_spots.F.kp T.d_are_spots.b .nil pass0 (pa_cons (pv 3) (pa_cons (pe_callB (call_lenK (K := K) rfl) (by rfl) T.b_len (by decide +kernel) (pa_cons (pv 2) pa_nil)) (pa_cons (pe_callB (call_lenK (K := K) rfl) (by rfl) T.b_len (by decide +kernel) (pa_cons (pv 4) pa_nil)) (pa_cons (pe_callB (call_lenK (K := K) rfl) (by rfl) T.b_len (by decide +kernel) (pa_cons (pv 5) pa_nil)) pa_nil)))))))
      (pss_one (L2N.ps_raise rfl (L2N.takes_of rfl rfl rfl rfl) (L2N.pmk_own PySem.F.excBase_ValueError T.e_NoSpot.x T.e_NoSpot.g T.e_NoSpot.k (raises_own T.e_NoSpot.b T.e_NoSpot.t) rfl)))
      pss_nil)
      (pss_cons (ps_asg (pe_tupA (pa_cons (pe_callTy (call_tupLK (K := K) rfl) (by rfl) T.b_tuple (by decide +kernel) (pa_cons (pv 4) pa_nil)) (pa_cons (pe_callTy (call_tupLK (K := K) rfl) (by rfl) T.b_tuple (by decide +kernel) (pa_cons (pv 5) pa_nil)) pa_nil))) (pg_tup (by rfl) (pgs_cons (pg_fldK (K := K) rfl (pv 0)) (pgs_cons (pg_fldK (K := K) rfl (pv 0)) pgs_nil))))
      (pss_cons (ps_fld (pv 0) (pe_callTy (call_tupLK (K := K) rfl) (by rfl) T.b_tuple (by decide +kernel) (pa_cons (pv 3) pa_nil)) rfl)
      (pss_cons (ps_fld (pv 0) (pe_call (ok_checked_gap T) (hr.mono (by decide)) (by rfl) T.d_checked_gap.g T.d_checked_gap.F.kp T.d_checked_gap.b .nil (L2N.passes_call (L2N.takes_of rfl rfl rfl rfl) (fun _ _ _ _ h => h)) (pa_cons (pv 6) pa_nil)) rfl)
      (pss_cons (ps_fld (pv 0) (pe_call (ok_checked_gap T) (hr.mono (by decide)) (by rfl) T.d_checked_gap.g T.d_checked_gap.F.kp T.d_checked_gap.b .nil (L2N.passes_call (L2N.takes_of rfl rfl rfl rfl) (fun _ _ _ _ h => h)) (pa_cons (pv 7) pa_nil)) rfl)
      (pss_cons (ps_fld (pv 0) (pe_call (ok_checked_stands T) (hr.mono (by decide)) (by rfl) T.d_checked_stands.g T.d_checked_stands.F.kp T.d_checked_stands.b .nil (L2N.passes_call (L2N.takes_of rfl rfl rfl rfl) (fun _ _ _ _ h => h)) (pa_cons (pv 8) pa_nil)) rfl)
      (pss_one (ps_fld (pv 0) (pe_call (ok_checked_style T) (hr.mono (by decide)) (by rfl) T.d_checked_style.g T.d_checked_style.F.kp T.d_checked_style.b .nil (L2N.passes_call (L2N.takes_of rfl rfl rfl rfl) (fun _ _ _ _ h => h)) (pa_cons (pv 9) pa_nil)) rfl))))))))))), ?_⟩
    have B0 : But x H H := But.refl
    have S0 : Same G H := sG
    have g0 := hx
    tm_at "rzs"
    refine ⟨v0, b0, rfl, h0.same S0, fun H1 s1 => ?_⟩
    have B1 : But x H H1 := B0.trans (Same.but s1)
    have S1 := S0.trans s1
    refine ⟨fun e => ?_, fun e => ?_⟩
    rotate_left
    · subst e
      exact ((k H1 B1).2 .name rfl).non (by decide)
    subst e
    have g1 := s1 _ _ g0
    tm_at "rzs"
    refine ⟨x, _, dx, _, rfl, g1, T.c_Grid.cls, T.n_Grid_name, Nat.lt_of_succ_le (Nat.le_of_ble_eq_true rfl), ?_⟩
    refine upd_gen fun H2 b2' g2 => ?_
    have B2 : But x H H2 := B1.trans b2'
    have S2 := but_in gx sG B2
    tm_at "rzs"
    refine ⟨v1, c, b1, rfl, h1.same S2, fun H3 s3 => ?_⟩
    have B3 : But x H H3 := B2.trans (Same.but s3)
    have S3 := S2.trans s3
    refine ⟨fun e => ?_, fun e => ?_⟩
    rotate_left
    · subst e
      exact ((k H3 B3).2 .boxes rfl).non (by decide)
    subst e
    refine fun p2 ys2 f2 gp2 => ?_
    have g3 := s3 _ _ g2
    tm_at "rzs"
    refine ⟨x, _, dx, _, rfl, g3, T.c_Grid.cls, T.n_Grid_boxes, Nat.lt_of_succ_le (Nat.le_of_ble_eq_true rfl), ?_⟩
    refine upd_gen fun H4 b4' g4 => ?_
    have B4 : But x H H4 := B3.trans b4'
    have S4 := but_in gx sG B4
    rcases h1 with ⟨_, _, _, e⟩ | ⟨q1, xs1, bs1, rfl, gq1, _, _, _, len1⟩
    · cases e
    have len1 := len1 rfl
    tm_at "rzs"
    refine ⟨v3, c, b3, rfl, h3.same S4, fun Ha sa => ?_⟩
    cases b3 with
    | false =>
      tm_at "rzs"
      exact ((k Ha (B4.trans (Same.but sa))).2 .tracks rfl).non (by decide)
    | true =>
    tm_at "rzs"
    have Sa := S4.trans sa
    refine ⟨v4, c, b4, rfl, h4.same Sa, fun Hb sb => ?_⟩
    cases b4 with
    | false =>
      tm_at "rzs"
      exact ((k Hb (B4.trans (Same.but (sa.trans sb)))).2 .tracks rfl).non (by decide)
    | true =>
    tm_at "rzs"
    have Sb := Sa.trans sb
    rcases h3 with ⟨_, _, _, e⟩ | ⟨q3, xs3, ds3, rfl, gq3, _, _, _, _, len3⟩
    · cases e
    rcases h4 with ⟨_, _, _, e⟩ | ⟨q4, xs4, ds4, rfl, gq4, _, _, _, _, len4⟩
    · cases e
    have len3 := len3 rfl
    have len4 := len4 rfl
    have gb1 := Sb _ _ gq1
    have gb3 := Sb _ _ gq3
    have gb4 := Sb _ _ gq4
    tm_at "rzs"
    refine ⟨v2, xs1.length, xs3.length, xs4.length, b2, rfl, ?_, fun Hc sc => ?_⟩
    · rcases h2.same Sb with ⟨t, ht, nt, e⟩ | ⟨p, ws, os, e1, e2, e3, e4, e5⟩
      · exact .inl ⟨t, ht, nt, e⟩
      · exact .inr ⟨p, ws, os, e1, e2, e3, e4, by rw [len1, len3, len4]; exact e5⟩
    have Bc := B4.trans (Same.but (sa.trans (sb.trans sc)))
    cases b2 with
    | false =>
      tm_at "rzs"
      exact ((k Hc Bc).2 .spots rfl).non (by decide)
    | true =>
    rcases h2 with ⟨_, _, _, e⟩ | ⟨q2, xs2, os2, rfl, gq2, _, _, _⟩
    · cases e
    tm_at "rzs"
    have Sc := Sb.trans sc
    have hx7 := sc _ _ (sb _ _ (sa _ _ g4))
    refine ⟨q3, xs3, rfl, sqL (Sc _ _ gq3), fun p8 H8 f8 s8 g8 => ?_⟩
    tm_at "rzs"
    refine ⟨q4, xs4, rfl, sqL (s8 _ _ (Sc _ _ gq4)), fun p9 H9 f9 s9 g9 => ?_⟩
    tm_at "rzs"
    intro pa Hd fd sd gd
    have sk := s8.trans (s9.trans sd)
    have hd := sk _ _ hx7
    refine ⟨pa, _, rfl, sqT gd, rfl, ?_⟩
    refine ⟨_, _, rfl, ?_⟩
    refine ⟨_, rfl, x, _, dx, _, rfl, hd, T.c_Grid.cls, T.n_Grid_columns, Nat.lt_of_succ_le (Nat.le_of_ble_eq_true rfl), ?_⟩
    with_reducible refine upd_gen (R := fun Hq => gCons (gFld K (tVar 0) "rows") gNil _ _ Hq _) fun He be ge => ?_
    refine ⟨_, _, rfl, ?_⟩
    refine ⟨_, rfl, x, _, dx, _, rfl, ge, T.c_Grid.cls, T.n_Grid_rows, Nat.lt_of_succ_le (Nat.le_of_ble_eq_true rfl), ?_⟩
    with_reducible refine upd_gen (R := fun Hq => gNil _ _ Hq _) fun Hf bf gf => ?_
    refine ⟨rfl, ?_⟩
    have Bf : But x H Hf := Bc.trans ((Same.but sk).trans (be.trans bf))
    have Sf := but_in gx sG Bf
    tm_at "rzs"
    refine ⟨q2, xs2, rfl, sqL (Sf _ _ gq2), fun pg H5 fg sg gg => ?_⟩
    have g5 := sg _ _ gf
    have B5 : But x H H5 := Bf.trans (Same.but sg)
    have S5 := Sf.trans sg
    tm_at "rzs"
    refine ⟨x, _, dx, _, rfl, g5, T.c_Grid.cls, T.n_Grid_spots, Nat.lt_of_succ_le (Nat.le_of_ble_eq_true rfl), ?_⟩
    refine upd_gen fun H6 b6' g6 => ?_
    have B6 : But x H H6 := B5.trans b6'
    have S6 := but_in gx sG B6
    tm_at "rzs"
    obtain ⟨t5, ty5, e5⟩ := h5.same S6
    refine ⟨v5, t5, rfl, ty5, fun e => ?_, fun e => ?_⟩
    rotate_left
    · rw [e] at e5
      subst e5
      exact ((k H6 B6).2 .gap rfl).non (by decide)
    rw [e] at e5
    subst e5
    tm_at "rzs"
    refine ⟨x, _, dx, _, rfl, g6, T.c_Grid.cls, T.n_Grid_gap, Nat.lt_of_succ_le (Nat.le_of_ble_eq_true rfl), ?_⟩
    refine upd_gen fun H7 b7' g7 => ?_
    have B7 : But x H H7 := B6.trans b7'
    have S7 := but_in gx sG B7
    tm_at "rzs"
    obtain ⟨t6, ty6, e6⟩ := h6.same S7
    refine ⟨v6, t6, rfl, ty6, fun e => ?_, fun e => ?_⟩
    rotate_left
    · rw [e] at e6
      subst e6
      exact ((k H7 B7).2 .gap rfl).non (by decide)
    rw [e] at e6
    subst e6
    tm_at "rzs"
    refine ⟨x, _, dx, _, rfl, g7, T.c_Grid.cls, T.n_Grid_lane, Nat.lt_of_succ_le (Nat.le_of_ble_eq_true rfl), ?_⟩
    refine upd_gen fun H8 b8' g8 => ?_
    have B8 : But x H H8 := B7.trans b8'
    have S8 := but_in gx sG B8
    tm_at "rzs"
    obtain ⟨t7, ty7, e7⟩ := h7.same S8
    refine ⟨v7, t7, rfl, ty7, fun e => ?_, fun e => ?_⟩
    rotate_left
    · rw [e] at e7
      subst e7
      exact ((k H8 B8).2 .stands rfl).non (by decide)
    rw [e] at e7
    subst e7
    tm_at "rzs"
    refine ⟨x, _, dx, _, rfl, g8, T.c_Grid.cls, T.n_Grid_stands, Nat.lt_of_succ_le (Nat.le_of_ble_eq_true rfl), ?_⟩
    refine upd_gen fun H9 b9' g9 => ?_
    have B9 : But x H H9 := B8.trans b9'
    have S9 := but_in gx sG B9
    tm_at "rzs"
    refine ⟨v8, c, b8, rfl, h8.same S9, fun H10 s10 => ?_⟩
    have B10 : But x H H10 := B9.trans (Same.but s10)
    have S10 := S9.trans s10
    refine ⟨fun e => ?_, fun e => ?_⟩
    rotate_left
    · subst e
      exact ((k H10 B10).2 .style rfl).non (by decide)
    subst e
    refine fun y9 => ?_
    have g10 := s10 _ _ g9
    tm_at "rzs"
    refine ⟨x, _, dx, _, rfl, g10, T.c_Grid.cls, T.n_Grid_style, Nat.lt_of_succ_le (Nat.le_of_ble_eq_true rfl), ?_⟩
    refine upd_gen fun H11 b11' g11 => ?_
    have B11 : But x H H11 := B10.trans b11'
    have S11 := but_in gx sG B11
    exact (k _ B11).1 rfl ⟨_, g11, rfl⟩
end
end My
namespace My
open PySem PySem.Spec PyProof.Rows L2
section
variable {P : Program} {w : World} {K : PySem.W.Frag} {mg : Str → Option Value} {base : Heap}
def sp_w_cell_at (K : PySem.W.Frag) : Sp := fun vs H Q _ => ∃ (a : Addr) (ns : List Int) (k : Nat), vs = [.ref a, .int (k : Int)] ∧ SqL K H a (ns.map V.int) ∧ ns.length ≤ 63 ∧ ∀ z : Int, Q (.int z) H
theorem ok_w_cell_at (T : Tx w K mg) : FnOk P w K mg base CX0 1 T.d_w_cell_at.f T.d_w_cell_at.fd ["_law_script", "_law_k"] (sp_w_cell_at K) := by
  refine T.d_w_cell_at.F.ok sc_w_cell_at (fun vs H Q E h => ?_) (fun cdv A outer s H vs Q E hr h => ?_)
  · obtain ⟨x, t, j, rfl, _⟩ := h
    rfl
  · obtain ⟨a, ns, j, rfl, hS, hl, k⟩ := h
    refine ⟨_, (pss_cons (ps_if (pt_cmpR op_lt (pv 1) (pe_callB (call_lenK (K := K) rfl) (by rfl) T.b_len (by decide +kernel) (pa_cons (pv 0) pa_nil)) (nomark _))
      (pss_one (ps_ret (pe_ix (ix_seqK (K := K) rfl) (pv 0) (pv 1) (fun _ _ => rfl))))
      pss_nil)
      (pss_one (ps_ret pe_int))), ?_⟩
    tm_at "rds"
    by_cases e : j < ns.length
    · refine iteT' (decide_eq_true (by rw [List.length_map]; omega)) ?_
      tm_at "rds"
      refine .inl ⟨_, _, _, _, rfl, rfl, hS, atI_nat (v := .int ns[j]) (by rw [List.getElem?_map, List.getElem?_eq_getElem e]; rfl), ?_⟩
      exact k _
    · refine iteF' (decide_eq_false (by rw [List.length_map]; omega)) ?_
      tm_at "rzs"
      exact k _
end
end My
namespace My
open PySem PySem.Spec PyProof.Rows L2
section
variable {P : Program} {w : World} {K : PySem.W.Frag} {mg : Str → Option Value} {base : Heap}
def sp_w_mixed : Sp := fun vs H Q _ => ∃ (c k : Int), vs = [.int c, .int k] ∧ ∀ n : Int, 0 ≤ n → Q (.int n) H
theorem ok_w_mixed (T : Tx w K mg) : FnOk P w K mg base CX0 1 T.d_w_mixed.f T.d_w_mixed.fd ["_law_cell", "_law_k"] (sp_w_mixed) := by
  refine T.d_w_mixed.F.ok sc_w_mixed (fun vs H Q E h => ?_) (fun cdv A outer s H vs Q E hr h => ?_)
  · obtain ⟨x, t, rfl, _⟩ := h
    rfl
  · obtain ⟨c, j, rfl, k⟩ := h
    refine ⟨_, (pss_cons (ps_set (i := 2) sc_w_mixed.nd rfl (Or.inl rfl) (pe_op op_add (pe_op op_add (pe_op op_add (pe_op op_mod (pv 0) pe_int) (pe_op op_mul (pe_op op_fdivW (pv 0) pe_int) pe_int)) (pe_op op_mul pe_int (pv 1))) pe_int))
      (pss_cons (ps_set (i := 2) sc_w_mixed.nd rfl (Or.inl rfl) (pe_op op_mod (pe_op op_mul (pv 2) pe_int) pe_int))
      (pss_cons (ps_set (i := 2) sc_w_mixed.nd rfl (Or.inl rfl) (pe_op op_mod (pe_op op_mul (pv 2) (pe_op op_add (pe_op op_add (pe_op op_fdivW (pv 2) pe_int) pe_int) (pv 1))) pe_int))
      (pss_one (ps_ret (pe_op op_mod (pe_op op_mul (pv 2) (pe_op op_add (pe_op op_fdivW (pv 2) pe_int) pe_int)) pe_int)))))), ?_⟩
    tm_at "rds"
    refine k _ ?_
    exact Int.emod_nonneg _ (by decide)
end
end My
namespace My
open PySem PySem.Spec PyProof.Rows L2
section
variable {P : Program} {w : World} {K : PySem.W.Frag} {mg : Str → Option Value} {base : Heap}
def sp_w_source : Sp := fun vs H Q _ => ∃ (c : Int), vs = [.int c] ∧ New H (src (c, c, 0)) Q
theorem ok_w_source (T : Tx w K mg) : FnOk P w K mg base CX0 1 T.d_w_source.f T.d_w_source.fd ["_law_cell"] (sp_w_source) := by
  refine T.d_w_source.F.ok sc_w_source (fun vs H Q E h => ?_) (fun cdv A outer s H vs Q E hr h => ?_)
  · obtain ⟨x, rfl, _⟩ := h
    rfl
  · obtain ⟨c, rfl, k⟩ := h
    refine ⟨_, (pss_one (ps_ret (pe_lstA (pa_cons (pv 0) (pa_cons (pv 0) (pa_cons pe_int pa_nil)))))), ?_⟩
    refine ⟨_, rfl, _, rfl, (by show 3 ≤ sizeLine; decide), k⟩
end
end My
namespace My
open PySem PySem.Spec PyProof.Rows L2
section
variable {P : Program} {w : World} {K : PySem.W.Frag} {mg : Str → Option Value} {base : Heap}
def sp_w_next : Sp := fun vs H Q _ => ∃ (a : Addr) (m : Int), vs = [.ref a, .int m] ∧ Src H a ∧ 0 < m ∧ m < 2 ^ 64 ∧
  ∀ (n : Int) (H' : Hp), Dr a H H' → 0 ≤ n → n < m → Q (.int n) H'
theorem ok_w_next (T : Tx w K mg) : FnOk P w K mg base CX0 2 T.d_w_next.f T.d_w_next.fd ["_law_source_here", "_law_many"] (sp_w_next) := by
  refine T.d_w_next.F.ok sc_w_next (fun vs H Q E h => ?_) (fun cdv A outer s H vs Q E hr h => ?_)
  · obtain ⟨a, m, rfl, _⟩ := h
    rfl
  · obtain ⟨a, m, rfl, ⟨⟨c0, c1, c2⟩, hs⟩, m0, m1, k⟩ := h
    have hL : SqL K H a [.int c0, .int c1, .int c2] := sqL hs
    refine ⟨_, (pss_cons (ps_if (pt_cmpR op_ge (pe_ix (ix_seqK (K := K) rfl) (pv 0) pe_int (fun _ _ => rfl)) (pe_op op_pow pe_int pe_int) (nomark _))
      (pss_cons (ps_set (i := 2) sc_w_next.nd rfl (Or.inl rfl) (pe_op op_mod (pe_ix (ix_seqK (K := K) rfl) (pv 0) pe_int (fun _ _ => rfl)) (pv 1)))
      (pss_cons (ps_asg (pe_op op_fdivW (pe_ix (ix_seqK (K := K) rfl) (pv 0) pe_int (fun _ _ => rfl)) (pv 1)) (pg_sub (pv 0) pe_int set_listA))
      (pss_one (ps_ret (pv 2)))))
      pss_nil)
      (pss_cons (ps_asg (pe_op op_add (pe_ix (ix_seqK (K := K) rfl) (pv 0) pe_int (fun _ _ => rfl)) pe_int) (pg_sub (pv 0) pe_int set_listA))
      (pss_one (ps_ret (pe_op op_mod (pe_call (ok_w_mixed T) (hr.mono (by decide)) (by rfl) T.d_w_mixed.g T.d_w_mixed.F.kp T.d_w_mixed.b .nil pass0 (pa_cons (pe_ix (ix_seqK (K := K) rfl) (pv 0) pe_int (fun _ _ => rfl)) (pa_cons (pe_ix (ix_seqK (K := K) rfl) (pv 0) pe_int (fun _ _ => rfl)) pa_nil))) (pv 1)))))), ?_⟩
    refine ⟨_, rfl, .inl ⟨_, _, _, _, rfl, rfl, hL, atI_nat (j := 0) rfl, _, _, rfl, rfl, ⟨by decide, by decide, by decide⟩, _, _, rfl, rfl, _, rfl, ite2 (fun e => ?_) (fun e => ?_)⟩⟩
    · refine ⟨_, rfl, .inl ⟨_, _, _, _, rfl, rfl, hL, atI_nat (j := 0) rfl, ?_⟩⟩
      tm_at "rds"
      refine .inl ⟨_, _, _, _, rfl, rfl, hL, atI_nat (j := 0) rfl, ?_⟩
      tm_at "rds"
      refine ⟨_, _, _, _, rfl, rfl, hs, rfl, fun H1 B1 g1 => ?_⟩
      tm_at "rds"
      refine k _ _ ⟨⟨(c0 / m, c1, c2), g1⟩, B1⟩ ?_ ?_
      · exact Int.emod_nonneg _ (by omega)
      · exact Int.emod_lt_of_pos _ m0
    · refine ⟨_, rfl, .inl ⟨_, _, _, _, rfl, rfl, hL, atI_nat (j := 2) rfl, ?_⟩⟩
      tm_at "rds"
      refine ⟨_, _, _, _, rfl, rfl, hs, rfl, fun H1 B1 g1 => ?_⟩
      refine ⟨_, rfl, .inl ⟨_, _, _, _, rfl, rfl, sqL g1, atI_nat (j := 1) rfl, ?_⟩⟩
      refine ⟨_, rfl, .inl ⟨_, _, _, _, rfl, rfl, sqL g1, atI_nat (j := 2) rfl, ?_⟩⟩
      refine ⟨_, _, rfl, fun n n0 => ?_⟩
      tm_at "rds"
      refine k _ _ ⟨⟨(c0, c1, c2 + 1), g1⟩, B1⟩ ?_ ?_
      · exact Int.emod_nonneg _ (by omega)
      · exact Int.emod_lt_of_pos _ m0
end
end My
namespace My
open PySem PySem.Spec PyProof.Rows L2
section
variable {P : Program} {w : World} {K : PySem.W.Frag} {mg : Str → Option Value} {base : Heap}
def sp_w_letters : Sp := fun vs H Q _ => ∃ (s : Addr) (m : Int), vs = [.ref s, .int m] ∧ Src H s ∧ 0 ≤ m ∧ m ≤ 20 ∧ ∀ (l : List Nat) H', Dr s H H' → (l.length : Int) = m → (∀ c ∈ l, c ∈ lettersL) → Q (.str (sO l)) H'
theorem ok_w_letters (T : Tx w K mg) : FnOk P w K mg base CX0 3 T.d_w_letters.f T.d_w_letters.fd ["_law_source_here", "_law_many"] (sp_w_letters) := by
  refine T.d_w_letters.F.ok sc_w_letters (fun vs H Q E h => ?_) (fun cdv A outer s H vs Q E hr h => ?_)
  · obtain ⟨s, m, rfl, _⟩ := h
    rfl
  · obtain ⟨s, m, rfl, hs, m0, m1, k⟩ := h
    refine ⟨_, (pss_cons (ps_set (i := 2) sc_w_letters.nd rfl (Or.inl rfl) pe_str)
      (pss_cons (ps_for PassesOwn.never (by rfl) (pi_range1 (by rfl) T.b_range (pa_cons (pv 1) pa_nil)) (pg_name (i := 3) sc_w_letters.nd rfl (Or.inl rfl))
      (pss_one (ps_set (i := 2) sc_w_letters.nd rfl (Or.inl rfl) (pe_op op_add_str (pv 2) (pe_ix ix_str pe_str (pe_call (ok_w_next T) (hr.mono (by decide)) (by rfl) T.d_w_next.g T.d_w_next.F.kp T.d_w_next.b .nil pass0 (pa_cons (pv 0) (pa_cons pe_int pa_nil))) (fun _ _ => rfl))))))
      (pss_one (ps_ret (pv 2))))), ?_⟩
    tm_at "rzs"
    refine for_range (lo := 0) (n := m.toNat) (fun i σ H' => ∃ (l : List Nat) (v2 : Option V), σ = [some (.ref s), some (.int m), some (.str (sO l)), v2] ∧ Dr s H H' ∧ l.length = i ∧ ∀ c ∈ l, c ∈ lettersL)
      ⟨[], _, by rw [← empty_eq]; rfl, Dr.refl hs, rfl, fun c h => by cases h⟩ ?_ ?_
    · rintro i σ H2 hi ⟨l, v2, rfl, d2, ll, lc⟩
      dsimp only [gName]
      tm_at "rzs"
      intro n3 H3 d3 l3 u3
      obtain ⟨c, hc, mc⟩ := at_some (xs := lettersL) l3 (by rw [show lettersL.length = 26 from by decide +kernel]; exact u3)
      refine ⟨_, _, c, rfl, rfl, Nat.le_of_ble_eq_true rfl, hc, ?_⟩
      refine ⟨_, _, rfl, rfl, by rw [sO_len, sizeLine_eq]; show l.length + 1 ≤ _; omega, ?_⟩
      rw [show (⟨#[c]⟩ : Str) = sO [c] from rfl, sO_append]
      refine ⟨l ++ [c], _, rfl, d2.trans d3, by rw [List.length_append, ll]; rfl, fun d hd => ?_⟩
      rcases List.mem_append.mp hd with h | h
      · exact lc d h
      · rw [List.mem_singleton.mp h]; exact mc
    · rintro σ H2 ⟨l, v2, rfl, d2, ll, lc⟩
      tm_at "rzs"
      exact k l H2 d2 (by omega) lc
end
end My
namespace My
open PySem PySem.Spec PyProof.Rows L2
section
variable {P : Program} {w : World} {K : PySem.W.Frag} {mg : Str → Option Value} {base : Heap}
def sp_w_number : Sp := fun vs H Q _ => ∃ (s : Addr), vs = [.ref s] ∧ Src H s ∧ ∀ (n : Nat) H', Dr s H H' → n < 2 ^ 62 → Q (.int (n : Int)) H'
theorem ok_w_number (T : Tx w K mg) : FnOk P w K mg base CX0 3 T.d_w_number.f T.d_w_number.fd ["_law_source_here"] (sp_w_number) := by
  refine T.d_w_number.F.ok sc_w_number (fun vs H Q E h => ?_) (fun cdv A outer s H vs Q E hr h => ?_)
  · obtain ⟨s, rfl, _⟩ := h
    rfl
  · obtain ⟨s, rfl, hs, k⟩ := h
    refine ⟨_, (pss_one (ps_ret (pe_call (ok_w_next T) (hr.mono (by decide)) (by rfl) T.d_w_next.g T.d_w_next.F.kp T.d_w_next.b .nil pass0 (pa_cons (pv 0) (pa_cons (pe_ix (ix_listK (K := K) rfl) (pe_lstA (pa_cons pe_int (pa_cons pe_int (pa_cons (pe_op op_pow pe_int pe_int) pa_nil)))) (pe_call (ok_w_next T) (hr.mono (by decide)) (by rfl) T.d_w_next.g T.d_w_next.F.kp T.d_w_next.b .nil pass0 (pa_cons (pv 0) (pa_cons pe_int pa_nil))) (fun _ _ => rfl)) pa_nil))))), ?_⟩
    tm_at "rzs"
    intro p7 H7 f7 s7 g7
    have np7 : p7 ≠ s := hs.ne f7
    tm_at "rzs"
    intro n8 H8 d8 l8 u8
    obtain ⟨x, hx, far2, rfl, far0, far1⟩ := pick3 (P := InR 1 1000000000001) l8 u8 (a := .int 3) (b := .int 50) (c := .int (10 ^ (12 : Int).toNat)) ⟨_, rfl, by decide, by decide⟩ ⟨_, rfl, by decide, by decide⟩ ⟨_, rfl, by decide, by decide⟩
    refine ⟨_, _, _, _, rfl, rfl, sqL (d8.app np7 g7), hx, ?_⟩
    have d8' : Dr s H H8 := (Dr.of hs s7).trans d8
    tm_at "rzs"
    intro n9 H9 d9 l9 u9
    obtain ⟨m, rfl⟩ := Int.eq_ofNat_of_zero_le l9
    exact k m H9 (d8'.trans d9) (by omega)
end
end My
namespace My
open PySem PySem.Spec PyProof.Rows L2
section
variable {P : Program} {w : World} {K : PySem.W.Frag} {mg : Str → Option Value} {base : Heap}
def sp_w_bad_name (K : PySem.W.Frag) : Sp := fun vs H Q _ => ∃ (s : Addr), vs = [.ref s] ∧ Src H s ∧ ∀ (v : V) H', Dr s H H' → NmAt K (dropC [s] H') v false → Q v H'
theorem ok_w_bad_name (T : Tx w K mg) : FnOk P w K mg base CX0 6 T.d_w_bad_name.f T.d_w_bad_name.fd ["_law_source_here"] (sp_w_bad_name K) := by
  refine T.d_w_bad_name.F.ok sc_w_bad_name (fun vs H Q E h => ?_) (fun cdv A outer s H vs Q E hr h => ?_)
  · obtain ⟨s, rfl, _⟩ := h
    rfl
  · obtain ⟨s, rfl, hs, k⟩ := h
    refine ⟨_, (pss_cons (ps_set (i := 1) sc_w_bad_name.nd rfl (Or.inl rfl) pe_str)
      (pss_cons (ps_set (i := 2) sc_w_bad_name.nd rfl (Or.inl rfl) (pe_call (ok_w_next T) (hr.mono (by decide)) (by rfl) T.d_w_next.g T.d_w_next.F.kp T.d_w_next.b .nil pass0 (pa_cons (pv 0) (pa_cons pe_int pa_nil))))
      (pss_cons (ps_set (i := 3) sc_w_bad_name.nd rfl (Or.inl rfl) (pe_call (ok_w_next T) (hr.mono (by decide)) (by rfl) T.d_w_next.g T.d_w_next.F.kp T.d_w_next.b .nil pass0 (pa_cons (pv 0) (pa_cons (pe_op op_add (pv 2) pe_int) pa_nil))))
      (pss_cons (ps_set (i := 4) sc_w_bad_name.nd rfl (Or.inl rfl) (pe_call (ok_w_letters T) (hr.mono (by decide)) (by rfl) T.d_w_letters.g T.d_w_letters.F.kp T.d_w_letters.b .nil pass0 (pa_cons (pv 0) (pa_cons (pv 2) pa_nil))))
      (pss_cons (ps_set (i := 5) sc_w_bad_name.nd rfl (Or.inl rfl) (pe_op op_add_str (pe_op op_add_str (pe_slice sl_str (pv 4) po_none (po_some (pv 3))) (pe_ix ix_str (pv 1) (pe_call (ok_w_next T) (hr.mono (by decide)) (by rfl) T.d_w_next.g T.d_w_next.F.kp T.d_w_next.b .nil pass0 (pa_cons (pv 0) (pa_cons (pe_callB (call_lenK (K := K) rfl) (by rfl) T.b_len (by decide +kernel) (pa_cons (pv 1) pa_nil)) pa_nil))) (fun _ _ => rfl))) (pe_slice sl_str (pv 4) (po_some (pv 3)) po_none)))
      (pss_cons (ps_set (i := 6) sc_w_bad_name.nd rfl (Or.inl rfl) (pe_lstA (pa_cons pe_str (pa_cons (pe_call (ok_w_letters T) (hr.mono (by decide)) (by rfl) T.d_w_letters.g T.d_w_letters.F.kp T.d_w_letters.b .nil pass0 (pa_cons (pv 0) (pa_cons (pe_op op_add pe_int (pe_call (ok_w_next T) (hr.mono (by decide)) (by rfl) T.d_w_next.g T.d_w_next.F.kp T.d_w_next.b .nil pass0 (pa_cons (pv 0) (pa_cons pe_int pa_nil)))) pa_nil))) (pa_cons pe_non (pa_cons pe_int (pa_cons pe_bl (pa_cons (pe_tupA (pa_cons pe_str pa_nil)) (pa_cons (pe_lstA (pa_cons pe_str pa_nil)) (pa_cons pe_dnewA (pa_cons (pe_makeK0 T.d_Style_init.mks (ok_Style_init T) (hr.mono (by decide)) (by rfl) T.c_Style.g (Classical.choose_spec (kb_Style_init_1_ T)) passLN pk_nil) pa_nil)))))))))))
      (pss_one (ps_ret (pe_ix (ix_listK (K := K) rfl) (pe_lstA (pa_cons (pv 5) (pa_cons (pe_ix (ix_listK (K := K) rfl) (pv 6) (pe_call (ok_w_next T) (hr.mono (by decide)) (by rfl) T.d_w_next.g T.d_w_next.F.kp T.d_w_next.b .nil pass0 (pa_cons (pv 0) (pa_cons (pe_callB (call_lenK (K := K) rfl) (by rfl) T.b_len (by decide +kernel) (pa_cons (pv 6) pa_nil)) pa_nil))) (fun _ _ => rfl)) pa_nil))) (pe_call (ok_w_next T) (hr.mono (by decide)) (by rfl) T.d_w_next.g T.d_w_next.F.kp T.d_w_next.b .nil pass0 (pa_cons (pv 0) (pa_cons pe_int pa_nil))) (fun _ _ => rfl)))))))))), ?_⟩
    tm_at "rzs"
    intro n1 H1 d1 l1 u1
    dsimp only [gName]
    tm_at "rzs"
    intro n2 H2 d2 l2 u2
    obtain ⟨m, rfl⟩ := Int.eq_ofNat_of_zero_le l2
    dsimp only [gName]
    tm_at "rzs"
    intro l H3 d3 ll lc
    dsimp only [gName]
    tm_at "rzs"
    refine ⟨by rw [sO_len, sizeLine_eq]; omega, ?_⟩
    rw [cutS_take]
    refine ⟨_, rfl, ?_⟩
    refine ⟨_, rfl, ?_⟩
    refine ⟨_, rfl, ?_⟩
    refine ⟨_, 45, rfl, ⟨by decide +kernel, by decide +kernel⟩, ?_⟩
    refine ⟨_, _, rfl, d3.s, (show (0 : Int) < 45 by decide), (show (45 : Int) < 2 ^ 64 by decide), fun n4 H4 d4 l4 u4 => ?_⟩
    have u4 : n4 < 45 := u4
    obtain ⟨c, hc, mc⟩ := at_some (xs := oddsL) l4 (by rw [odds_len]; exact u4)
    refine ⟨_, _, c, rfl, rfl, by decide +kernel, hc, ?_⟩
    refine ⟨_, _, rfl, rfl, by rw [sO_len, sizeLine_eq, List.length_take]; show min _ _ + 1 ≤ _; omega, ?_⟩
    rw [show (⟨#[c]⟩ : Str) = sO [c] from rfl, sO_append]
    tm_at "rzs"
    refine ⟨by rw [sO_len, sizeLine_eq]; omega, ?_⟩
    rw [cutS_drop _ _ (by omega)]
    refine ⟨_, _, rfl, rfl, by rw [sO_len, sO_len, sizeLine_eq, List.length_append, List.length_take, List.length_drop]; show min _ _ + 1 + _ ≤ _; omega, ?_⟩
    rw [sO_append]
    dsimp only [gName]
    tm_at "rzs"
    intro n5 H5 d5 l5 u5
    tm_at "rzs"
    intro l6 H6 d6 ll6 lc6
    tm_at "rzs"
    intro p7 H7 f7 s7 g7
    tm_at "rzs"
    intro p8 H8 f8 s8 g8
    tm_at "rzs"
    intro p9 H9 f9 s9 g9
    tm_at "rzs"
    have hs6 := d6.s
    have n7 := hs6.ne f7
    have n8 := (hs6.same s7).ne f8
    have n9 := (hs6.same (s7.trans s8)).ne f9
    intro x dx fx fdx nd
    have nx := (hs6.same ((s7.trans s8).trans s9)).ne fx
    refine mk_bat (fs := dfltL T.U_NO_RIMS) (dflt_fbl T.t_NO_RIMS) fx fdx nd fun Ha sa => ⟨fun _ gx => ?_, fun e => absurd e (by decide)⟩
    have sa9 := ((s7.trans s8).trans s9).trans sa
    tm_at "rzs"
    intro pb Hb fb sb gb
    have nb := (hs6.same sa9).ne fb
    have hsb := (hs6.same sa9).same sb
    dsimp only [gName]
    tm_at "rzs"
    refine ⟨(show (0 : Int) < 9 by decide), (show (9 : Int) < 2 ^ 64 by decide), ?_⟩
    intro nc Hc dc lc' uc
    have q7 := drop_dr dc _ _ (drop_at (sb _ _ (sa _ _ (s9 _ _ (s8 _ _ g7)))) (by simpa using n7))
    have q8 := drop_dr dc _ _ (drop_at (sb _ _ (sa _ _ (s9 _ _ g8))) (by simpa using n8))
    have q9 := drop_dr dc _ _ (drop_at (sb _ _ (sa _ _ g9)) (by simpa using n9))
    have qx := drop_dr dc _ _ (drop_at (sb _ _ gx) (by simpa using nx))
    have hj : ∀ y ∈ [sX "", V.str (sO l6), .non, .int 5, .bl true, .ref p7, .ref p8, .ref p9, (.ref x : V)], NmAt K (dropC [s] Hc) y false := fun y my => by
      simp only [List.mem_cons, List.not_mem_nil, or_false] at my
      rcases my with rfl | rfl | rfl | rfl | rfl | rfl | rfl | rfl | rfl
      · exact .inr ⟨[], by rw [← empty_eq], rfl, by decide⟩
      · exact .inr ⟨_, rfl, nmB_long (by omega), by omega⟩
      · exact .inl ⟨_, .non, by decide, rfl⟩
      · exact .inl ⟨_, .int _, by decide, rfl⟩
      · exact .inl ⟨_, .bl _, by decide, rfl⟩
      · exact .inl ⟨_, .tup q7, by decide, rfl⟩
      · exact .inl ⟨_, .lst q8, by decide, rfl⟩
      · exact .inl ⟨_, .dK q9, by decide, rfl⟩
      · exact .inl ⟨_, .ins qx (plStyle T), by decide, rfl⟩
    obtain ⟨v, hv, jv⟩ := pickA (P := fun y => NmAt K (dropC [s] Hc) y false) hj lc' uc
    refine ⟨_, _, _, _, rfl, rfl, sqL (dc.app nb gb), hv, ?_⟩
    tm_at "rzs"
    intro pe He fe se ge
    have ne := dc.s.ne fe
    tm_at "rzs"
    intro nf Hf df lf uf
    have Df := (drop_same (ps := [s]) se).trans (drop_dr df)
    have hj2 : ∀ y ∈ [V.str (sO (l.take m ++ [c] ++ l.drop m)), v], NmAt K (dropC [s] Hf) y false := fun y my => by
      simp only [List.mem_cons, List.not_mem_nil, or_false] at my
      rcases my with rfl | rfl
      · exact .inr ⟨_, rfl, nmB_odd (odds_no c mc), by rw [List.length_append, List.length_append, List.length_take, List.length_drop]; show min _ _ + 1 + _ ≤ _; omega⟩
      · exact jv.keep (Same.keep Df)
    obtain ⟨v2, hv2, jv2⟩ := pickA (P := fun y => NmAt K (dropC [s] Hf) y false) hj2 lf uf
    refine ⟨_, _, _, _, rfl, rfl, sqL (df.app ne ge), hv2, ?_⟩
    exact k v2 Hf ((((((((d1.trans d2).trans d3).trans d4).trans d5).trans d6).same (sa9.trans sb)).trans dc).same se |>.trans df) jv2
end
end My
namespace My
open PySem PySem.Spec PyProof.Rows L2
section
variable {P : Program} {w : World} {K : PySem.W.Frag} {mg : Str → Option Value} {base : Heap}
def sp_w_bad_number (K : PySem.W.Frag) : Sp := fun vs H Q _ => ∃ (s : Addr) (m : Int), vs = [.ref s, .int m] ∧ Src H s ∧ ∀ (v : V) H', Dr s H H' → (∃ t, Ty9 K (dropC [s] H') v t) → (∀ i : Int, v = .int i → i < m) → Q v H'
theorem ok_w_bad_number (T : Tx w K mg) : FnOk P w K mg base CX0 6 T.d_w_bad_number.f T.d_w_bad_number.fd ["_law_source_here", "_law_least"] (sp_w_bad_number K) := by
  refine T.d_w_bad_number.F.ok sc_w_bad_number (fun vs H Q E h => ?_) (fun cdv A outer s H vs Q E hr h => ?_)
  · obtain ⟨s, m, rfl, _⟩ := h
    rfl
  · obtain ⟨s, m, rfl, hs, k⟩ := h
    refine ⟨_, (pss_cons (ps_set (i := 2) sc_w_bad_number.nd rfl (Or.inl rfl) (pe_lstA (pa_cons pe_bl (pa_cons pe_bl (pa_cons pe_non (pa_cons pe_str (pa_cons pe_str (pa_cons (pe_tupA (pa_cons pe_int pa_nil)) (pa_cons (pe_lstA (pa_cons pe_int pa_nil)) (pa_cons pe_dnewA (pa_cons (pe_op op_sub (pv 1) pe_int) (pa_cons (pe_op op_sub (pe_op op_sub (pv 1) pe_int) (pe_call (ok_w_number T) (hr.mono (by decide)) (by rfl) T.d_w_number.g T.d_w_number.F.kp T.d_w_number.b .nil pass0 (pa_cons (pv 0) pa_nil))) (pa_cons (pe_makeK0 T.d_Style_init.mks (ok_Style_init T) (hr.mono (by decide)) (by rfl) T.c_Style.g (Classical.choose_spec (kb_Style_init_1_ T)) passLN pk_nil) pa_nil)))))))))))))
      (pss_one (ps_ret (pe_ix (ix_listK (K := K) rfl) (pv 2) (pe_call (ok_w_next T) (hr.mono (by decide)) (by rfl) T.d_w_next.g T.d_w_next.F.kp T.d_w_next.b .nil pass0 (pa_cons (pv 0) (pa_cons (pe_callB (call_lenK (K := K) rfl) (by rfl) T.b_len (by decide +kernel) (pa_cons (pv 2) pa_nil)) pa_nil))) (fun _ _ => rfl))))), ?_⟩
    tm_at "rzs"
    intro p3 H3 f3 s3 g3
    tm_at "rzs"
    intro p4 H4 f4 s4 g4
    tm_at "rzs"
    intro p5 H5 f5 s5 g5
    tm_at "rzs"
    have n3 := hs.ne f3
    have n4 := (hs.same s3).ne f4
    have n5 := (hs.same (s3.trans s4)).ne f5
    have hs5 := hs.same ((s3.trans s4).trans s5)
    intro n6 H6 d6 u6
    tm_at "rzs"
    intro x dx fx fdx nd
    have nx := d6.s.ne fx
    refine mk_bat (fs := dfltL T.U_NO_RIMS) (dflt_fbl T.t_NO_RIMS) fx fdx nd fun H7 s7 => ⟨fun _ gx => ?_, fun e => absurd e (by decide)⟩
    tm_at "rzs"
    intro p8 H8 f8 s8 g8
    have np8 : p8 ≠ s := (d6.s.same s7).ne f8
    have hs8 := (d6.s.same s7).same s8
    dsimp only [gName]
    tm_at "rzs"
    refine ⟨(show (0 : Int) < 11 by decide), (show (11 : Int) < 2 ^ 64 by decide), ?_⟩
    intro n9 H9 d9 l9 u9
    have D5 : Same (dropC [s] H5) (dropC [s] H9) := (((drop_dr d6).trans (drop_same (s7.trans s8))).trans (drop_dr d9))
    have q3 := D5 _ _ (drop_at (s5 _ _ (s4 _ _ g3)) (by simpa using n3))
    have q4 := D5 _ _ (drop_at (s5 _ _ g4) (by simpa using n4))
    have q5 := D5 _ _ (drop_at g5 (by simpa using n5))
    have qx := ((drop_same (s8)).trans (drop_dr d9)) _ _ (drop_at gx (by simpa using nx))
    have hj : ∀ y ∈ [V.bl true, .bl false, .non, sX "3", sX "", .ref p3, .ref p4, .ref p5, .int (m - 1), .int (m - 1 - (n6 : Int)), (.ref x : V)], (∃ t, Ty9 K (dropC [s] H9) y t) ∧ ∀ i : Int, y = .int i → i < m := fun y my => by
      simp only [List.mem_cons, List.not_mem_nil, or_false] at my
      rcases my with rfl | rfl | rfl | rfl | rfl | rfl | rfl | rfl | rfl | rfl | rfl
      · exact ⟨⟨_, .bl _⟩, fun i e => by cases e⟩
      · exact ⟨⟨_, .bl _⟩, fun i e => by cases e⟩
      · exact ⟨⟨_, .non⟩, fun i e => by cases e⟩
      · exact ⟨⟨_, .str _⟩, fun i e => by cases e⟩
      · exact ⟨⟨_, .str _⟩, fun i e => by cases e⟩
      · exact ⟨⟨_, .tup q3⟩, fun i e => by cases e⟩
      · exact ⟨⟨_, .lst q4⟩, fun i e => by cases e⟩
      · exact ⟨⟨_, .dK q5⟩, fun i e => by cases e⟩
      · exact ⟨⟨_, .int _⟩, fun i e => by cases e; omega⟩
      · exact ⟨⟨_, .int _⟩, fun i e => by cases e; omega⟩
      · exact ⟨⟨_, .ins qx (plStyle T)⟩, fun i e => by cases e⟩
    obtain ⟨v, hv, jv, ji⟩ := pickA (P := fun y => (∃ t, Ty9 K (dropC [s] H9) y t) ∧ ∀ i : Int, y = .int i → i < m) hj l9 u9
    refine ⟨_, _, _, _, rfl, rfl, sqL (d9.app np8 g8), hv, ?_⟩
    exact k v H9 (((Dr.of hs ((s3.trans s4).trans s5)).trans d6).same (s7.trans s8) |>.trans d9) jv ji
end
end My
namespace My
open PySem PySem.Spec PyProof.Rows L2
section
variable {P : Program} {w : World} {K : PySem.W.Frag} {mg : Str → Option Value} {base : Heap}
def sp_w_bad_boxes (K : PySem.W.Frag) (S W : Addr) : Sp := fun vs H Q _ => ∃ (s p : Addr) (c : Nat) (xs : List V) (bs : List Bool), vs = [.ref s, .ref p] ∧ Src H s ∧ p ≠ s ∧ H p = some (.lst xs) ∧ ItBs K S W (dropC [s] H) xs bs ∧ xs.length ≤ 9 ∧
  ∀ (v : V) H', Dr s H H' → ValR K S W c (dropC [s] H') v false .boxes → Q v H'
theorem ok_w_bad_boxes (T : Tx w K mg) : FnOk P w K mg base CX0 9 T.d_w_bad_boxes.f T.d_w_bad_boxes.fd ["_law_source_here", "_law_good_here"] (sp_w_bad_boxes K T.c_Style.C T.c_Words.C) := by
  refine T.d_w_bad_boxes.F.ok sc_w_bad_boxes (fun vs H Q E h => ?_) (fun cdv A outer s H vs Q E hr h => ?_)
  · obtain ⟨s, p, c, xs, bs, rfl, _⟩ := h
    rfl
  · obtain ⟨s, p, c, xs, bs, rfl, hs, np, hp, hb, hl, k⟩ := h
    refine ⟨_, (pss_cons (ps_set (i := 2) sc_w_bad_boxes.nd rfl (Or.inl rfl) (pe_ix (ix_listK (K := K) rfl) (pe_lstA (pa_cons pe_non (pa_cons pe_int (pa_cons pe_bl (pa_cons pe_str (pa_cons (pe_makeK0 T.d_Style_init.mks (ok_Style_init T) (hr.mono (by decide)) (by rfl) T.c_Style.g (Classical.choose_spec (kb_Style_init_1_ T)) passLN pk_nil) (pa_cons (pe_lstA pa_nil) (pa_cons (pe_tupA pa_nil) (pa_cons (pe_lstA (pa_cons pe_str pa_nil)) pa_nil))))))))) (pe_call (ok_w_next T) (hr.mono (by decide)) (by rfl) T.d_w_next.g T.d_w_next.F.kp T.d_w_next.b .nil pass0 (pa_cons (pv 0) (pa_cons pe_int pa_nil))) (fun _ _ => rfl)))
      (pss_cons (ps_set (i := 3) sc_w_bad_boxes.nd rfl (Or.inl rfl) (pe_call (ok_w_next T) (hr.mono (by decide)) (by rfl) T.d_w_next.g T.d_w_next.F.kp T.d_w_next.b .nil pass0 (pa_cons (pv 0) (pa_cons (pe_op op_add (pe_callB (call_lenK (K := K) rfl) (by rfl) T.b_len (by decide +kernel) (pa_cons (pv 1) pa_nil)) pe_int) pa_nil))))
      (pss_cons (ps_set (i := 4) sc_w_bad_boxes.nd rfl (Or.inl rfl) (pe_lstA (pa_cons (pe_callTy (call_tupLK (K := K) rfl) (by rfl) T.b_tuple (by decide +kernel) (pa_cons (pv 1) pa_nil)) (pa_cons pe_non (pa_cons pe_int (pa_cons pe_bl (pa_cons pe_str (pa_cons pe_str (pa_cons pe_dnewA (pa_cons (pe_make T.d_Words_init.mks (ok_Words_init T) (hr.mono (by decide)) (by rfl) T.c_Words.g (Classical.choose_spec (bx_Words_init T)).2 (Classical.choose_spec (bx_Words_init T)).1 passLN (pa_cons pe_str (pa_cons pe_str pa_nil))) (pa_cons (pe_makeK0 T.d_Style_init.mks (ok_Style_init T) (hr.mono (by decide)) (by rfl) T.c_Style.g (Classical.choose_spec (kb_Style_init_1_ T)) passLN pk_nil) pa_nil)))))))))))
      (pss_one (ps_ret (pe_ix (ix_listK (K := K) rfl) (pe_lstA (pa_cons (pe_op (op_catK (K := K) rfl) (pe_op (op_catK (K := K) rfl) (pe_slice (sl_listK (K := K) rfl) (pv 1) po_none (po_some (pv 3))) (pe_lstA (pa_cons (pv 2) pa_nil))) (pe_slice (sl_listK (K := K) rfl) (pv 1) (po_some (pv 3)) po_none)) (pa_cons (pe_ix (ix_listK (K := K) rfl) (pv 4) (pe_call (ok_w_next T) (hr.mono (by decide)) (by rfl) T.d_w_next.g T.d_w_next.F.kp T.d_w_next.b .nil pass0 (pa_cons (pv 0) (pa_cons (pe_callB (call_lenK (K := K) rfl) (by rfl) T.b_len (by decide +kernel) (pa_cons (pv 4) pa_nil)) pa_nil))) (fun _ _ => rfl)) pa_nil))) (pe_call (ok_w_next T) (hr.mono (by decide)) (by rfl) T.d_w_next.g T.d_w_next.F.kp T.d_w_next.b .nil pass0 (pa_cons (pv 0) (pa_cons pe_int pa_nil))) (fun _ _ => rfl))))))), ?_⟩
    tm_at "rzs"
    intro x dx fx fdx nd
    have nx := hs.ne fx
    refine mk_bat (fs := dfltL T.U_NO_RIMS) (dflt_fbl T.t_NO_RIMS) fx fdx nd fun H1 s1 => ⟨fun _ gx => ?_, fun e => absurd e (by decide)⟩
    tm_at "rzs"
    intro p2 H2 f2 s2 g2
    tm_at "rzs"
    intro p3 H3 f3 s3 g3
    tm_at "rzs"
    intro p4 H4 f4 s4 g4
    tm_at "rzs"
    intro p5 H5 f5 s5 g5
    tm_at "rzs"
    intro n6 H6 d6 l6 u6
    have s05 := ((s1.trans s2).trans s3).trans (s4.trans s5)
    have n2 := (hs.same s1).ne f2
    have n3 := (hs.same (s1.trans s2)).ne f3
    have n4 := (hs.same ((s1.trans s2).trans s3)).ne f4
    have n5 := (hs.same (((s1.trans s2).trans s3).trans s4)).ne f5
    have q1 := drop_dr d6 _ _ (drop_at (s5 _ _ (s4 _ _ (s3 _ _ (s2 _ _ gx)))) (by simpa using nx))
    have q2 := drop_dr d6 _ _ (drop_at (s5 _ _ (s4 _ _ (s3 _ _ g2))) (by simpa using n2))
    have q3 := drop_dr d6 _ _ (drop_at (s5 _ _ (s4 _ _ g3)) (by simpa using n3))
    have q4 := drop_dr d6 _ _ (drop_at (s5 _ _ g4) (by simpa using n4))
    have hj : ∀ y ∈ [V.non, .int 5, .bl true, sX "a", (.ref x : V), .ref p2, .ref p3, .ref p4], ItB K T.c_Style.C T.c_Words.C (dropC [s] H6) y false := fun y my => by
      simp only [List.mem_cons, List.not_mem_nil, or_false] at my
      rcases my with rfl | rfl | rfl | rfl | rfl | rfl | rfl | rfl
      · exact .inr ⟨rfl, .inl ⟨_, .non⟩⟩
      · exact .inr ⟨rfl, .inl ⟨_, .int _⟩⟩
      · exact .inr ⟨rfl, .inl ⟨_, .bl _⟩⟩
      · exact .inr ⟨rfl, .inl ⟨_, .str _⟩⟩
      · exact .inr ⟨rfl, .inr ⟨_, _, _, rfl, q1⟩⟩
      · exact .inr ⟨rfl, .inl ⟨_, .lst q2⟩⟩
      · exact .inr ⟨rfl, .inl ⟨_, .tup q3⟩⟩
      · exact .inr ⟨rfl, .inl ⟨_, .lst q4⟩⟩
    obtain ⟨v, hv, jv⟩ := pickA (P := fun y => ItB K T.c_Style.C T.c_Words.C (dropC [s] H6) y false) hj l6 u6
    refine ⟨_, _, _, _, rfl, rfl, sqL (d6.app n5 g5), hv, ?_⟩
    have d06 := (Dr.of hs s05).trans d6
    have gp6 := d06.app np hp
    have hb6 := hb.same (drop_dr d06)
    clear hj q1 q2 q3 q4 g2 g3 g4 gx
    dsimp only [gName]
    iterate 4 (try tm_at "rd")
    refine ⟨_, _, rfl, d06.s, (show (0 : Int) < (xs.length : Int) + 1 by omega), (show (xs.length : Int) + 1 < 2 ^ 64 by omega), fun n7 H7 d7 l7 u7 => ?_⟩
    obtain ⟨m, rfl⟩ := Int.eq_ofNat_of_zero_le l7
    dsimp only [gName]
    have gp7 := d7.app np gp6
    have hb7 := hb6.same (drop_dr d7)
    have jv7 := jv.same (drop_dr d7)
    have d07 := d06.trans d7
    have hs7 := d07.s
    tm_at "rzs"
    refine ⟨p, xs, rfl, sqL gp7, fun p8 H8 f8 s8 g8 => ?_⟩
    tm_at "rzs"
    intro p9 H9 f9 s9 g9
    tm_at "rzs"
    intro xw dxw fxw fdxw ndw
    refine mk_words (n := sX "a") (t := sX "b") (.inr ⟨[97], by decide +kernel, by decide +kernel, by decide⟩) ⟨_, rfl⟩ fxw fdxw ndw fun fa Ha sa ga => ?_
    tm_at "rzs"
    intro xb db fxb fdb nb
    refine mk_bat (fs := dfltL T.U_NO_RIMS) (dflt_fbl T.t_NO_RIMS) fxb fdb nb fun Hb sb => ⟨fun _ gb => ?_, fun e => absurd e (by decide)⟩
    tm_at "rzs"
    intro pc Hc fc sc gc
    dsimp only [gName]
    tm_at "rzs"
    have s7b := ((s8.trans s9).trans sa).trans sb
    have s7c := s7b.trans sc
    have gpc := s7c _ _ gp7
    refine ⟨p, xs, rfl, sqL gpc, ?_⟩
    intro pd Hd fd sd gd
    tm_at "rzs"
    intro pe He fe se ge
    refine ⟨pd, pe, _, _, rfl, rfl, se _ _ gd, ge, (by rw [sizeLine_eq, cutV_take]; simp only [List.length_append, List.length_cons, List.length_nil, List.length_take]; omega), fun pf Hf ff sf gf => ?_⟩
    have scf := (sd.trans se).trans sf
    tm_at "rzs"
    refine ⟨p, xs, rfl, sqL (scf _ _ gpc), ?_⟩
    intro pg Hg fg sg gg
    rw [cutV_take] at gf
    rw [cutV_drop] at gg
    refine ⟨pf, pg, _, _, rfl, rfl, sg _ _ gf, gg, (by rw [sizeLine_eq]; simp only [List.length_append, List.length_cons, List.length_nil, List.length_take, List.length_drop]; omega), fun ph Hh fh sh gh => ?_⟩
    have sch := scf.trans (sg.trans sh)
    tm_at "rzs"
    have npc : pc ≠ s := (hs7.same s7b).ne fc
    have hsh := hs7.same (s7c.trans sch)
    refine ⟨(show (0 : Int) < 9 by decide), (show (9 : Int) < 2 ^ 64 by decide), ?_⟩
    intro ni Hi di li ui
    have n8 := hs7.ne f8
    have n9 := (hs7.same s8).ne f9
    have nxw := (hs7.same (s8.trans s9)).ne fxw
    have nxb := (hs7.same ((s8.trans s9).trans sa)).ne fxb
    have nph : ph ≠ s := (hs7.same (s7c.trans (scf.trans sg))).ne fh
    have di' := drop_dr di
    have q8 := di' _ _ (drop_at (sch _ _ (sc _ _ (sb _ _ (sa _ _ (s9 _ _ g8))))) (by simpa using n8))
    have q9 := di' _ _ (drop_at (sch _ _ (sc _ _ (sb _ _ (sa _ _ g9)))) (by simpa using n9))
    have qw := di' _ _ (drop_at (sch _ _ (sc _ _ (sb _ _ ga))) (by simpa using nxw))
    have qx := di' _ _ (drop_at (sch _ _ (sc _ _ gb)) (by simpa using nxb))
    have hj : ∀ y ∈ [V.ref p8, .non, .int 5, .bl true, sX "", sX "boxes", .ref p9, (.ref xw : V), .ref xb], ValR K T.c_Style.C T.c_Words.C c (dropC [s] Hi) y false .boxes := fun y my => by
      simp only [List.mem_cons, List.not_mem_nil, or_false] at my
      rcases my with rfl | rfl | rfl | rfl | rfl | rfl | rfl | rfl | rfl
      · exact .inl ⟨_, .tup q8, by decide, rfl⟩
      · exact .inl ⟨_, .non, by decide, rfl⟩
      · exact .inl ⟨_, .int _, by decide, rfl⟩
      · exact .inl ⟨_, .bl _, by decide, rfl⟩
      · exact .inl ⟨_, .str _, by decide, rfl⟩
      · exact .inl ⟨_, .str _, by decide, rfl⟩
      · exact .inl ⟨_, .dK q9, by decide, rfl⟩
      · exact .inl ⟨_, .ins qw (plWords T), by decide, rfl⟩
      · exact .inl ⟨_, .ins qx (plStyle T), by decide, rfl⟩
    obtain ⟨v2, hv2, jv2⟩ := pickA (P := fun y => ValR K T.c_Style.C T.c_Words.C c (dropC [s] Hi) y false .boxes) hj li ui
    refine ⟨_, _, _, _, rfl, rfl, sqL (di.app npc (sch _ _ gc)), hv2, ?_⟩
    tm_at "rzs"
    intro pj Hj fj sj gj
    have npj : pj ≠ s := di.s.ne fj
    tm_at "rzs"
    intro nk Hk dk lk uk
    have sik := (drop_same (ps := [s]) sj).trans (drop_dr dk)
    have s7k := ((drop_same (ps := [s]) (s7c.trans sch)).trans di').trans sik
    have qh := sik _ _ (di' _ _ (drop_at gh (by simpa using nph)))
    have hbk := itbs_put (hb7.same s7k) (jv7.same s7k) m
    have one : ValR K T.c_Style.C T.c_Words.C c (dropC [s] Hk) (.ref ph) false .boxes := .inr ⟨ph, _, _, rfl, qh, (by simp only [List.length_append, List.length_cons, List.length_nil, List.length_take, List.length_drop]; omega), hbk, (by rw [List.all_append, List.all_append, List.all_cons]; simp), fun e => by cases e⟩
    have hj2 : ∀ y ∈ [V.ref ph, v2], ValR K T.c_Style.C T.c_Words.C c (dropC [s] Hk) y false .boxes := fun y my => by
      simp only [List.mem_cons, List.not_mem_nil, or_false] at my
      rcases my with rfl | rfl
      · exact one
      · exact jv2.same sik
    obtain ⟨v3, hv3, jv3⟩ := pickA (P := fun y => ValR K T.c_Style.C T.c_Words.C c (dropC [s] Hk) y false .boxes) hj2 lk uk
    refine ⟨_, _, _, _, rfl, rfl, sqL (dk.app npj gj), hv3, ?_⟩
    exact k v3 Hk ((((d07.same (s7c.trans sch)).trans di).same sj).trans dk) jv3
end
end My
namespace My
open PySem PySem.Spec PyProof.Rows L2
section
variable {P : Program} {w : World} {K : PySem.W.Frag} {mg : Str → Option Value} {base : Heap}
def sp_w_bad_word : Sp := fun vs H Q _ => ∃ (s p : Addr) (ws : List String), vs = [.ref s, .ref p] ∧ Src H s ∧ p ≠ s ∧ H p = some (.lst (ws.map sX)) ∧ (ws = ["start", "end", "middle", "between"] ∨ ws = ["start", "end", "middle", "stretch", "base"]) ∧
  ∀ (v : V) H', Dr s H H' → (∃ t, Ty7 (dropC [s] H') v t) → isSt (ws.map Str.ofString) v = false → Q v H'
theorem word_no {ws : List String} {z : String} (h : ws = ["start", "end", "middle", "between"] ∨ ws = ["start", "end", "middle", "stretch", "base"]) (m : z ∈ ws) : (Str.ofString z).length ≤ 7 ∧ isSt (ws.map Str.ofString) (.str (Str.ofString z ++ Str.ofString " ")) = false ∧ isSt (ws.map Str.ofString) (.str (Txt.upper (Str.ofString z))) = false ∧ isSt (ws.map Str.ofString) (.str (cutS (Str.ofString z) none (some (-1)))) = false ∧ isSt (ws.map Str.ofString) (.str (Str.ofString z ++ Str.ofString "s")) = false := by
  rcases h with rfl | rfl
  · simp only [List.mem_cons, List.not_mem_nil, or_false] at m
    rcases m with rfl | rfl | rfl | rfl <;> decide +kernel
  · simp only [List.mem_cons, List.not_mem_nil, or_false] at m
    rcases m with rfl | rfl | rfl | rfl | rfl <;> decide +kernel
theorem ok_w_bad_word (T : Tx w K mg) : FnOk P w K mg base CX0 3 T.d_w_bad_word.f T.d_w_bad_word.fd ["_law_source_here", "_law_words"] (sp_w_bad_word) := by
  refine T.d_w_bad_word.F.ok sc_w_bad_word (fun vs H Q E h => ?_) (fun cdv A outer s H vs Q E hr h => ?_)
  · obtain ⟨s, p, ws, rfl, _⟩ := h
    rfl
  · obtain ⟨s, p, ws, rfl, hs, np, hp, hw, k⟩ := h
    refine ⟨_, (pss_cons (ps_set (i := 2) sc_w_bad_word.nd rfl (Or.inl rfl) (pe_ix (ix_listK (K := K) rfl) (pv 1) (pe_call (ok_w_next T) (hr.mono (by decide)) (by rfl) T.d_w_next.g T.d_w_next.F.kp T.d_w_next.b .nil pass0 (pa_cons (pv 0) (pa_cons (pe_callB (call_lenK (K := K) rfl) (by rfl) T.b_len (by decide +kernel) (pa_cons (pv 1) pa_nil)) pa_nil))) (fun _ _ => rfl)))
      (pss_cons (ps_set (i := 3) sc_w_bad_word.nd rfl (Or.inl rfl) (pe_lstA (pa_cons pe_str (pa_cons (pe_op op_add_str (pv 2) pe_str) (pa_cons (pe_upper (pv 2)) (pa_cons (pe_slice sl_str (pv 2) po_none (po_some (pe_un un_neg pe_int))) (pa_cons (pe_op op_add_str (pv 2) pe_str) (pa_cons pe_str (pa_cons (pe_tupA (pa_cons (pv 2) pa_nil)) (pa_cons (pe_lstA (pa_cons (pv 2) pa_nil)) (pa_cons pe_non (pa_cons pe_int (pa_cons pe_int (pa_cons pe_bl (pa_cons pe_bl pa_nil)))))))))))))))
      (pss_one (ps_ret (pe_ix (ix_listK (K := K) rfl) (pv 3) (pe_call (ok_w_next T) (hr.mono (by decide)) (by rfl) T.d_w_next.g T.d_w_next.F.kp T.d_w_next.b .nil pass0 (pa_cons (pv 0) (pa_cons (pe_callB (call_lenK (K := K) rfl) (by rfl) T.b_len (by decide +kernel) (pa_cons (pv 3) pa_nil)) pa_nil))) (fun _ _ => rfl)))))), ?_⟩
    tm_at "rzs"
    have lw : 0 < ws.length ∧ ws.length ≤ 5 := by rcases hw with rfl | rfl <;> decide
    have e0 : ∀ v, v ∈ [sX "", sX "center", .non, .int 0, .int 1, .bl true, .bl false] → isSt (ws.map Str.ofString) v = false := fun v m => by
      simp only [List.mem_cons, List.not_mem_nil, or_false] at m
      rcases hw with rfl | rfl <;> rcases m with rfl | rfl | rfl | rfl | rfl | rfl | rfl <;> decide +kernel
    refine ⟨by rw [List.length_map]; omega, by rw [List.length_map]; omega, ?_⟩
    intro n2 H2 d2 l2 u2
    rw [List.length_map] at u2
    obtain ⟨z', hx, mz0⟩ := at_some (xs := ws.map sX) l2 (by rw [List.length_map]; exact u2)
    obtain ⟨z, mz, rfl⟩ := List.mem_map.mp mz0
    refine ⟨_, _, _, _, rfl, rfl, sqL (d2.app np hp), hx, ?_⟩
    obtain ⟨hz, t1, t3, t4, t5⟩ := word_no hw mz
    dsimp only [gName]
    tm_at "rzs"
    have b1 : (Str.ofString " ").length = 1 := by decide +kernel
    have b2 : (Str.ofString "s").length = 1 := by decide +kernel
    have big : 9 ≤ sizeLine := Nat.le_of_ble_eq_true rfl
    refine ⟨by omega, ?_⟩
    tm_at "rzs"
    refine ⟨⟨_, rfl⟩, _, rfl, rfl, by omega, ?_⟩
    tm_at "rzs"
    intro p3 H3 f3 s3 g3
    tm_at "rzs"
    intro p4 H4 f4 s4 g4
    tm_at "rzs"
    intro p5 H5 f5 s5 g5
    have n3 := d2.s.ne f3
    have n4 := (d2.s.same s3).ne f4
    have n5 := (d2.s.same (s3.trans s4)).ne f5
    have hs5 := d2.s.same ((s3.trans s4).trans s5)
    dsimp only [gName]
    tm_at "rzs"
    refine ⟨(show (0 : Int) < 13 by decide), (show (13 : Int) < 2 ^ 64 by decide), ?_⟩
    intro n6 H6 d6 l6 u6
    have q3 := drop_dr d6 _ _ (drop_at (s5 _ _ (s4 _ _ g3)) (by simpa using n3))
    have q4 := drop_dr d6 _ _ (drop_at (s5 _ _ g4) (by simpa using n4))
    have hj : ∀ y ∈ [sX "", V.str (Str.ofString z ++ Str.ofString " "), .str (Txt.upper (Str.ofString z)), .str (cutS (Str.ofString z) none (some (-1))), .str (Str.ofString z ++ Str.ofString "s"), sX "center", .ref p3, .ref p4, .non, .int 0, .int 1, .bl true, .bl false], (∃ t, Ty7 (dropC [s] H6) y t) ∧ isSt (ws.map Str.ofString) y = false := fun y my => by
      simp only [List.mem_cons, List.not_mem_nil, or_false] at my
      rcases my with rfl | rfl | rfl | rfl | rfl | rfl | rfl | rfl | rfl | rfl | rfl | rfl | rfl
      · exact ⟨⟨_, .str _⟩, e0 _ (by simp)⟩
      · exact ⟨⟨_, .str _⟩, t1⟩
      · exact ⟨⟨_, .str _⟩, t3⟩
      · exact ⟨⟨_, .str _⟩, t4⟩
      · exact ⟨⟨_, .str _⟩, t5⟩
      · exact ⟨⟨_, .str _⟩, e0 _ (by simp)⟩
      · exact ⟨⟨_, .tup q3⟩, rfl⟩
      · exact ⟨⟨_, .lst q4⟩, rfl⟩
      · exact ⟨⟨_, .non⟩, rfl⟩
      · exact ⟨⟨_, .int _⟩, rfl⟩
      · exact ⟨⟨_, .int _⟩, rfl⟩
      · exact ⟨⟨_, .bl _⟩, rfl⟩
      · exact ⟨⟨_, .bl _⟩, rfl⟩
    obtain ⟨v, hv, jv, ji⟩ := pickA (P := fun y => (∃ t, Ty7 (dropC [s] H6) y t) ∧ isSt (ws.map Str.ofString) y = false) hj l6 u6
    refine ⟨_, _, _, _, rfl, rfl, sqL (d6.app n5 g5), hv, ?_⟩
    exact k v H6 ((d2.same ((s3.trans s4).trans s5)).trans d6) jv ji
end
end My
namespace My
open PySem PySem.Spec PyProof.Rows L2
section
variable {P : Program} {w : World} {K : PySem.W.Frag} {mg : Str → Option Value} {base : Heap}
def sp_w_bad_tracks (K : PySem.W.Frag) (S W : Addr) : Sp := fun vs H Q _ => ∃ (s p : Addr) (c : Nat) (xs : List V) (ds : List PyData), vs = [.ref s, .ref p] ∧ Src H s ∧ p ≠ s ∧ H p = some (.lst xs) ∧ ItsAt (dropC [s] H) xs ds ∧ (∀ d ∈ ds, fineE d = true) ∧ xs.length ≤ 9 ∧
  ∀ (v : V) H', Dr s H H' → ValR K S W c (dropC [s] H') v false .tracks → Q v H'
theorem ok_w_bad_tracks (T : Tx w K mg) : FnOk P w K mg base CX0 3 T.d_w_bad_tracks.f T.d_w_bad_tracks.fd ["_law_source_here", "_law_good_here"] (sp_w_bad_tracks K T.c_Style.C T.c_Words.C) := by
  refine T.d_w_bad_tracks.F.ok sc_w_bad_tracks (fun vs H Q E h => ?_) (fun cdv A outer s H vs Q E hr h => ?_)
  · obtain ⟨s, p, c, xs, ds, rfl, _⟩ := h
    rfl
  · obtain ⟨s, p, c, xs, ds, rfl, hs, np, hp, hi, hf, hl, k⟩ := h
    refine ⟨_, (pss_cons (ps_set (i := 2) sc_w_bad_tracks.nd rfl (Or.inl rfl) (pe_call (ok_w_next T) (hr.mono (by decide)) (by rfl) T.d_w_next.g T.d_w_next.F.kp T.d_w_next.b .nil pass0 (pa_cons (pv 0) (pa_cons (pe_op op_add (pe_callB (call_lenK (K := K) rfl) (by rfl) T.b_len (by decide +kernel) (pa_cons (pv 1) pa_nil)) pe_int) pa_nil))))
      (pss_cons (ps_set (i := 3) sc_w_bad_tracks.nd rfl (Or.inl rfl) (pe_lstA (pa_cons pe_bl (pa_cons pe_non (pa_cons (pe_un un_neg pe_int) (pa_cons pe_str (pa_cons pe_str (pa_cons pe_str (pa_cons (pe_tupA (pa_cons pe_str (pa_cons pe_int pa_nil))) (pa_cons (pe_tupA (pa_cons pe_str (pa_cons (pe_un un_neg pe_int) pa_nil))) (pa_cons (pe_tupA (pa_cons pe_str (pa_cons pe_bl pa_nil))) (pa_cons (pe_tupA (pa_cons pe_str pa_nil)) pa_nil))))))))))))
      (pss_cons (ps_set (i := 3) sc_w_bad_tracks.nd rfl (Or.inl rfl) (pe_op (op_catK (K := K) rfl) (pv 3) (pe_lstA (pa_cons (pe_tupA (pa_cons pe_str (pa_cons pe_int (pa_cons pe_int pa_nil)))) (pa_cons (pe_lstA (pa_cons pe_str (pa_cons pe_int pa_nil))) (pa_cons (pe_tupA (pa_cons pe_str pa_nil)) (pa_cons (pe_tupA (pa_cons pe_str (pa_cons pe_int pa_nil))) (pa_cons (pe_tupA (pa_cons pe_int (pa_cons pe_str pa_nil))) (pa_cons pe_str (pa_cons (pe_tupA (pa_cons pe_str (pa_cons pe_str pa_nil))) pa_nil))))))))))
      (pss_cons (ps_set (i := 4) sc_w_bad_tracks.nd rfl (Or.inl rfl) (pe_op (op_catK (K := K) rfl) (pe_op (op_catK (K := K) rfl) (pe_slice (sl_listK (K := K) rfl) (pv 1) po_none (po_some (pv 2))) (pe_lstA (pa_cons (pe_ix (ix_listK (K := K) rfl) (pv 3) (pe_call (ok_w_next T) (hr.mono (by decide)) (by rfl) T.d_w_next.g T.d_w_next.F.kp T.d_w_next.b .nil pass0 (pa_cons (pv 0) (pa_cons (pe_callB (call_lenK (K := K) rfl) (by rfl) T.b_len (by decide +kernel) (pa_cons (pv 3) pa_nil)) pa_nil))) (fun _ _ => rfl)) pa_nil))) (pe_slice (sl_listK (K := K) rfl) (pv 1) (po_some (pv 2)) po_none)))
      (pss_one (ps_ret (pe_ix (ix_listK (K := K) rfl) (pe_lstA (pa_cons (pv 4) (pa_cons (pv 4) (pa_cons (pv 4) (pa_cons (pe_lstA pa_nil) (pa_cons (pe_callTy (call_tupLK (K := K) rfl) (by rfl) T.b_tuple (by decide +kernel) (pa_cons (pv 1) pa_nil)) (pa_cons pe_non (pa_cons pe_str (pa_cons pe_int (pa_cons pe_dnewA pa_nil)))))))))) (pe_call (ok_w_next T) (hr.mono (by decide)) (by rfl) T.d_w_next.g T.d_w_next.F.kp T.d_w_next.b .nil pass0 (pa_cons (pv 0) (pa_cons pe_int pa_nil))) (fun _ _ => rfl)))))))), ?_⟩
    tm_at "rzs"
    intro n1 H1 d1 l1 u1
    obtain ⟨m, rfl⟩ := Int.eq_ofNat_of_zero_le l1
    dsimp only [gName]
    tm_at "rzs"
    intro p2 H2 f2 s2 g2
    tm_at "rzs"
    intro p3 H3 f3 s3 g3
    tm_at "rzs"
    intro p4 H4 f4 s4 g4
    tm_at "rzs"
    intro p5 H5 f5 s5 g5
    tm_at "rzs"
    intro p6 H6 f6 s6 g6
    dsimp only [gName]
    tm_at "rzs"
    intro p7 H7 f7 s7 g7
    tm_at "rzs"
    intro p8 H8 f8 s8 g8
    tm_at "rzs"
    intro p9 H9 f9 s9 g9
    tm_at "rzs"
    intro pa Ha fa sa ga
    tm_at "rzs"
    intro pb Hb fb sb gb
    tm_at "rzs"
    intro pc Hc fc sc gc
    tm_at "rzs"
    intro pd Hd fd sd gd
    tm_at "rzs"
    refine ⟨p6, pd, _, _, rfl, rfl, sd _ _ (sc _ _ (sb _ _ (sa _ _ (s9 _ _ (s8 _ _ (s7 _ _ g6)))))), gd, Nat.le_of_ble_eq_true rfl, fun pe He fe se ge => ?_⟩
    have s1e := ((((((((((((s2.trans s3).trans s4).trans s5).trans s6).trans s7).trans s8).trans s9).trans sa).trans sb).trans sc).trans sd).trans se)
    have hse := d1.s.same s1e
    have gpe := s1e _ _ (d1.app np hp)
    dsimp only [gName]
    tm_at "rzs"
    refine ⟨p, xs, rfl, sqL gpe, ?_⟩
    intro pf Hf ff sf gf
    tm_at "rzs"
    refine ⟨(show (0 : Int) < 17 by decide), (show (17 : Int) < 2 ^ 64 by decide), ?_⟩
    intro ng Hg dg lg ug
    have s0f := s1e.trans sf
    have n2 := d1.s.ne f2
    have n3 := (d1.s.same s2).ne f3
    have n4 := (d1.s.same (s2.trans s3)).ne f4
    have n5 := (d1.s.same ((s2.trans s3).trans s4)).ne f5
    have s26 := (((s2.trans s3).trans s4).trans s5).trans s6
    have n7 := (d1.s.same s26).ne f7
    have n8 := (d1.s.same (s26.trans s7)).ne f8
    have n9 := (d1.s.same ((s26.trans s7).trans s8)).ne f9
    have s29 := ((s26.trans s7).trans s8).trans s9
    have na := (d1.s.same s29).ne fa
    have nb := (d1.s.same (s29.trans sa)).ne fb
    have nc := (d1.s.same ((s29.trans sa).trans sb)).ne fc
    have npe : pe ≠ s := (d1.s.same ((((s29.trans sa).trans sb).trans sc).trans sd)).ne fe
    have npf : pf ≠ s := hse.ne ff
    have se' := se.trans sf
    have sd' := sd.trans se'
    have sc' := sc.trans sd'
    have sb' := sb.trans sc'
    have sa' := sa.trans sb'
    have s9' := s9.trans sa'
    have s8' := s8.trans s9'
    have s7' := s7.trans s8'
    have s6' := s6.trans s7'
    have dg' := drop_dr dg
    have q2 := dg' _ _ (drop_at (s6' _ _ (s5 _ _ (s4 _ _ (s3 _ _ g2)))) (by simpa using n2))
    have q3 := dg' _ _ (drop_at (s6' _ _ (s5 _ _ (s4 _ _ g3))) (by simpa using n3))
    have q4 := dg' _ _ (drop_at (s6' _ _ (s5 _ _ g4)) (by simpa using n4))
    have q5 := dg' _ _ (drop_at (s6' _ _ g5) (by simpa using n5))
    have q7 := dg' _ _ (drop_at (s8' _ _ g7) (by simpa using n7))
    have q8 := dg' _ _ (drop_at (s9' _ _ g8) (by simpa using n8))
    have q9 := dg' _ _ (drop_at (sa' _ _ g9) (by simpa using n9))
    have qa := dg' _ _ (drop_at (sb' _ _ ga) (by simpa using na))
    have qb := dg' _ _ (drop_at (sc' _ _ gb) (by simpa using nb))
    have qc := dg' _ _ (drop_at (sd' _ _ gc) (by simpa using nc))
    have hj : ∀ y ∈ [V.bl true, .non, .int (-1), sX "Fit", sX "fit ", sX "", .ref p2, .ref p3, .ref p4, .ref p5] ++ [V.ref p7, .ref p8, .ref p9, .ref pa, .ref pb, sX "share", .ref pc], ∃ d, It (dropC [s] Hg) y d ∧ fineE d = true ∧ trackB d = false := fun y my => by
      simp only [List.cons_append, List.nil_append, List.mem_cons, List.not_mem_nil, or_false] at my
      rcases my with rfl | rfl | rfl | rfl | rfl | rfl | rfl | rfl | rfl | rfl | rfl | rfl | rfl | rfl | rfl | rfl | rfl
      · exact ⟨.bool true, .fl (.bool true) rfl, by decide +kernel, by decide +kernel⟩
      · exact ⟨.none, .fl .none rfl, by decide +kernel, by decide +kernel⟩
      · exact ⟨.int (-1), .fl (.int (-1)) rfl, by decide +kernel, by decide +kernel⟩
      · exact ⟨.str (Str.ofString "Fit"), .fl (.str _) rfl, by decide +kernel, by decide +kernel⟩
      · exact ⟨.str (Str.ofString "fit "), .fl (.str _) rfl, by decide +kernel, by decide +kernel⟩
      · exact ⟨.str (Str.ofString ""), .fl (.str _) rfl, by decide +kernel, by decide +kernel⟩
      · exact ⟨_, .tup (ds := [.str (Str.ofString "share"), .int 0]) q2 rfl, by decide +kernel, by decide +kernel⟩
      · exact ⟨_, .tup (ds := [.str (Str.ofString "share"), .int (-1)]) q3 rfl, by decide +kernel, by decide +kernel⟩
      · exact ⟨_, .tup (ds := [.str (Str.ofString "share"), .bool true]) q4 rfl, by decide +kernel, by decide +kernel⟩
      · exact ⟨_, .tup (ds := [.str (Str.ofString "share")]) q5 rfl, by decide +kernel, by decide +kernel⟩
      · exact ⟨_, .tup (ds := [.str (Str.ofString "share"), .int 1, .int 1]) q7 rfl, by decide +kernel, by decide +kernel⟩
      · exact ⟨_, .lst (ds := [.str (Str.ofString "share"), .int 1]) q8 rfl, by decide +kernel, by decide +kernel⟩
      · exact ⟨_, .tup (ds := [.str (Str.ofString "fit")]) q9 rfl, by decide +kernel, by decide +kernel⟩
      · exact ⟨_, .tup (ds := [.str (Str.ofString "part"), .int 5]) qa rfl, by decide +kernel, by decide +kernel⟩
      · exact ⟨_, .tup (ds := [.int 1, .str (Str.ofString "share")]) qb rfl, by decide +kernel, by decide +kernel⟩
      · exact ⟨.str (Str.ofString "share"), .fl (.str _) rfl, by decide +kernel, by decide +kernel⟩
      · exact ⟨_, .tup (ds := [.str (Str.ofString "share"), .str (Str.ofString "1")]) qc rfl, by decide +kernel, by decide +kernel⟩
    obtain ⟨v, hv, d, jv, fd', td⟩ := pickA (P := fun y => ∃ d, It (dropC [s] Hg) y d ∧ fineE d = true ∧ trackB d = false) hj lg ug
    refine ⟨_, _, _, _, rfl, rfl, sqL (dg.app npe (sf _ _ ge)), hv, ?_⟩
    clear hj q2 q3 q4 q5 q7 q8 q9 qa qb qc
    have d0g := (d1.same s0f).trans dg
    tm_at "rzs"
    intro ph Hh fh sh gh
    refine ⟨pf, ph, _, _, rfl, rfl, sh _ _ (dg.app npf gf), gh, (by rw [sizeLine_eq, cutV_take]; simp only [List.length_append, List.length_cons, List.length_nil, List.length_take]; omega), fun pi Hi fi si gi => ?_⟩
    tm_at "rzs"
    refine ⟨p, xs, rfl, sqL ((sh.trans si) _ _ (d0g.app np hp)), ?_⟩
    intro pj Hj fj sj gj
    rw [cutV_take] at gi
    rw [cutV_drop] at gj
    refine ⟨pi, pj, _, _, rfl, rfl, sj _ _ gi, gj, (by rw [sizeLine_eq]; simp only [List.length_append, List.length_cons, List.length_nil, List.length_take, List.length_drop]; omega), fun pk Hk fk sk gk => ?_⟩
    dsimp only [gName]
    tm_at "rzs"
    intro pl Hl fl sl gl
    tm_at "rzs"
    have s0k := (sh.trans si).trans (sj.trans sk)
    refine ⟨p, xs, rfl, sqL ((s0k.trans sl) _ _ (d0g.app np hp)), fun pm Hm fm sm gm => ?_⟩
    tm_at "rzs"
    intro pn Hn fn sn gn
    tm_at "rzs"
    intro po Ho fo so go
    have s0o := (((s0k.trans sl).trans sm).trans sn).trans so
    have hso := d0g.s.same s0o
    tm_at "rzs"
    intro nq Hq dq lq uq
    have hsk := d0g.s.same s0k
    have npk : pk ≠ s := (d0g.s.same ((sh.trans si).trans sj)).ne fk
    have npl : pl ≠ s := hsk.ne fl
    have npm : pm ≠ s := (hsk.same sl).ne fm
    have npn : pn ≠ s := (hsk.same (sl.trans sm)).ne fn
    have npo : po ≠ s := (hsk.same ((sl.trans sm).trans sn)).ne fo
    have dq' := drop_dr dq
    have sln := (sm.trans sn).trans so
    have qk := dq' _ _ (drop_at ((sl.trans sln) _ _ gk) (by simpa using npk))
    have ql := dq' _ _ (drop_at (sln _ _ gl) (by simpa using npl))
    have qm := dq' _ _ (drop_at ((sn.trans so) _ _ gm) (by simpa using npm))
    have qn := dq' _ _ (drop_at (so _ _ gn) (by simpa using npn))
    have ho : Same (dropC [s] Hg) (dropC [s] Hq) := (drop_same s0o).trans dq'
    have hi2 := its_put (hi.mono ((drop_dr d0g).trans ho)) (jv.mono ho) m
    have hf2 : ∀ e ∈ ds.take m ++ [d] ++ ds.drop m, fineE e = true := fun e me => by
      rcases List.mem_append.mp me with me | me
      · rcases List.mem_append.mp me with me | me
        · exact hf e (List.mem_of_mem_take me)
        · rw [List.mem_singleton.mp me]; exact fd'
      · exact hf e (List.mem_of_mem_drop me)
    have bad : (!(ds.take m ++ [d] ++ ds.drop m).isEmpty && (ds.take m ++ [d] ++ ds.drop m).all trackB) = false := by
      have : (ds.take m ++ [d] ++ ds.drop m).all trackB = false := by
        rw [List.all_append, List.all_append, List.all_cons, td]
        simp
      rw [this, Bool.and_false]
    have lds : (ds.take m ++ [d] ++ ds.drop m).length ≤ 1000 := by
      have := hi.1
      simp only [List.length_append, List.length_cons, List.length_nil, List.length_take, List.length_drop]
      omega
    have one : ValR K T.c_Style.C T.c_Words.C c (dropC [s] Hq) (.ref pk) false .tracks := .inr ⟨pk, _, _, rfl, qk, hi2, hf2, lds, bad.symm, fun e => by cases e⟩
    have hj2 : ∀ y ∈ [V.ref pk, .ref pk, .ref pk, .ref pl, .ref pm, .non, sX "fit", .int 3, .ref pn], ValR K T.c_Style.C T.c_Words.C c (dropC [s] Hq) y false .tracks := fun y my => by
      simp only [List.mem_cons, List.not_mem_nil, or_false] at my
      rcases my with rfl | rfl | rfl | rfl | rfl | rfl | rfl | rfl | rfl
      · exact one
      · exact one
      · exact one
      · exact .inr ⟨pl, [], [], rfl, ql, ⟨rfl, fun i v d a => by cases a⟩, (fun e me => by cases me), by decide, rfl, fun e => by cases e⟩
      · exact .inl ⟨_, .tup qm, by decide, rfl⟩
      · exact .inl ⟨_, .non, by decide, rfl⟩
      · exact .inl ⟨_, .str _, by decide, rfl⟩
      · exact .inl ⟨_, .int _, by decide, rfl⟩
      · exact .inl ⟨_, .dK qn, by decide, rfl⟩
    obtain ⟨v2, hv2, jv2⟩ := pickA (P := fun y => ValR K T.c_Style.C T.c_Words.C c (dropC [s] Hq) y false .tracks) hj2 lq uq
    refine ⟨_, _, _, _, rfl, rfl, sqL (dq.app npo go), hv2, ?_⟩
    exact k v2 Hq ((d0g.same s0o).trans dq) jv2
end
end My
namespace My
open PySem PySem.Spec PyProof.Rows L2
section
variable {P : Program} {w : World} {K : PySem.W.Frag} {mg : Str → Option Value} {base : Heap}
def sp_w_bad_spots (K : PySem.W.Frag) (S W : Addr) : Sp := fun vs H Q _ => ∃ (s p : Addr) (c : Nat) (xs : List V) (os : List (Option (List V))), vs = [.ref s, .ref p] ∧ Src H s ∧ p ≠ s ∧ H p = some (.lst xs) ∧ ThsAt (dropC [s] H) xs os ∧ os.length = c ∧ c ≤ 9 ∧
  ∀ (v : V) H', Dr s H H' → ValR K S W c (dropC [s] H') v false .spots → Q v H'
theorem ok_w_bad_spots (T : Tx w K mg) : FnOk P w K mg base CX0 3 T.d_w_bad_spots.f T.d_w_bad_spots.fd ["_law_source_here", "_law_good_here"] (sp_w_bad_spots K T.c_Style.C T.c_Words.C) := by
  refine T.d_w_bad_spots.F.ok sc_w_bad_spots (fun vs H Q E h => ?_) (fun cdv A outer s H vs Q E hr h => ?_)
  · obtain ⟨s, p, c, xs, os, rfl, _⟩ := h
    rfl
  · obtain ⟨s, p, c, xs, os, rfl, hs, np, hp, ho, hc, hl, k⟩ := h
    refine ⟨_, (pss_cons (ps_set (i := 2) sc_w_bad_spots.nd rfl (Or.inl rfl) (pe_lstA (pa_cons (pe_callTy (call_tupLK (K := K) rfl) (by rfl) T.b_tuple (by decide +kernel) (pa_cons (pv 1) pa_nil)) (pa_cons (pe_op (op_catK (K := K) rfl) (pv 1) (pe_lstA (pa_cons (pe_tupA (pa_cons pe_int (pa_cons pe_int (pa_cons pe_int (pa_cons pe_int pa_nil))))) pa_nil))) (pa_cons pe_non (pa_cons pe_int (pa_cons pe_str (pa_cons pe_dnewA (pa_cons (pe_op (op_catK (K := K) rfl) (pv 1) (pe_lstA (pa_cons pe_non pa_nil))) (pa_cons (pe_op (op_catK (K := K) rfl) (pe_lstA (pa_cons (pe_tupA pa_nil) pa_nil)) (pe_slice (sl_listK (K := K) rfl) (pv 1) (po_some pe_int) po_none)) pa_nil))))))))))
      (pss_one (ps_ret (pe_ix (ix_listK (K := K) rfl) (pv 2) (pe_call (ok_w_next T) (hr.mono (by decide)) (by rfl) T.d_w_next.g T.d_w_next.F.kp T.d_w_next.b .nil pass0 (pa_cons (pv 0) (pa_cons (pe_callB (call_lenK (K := K) rfl) (by rfl) T.b_len (by decide +kernel) (pa_cons (pv 2) pa_nil)) pa_nil))) (fun _ _ => rfl))))), ?_⟩
    have lx := ho.1
    tm_at "rzs"
    refine ⟨p, xs, rfl, sqL hp, fun p1 H1 f1 s1 g1 => ?_⟩
    tm_at "rzs"
    intro p2 H2 f2 s2 g2
    tm_at "rzs"
    intro p3 H3 f3 s3 g3
    have s03 := (s1.trans s2).trans s3
    refine ⟨p, p3, _, _, rfl, rfl, s03 _ _ hp, g3, (by rw [sizeLine_eq]; simp only [List.length_append, List.length_cons, List.length_nil]; omega), fun p4 H4 f4 s4 g4 => ?_⟩
    tm_at "rzs"
    intro p5 H5 f5 s5 g5
    tm_at "rzs"
    intro p6 H6 f6 s6 g6
    have s06 := (s03.trans s4).trans (s5.trans s6)
    refine ⟨p, p6, _, _, rfl, rfl, s06 _ _ hp, g6, (by rw [sizeLine_eq]; simp only [List.length_append, List.length_cons, List.length_nil]; omega), fun p7 H7 f7 s7 g7 => ?_⟩
    tm_at "rzs"
    intro p8 H8 f8 s8 g8
    tm_at "rzs"
    intro p9 H9 f9 s9 g9
    have s09 := (s06.trans s7).trans (s8.trans s9)
    tm_at "rzs"
    refine ⟨p, xs, rfl, sqL (s09 _ _ hp), ?_⟩
    intro pa Ha fa sa ga
    rw [show cutV xs (some 1) none = xs.drop 1 from cutV_drop xs 1] at ga
    refine ⟨p9, pa, _, _, rfl, rfl, sa _ _ g9, ga, (by rw [sizeLine_eq]; simp only [List.length_append, List.length_cons, List.length_nil, List.length_drop]; omega), fun pb Hb fb sb gb => ?_⟩
    tm_at "rzs"
    intro pc Hc fc sc gc
    have s9c := (sa.trans sb).trans sc
    have s0c := s09.trans s9c
    have hsc := hs.same s0c
    have npc : pc ≠ s := (hs.same (s09.trans (sa.trans sb))).ne fc
    dsimp only [gName]
    tm_at "rzs"
    refine ⟨(show (0 : Int) < 8 by decide), (show (8 : Int) < 2 ^ 64 by decide), ?_⟩
    intro nd Hd dd ld ud
    have n1 := hs.ne f1
    have n2 := (hs.same s1).ne f2
    have n4 := (hs.same s03).ne f4
    have n5 := (hs.same (s03.trans s4)).ne f5
    have n7 := (hs.same s06).ne f7
    have n8 := (hs.same (s06.trans s7)).ne f8
    have nb := (hs.same (s09.trans sa)).ne fb
    have dDr := drop_dr dd
    have q1 := dDr _ _ (drop_at (s9c _ _ (s9 _ _ (s8 _ _ (s7 _ _ (s6 _ _ (s5 _ _ (s4 _ _ (s3 _ _ (s2 _ _ g1))))))))) (by simpa using n1))
    have q2 := dDr _ _ (drop_at (s9c _ _ (s9 _ _ (s8 _ _ (s7 _ _ (s6 _ _ (s5 _ _ (s4 _ _ (s3 _ _ g2)))))))) (by simpa using n2))
    have q4 := dDr _ _ (drop_at (s9c _ _ (s9 _ _ (s8 _ _ (s7 _ _ (s6 _ _ (s5 _ _ g4)))))) (by simpa using n4))
    have q5 := dDr _ _ (drop_at (s9c _ _ (s9 _ _ (s8 _ _ (s7 _ _ (s6 _ _ g5))))) (by simpa using n5))
    have q7 := dDr _ _ (drop_at (s9c _ _ (s9 _ _ (s8 _ _ g7))) (by simpa using n7))
    have q8 := dDr _ _ (drop_at (s9c _ _ (s9 _ _ g8)) (by simpa using n8))
    have qb := dDr _ _ (drop_at (sc _ _ gb) (by simpa using nb))
    have hoD := ho.same ((drop_same (ps := [s]) s0c).trans dDr)
    have hj : ∀ y ∈ [V.ref p1, .ref p4, .non, .int 5, sX "", .ref p5, .ref p7, .ref pb], ValR K T.c_Style.C T.c_Words.C c (dropC [s] Hd) y false .spots := fun y my => by
      simp only [List.mem_cons, List.not_mem_nil, or_false] at my
      rcases my with rfl | rfl | rfl | rfl | rfl | rfl | rfl | rfl
      · exact .inl ⟨_, .tup q1, by decide, rfl⟩
      · refine .inr ⟨p4, _, os ++ [some [.int 0, .int 0, .int 1, .int 1]], rfl, q4, ths_snoc hoD (.tup _ _ q2 fun x mx => ?_), by rw [List.length_append]; simp; omega, by rw [List.length_append, hc]; simp⟩
        simp only [List.mem_cons, List.not_mem_nil, or_false] at mx
        rcases mx with rfl | rfl | rfl | rfl <;> exact ⟨_, .int _⟩
      · exact .inl ⟨_, .non, by decide, rfl⟩
      · exact .inl ⟨_, .int _, by decide, rfl⟩
      · exact .inl ⟨_, .str _, by decide, rfl⟩
      · exact .inl ⟨_, .dK q5, by decide, rfl⟩
      · exact .inr ⟨p7, _, os ++ [none], rfl, q7, ths_snoc hoD (.other _ _ .non (by decide)), by rw [List.length_append]; simp; omega, by rw [List.length_append, hc]; simp⟩
      · refine .inr ⟨pb, _, some [] :: os.drop 1, rfl, qb, ths_cons (.tup _ _ q8 fun x mx => by cases mx) (ths_drop hoD 1), by rw [List.length_cons, List.length_drop]; omega, ?_⟩
        show false = (_ && ((spotB _ _ (some []) && _) && _))
        rw [show spotB ((max 1 c : Nat) : Int) ((max 1 c : Nat) : Int) (some []) = false from rfl]
        simp
    obtain ⟨v, hv, jv⟩ := pickA (P := fun y => ValR K T.c_Style.C T.c_Words.C c (dropC [s] Hd) y false .spots) hj ld ud
    refine ⟨_, _, _, _, rfl, rfl, sqL (dd.app npc gc), hv, ?_⟩
    exact k v Hd ((Dr.of hs s0c).trans dd) jv
end
end My
namespace My
open PySem PySem.Spec PyProof.Rows L2
section
variable {P : Program} {w : World} {K : PySem.W.Frag} {mg : Str → Option Value} {base : Heap}
def sp_w_bad (K : PySem.W.Frag) (S W : Addr) : Sp := fun vs H Q _ => ∃ (s : Addr) (so : Srt) (g : V) (c : Nat), vs = [.ref s, sX so.tx, g] ∧ Src H s ∧ ValR K S W c (dropC [s] H) g true so ∧ c ≤ 9 ∧ ∀ (v : V) H', Dr s H H' → ValR K S W c (dropC [s] H') v false so → Q v H'
theorem ok_w_bad (T : Tx w K mg) : FnOk P w K mg base CX0 10 T.d_w_bad.f T.d_w_bad.fd ["_law_source_here", "_law_sort", "_law_good_here"] (sp_w_bad K T.c_Style.C T.c_Words.C) := by
  refine T.d_w_bad.F.ok sc_w_bad (fun vs H Q E h => ?_) (fun cdv A outer s H vs Q E hr h => ?_)
  · obtain ⟨s, so, g, c, rfl, _⟩ := h
    rfl
  · obtain ⟨s, so, g, c, rfl, hs, hg, hc, k⟩ := h
    refine ⟨_, (pss_cons (ps_if (pt_cmpR op_eq (pv 1) pe_str (nomark _))
      (pss_one (ps_ret (pe_call (ok_w_bad_name T) (hr.mono (by decide)) (by rfl) T.d_w_bad_name.g T.d_w_bad_name.F.kp T.d_w_bad_name.b .nil pass0 (pa_cons (pv 0) pa_nil))))
      pss_nil)
      (pss_cons (ps_if (pt_cmpR op_eq (pv 1) pe_str (nomark _))
      (pss_one (ps_ret (pe_ix (ix_listK (K := K) rfl) (pe_lstA (pa_cons pe_non (pa_cons pe_int (pa_cons pe_bl (pa_cons pe_bl (pa_cons (pe_lstA (pa_cons pe_str pa_nil)) (pa_cons (pe_tupA (pa_cons pe_str pa_nil)) (pa_cons pe_dnewA (pa_cons (pe_lstA pa_nil) (pa_cons (pe_makeK0 T.d_Style_init.mks (ok_Style_init T) (hr.mono (by decide)) (by rfl) T.c_Style.g (Classical.choose_spec (kb_Style_init_1_ T)) passLN pk_nil) pa_nil)))))))))) (pe_call (ok_w_next T) (hr.mono (by decide)) (by rfl) T.d_w_next.g T.d_w_next.F.kp T.d_w_next.b .nil pass0 (pa_cons (pv 0) (pa_cons pe_int pa_nil))) (fun _ _ => rfl))))
      pss_nil)
      (pss_cons (ps_if (pt_cmpR op_eq (pv 1) pe_str (nomark _))
      (pss_one (ps_ret (pe_call (ok_w_bad_number T) (hr.mono (by decide)) (by rfl) T.d_w_bad_number.g T.d_w_bad_number.F.kp T.d_w_bad_number.b .nil pass0 (pa_cons (pv 0) (pa_cons pe_int pa_nil)))))
      pss_nil)
      (pss_cons (ps_if (pt_cmpR op_eq (pv 1) pe_str (nomark _))
      (pss_one (ps_ret (pe_call (ok_w_bad_boxes T) (hr.mono (by decide)) (by rfl) T.d_w_bad_boxes.g T.d_w_bad_boxes.F.kp T.d_w_bad_boxes.b .nil pass0 (pa_cons (pv 0) (pa_cons (pv 2) pa_nil)))))
      pss_nil)
      (pss_cons (ps_if (pt_cmpR op_eq (pv 1) pe_str (nomark _))
      (pss_one (ps_ret (pe_ix (ix_listK (K := K) rfl) (pe_lstA (pa_cons pe_non (pa_cons pe_int (pa_cons pe_int (pa_cons pe_int (pa_cons pe_str (pa_cons pe_str (pa_cons (pe_lstA pa_nil) (pa_cons (pe_lstA (pa_cons pe_bl pa_nil)) (pa_cons (pe_tupA (pa_cons pe_bl pa_nil)) (pa_cons pe_dnewA pa_nil))))))))))) (pe_call (ok_w_next T) (hr.mono (by decide)) (by rfl) T.d_w_next.g T.d_w_next.F.kp T.d_w_next.b .nil pass0 (pa_cons (pv 0) (pa_cons pe_int pa_nil))) (fun _ _ => rfl))))
      pss_nil)
      (pss_cons (ps_if (pt_cmpR op_eq (pv 1) pe_str (nomark _))
      (pss_one (ps_ret (pe_call (ok_w_bad_number T) (hr.mono (by decide)) (by rfl) T.d_w_bad_number.g T.d_w_bad_number.F.kp T.d_w_bad_number.b .nil pass0 (pa_cons (pv 0) (pa_cons pe_int pa_nil)))))
      pss_nil)
      (pss_cons (ps_if (pt_cmpR op_eq (pv 1) pe_str (nomark _))
      (pss_one (ps_ret (pe_call (ok_w_bad_word T) (hr.mono (by decide)) (by rfl) T.d_w_bad_word.g T.d_w_bad_word.F.kp T.d_w_bad_word.b .nil pass0 (pa_cons (pv 0) (pa_cons (pe_lstA (pa_cons pe_str (pa_cons pe_str (pa_cons pe_str (pa_cons pe_str pa_nil))))) pa_nil)))))
      pss_nil)
      (pss_cons (ps_if (pt_cmpR op_eq (pv 1) pe_str (nomark _))
      (pss_one (ps_ret (pe_call (ok_w_bad_word T) (hr.mono (by decide)) (by rfl) T.d_w_bad_word.g T.d_w_bad_word.F.kp T.d_w_bad_word.b .nil pass0 (pa_cons (pv 0) (pa_cons (pe_lstA (pa_cons pe_str (pa_cons pe_str (pa_cons pe_str (pa_cons pe_str (pa_cons pe_str pa_nil)))))) pa_nil)))))
      pss_nil)
      (pss_cons (ps_if (pt_cmpR op_eq (pv 1) pe_str (nomark _))
      (pss_one (ps_ret (pe_call (ok_w_bad_tracks T) (hr.mono (by decide)) (by rfl) T.d_w_bad_tracks.g T.d_w_bad_tracks.F.kp T.d_w_bad_tracks.b .nil pass0 (pa_cons (pv 0) (pa_cons (pv 2) pa_nil)))))
      pss_nil)
      (pss_cons (ps_if (pt_cmpR op_eq (pv 1) pe_str (nomark _))
      (pss_one (ps_ret (pe_call (ok_w_bad_spots T) (hr.mono (by decide)) (by rfl) T.d_w_bad_spots.g T.d_w_bad_spots.F.kp T.d_w_bad_spots.b .nil pass0 (pa_cons (pv 0) (pa_cons (pv 2) pa_nil)))))
      pss_nil)
      (pss_one (ps_ret (pe_ix (ix_listK (K := K) rfl) (pe_lstA (pa_cons pe_str (pa_cons pe_str (pa_cons pe_int (pa_cons pe_bl (pa_cons pe_dnewA (pa_cons (pe_lstA (pa_cons (pe_makeK0 T.d_Style_init.mks (ok_Style_init T) (hr.mono (by decide)) (by rfl) T.c_Style.g (Classical.choose_spec (kb_Style_init_1_ T)) passLN pk_nil) pa_nil)) (pa_cons (pe_tupA pa_nil) (pa_cons (pe_make T.d_Words_init.mks (ok_Words_init T) (hr.mono (by decide)) (by rfl) T.c_Words.g (Classical.choose_spec (bx_Words_init T)).2 (Classical.choose_spec (bx_Words_init T)).1 passLN (pa_cons pe_str (pa_cons pe_str pa_nil))) (pa_cons pe_str pa_nil)))))))))) (pe_call (ok_w_next T) (hr.mono (by decide)) (by rfl) T.d_w_next.g T.d_w_next.F.kp T.d_w_next.b .nil pass0 (pa_cons (pv 0) (pa_cons pe_int pa_nil))) (fun _ _ => rfl)))))))))))))), ?_⟩
    have ne : ∀ {p : Addr} {o : HO}, dropC [s] H p = some o → p ≠ s := fun {p o} e z => by rw [z, dropC_in List.mem_cons_self] at e; cases e
    cases so with
    | name =>
      tm_at "rzs"
      exact fun v H' d hv => k v H' d hv
    | text =>
      tm_at "rzs"
      intro p1 H1 f1 s1 g_p1
      have n_p1 := (hs.same (Same.refl H)).ne f1
      tm_at "rzs"
      intro p2 H2 f2 s2 g_p2
      have n_p2 := (hs.same s1).ne f2
      tm_at "rzs"
      intro p3 H3 f3 s3 g_p3
      have n_p3 := (hs.same (s1.trans s2)).ne f3
      tm_at "rzs"
      intro p4 H4 f4 s4 g_p4
      have n_p4 := (hs.same ((s1.trans s2).trans s3)).ne f4
      tm_at "rzs"
      intro x5 dx5 fx5 fdx5 nd5
      have n_x5 := (hs.same (((s1.trans s2).trans s3).trans s4)).ne fx5
      refine mk_bat (fs := dfltL T.U_NO_RIMS) (dflt_fbl T.t_NO_RIMS) fx5 fdx5 nd5 fun H5 s5 => ⟨fun _ g_x5 => ?_, fun e => absurd e (by decide)⟩
      tm_at "rzs"
      intro p6 H6 f6 s6 g_p6
      have n_p6 := (hs.same ((((s1.trans s2).trans s3).trans s4).trans s5)).ne f6
      tm_at "rzs"
      have hsn := hs.same (((((s1.trans s2).trans s3).trans s4).trans s5).trans s6)
      intro nz Hz dz lz uz
      have q_p1 := drop_dr dz _ _ (drop_at (s6 _ _ (s5 _ _ (s4 _ _ (s3 _ _ (s2 _ _ (g_p1)))))) (by simpa using n_p1))
      have q_p2 := drop_dr dz _ _ (drop_at (s6 _ _ (s5 _ _ (s4 _ _ (s3 _ _ (g_p2))))) (by simpa using n_p2))
      have q_p3 := drop_dr dz _ _ (drop_at (s6 _ _ (s5 _ _ (s4 _ _ (g_p3)))) (by simpa using n_p3))
      have q_p4 := drop_dr dz _ _ (drop_at (s6 _ _ (s5 _ _ (g_p4))) (by simpa using n_p4))
      have q_x5 := drop_dr dz _ _ (drop_at (s6 _ _ (g_x5)) (by simpa using n_x5))
      have hj : ∀ y ∈ [(.non : V), .int 5, .bl true, .bl false, .ref p1, .ref p2, .ref p3, .ref p4, .ref x5], ValR K T.c_Style.C T.c_Words.C c (dropC [s] Hz) y false .text := fun y my => by
        simp only [List.mem_cons, List.not_mem_nil, or_false] at my
        rcases my with rfl | rfl | rfl | rfl | rfl | rfl | rfl | rfl | rfl
        · exact ⟨_, .non, rfl⟩
        · exact ⟨_, .int _, rfl⟩
        · exact ⟨_, .bl _, rfl⟩
        · exact ⟨_, .bl _, rfl⟩
        · exact ⟨_, .lst q_p1, rfl⟩
        · exact ⟨_, .tup q_p2, rfl⟩
        · exact ⟨_, .dK q_p3, rfl⟩
        · exact ⟨_, .lst q_p4, rfl⟩
        · exact ⟨_, .ins q_x5 (plStyle T), rfl⟩
      obtain ⟨v, hv, jv⟩ := pickA (P := fun y => ValR K T.c_Style.C T.c_Words.C c (dropC [s] Hz) y false .text) hj lz uz
      refine ⟨_, _, _, _, rfl, rfl, sqL (dz.app n_p6 g_p6), hv, ?_⟩
      exact k v Hz ((Dr.of hs (((((s1.trans s2).trans s3).trans s4).trans s5).trans s6)).trans dz) jv
    | size =>
      tm_at "rzs"
      exact fun v H' d ht hv => k v H' d ⟨ht.choose, ht.choose_spec, by cases v <;> first | rfl | exact (decide_eq_false (by have := hv _ rfl; omega)).symm⟩
    | boxes =>
      rcases hg with ⟨_, _, _, e⟩ | ⟨p, xs, bs, rfl, gp, _, hb, _, lx⟩
      · cases e
      have lx := lx rfl
      tm_at "rzs"
      exact ⟨s, p, c, xs, bs, rfl, hs, ne gp, drop_sub _ _ gp, hb, by omega, fun v H' d hv => k v H' d hv⟩
    | turn =>
      tm_at "rzs"
      intro p1 H1 f1 s1 g_p1
      have n_p1 := (hs.same (Same.refl H)).ne f1
      tm_at "rzs"
      intro p2 H2 f2 s2 g_p2
      have n_p2 := (hs.same s1).ne f2
      tm_at "rzs"
      intro p3 H3 f3 s3 g_p3
      have n_p3 := (hs.same (s1.trans s2)).ne f3
      tm_at "rzs"
      intro p4 H4 f4 s4 g_p4
      have n_p4 := (hs.same ((s1.trans s2).trans s3)).ne f4
      tm_at "rzs"
      intro p5 H5 f5 s5 g_p5
      have n_p5 := (hs.same (((s1.trans s2).trans s3).trans s4)).ne f5
      tm_at "rzs"
      have hsn := hs.same ((((s1.trans s2).trans s3).trans s4).trans s5)
      intro nz Hz dz lz uz
      have q_p1 := drop_dr dz _ _ (drop_at (s5 _ _ (s4 _ _ (s3 _ _ (s2 _ _ (g_p1))))) (by simpa using n_p1))
      have q_p2 := drop_dr dz _ _ (drop_at (s5 _ _ (s4 _ _ (s3 _ _ (g_p2)))) (by simpa using n_p2))
      have q_p3 := drop_dr dz _ _ (drop_at (s5 _ _ (s4 _ _ (g_p3))) (by simpa using n_p3))
      have q_p4 := drop_dr dz _ _ (drop_at (s5 _ _ (g_p4)) (by simpa using n_p4))
      have hj : ∀ y ∈ [(.non : V), .int 0, .int 1, .int 2, sX "", sX "True", .ref p1, .ref p2, .ref p3, .ref p4], ValR K T.c_Style.C T.c_Words.C c (dropC [s] Hz) y false .turn := fun y my => by
        simp only [List.mem_cons, List.not_mem_nil, or_false] at my
        rcases my with rfl | rfl | rfl | rfl | rfl | rfl | rfl | rfl | rfl | rfl
        · exact ⟨_, .non, rfl⟩
        · exact ⟨_, .int _, rfl⟩
        · exact ⟨_, .int _, rfl⟩
        · exact ⟨_, .int _, rfl⟩
        · exact ⟨_, .str _, rfl⟩
        · exact ⟨_, .str _, rfl⟩
        · exact ⟨_, .lst q_p1, rfl⟩
        · exact ⟨_, .lst q_p2, rfl⟩
        · exact ⟨_, .tup q_p3, rfl⟩
        · exact ⟨_, .dK q_p4, rfl⟩
      obtain ⟨v, hv, jv⟩ := pickA (P := fun y => ValR K T.c_Style.C T.c_Words.C c (dropC [s] Hz) y false .turn) hj lz uz
      refine ⟨_, _, _, _, rfl, rfl, sqL (dz.app n_p5 g_p5), hv, ?_⟩
      exact k v Hz ((Dr.of hs ((((s1.trans s2).trans s3).trans s4).trans s5)).trans dz) jv
    | gap =>
      tm_at "rzs"
      exact fun v H' d ht hv => k v H' d ⟨ht.choose, ht.choose_spec, by cases v <;> first | rfl | exact (decide_eq_false (by have := hv _ rfl; omega)).symm⟩
    | pack =>
      tm_at "rzs"
      intro p1 H1 f1 s1 g1
      tm_at "rzs"
      refine ⟨s, p1, ["start", "end", "middle", "between"], rfl, hs.same s1, hs.ne f1, g1, .inl rfl, fun v H' d ht hv => ?_⟩
      obtain ⟨t, ht⟩ := ht
      exact k v H' ((Dr.of hs s1).trans d) ⟨t, ht, hv.symm⟩
    | stands =>
      tm_at "rzs"
      intro p1 H1 f1 s1 g1
      tm_at "rzs"
      refine ⟨s, p1, ["start", "end", "middle", "stretch", "base"], rfl, hs.same s1, hs.ne f1, g1, .inr rfl, fun v H' d ht hv => ?_⟩
      obtain ⟨t, ht⟩ := ht
      exact k v H' ((Dr.of hs s1).trans d) ⟨t, ht, hv.symm⟩
    | tracks =>
      rcases hg with ⟨_, _, _, e⟩ | ⟨p, xs, ds, rfl, gp, hi, hf, _, _, lx⟩
      · cases e
      have lx := lx rfl
      tm_at "rzs"
      exact ⟨s, p, c, xs, ds, rfl, hs, ne gp, drop_sub _ _ gp, hi, hf, by omega, fun v H' d hv => k v H' d hv⟩
    | spots =>
      rcases hg with ⟨_, _, _, e⟩ | ⟨p, xs, os, rfl, gp, ho, _, e⟩
      · cases e
      have lo : os.length = c := by
        have := e.symm
        rw [Bool.and_eq_true] at this
        exact of_decide_eq_true this.1
      tm_at "rzs"
      exact ⟨s, p, c, xs, os, rfl, hs, ne gp, drop_sub _ _ gp, ho, lo, hc, fun v H' d hv => k v H' d hv⟩
    | style =>
      tm_at "rzs"
      intro p1 H1 f1 s1 g_p1
      have n_p1 := (hs.same (Same.refl H)).ne f1
      tm_at "rzs"
      intro x2 dx2 fx2 fdx2 nd2
      have n_x2 := (hs.same s1).ne fx2
      refine mk_bat (fs := dfltL T.U_NO_RIMS) (dflt_fbl T.t_NO_RIMS) fx2 fdx2 nd2 fun H2 s2 => ⟨fun _ g_x2 => ?_, fun e => absurd e (by decide)⟩
      tm_at "rzs"
      intro p3 H3 f3 s3 g_p3
      have n_p3 := (hs.same (s1.trans s2)).ne f3
      tm_at "rzs"
      intro p4 H4 f4 s4 g_p4
      have n_p4 := (hs.same ((s1.trans s2).trans s3)).ne f4
      tm_at "rzs"
      intro w5 dx5 fx5 fdx5 nd5
      have n_w5 := (hs.same (((s1.trans s2).trans s3).trans s4)).ne fx5
      refine mk_words (n := sX "a") (t := sX "b") (.inr ⟨[97], by decide +kernel, by decide +kernel, by decide⟩) ⟨_, rfl⟩ fx5 fdx5 nd5 fun fa5 H5 s5 g_w5 => ?_
      tm_at "rzs"
      intro p6 H6 f6 s6 g_p6
      have n_p6 := (hs.same ((((s1.trans s2).trans s3).trans s4).trans s5)).ne f6
      tm_at "rzs"
      have hsn := hs.same (((((s1.trans s2).trans s3).trans s4).trans s5).trans s6)
      intro nz Hz dz lz uz
      have q_p1 := drop_dr dz _ _ (drop_at (s6 _ _ (s5 _ _ (s4 _ _ (s3 _ _ (s2 _ _ (g_p1)))))) (by simpa using n_p1))
      have q_x2 := drop_dr dz _ _ (drop_at (s6 _ _ (s5 _ _ (s4 _ _ (s3 _ _ (g_x2))))) (by simpa using n_x2))
      have q_p3 := drop_dr dz _ _ (drop_at (s6 _ _ (s5 _ _ (s4 _ _ (g_p3)))) (by simpa using n_p3))
      have q_p4 := drop_dr dz _ _ (drop_at (s6 _ _ (s5 _ _ (g_p4))) (by simpa using n_p4))
      have q_w5 := drop_dr dz _ _ (drop_at (s6 _ _ (g_w5)) (by simpa using n_w5))
      have hj : ∀ y ∈ [(sX "" : V), sX "Style()", .int 0, .bl false, .ref p1, .ref p3, .ref p4, .ref w5, sX "start"], ValR K T.c_Style.C T.c_Words.C c (dropC [s] Hz) y false .style := fun y my => by
        simp only [List.mem_cons, List.not_mem_nil, or_false] at my
        rcases my with rfl | rfl | rfl | rfl | rfl | rfl | rfl | rfl | rfl
        · exact .inr (.inr ⟨(fun e => by cases e), rfl, .inl ⟨_, .str _⟩⟩)
        · exact .inr (.inr ⟨(fun e => by cases e), rfl, .inl ⟨_, .str _⟩⟩)
        · exact .inr (.inr ⟨(fun e => by cases e), rfl, .inl ⟨_, .int _⟩⟩)
        · exact .inr (.inr ⟨(fun e => by cases e), rfl, .inl ⟨_, .bl _⟩⟩)
        · exact .inr (.inr ⟨(fun e => by cases e), rfl, .inl ⟨_, .dK q_p1⟩⟩)
        · exact .inr (.inr ⟨(fun e => by cases e), rfl, .inl ⟨_, .lst q_p3⟩⟩)
        · exact .inr (.inr ⟨(fun e => by cases e), rfl, .inl ⟨_, .tup q_p4⟩⟩)
        · exact .inr (.inr ⟨(fun e => by cases e), rfl, .inr ⟨_, _, _, rfl, q_w5⟩⟩)
        · exact .inr (.inr ⟨(fun e => by cases e), rfl, .inl ⟨_, .str _⟩⟩)
      obtain ⟨v, hv, jv⟩ := pickA (P := fun y => ValR K T.c_Style.C T.c_Words.C c (dropC [s] Hz) y false .style) hj lz uz
      refine ⟨_, _, _, _, rfl, rfl, sqL (dz.app n_p6 g_p6), hv, ?_⟩
      exact k v Hz ((Dr.of hs (((((s1.trans s2).trans s3).trans s4).trans s5).trans s6)).trans dz) jv
end
end My
namespace My
open PySem PySem.Spec PyProof.Rows L2
section
variable {P : Program} {w : World} {K : PySem.W.Frag} {mg : Str → Option Value} {base : Heap}
def sp_w_sorts : Sp := fun vs H Q _ => ∃ k : Nat, vs = [.int (k : Int)] ∧ k < 5 ∧ New H (.lst ((srts k).map fun s => sX s.tx)) Q
theorem ok_w_sorts (T : Tx w K mg) : FnOk P w K mg base CX0 1 T.d_w_sorts.f T.d_w_sorts.fd ["_law_kind"] (sp_w_sorts) := by
  refine T.d_w_sorts.F.ok sc_w_sorts (fun vs H Q E h => ?_) (fun cdv A outer s H vs Q E hr h => ?_)
  · obtain ⟨k, rfl, _⟩ := h
    rfl
  · obtain ⟨k, rfl, hk, kk⟩ := h
    refine ⟨_, (pss_cons (ps_if (pt_cmpR op_eq (pv 0) pe_int (nomark _))
      (pss_one (ps_ret (pe_lstA (pa_cons pe_str (pa_cons pe_str (pa_cons pe_str pa_nil))))))
      pss_nil)
      (pss_cons (ps_if (pt_cmpR op_eq (pv 0) pe_int (nomark _))
      (pss_one (ps_ret (pe_lstA (pa_cons pe_str (pa_cons pe_str (pa_cons pe_str (pa_cons pe_str pa_nil)))))))
      pss_nil)
      (pss_cons (ps_if (pt_cmpR op_eq (pv 0) pe_int (nomark _))
      (pss_one (ps_ret (pe_lstA (pa_cons pe_str (pa_cons pe_str (pa_cons pe_str (pa_cons pe_str (pa_cons pe_str (pa_cons pe_str (pa_cons pe_str (pa_cons pe_str pa_nil)))))))))))
      pss_nil)
      (pss_cons (ps_if (pt_cmpR op_eq (pv 0) pe_int (nomark _))
      (pss_one (ps_ret (pe_lstA (pa_cons pe_str (pa_cons pe_str (pa_cons pe_str (pa_cons pe_str (pa_cons pe_str (pa_cons pe_str pa_nil)))))))))
      pss_nil)
      (pss_one (ps_ret (pe_lstA (pa_cons pe_str (pa_cons pe_str (pa_cons pe_str (pa_cons pe_str (pa_cons pe_str (pa_cons pe_str (pa_cons pe_str (pa_cons pe_str (pa_cons pe_str pa_nil)))))))))))))))), ?_⟩
    match k, hk, kk with
    | 0, _, kk => tm_at "rzs"; exact kk
    | 1, _, kk => tm_at "rzs"; exact kk
    | 2, _, kk => tm_at "rzs"; exact kk
    | 3, _, kk => tm_at "rzs"; exact kk
    | 4, _, kk => tm_at "rzs"; exact kk
    | n + 5, h, _ => exact absurd h (by omega)
end
end My
namespace My
open PySem PySem.Spec PyProof.Rows L2
section
variable {P : Program} {w : World} {K : PySem.W.Frag} {mg : Str → Option Value} {base : Heap}
def sp_w_good (K : PySem.W.Frag) (S W : Addr) : Sp := fun vs H Q _ => ∃ (s : Addr) (so : Srt) (c : Nat), vs = [.ref s, sX so.tx, .int (c : Int)] ∧ Src H s ∧ c ≤ 9 ∧ ∀ (v : V) H', Dr s H H' → ValR K S W c (dropC [s] H') v true so → (so = .name → ∃ l, v = .str l) → Q v H'
theorem stB_ofG {c r : Int} {f : Nat → Option (List V)} {n : Nat} (hs : ∀ i, i < n → spotB c r (f i) = true) (ha : ∀ i j, i < j → j < n → apartO (f j) (f i) = true) : stB c r [] ((List.range n).map f) = true := by
  rw [stB_step]
  intro p o e
  obtain ⟨hp, eo⟩ := List.getElem?_eq_some_iff.mp e
  rw [List.length_map, List.length_range] at hp
  rw [List.getElem_map, List.getElem_range] at eo
  subst eo
  rw [Bool.and_eq_true]
  refine ⟨hs p hp, ?_⟩
  rw [List.nil_append, List.all_eq_true]
  intro x mx
  obtain ⟨i, hi⟩ := List.getElem?_of_mem mx
  rw [List.getElem?_take] at hi
  split at hi
  · next lt =>
    obtain ⟨hi2, ei⟩ := List.getElem?_eq_some_iff.mp hi
    rw [List.getElem_map, List.getElem_range] at ei
    subst ei
    exact ha i p lt hp
  · cases hi
/-- the second number of a thing -/
def yOf (H : Hp) (us : List V) (i : Nat) : Int := match us[i]? with
  | some (.ref a) => (match H a with
    | some (.tup [_, .int y, _, _]) => y
    | _ => 0)
  | _ => 0
theorem yOf_at {H : Hp} {us : List V} {i : Nat} {a : Addr} {x z t : V} {n : Int} (e : us[i]? = some (.ref a)) (g : H a = some (.tup [x, .int n, z, t])) : yOf H us i = n := by
  unfold yOf
  rw [e]
  dsimp only
  rw [g]
theorem col_ok (c : Nat) (f : Nat → Int) (h : ∀ i, i < c → 0 ≤ f i ∧ f i < (max 1 c : Nat)) : stB (max 1 c : Nat) (max 1 c : Nat) [] ((List.range c).map fun i : Nat => four4 (i : Int) (f i) 1 1) = true := by
  refine stB_ofG (fun i hi => ?_) fun i j hij hj => ?_
  · have := h i hi
    show (strchB (.int (i : Int)) (.int 1) _ && strchB (.int (f i)) (.int 1) _) = true
    simp only [strchB, Bool.and_eq_true, decide_eq_true_eq]
    omega
  · show apartI _ _ _ _ _ _ _ _ = true
    unfold apartI
    simp only [Bool.or_eq_true, decide_eq_true_eq]
    omega
theorem ok_w_good (T : Tx w K mg) : FnOk P w K mg base CX0 9 T.d_w_good.f T.d_w_good.fd ["_law_source_here", "_law_sort", "_law_count"] (sp_w_good K T.c_Style.C T.c_Words.C) := by
  refine T.d_w_good.F.ok sc_w_good (fun vs H Q E h => ?_) (fun cdv A outer s H vs Q E hr h => ?_)
  · obtain ⟨s, so, c, rfl, _⟩ := h
    rfl
  · obtain ⟨s, so, c, rfl, hs, hc, k⟩ := h
    refine ⟨_, (pss_cons (ps_if (pt_cmpR op_eq (pv 1) pe_str (nomark _))
      (pss_one (ps_ret (pe_call (ok_w_letters T) (hr.mono (by decide)) (by rfl) T.d_w_letters.g T.d_w_letters.F.kp T.d_w_letters.b .nil pass0 (pa_cons (pv 0) (pa_cons (pe_op op_add pe_int (pe_call (ok_w_next T) (hr.mono (by decide)) (by rfl) T.d_w_next.g T.d_w_next.F.kp T.d_w_next.b .nil pass0 (pa_cons (pv 0) (pa_cons pe_int pa_nil)))) pa_nil)))))
      pss_nil)
      (pss_cons (ps_if (pt_cmpR op_eq (pv 1) pe_str (nomark _))
      (pss_one (ps_ret (pe_ix (ix_listK (K := K) rfl) (pe_lstA (pa_cons pe_str (pa_cons pe_str (pa_cons pe_str (pa_cons pe_str (pa_cons pe_str pa_nil)))))) (pe_call (ok_w_next T) (hr.mono (by decide)) (by rfl) T.d_w_next.g T.d_w_next.F.kp T.d_w_next.b .nil pass0 (pa_cons (pv 0) (pa_cons pe_int pa_nil))) (fun _ _ => rfl))))
      pss_nil)
      (pss_cons (ps_if (pt_cmpR op_eq (pv 1) pe_str (nomark _))
      (pss_one (ps_ret (pe_op op_add pe_int (pe_op op_mod (pe_call (ok_w_number T) (hr.mono (by decide)) (by rfl) T.d_w_number.g T.d_w_number.F.kp T.d_w_number.b .nil pass0 (pa_cons (pv 0) pa_nil)) (pe_op op_pow pe_int pe_int)))))
      pss_nil)
      (pss_cons (ps_if (pt_cmpR op_eq (pv 1) pe_str (nomark _))
      (pss_one (ps_ret (pe_lc (own := [("_law_k", 4)]) (g := gName 4) (by rfl) sc_w_good.nd (pi_range1 (by rfl) T.b_range (pa_cons (pv 2) pa_nil)) (blkOk_by (own := [("_law_k", 4)]) (N := N_w_good) (sc := defScope s_w_good) (by decide +kernel)) (fun _ _ _ _ _ => (pg_name (i := 4) sc_w_good.nd rfl (Or.inl rfl))) (fun _ _ _ _ _ => pts_nil) (fun _ _ _ _ _ => (pe_make T.d_Words_init.mks (ok_Words_init T) (hr.mono (by decide)) (by rfl) T.c_Words.g (Classical.choose_spec (bx_Words_init T)).2 (Classical.choose_spec (bx_Words_init T)).1 passLN (pa_cons (pe_call (ok_w_letters T) (hr.mono (by decide)) (by rfl) T.d_w_letters.g T.d_w_letters.F.kp T.d_w_letters.b .nil pass0 (pa_cons (pv 0) (pa_cons (pe_op op_add pe_int (pe_op op_mod (pv 4) pe_int)) pa_nil))) (pa_cons pe_str pa_nil)))))))
      pss_nil)
      (pss_cons (ps_if (pt_cmpR op_eq (pv 1) pe_str (nomark _))
      (pss_one (ps_ret (pe_cmpR op_eq (pe_call (ok_w_next T) (hr.mono (by decide)) (by rfl) T.d_w_next.g T.d_w_next.F.kp T.d_w_next.b .nil pass0 (pa_cons (pv 0) (pa_cons pe_int pa_nil))) pe_int (nomark _))))
      pss_nil)
      (pss_cons (ps_if (pt_cmpR op_eq (pv 1) pe_str (nomark _))
      (pss_one (ps_ret (pe_call (ok_w_number T) (hr.mono (by decide)) (by rfl) T.d_w_number.g T.d_w_number.F.kp T.d_w_number.b .nil pass0 (pa_cons (pv 0) pa_nil))))
      pss_nil)
      (pss_cons (ps_if (pt_cmpR op_eq (pv 1) pe_str (nomark _))
      (pss_one (ps_ret (pe_ix (ix_listK (K := K) rfl) (pe_lstA (pa_cons pe_str (pa_cons pe_str (pa_cons pe_str (pa_cons pe_str pa_nil))))) (pe_call (ok_w_next T) (hr.mono (by decide)) (by rfl) T.d_w_next.g T.d_w_next.F.kp T.d_w_next.b .nil pass0 (pa_cons (pv 0) (pa_cons pe_int pa_nil))) (fun _ _ => rfl))))
      pss_nil)
      (pss_cons (ps_if (pt_cmpR op_eq (pv 1) pe_str (nomark _))
      (pss_one (ps_ret (pe_ix (ix_listK (K := K) rfl) (pe_lstA (pa_cons pe_str (pa_cons pe_str (pa_cons pe_str (pa_cons pe_str (pa_cons pe_str pa_nil)))))) (pe_call (ok_w_next T) (hr.mono (by decide)) (by rfl) T.d_w_next.g T.d_w_next.F.kp T.d_w_next.b .nil pass0 (pa_cons (pv 0) (pa_cons pe_int pa_nil))) (fun _ _ => rfl))))
      pss_nil)
      (pss_cons (ps_if (pt_cmpR op_eq (pv 1) pe_str (nomark _))
      (pss_cons (ps_set (i := 3) sc_w_good.nd rfl (Or.inl rfl) (pe_callB (call_max2 rfl) (by rfl) T.b_max (by decide +kernel) (pa_cons pe_int (pa_cons (pv 2) pa_nil))))
      (pss_one (ps_ret (pe_lc (own := [("_law_k", 4)]) (g := gName 4) (by rfl) sc_w_good.nd (pi_range1 (by rfl) T.b_range (pa_cons (pv 3) pa_nil)) (blkOk_by (own := [("_law_k", 4)]) (N := N_w_good) (sc := defScope s_w_good) (by decide +kernel)) (fun _ _ _ _ _ => (pg_name (i := 4) sc_w_good.nd rfl (Or.inl rfl))) (fun _ _ _ _ _ => pts_nil) (fun _ _ _ _ _ => (pe_ix (ix_listK (K := K) rfl) (pe_lstA (pa_cons (pe_call (ok_w_number T) (hr.mono (by decide)) (by rfl) T.d_w_number.g T.d_w_number.F.kp T.d_w_number.b .nil pass0 (pa_cons (pv 0) pa_nil)) (pa_cons pe_str (pa_cons (pe_tupA (pa_cons pe_str (pa_cons (pe_op op_add pe_int (pv 4)) pa_nil))) pa_nil)))) (pe_call (ok_w_next T) (hr.mono (by decide)) (by rfl) T.d_w_next.g T.d_w_next.F.kp T.d_w_next.b .nil pass0 (pa_cons (pv 0) (pa_cons pe_int pa_nil))) (fun _ _ => rfl)))))))
      pss_nil)
      (pss_cons (ps_if (pt_cmpR op_eq (pv 1) pe_str (nomark _))
      (pss_one (ps_ret (pe_lc (own := [("_law_k", 4)]) (g := gName 4) (by rfl) sc_w_good.nd (pi_range1 (by rfl) T.b_range (pa_cons (pv 2) pa_nil)) (blkOk_by (own := [("_law_k", 4)]) (N := N_w_good) (sc := defScope s_w_good) (by decide +kernel)) (fun _ _ _ _ _ => (pg_name (i := 4) sc_w_good.nd rfl (Or.inl rfl))) (fun _ _ _ _ _ => pts_nil) (fun _ _ _ _ _ => (pe_tupA (pa_cons (pv 4) (pa_cons (pe_call (ok_w_next T) (hr.mono (by decide)) (by rfl) T.d_w_next.g T.d_w_next.F.kp T.d_w_next.b .nil pass0 (pa_cons (pv 0) (pa_cons (pe_callB (call_max2 rfl) (by rfl) T.b_max (by decide +kernel) (pa_cons pe_int (pa_cons (pv 2) pa_nil))) pa_nil))) (pa_cons pe_int (pa_cons pe_int pa_nil)))))))))
      pss_nil)
      (pss_one (ps_ret (pe_ix (ix_listK (K := K) rfl) (pe_lstA (pa_cons pe_non (pa_cons (pe_makeK0 T.d_Style_init.mks (ok_Style_init T) (hr.mono (by decide)) (by rfl) T.c_Style.g (Classical.choose_spec (kb_Style_init_1_ T)) passLN pk_nil) (pa_cons (pe_makeK0 T.d_Style_init.mks (ok_Style_init T) (hr.mono (by decide)) (by rfl) T.c_Style.g (Classical.choose_spec (kb_Style_init_1_grow T)) passLN (pk_cons (pe_call (ok_w_number T) (hr.mono (by decide)) (by rfl) T.d_w_number.g T.d_w_number.F.kp T.d_w_number.b .nil pass0 (pa_cons (pv 0) pa_nil)) pk_nil)) pa_nil)))) (pe_call (ok_w_next T) (hr.mono (by decide)) (by rfl) T.d_w_next.g T.d_w_next.F.kp T.d_w_next.b .nil pass0 (pa_cons (pv 0) (pa_cons pe_int pa_nil))) (fun _ _ => rfl)))))))))))))), ?_⟩
    cases so with
    | name =>
      tm_at "rzs"
      intro n1 H1 d1 l1 u1
      tm_at "rzs"
      intro l H2 d2 ll lc
      refine k _ H2 (d1.trans d2) (.inr ⟨l, rfl, ?_, by omega⟩) (fun _ => ⟨_, rfl⟩)
      unfold nmB
      rw [decide_eq_true (show 1 ≤ l.length by omega), decide_eq_true (show l.length ≤ 8 by omega)]
      simpa using lc
    | text =>
      tm_at "rzs"
      intro p1 H1 f1 s1 g1
      tm_at "rzs"
      intro n2 H2 d2 l2 u2
      obtain ⟨v, hv, x, rfl⟩ := pickA (P := fun y => ∃ x, y = V.str x) (xs := [sX "", sX "a", sX "two words", sX "line\nline", sX "  "]) (fun y my => by
        simp only [List.mem_cons, List.not_mem_nil, or_false] at my
        rcases my with rfl | rfl | rfl | rfl | rfl <;> exact ⟨_, rfl⟩) l2 u2
      refine ⟨_, _, _, _, rfl, rfl, sqL (d2.app (hs.ne f1) g1), hv, ?_⟩
      exact k _ H2 ((Dr.of hs s1).trans d2) ⟨_, .str _, rfl⟩ (fun e => by cases e)
    | size =>
      tm_at "rzs"
      intro n H1 d1 hn
      tm_at "rzs"
      have e0 : 0 ≤ (n : Int) % 10 ^ (11 : Int).toNat := Int.emod_nonneg _ (by decide)
      exact k _ H1 d1 ⟨_, .int _, (show szB (.int (1 + (n : Int) % 10 ^ (11 : Int).toNat)) = true from decide_eq_true (by omega)).symm⟩ (fun e => by cases e)
    | boxes =>
      tm_at "rzs"
      refine fun D hD => lcRo (n := c) (s := s) (fun i v H => InsC T.c_Words.C H v) (fun i v Ha Hb acc ⟨a, dx, fs, e, g⟩ gD b => ⟨a, dx, fs, e, b.app (fun z => by rw [z, gD] at g; cases g) g⟩) (fun i v Ha Hb ⟨a, dx, fs, e, g⟩ sa d => ⟨a, dx, fs, e, d.app (fun z => by obtain ⟨_, q⟩ := sa; rw [z, q] at g; cases g) g⟩) hs hD (by omega) (fun i H1 Kt Kf acc hi d1 e1 kt => ?_) (fun us H1 d1 hul hub nD gD => ?_)
      · tm_at "rzs"
        intro l H2 d2 ll lc
        tm_at "rzs"
        intro x dx fx fdx nd
        refine mk_words (n := .str (sO l)) (t := sX "w") (.inr ⟨l, rfl, ?_, by omega⟩) ⟨_, rfl⟩ fx fdx nd fun fs H3 s3 g3 => ?_
        · unfold nmB
          rw [decide_eq_true (show 1 ≤ l.length by omega), decide_eq_true (show l.length ≤ 8 by omega)]
          simpa using lc
        · exact kt _ H3 (d2.same s3) ⟨x, dx, fs, rfl, g3⟩
      · refine k _ H1 d1 (.inr ⟨D, us, List.replicate us.length true, rfl, drop_at gD (by simpa using nD), by omega, ⟨by rw [List.length_replicate], fun i x b a e => ?_⟩, by simp, fun _ => hul⟩) (fun e => by cases e)
        have eb : b = true := by
          rw [List.getElem?_replicate] at e
          split at e <;> cases e
          rfl
        obtain ⟨y, dx, fs, ex, g⟩ := hub i x a
        exact .inl ⟨eb, y, dx, fs, ex, drop_at g (by
          obtain ⟨_, q⟩ := d1.s
          simp only [List.mem_singleton]
          rintro rfl
          rw [q] at g
          cases g)⟩
    | turn =>
      tm_at "rzs"
      intro n1 H1 d1 l1 u1
      tm_at "rzs"
      exact k _ H1 d1 ⟨_, .bl _, rfl⟩ (fun e => by cases e)
    | gap =>
      tm_at "rzs"
      intro n H1 d1 hn
      exact k _ H1 d1 ⟨_, .int _, (show isN (.int (n : Int)) = true by unfold isN; exact decide_eq_true (by omega)).symm⟩ (fun e => by cases e)
    | pack =>
      tm_at "rzs"
      intro p1 H1 f1 s1 g1
      tm_at "rzs"
      intro n2 H2 d2 l2 u2
      obtain ⟨v, hv, x, rfl, hx⟩ := pickA (P := fun y => ∃ x, y = V.str x ∧ isSt packsL (.str x) = true) (xs := [sX "start", sX "end", sX "middle", sX "between"]) (fun y my => by
        simp only [List.mem_cons, List.not_mem_nil, or_false] at my
        rcases my with rfl | rfl | rfl | rfl <;> exact ⟨_, rfl, by decide +kernel⟩) l2 u2
      refine ⟨_, _, _, _, rfl, rfl, sqL (d2.app (hs.ne f1) g1), hv, ?_⟩
      exact k _ H2 ((Dr.of hs s1).trans d2) ⟨_, .str _, hx.symm⟩ (fun e => by cases e)
    | stands =>
      tm_at "rzs"
      intro p1 H1 f1 s1 g1
      tm_at "rzs"
      intro n2 H2 d2 l2 u2
      obtain ⟨v, hv, x, rfl, hx⟩ := pickA (P := fun y => ∃ x, y = V.str x ∧ isSt standsL (.str x) = true) (xs := [sX "start", sX "end", sX "middle", sX "stretch", sX "base"]) (fun y my => by
        simp only [List.mem_cons, List.not_mem_nil, or_false] at my
        rcases my with rfl | rfl | rfl | rfl | rfl <;> exact ⟨_, rfl, by decide +kernel⟩) l2 u2
      refine ⟨_, _, _, _, rfl, rfl, sqL (d2.app (hs.ne f1) g1), hv, ?_⟩
      exact k _ H2 ((Dr.of hs s1).trans d2) ⟨_, .str _, hx.symm⟩ (fun e => by cases e)
    | tracks =>
      tm_at "rzs"
      refine fun D hD => lcRo (n := (if (c : Int) > 1 then (c : Int) else 1).toNat) (s := s) (fun i v H => ∃ t : Tk, TkAt H v t ∧ t.ok) (fun _ v H H' acc ⟨t, h, o⟩ e b => ⟨t, h.but e b, o⟩) (fun _ v H H' ⟨t, h, o⟩ e d => ⟨t, h.dr e d, o⟩) hs hD (by split <;> omega) (fun i H1 Kt Kf acc hi d1 e1 kt => ?_) (fun us H1 d1 hul hub nD gD => ?_)
      · have hs1 := d1.s
        tm_at "rzs"
        intro n2 H2 d2 hn2
        have hs2 := d2.s
        tm_at "rzs"
        intro p3 H3 f3 s3 g3
        tm_at "rzs"
        intro p4 H4 f4 s4 g4
        tm_at "rzs"
        intro n5 H5 d5 l5 u5
        have n4 := (hs2.same s3).ne f4
        have n3 := hs2.ne f3
        have g3' := d5.app n3 (s4 _ _ g3)
        obtain ⟨v, hv, hx⟩ := pickA (P := fun y => ∃ t : Tk, TkAt H5 y t ∧ t.ok) (xs := [.int (n2 : Int), sX "fit", .ref p3]) (fun y my => by
          simp only [List.mem_cons, List.not_mem_nil, or_false] at my
          rcases my with rfl | rfl | rfl
          · exact ⟨.cells n2, rfl, Int.natCast_nonneg _⟩
          · exact ⟨.fit, rfl, trivial⟩
          · exact ⟨.share (1 + (0 + (i : Int))), ⟨p3, rfl, g3'⟩, (show (1 : Int) ≤ 1 + (0 + (i : Int)) by omega)⟩) l5 u5
        refine ⟨_, _, _, _, rfl, rfl, sqL (d5.app n4 g4), hv, ?_⟩
        exact kt v H5 ((d2.same (s3.trans s4)).trans d5) hx
      · obtain ⟨ts, hts, okt⟩ := tks_of (us := us) (H := H1) fun v m => by obtain ⟨i, hi⟩ := List.getElem?_of_mem m; exact hub i v hi
        have n2 : ∀ r, (∃ xs, H1 r = some (.tup xs)) → r ∉ [s] := fun r ⟨xs, g⟩ m => by
          obtain ⟨_, q⟩ := d1.s
          rw [List.mem_singleton.mp m, q] at g; cases g
        have hts' : TksAt (dropC [s] H1) us ts := ⟨hts.1, fun i v t a b => by
          have h := hts.2 i v t a b
          cases t with
          | cells n => exact h
          | fit => exact h
          | share k => obtain ⟨r, e, g⟩ := h; exact ⟨r, e, drop_at g (n2 r ⟨_, g⟩)⟩⟩
        have lt := hts.1
        refine k _ H1 d1 (.inr ⟨D, us, ts.map tkD, rfl, drop_at gD (by simpa using nD), tks_its hts', fun d m => ?_, by rw [List.length_map]; split at hul <;> omega, ?_, fun _ => by rw [hul]; split <;> omega⟩) (fun e => by cases e)
        · obtain ⟨t, _, rfl⟩ := List.mem_map.mp m
          have q := tkD_can t
          unfold fineE
          rw [q.1, decide_eq_true q.2]; rfl
        · have ne : ts ≠ [] := fun e => by rw [e, hul] at lt; simp at lt; split at lt <;> omega
          have e1 : (ts.map tkD).isEmpty = false := by cases ts with
            | nil => exact absurd rfl ne
            | cons => rfl
          rw [e1]
          symm
          rw [Bool.not_false, Bool.true_and, List.all_eq_true]
          intro d m
          obtain ⟨t, mt, rfl⟩ := List.mem_map.mp m
          exact tk_ok (okt t mt)
    | spots =>
      tm_at "rzs"
      have spot_up : ∀ {i : Nat} {v : V} {Ha Hb : Hp}, (∃ (y : Int) (a : Addr), 0 ≤ y ∧ y < (max 1 c : Nat) ∧ v = .ref a ∧ Ha a = some (.tup [.int (i : Int), .int y, .int 1, .int 1])) → (∀ a xs, Ha a = some (.tup xs) → Hb a = some (.tup xs)) → ∃ (y : Int) (a : Addr), 0 ≤ y ∧ y < (max 1 c : Nat) ∧ v = .ref a ∧ Hb a = some (.tup [.int (i : Int), .int y, .int 1, .int 1]) := fun ⟨y, a, h1, h2, e, g⟩ t => ⟨y, a, h1, h2, e, t _ _ g⟩
      refine fun D hD => lcRo (n := c) (s := s) (fun i v H => ∃ (y : Int) (a : Addr), 0 ≤ y ∧ y < (max 1 c : Nat) ∧ v = .ref a ∧ H a = some (.tup [.int (i : Int), .int y, .int 1, .int 1])) (fun i v Ha Hb acc h gD b => spot_up h fun a xs g => b.app (fun z => by rw [z, gD] at g; cases g) g) (fun i v Ha Hb h sa d => spot_up h fun a xs g => d.app (fun z => by obtain ⟨_, q⟩ := sa; rw [z, q] at g; cases g) g) hs hD (by omega) (fun i H1 Kt Kf acc hi d1 e1 kt => ?_) (fun us H1 d1 hul hub nD gD => ?_)
      · have hs1 := d1.s
        tm_at "rzs"
        intro n2 H2 d2 l2 u2
        tm_at "rzs"
        intro p3 H3 f3 s3 g3
        exact kt (.ref p3) H3 (d2.same s3) ⟨n2, p3, l2, by split at u2 <;> omega, rfl, by rw [g3]; simp⟩
      · have hub2 := hub
        refine k _ H1 d1 (.inr ⟨D, us, (List.range c).map (fun i : Nat => four4 (i : Int) (yOf H1 us i) 1 1), rfl, drop_at gD (by simpa using nD), ⟨by simp [hul], fun i v o e1 e2 => ?_⟩, by simp; omega, ?_⟩) (fun e => by cases e)
        · obtain ⟨y, a, h1, h2, ev, g⟩ := hub i v e1
          subst ev
          rw [List.getElem?_map] at e2
          have hi : i < c := by have := (List.getElem?_eq_some_iff.mp e1).1; omega
          rw [List.getElem?_range hi] at e2
          cases e2
          dsimp only
          rw [yOf_at e1 g]
          refine .tup a _ (drop_at g ?_) fun x m => ?_
          · intro m
            obtain ⟨_, q⟩ := d1.s
            rw [List.mem_singleton.mp m, q] at g; cases g
          · simp only [List.mem_cons, List.not_mem_nil, or_false] at m
            rcases m with rfl | rfl | rfl | rfl <;> exact ⟨_, .int _⟩
        · symm
          rw [List.length_map, List.length_range, decide_eq_true rfl, Bool.true_and]
          refine col_ok c _ fun i hi => ?_
          obtain ⟨v, ev⟩ : ∃ v, us[i]? = some v := ⟨us[i]'(by omega), List.getElem?_eq_getElem (by omega)⟩
          obtain ⟨y, a, h1, h2, e2, g⟩ := hub i v ev
          subst e2
          rw [yOf_at ev g]
          exact ⟨h1, h2⟩
    | style =>
      tm_at "rzs"
      intro x1 dx1 fx1 fdx1 nd1
      refine mk_bat (fs := dfltL T.U_NO_RIMS) (dflt_fbl T.t_NO_RIMS) fx1 fdx1 nd1 fun H1 s1 => ⟨fun _ g1 => ?_, fun e => absurd e (by decide)⟩
      tm_at "rzs"
      intro n H2 d2 hn
      tm_at "rzs"
      intro x3 dx3 fx3 fdx3 nd3
      have hn9 : FB K H2 6 (.int (n : Int)) true := ⟨_, .int _, (show isN (.int (n : Int)) = true by unfold isN; exact decide_eq_true (by omega)).symm⟩
      refine mk_bat (fs := (dfltL T.U_NO_RIMS).set 6 (.int (n : Int))) ((dflt_fbl T.t_NO_RIMS).set hn9) fx3 fdx3 nd3 fun H3 s3 => ⟨fun _ g3 => ?_, fun e => absurd e (by decide)⟩
      have n1 := hs.ne fx1
      have d03 := ((Dr.of hs s1).trans d2).same s3
      have n3 : x3 ≠ s := ((Dr.of hs s1).trans d2).s.ne fx3
      tm_at "rzs"
      intro p4 H4 f4 s4 g4
      have n4 := d03.s.ne f4
      tm_at "rzs"
      intro n5 H5 d5 l5 u5
      have q1 := ((drop_dr d2).trans ((drop_same (s3.trans s4)).trans (drop_dr d5))) _ _ (drop_at g1 (by simpa using n1))
      have q3 := ((drop_same s4).trans (drop_dr d5)) _ _ (drop_at g3 (by simpa using n3))
      obtain ⟨v, hv, hx⟩ := pickA (P := fun y => ValR K T.c_Style.C T.c_Words.C c (dropC [s] H5) y true .style) (xs := [V.non, .ref x1, .ref x3]) (fun y my => by
        simp only [List.mem_cons, List.not_mem_nil, or_false] at my
        rcases my with rfl | rfl | rfl
        · exact .inl ⟨rfl, rfl⟩
        · exact .inr (.inl ⟨_, _, _, rfl, q1, rfl⟩)
        · exact .inr (.inl ⟨_, _, _, rfl, q3, rfl⟩)) l5 u5
      refine ⟨_, _, _, _, rfl, rfl, sqL (d5.app n4 g4), hv, ?_⟩
      exact k v H5 ((d03.same s4).trans d5) hx (fun e => by cases e)
end
end My
namespace My
open PySem PySem.Spec PyProof.Rows L2
section
variable {P : Program} {w : World} {K : PySem.W.Frag} {mg : Str → Option Value} {base : Heap}
def sp_w_made (K : PySem.W.Frag) (S W : Addr) (cl : Nat → Addr) (ec : Srt → Addr) : Sp := fun vs H Q E => ∃ (k : Nat) (p : Addr) (c : Nat) (us : List V) (bs : List Bool), vs = [.int (k : Int), .ref p] ∧ k < 5 ∧ H p = some (.lst us) ∧ ValsR K S W c H (srts k) us bs ∧ ∀ H', Same H H' → (firstBad ((srts k).zip bs) = none → ∀ (x dx : Addr) (fs : List (Str × V)) (v0 : V), us[0]? = some v0 → H' x = some (.ins (cl k) dx fs) → fs.lookup (Str.ofString "name") = some v0 → Q (.ref x) H') ∧ ∀ so, firstBad ((srts k).zip bs) = some so → ErrAt ec E so H'
theorem ok_w_made (T : Tx w K mg) : FnOk P w K mg base (L2N.CX P w) 9 T.d_w_made.f T.d_w_made.fd ["_law_kind", "_law_values"] (sp_w_made K T.c_Style.C T.c_Words.C (clW T) (fun s => ecW T s.tx)) := by
  refine T.d_w_made.F.okN sc_w_made (fun vs H Q E h => ?_) (fun cdv A outer s H vs Q E hr h => ?_)
  · obtain ⟨k, p, c, us, bs, rfl, _⟩ := h
    rfl
  · obtain ⟨k, p, c, us, bs, rfl, hk, hp, hv, kk⟩ := h
    refine ⟨_, (pss_cons (ps_if (pt_cmpR op_eq (pv 0) pe_int (nomark _))
      (pss_one (ps_ret (pe_makeK (n := 2) T.d_Words_init.mks (ok_Words_init T) (hr.mono (by decide)) (by rfl) T.c_Words.g (Classical.choose_spec (kb_Words_init_3_style T)) (L2N.passes_call (L2N.takes_of rfl rfl rfl rfl) (fun _ _ _ _ h => h)) (pa_cons (pe_ix (ix_listK (K := K) rfl) (pv 1) pe_int (fun _ _ => rfl)) (pa_cons (pe_ix (ix_listK (K := K) rfl) (pv 1) pe_int (fun _ _ => rfl)) pa_nil)) (pk_cons (pe_ix (ix_listK (K := K) rfl) (pv 1) pe_int (fun _ _ => rfl)) pk_nil))))
      pss_nil)
      (pss_cons (ps_if (pt_cmpR op_eq (pv 0) pe_int (nomark _))
      (pss_one (ps_ret (pe_makeK (n := 3) T.d_Picture_init.mks (ok_Picture_init T) (hr.mono (by decide)) (by rfl) T.c_Picture.g (Classical.choose_spec (kb_Picture_init_4_style T)) (L2N.passes_call (L2N.takes_of rfl rfl rfl rfl) (fun _ _ _ _ h => h)) (pa_cons (pe_ix (ix_listK (K := K) rfl) (pv 1) pe_int (fun _ _ => rfl)) (pa_cons (pe_ix (ix_listK (K := K) rfl) (pv 1) pe_int (fun _ _ => rfl)) (pa_cons (pe_ix (ix_listK (K := K) rfl) (pv 1) pe_int (fun _ _ => rfl)) pa_nil))) (pk_cons (pe_ix (ix_listK (K := K) rfl) (pv 1) pe_int (fun _ _ => rfl)) pk_nil))))
      pss_nil)
      (pss_cons (ps_if (pt_cmpR op_eq (pv 0) pe_int (nomark _))
      (pss_one (ps_ret (pe_makeK (n := 2) T.d_Row_init.mks (ok_Row_init T) (hr.mono (by decide)) (by rfl) T.c_Row.g (Classical.choose_spec (kb_Row_init_3_turn_gap_lane_pack_stands_style T)) (L2N.passes_call (L2N.takes_of rfl rfl rfl rfl) (fun _ _ _ _ h => h)) (pa_cons (pe_ix (ix_listK (K := K) rfl) (pv 1) pe_int (fun _ _ => rfl)) (pa_cons (pe_ix (ix_listK (K := K) rfl) (pv 1) pe_int (fun _ _ => rfl)) pa_nil)) (pk_cons (pe_ix (ix_listK (K := K) rfl) (pv 1) pe_int (fun _ _ => rfl)) (pk_cons (pe_ix (ix_listK (K := K) rfl) (pv 1) pe_int (fun _ _ => rfl)) (pk_cons (pe_ix (ix_listK (K := K) rfl) (pv 1) pe_int (fun _ _ => rfl)) (pk_cons (pe_ix (ix_listK (K := K) rfl) (pv 1) pe_int (fun _ _ => rfl)) (pk_cons (pe_ix (ix_listK (K := K) rfl) (pv 1) pe_int (fun _ _ => rfl)) (pk_cons (pe_ix (ix_listK (K := K) rfl) (pv 1) pe_int (fun _ _ => rfl)) pk_nil)))))))))
      pss_nil)
      (pss_cons (ps_if (pt_cmpR op_eq (pv 0) pe_int (nomark _))
      (pss_one (ps_ret (pe_makeK (n := 2) T.d_Pile_init.mks (ok_Pile_init T) (hr.mono (by decide)) (by rfl) T.c_Pile.g (Classical.choose_spec (kb_Pile_init_3_gap_pack_stands_style T)) (L2N.passes_call (L2N.takes_of rfl rfl rfl rfl) (fun _ _ _ _ h => h)) (pa_cons (pe_ix (ix_listK (K := K) rfl) (pv 1) pe_int (fun _ _ => rfl)) (pa_cons (pe_ix (ix_listK (K := K) rfl) (pv 1) pe_int (fun _ _ => rfl)) pa_nil)) (pk_cons (pe_ix (ix_listK (K := K) rfl) (pv 1) pe_int (fun _ _ => rfl)) (pk_cons (pe_ix (ix_listK (K := K) rfl) (pv 1) pe_int (fun _ _ => rfl)) (pk_cons (pe_ix (ix_listK (K := K) rfl) (pv 1) pe_int (fun _ _ => rfl)) (pk_cons (pe_ix (ix_listK (K := K) rfl) (pv 1) pe_int (fun _ _ => rfl)) pk_nil)))))))
      pss_nil)
      (pss_one (ps_ret (pe_makeK (n := 3) T.d_Grid_init.mks (ok_Grid_init T) (hr.mono (by decide)) (by rfl) T.c_Grid.g (Classical.choose_spec (kb_Grid_init_4_columns_rows_gap_lane_stands_style T)) (L2N.passes_call (L2N.takes_of rfl rfl rfl rfl) (fun _ _ _ _ h => h)) (pa_cons (pe_ix (ix_listK (K := K) rfl) (pv 1) pe_int (fun _ _ => rfl)) (pa_cons (pe_ix (ix_listK (K := K) rfl) (pv 1) pe_int (fun _ _ => rfl)) (pa_cons (pe_ix (ix_listK (K := K) rfl) (pv 1) pe_int (fun _ _ => rfl)) pa_nil))) (pk_cons (pe_ix (ix_listK (K := K) rfl) (pv 1) pe_int (fun _ _ => rfl)) (pk_cons (pe_ix (ix_listK (K := K) rfl) (pv 1) pe_int (fun _ _ => rfl)) (pk_cons (pe_ix (ix_listK (K := K) rfl) (pv 1) pe_int (fun _ _ => rfl)) (pk_cons (pe_ix (ix_listK (K := K) rfl) (pv 1) pe_int (fun _ _ => rfl)) (pk_cons (pe_ix (ix_listK (K := K) rfl) (pv 1) pe_int (fun _ _ => rfl)) (pk_cons (pe_ix (ix_listK (K := K) rfl) (pv 1) pe_int (fun _ _ => rfl)) pk_nil))))))))))))), ?_⟩
    match k, hk, hv, kk with
    | 0, _, hv, kk =>
      obtain ⟨lu, lb, hv⟩ := hv
      match us, bs, lu, lb, hp, hv, kk with
      | [u0, u1, u2], [b0, b1, b2], _, _, hp, hv, kk =>
      have far : ∀ {x dx a : Addr} {o : HO} {C : Addr}, H x = none → H dx = none → H a = some o → upd (upd H dx (.own x)) x (.ins C dx []) a = some o := fun fx fdx e => by rw [upd_ne (ne_of_none e fx), upd_ne (ne_of_none e fdx)]; exact e
      tm_at "rzs"
      intro x dx fx fdx nd
      refine ⟨H, x, dx, c, u0, u1, u2, b0, b1, b2, rfl, upd_same, fx, fun a o e => far fx fdx e, hv 0 _ _ _ rfl rfl rfl, hv 1 _ _ _ rfl rfl rfl, hv 2 _ _ _ rfl rfl rfl, fun H' b => ?_⟩
      have s : Same H H' := fun a o e => b _ _ (ne_of_none e fx) (far fx fdx e)
      exact ⟨fun e ⟨fs, g, l⟩ => ⟨rfl, (kk H' s).1 e x dx fs _ rfl g l⟩, fun so e => (kk H' s).2 so e⟩
    | 1, _, hv, kk =>
      obtain ⟨lu, lb, hv⟩ := hv
      match us, bs, lu, lb, hp, hv, kk with
      | [u0, u1, u2, u3], [b0, b1, b2, b3], _, _, hp, hv, kk =>
      have far : ∀ {x dx a : Addr} {o : HO} {C : Addr}, H x = none → H dx = none → H a = some o → upd (upd H dx (.own x)) x (.ins C dx []) a = some o := fun fx fdx e => by rw [upd_ne (ne_of_none e fx), upd_ne (ne_of_none e fdx)]; exact e
      tm_at "rzs"
      intro x dx fx fdx nd
      refine ⟨H, x, dx, c, u0, u1, u2, u3, b0, b1, b2, b3, rfl, upd_same, fx, fun a o e => far fx fdx e, hv 0 _ _ _ rfl rfl rfl, hv 1 _ _ _ rfl rfl rfl, hv 2 _ _ _ rfl rfl rfl, hv 3 _ _ _ rfl rfl rfl, fun H' b => ?_⟩
      have s : Same H H' := fun a o e => b _ _ (ne_of_none e fx) (far fx fdx e)
      exact ⟨fun e ⟨fs, g, l⟩ => ⟨rfl, (kk H' s).1 e x dx fs _ rfl g l⟩, fun so e => (kk H' s).2 so e⟩
    | 2, _, hv, kk =>
      obtain ⟨lu, lb, hv⟩ := hv
      match us, bs, lu, lb, hp, hv, kk with
      | [u0, u1, u2, u3, u4, u5, u6, u7], [b0, b1, b2, b3, b4, b5, b6, b7], _, _, hp, hv, kk =>
      have far : ∀ {x dx a : Addr} {o : HO} {C : Addr}, H x = none → H dx = none → H a = some o → upd (upd H dx (.own x)) x (.ins C dx []) a = some o := fun fx fdx e => by rw [upd_ne (ne_of_none e fx), upd_ne (ne_of_none e fdx)]; exact e
      tm_at "rzs"
      intro x dx fx fdx nd
      refine ⟨H, x, dx, c, u0, u1, u2, u3, u4, u5, u6, u7, b0, b1, b2, b3, b4, b5, b6, b7, rfl, upd_same, fx, fun a o e => far fx fdx e, hv 0 _ _ _ rfl rfl rfl, hv 1 _ _ _ rfl rfl rfl, hv 2 _ _ _ rfl rfl rfl, hv 3 _ _ _ rfl rfl rfl, hv 4 _ _ _ rfl rfl rfl, hv 5 _ _ _ rfl rfl rfl, hv 6 _ _ _ rfl rfl rfl, hv 7 _ _ _ rfl rfl rfl, fun H' b => ?_⟩
      have s : Same H H' := fun a o e => b _ _ (ne_of_none e fx) (far fx fdx e)
      exact ⟨fun e ⟨fs, g, l⟩ => ⟨rfl, (kk H' s).1 e x dx fs _ rfl g l⟩, fun so e => (kk H' s).2 so e⟩
    | 3, _, hv, kk =>
      obtain ⟨lu, lb, hv⟩ := hv
      match us, bs, lu, lb, hp, hv, kk with
      | [u0, u1, u2, u3, u4, u5], [b0, b1, b2, b3, b4, b5], _, _, hp, hv, kk =>
      have far : ∀ {x dx a : Addr} {o : HO} {C : Addr}, H x = none → H dx = none → H a = some o → upd (upd H dx (.own x)) x (.ins C dx []) a = some o := fun fx fdx e => by rw [upd_ne (ne_of_none e fx), upd_ne (ne_of_none e fdx)]; exact e
      tm_at "rzs"
      intro x dx fx fdx nd
      refine ⟨H, x, dx, c, u0, u1, u2, u3, u4, u5, b0, b1, b2, b3, b4, b5, rfl, upd_same, fx, fun a o e => far fx fdx e, hv 0 _ _ _ rfl rfl rfl, hv 1 _ _ _ rfl rfl rfl, hv 2 _ _ _ rfl rfl rfl, hv 3 _ _ _ rfl rfl rfl, hv 4 _ _ _ rfl rfl rfl, hv 5 _ _ _ rfl rfl rfl, fun H' b => ?_⟩
      have s : Same H H' := fun a o e => b _ _ (ne_of_none e fx) (far fx fdx e)
      exact ⟨fun e ⟨fs, g, l⟩ => ⟨rfl, (kk H' s).1 e x dx fs _ rfl g l⟩, fun so e => (kk H' s).2 so e⟩
    | 4, _, hv, kk =>
      obtain ⟨lu, lb, hv⟩ := hv
      match us, bs, lu, lb, hp, hv, kk with
      | [u0, u1, u2, u3, u4, u5, u6, u7, u8], [b0, b1, b2, b3, b4, b5, b6, b7, b8], _, _, hp, hv, kk =>
      have far : ∀ {x dx a : Addr} {o : HO} {C : Addr}, H x = none → H dx = none → H a = some o → upd (upd H dx (.own x)) x (.ins C dx []) a = some o := fun fx fdx e => by rw [upd_ne (ne_of_none e fx), upd_ne (ne_of_none e fdx)]; exact e
      tm_at "rzs"
      intro x dx fx fdx nd
      refine ⟨H, x, dx, c, u0, u1, u4, u2, u3, u5, u6, u7, u8, b0, b1, b4, b2, b3, b5, b6, b7, b8, rfl, upd_same, fx, fun a o e => far fx fdx e, hv 0 _ _ _ rfl rfl rfl, hv 1 _ _ _ rfl rfl rfl, hv 4 _ _ _ rfl rfl rfl, hv 2 _ _ _ rfl rfl rfl, hv 3 _ _ _ rfl rfl rfl, hv 5 _ _ _ rfl rfl rfl, hv 6 _ _ _ rfl rfl rfl, hv 7 _ _ _ rfl rfl rfl, hv 8 _ _ _ rfl rfl rfl, fun H' b => ?_⟩
      have s : Same H H' := fun a o e => b _ _ (ne_of_none e fx) (far fx fdx e)
      exact ⟨fun e ⟨fs, g, l⟩ => ⟨rfl, (kk H' s).1 e x dx fs _ rfl g l⟩, fun so e => (kk H' s).2 so e⟩
    | n + 5, h, _, _ => exact absurd h (by omega)
end
end My
namespace My
open PySem PySem.Spec PyProof.Rows L2
section
variable {P : Program} {w : World} {K : PySem.W.Frag} {mg : Str → Option Value} {base : Heap}
def sp_w_told (ec : Srt → Addr) : Addr → Value → Option Addr → Sp := fun a cls d vs H Q _ => ∃ (so : Srt), vs = [.ref a] ∧ cls = .ref (ec so) ∧ DctAt d H ∧ ∀ (p : Addr) H', Same H H' → H p = none → H' p = some (.lst [sX so.er]) → Q (.ref p) H'
theorem dct_but {d : Option Addr} {H H' : Hp} {p : Addr} {xs : List V} (h : DctAt d H) (g : H p = some (.lst xs)) (b : But p H H') : DctAt d H' := fun dd e => let ⟨fs, q⟩ := h dd e; ⟨fs, b _ _ (fun z => by rw [z, g] at q; cases q) q⟩
theorem ok_w_told (T : Tx w K mg) : FnX P w K mg base CX0 3 T.d_w_told.f T.d_w_told.fd ["_law_e"] (sp_w_told (fun s => ecW T s.tx)) := by
  refine fnX_of T.d_w_told.F sc_w_told (fun a cls d vs H Q E h => ?_) (fun cdv A outer s H vs Q E p cls d hot hz hr h => ?_)
  · obtain ⟨so, rfl, _⟩ := h
    rfl
  · obtain ⟨so, rfl, hcls, hd, k⟩ := h
    subst hcls
    refine ⟨_, (pss_cons (ps_set (i := 1) sc_w_told.nd rfl (Or.inl rfl) (pe_lstA pa_nil))
      (pss_cons (ps_if (pt_val (pe_callB (call_isXe (List.mem_singleton.mpr rfl) hz hot.2) (by rfl) T.b_isinstance (by decide +kernel) (pa_cons (pv 0) (pa_cons (pe_glob (v := .ref T.e_NoName.C) (by rfl) T.e_NoName.g rfl) pa_nil))))
      (pss_one (ps_expr (pe_bm PySem.F.plainAttrs_list PySem.F.slot_list_append PySem.F.type_list_append mt_appendA (pv 1) (pa_cons pe_str pa_nil))))
      pss_nil)
      (pss_cons (ps_if (pt_val (pe_callB (call_isXe (List.mem_singleton.mpr rfl) hz hot.2) (by rfl) T.b_isinstance (by decide +kernel) (pa_cons (pv 0) (pa_cons (pe_glob (v := .ref T.e_NoText.C) (by rfl) T.e_NoText.g rfl) pa_nil))))
      (pss_one (ps_expr (pe_bm PySem.F.plainAttrs_list PySem.F.slot_list_append PySem.F.type_list_append mt_appendA (pv 1) (pa_cons pe_str pa_nil))))
      pss_nil)
      (pss_cons (ps_if (pt_val (pe_callB (call_isXe (List.mem_singleton.mpr rfl) hz hot.2) (by rfl) T.b_isinstance (by decide +kernel) (pa_cons (pv 0) (pa_cons (pe_glob (v := .ref T.e_NoNumber.C) (by rfl) T.e_NoNumber.g rfl) pa_nil))))
      (pss_one (ps_expr (pe_bm PySem.F.plainAttrs_list PySem.F.slot_list_append PySem.F.type_list_append mt_appendA (pv 1) (pa_cons pe_str pa_nil))))
      pss_nil)
      (pss_cons (ps_if (pt_val (pe_callB (call_isXe (List.mem_singleton.mpr rfl) hz hot.2) (by rfl) T.b_isinstance (by decide +kernel) (pa_cons (pv 0) (pa_cons (pe_glob (v := .ref T.e_NoBox.C) (by rfl) T.e_NoBox.g rfl) pa_nil))))
      (pss_one (ps_expr (pe_bm PySem.F.plainAttrs_list PySem.F.slot_list_append PySem.F.type_list_append mt_appendA (pv 1) (pa_cons pe_str pa_nil))))
      pss_nil)
      (pss_cons (ps_if (pt_val (pe_callB (call_isXe (List.mem_singleton.mpr rfl) hz hot.2) (by rfl) T.b_isinstance (by decide +kernel) (pa_cons (pv 0) (pa_cons (pe_glob (v := .ref T.e_NoTruth.C) (by rfl) T.e_NoTruth.g rfl) pa_nil))))
      (pss_one (ps_expr (pe_bm PySem.F.plainAttrs_list PySem.F.slot_list_append PySem.F.type_list_append mt_appendA (pv 1) (pa_cons pe_str pa_nil))))
      pss_nil)
      (pss_cons (ps_if (pt_val (pe_callB (call_isXe (List.mem_singleton.mpr rfl) hz hot.2) (by rfl) T.b_isinstance (by decide +kernel) (pa_cons (pv 0) (pa_cons (pe_glob (v := .ref T.e_NoPack.C) (by rfl) T.e_NoPack.g rfl) pa_nil))))
      (pss_one (ps_expr (pe_bm PySem.F.plainAttrs_list PySem.F.slot_list_append PySem.F.type_list_append mt_appendA (pv 1) (pa_cons pe_str pa_nil))))
      pss_nil)
      (pss_cons (ps_if (pt_val (pe_callB (call_isXe (List.mem_singleton.mpr rfl) hz hot.2) (by rfl) T.b_isinstance (by decide +kernel) (pa_cons (pv 0) (pa_cons (pe_glob (v := .ref T.e_NoStand.C) (by rfl) T.e_NoStand.g rfl) pa_nil))))
      (pss_one (ps_expr (pe_bm PySem.F.plainAttrs_list PySem.F.slot_list_append PySem.F.type_list_append mt_appendA (pv 1) (pa_cons pe_str pa_nil))))
      pss_nil)
      (pss_cons (ps_if (pt_val (pe_callB (call_isXe (List.mem_singleton.mpr rfl) hz hot.2) (by rfl) T.b_isinstance (by decide +kernel) (pa_cons (pv 0) (pa_cons (pe_glob (v := .ref T.e_NoTrack.C) (by rfl) T.e_NoTrack.g rfl) pa_nil))))
      (pss_one (ps_expr (pe_bm PySem.F.plainAttrs_list PySem.F.slot_list_append PySem.F.type_list_append mt_appendA (pv 1) (pa_cons pe_str pa_nil))))
      pss_nil)
      (pss_cons (ps_if (pt_val (pe_callB (call_isXe (List.mem_singleton.mpr rfl) hz hot.2) (by rfl) T.b_isinstance (by decide +kernel) (pa_cons (pv 0) (pa_cons (pe_glob (v := .ref T.e_NoSpot.C) (by rfl) T.e_NoSpot.g rfl) pa_nil))))
      (pss_one (ps_expr (pe_bm PySem.F.plainAttrs_list PySem.F.slot_list_append PySem.F.type_list_append mt_appendA (pv 1) (pa_cons pe_str pa_nil))))
      pss_nil)
      (pss_cons (ps_if (pt_val (pe_callB (call_isXe (List.mem_singleton.mpr rfl) hz hot.2) (by rfl) T.b_isinstance (by decide +kernel) (pa_cons (pv 0) (pa_cons (pe_glob (v := .ref T.e_NoStyle.C) (by rfl) T.e_NoStyle.g rfl) pa_nil))))
      (pss_one (ps_expr (pe_bm PySem.F.plainAttrs_list PySem.F.slot_list_append PySem.F.type_list_append mt_appendA (pv 1) (pa_cons pe_str pa_nil))))
      pss_nil)
      (pss_cons (ps_if (PW.pt (pw_or (pt_val (pe_callB (call_isXe (List.mem_singleton.mpr rfl) hz hot.2) (by rfl) T.b_isinstance (by decide +kernel) (pa_cons (pv 0) (pa_cons (pe_glob (v := .ref T.e_NoTree.C) (by rfl) T.e_NoTree.g rfl) pa_nil)))) (pw_or (pt_val (pe_callB (call_isXe (List.mem_singleton.mpr rfl) hz hot.2) (by rfl) T.b_isinstance (by decide +kernel) (pa_cons (pv 0) (pa_cons (pe_glob (v := .ref T.e_NoWords.C) (by rfl) T.e_NoWords.g rfl) pa_nil)))) (pw_or (pt_val (pe_callB (call_isXe (List.mem_singleton.mpr rfl) hz hot.2) (by rfl) T.b_isinstance (by decide +kernel) (pa_cons (pv 0) (pa_cons (pe_glob (v := .ref T.e_NoPlace.C) (by rfl) T.e_NoPlace.g rfl) pa_nil)))) (pw_or1 (pt_not (pt_val (pe_callB (call_isXe (List.mem_singleton.mpr rfl) hz hot.2) (by rfl) T.b_isinstance (by decide +kernel) (pa_cons (pv 0) (pa_cons (pe_bltn (v := .ty "ValueError") (by rfl) T.b_ValueError (by decide +kernel) rfl) pa_nil))))))))))
      (pss_one (ps_expr (pe_bm PySem.F.plainAttrs_list PySem.F.slot_list_append PySem.F.type_list_append mt_appendA (pv 1) (pa_cons pe_str pa_nil))))
      pss_nil)
      (pss_one (ps_ret (pv 1))))))))))))))), ?_⟩
    tm_at "rzs"
    intro p1 H1 f1 s1 g1
    have hd1 := hd.same s1
    dsimp only [gName]
    cases so with
    | name =>
      tm_at "rzs"
      refine ⟨_, _, _, _, rfl, hd1, T.e_NoName.E, rfl, fun u r => r, T.e_NoName.kit T.e_NoName T.i_NoName_NoName T.i_NoName_NoName, ?_⟩
      tm_at "rzs"
      refine ⟨p1, _, _, rfl, rfl, g1, Nat.le_of_ble_eq_true rfl, fun H2 b2 g2 => ?_⟩
      have hd2 := dct_but hd1 g1 b2
      tm_at "rzs"
      refine ⟨_, _, _, _, rfl, hd2, T.e_NoName.E, rfl, fun u r => r, T.e_NoName.kitC T.e_NoText T.i_NoName_NoName T.i_NoName_NoText, ?_⟩
      tm_at "rzs"
      refine ⟨_, _, _, _, rfl, hd2, T.e_NoName.E, rfl, fun u r => r, T.e_NoName.kit T.e_NoNumber T.i_NoName_NoName T.i_NoName_NoNumber, ?_⟩
      tm_at "rzs"
      refine ⟨_, _, _, _, rfl, hd2, T.e_NoName.E, rfl, fun u r => r, T.e_NoName.kit T.e_NoBox T.i_NoName_NoName T.i_NoName_NoBox, ?_⟩
      tm_at "rzs"
      refine ⟨_, _, _, _, rfl, hd2, T.e_NoName.E, rfl, fun u r => r, T.e_NoName.kit T.e_NoTruth T.i_NoName_NoName T.i_NoName_NoTruth, ?_⟩
      tm_at "rzs"
      refine ⟨_, _, _, _, rfl, hd2, T.e_NoName.E, rfl, fun u r => r, T.e_NoName.kit T.e_NoPack T.i_NoName_NoName T.i_NoName_NoPack, ?_⟩
      tm_at "rzs"
      refine ⟨_, _, _, _, rfl, hd2, T.e_NoName.E, rfl, fun u r => r, T.e_NoName.kit T.e_NoStand T.i_NoName_NoName T.i_NoName_NoStand, ?_⟩
      tm_at "rzs"
      refine ⟨_, _, _, _, rfl, hd2, T.e_NoName.E, rfl, fun u r => r, T.e_NoName.kit T.e_NoTrack T.i_NoName_NoName T.i_NoName_NoTrack, ?_⟩
      tm_at "rzs"
      refine ⟨_, _, _, _, rfl, hd2, T.e_NoName.E, rfl, fun u r => r, T.e_NoName.kit T.e_NoSpot T.i_NoName_NoName T.i_NoName_NoSpot, ?_⟩
      tm_at "rzs"
      refine ⟨_, _, _, _, rfl, hd2, T.e_NoName.E, rfl, fun u r => r, T.e_NoName.kit T.e_NoStyle T.i_NoName_NoName T.i_NoName_NoStyle, ?_⟩
      tm_at "rzs"
      refine ⟨_, _, _, _, rfl, hd2, T.e_NoName.E, rfl, fun u r => r, T.e_NoName.kitC T.e_NoTree T.i_NoName_NoName T.i_NoName_NoTree, ?_⟩
      tm_at "rzs"
      refine ⟨_, _, _, _, rfl, hd2, T.e_NoName.E, rfl, fun u r => r, T.e_NoName.kitC T.e_NoWords T.i_NoName_NoName T.i_NoName_NoWords, ?_⟩
      tm_at "rzs"
      refine ⟨_, _, _, _, rfl, hd2, T.e_NoName.E, rfl, fun u r => r, T.e_NoName.kitC T.e_NoPlace T.i_NoName_NoName T.i_NoName_NoPlace, ?_⟩
      tm_at "rzs"
      refine ⟨_, _, _, _, rfl, hd2, T.e_NoName.E, rfl, fun u r => r, T.e_NoName.kitT T.v_NoName, ?_⟩
      tm_at "rzs"
      exact k p1 H2 (Same.mut' s1 b2 f1) f1 g2
    | text =>
      tm_at "rzs"
      refine ⟨_, _, _, _, rfl, hd1, T.x_NoText.E, rfl, fun u r => r, T.x_NoText.kitX T.e_NoName T.i_NoText_NoText T.i_NoText_NoName, ?_⟩
      tm_at "rzs"
      refine ⟨_, _, _, _, rfl, hd1, T.x_NoText.E, rfl, fun u r => r, T.x_NoText.kitC T.e_NoText T.i_NoText_NoText T.i_NoText_NoText, ?_⟩
      tm_at "rzs"
      refine ⟨p1, _, _, rfl, rfl, g1, Nat.le_of_ble_eq_true rfl, fun H2 b2 g2 => ?_⟩
      have hd2 := dct_but hd1 g1 b2
      tm_at "rzs"
      refine ⟨_, _, _, _, rfl, hd2, T.x_NoText.E, rfl, fun u r => r, T.x_NoText.kitX T.e_NoNumber T.i_NoText_NoText T.i_NoText_NoNumber, ?_⟩
      tm_at "rzs"
      refine ⟨_, _, _, _, rfl, hd2, T.x_NoText.E, rfl, fun u r => r, T.x_NoText.kitX T.e_NoBox T.i_NoText_NoText T.i_NoText_NoBox, ?_⟩
      tm_at "rzs"
      refine ⟨_, _, _, _, rfl, hd2, T.x_NoText.E, rfl, fun u r => r, T.x_NoText.kitX T.e_NoTruth T.i_NoText_NoText T.i_NoText_NoTruth, ?_⟩
      tm_at "rzs"
      refine ⟨_, _, _, _, rfl, hd2, T.x_NoText.E, rfl, fun u r => r, T.x_NoText.kitX T.e_NoPack T.i_NoText_NoText T.i_NoText_NoPack, ?_⟩
      tm_at "rzs"
      refine ⟨_, _, _, _, rfl, hd2, T.x_NoText.E, rfl, fun u r => r, T.x_NoText.kitX T.e_NoStand T.i_NoText_NoText T.i_NoText_NoStand, ?_⟩
      tm_at "rzs"
      refine ⟨_, _, _, _, rfl, hd2, T.x_NoText.E, rfl, fun u r => r, T.x_NoText.kitX T.e_NoTrack T.i_NoText_NoText T.i_NoText_NoTrack, ?_⟩
      tm_at "rzs"
      refine ⟨_, _, _, _, rfl, hd2, T.x_NoText.E, rfl, fun u r => r, T.x_NoText.kitX T.e_NoSpot T.i_NoText_NoText T.i_NoText_NoSpot, ?_⟩
      tm_at "rzs"
      refine ⟨_, _, _, _, rfl, hd2, T.x_NoText.E, rfl, fun u r => r, T.x_NoText.kitX T.e_NoStyle T.i_NoText_NoText T.i_NoText_NoStyle, ?_⟩
      tm_at "rzs"
      refine ⟨_, _, _, _, rfl, hd2, T.x_NoText.E, rfl, fun u r => r, T.x_NoText.kitC T.e_NoTree T.i_NoText_NoText T.i_NoText_NoTree, ?_⟩
      tm_at "rzs"
      refine ⟨_, _, _, _, rfl, hd2, T.x_NoText.E, rfl, fun u r => r, T.x_NoText.kitC T.e_NoWords T.i_NoText_NoText T.i_NoText_NoWords, ?_⟩
      tm_at "rzs"
      refine ⟨_, _, _, _, rfl, hd2, T.x_NoText.E, rfl, fun u r => r, T.x_NoText.kitC T.e_NoPlace T.i_NoText_NoText T.i_NoText_NoPlace, ?_⟩
      tm_at "rzs"
      refine ⟨_, _, _, _, rfl, hd2, T.x_NoText.E, rfl, fun u r => r, kit_exT T.v_NoText, ?_⟩
      tm_at "rzs"
      exact k p1 H2 (Same.mut' s1 b2 f1) f1 g2
    | size =>
      tm_at "rzs"
      refine ⟨_, _, _, _, rfl, hd1, T.e_NoNumber.E, rfl, fun u r => r, T.e_NoNumber.kit T.e_NoName T.i_NoNumber_NoNumber T.i_NoNumber_NoName, ?_⟩
      tm_at "rzs"
      refine ⟨_, _, _, _, rfl, hd1, T.e_NoNumber.E, rfl, fun u r => r, T.e_NoNumber.kitC T.e_NoText T.i_NoNumber_NoNumber T.i_NoNumber_NoText, ?_⟩
      tm_at "rzs"
      refine ⟨_, _, _, _, rfl, hd1, T.e_NoNumber.E, rfl, fun u r => r, T.e_NoNumber.kit T.e_NoNumber T.i_NoNumber_NoNumber T.i_NoNumber_NoNumber, ?_⟩
      tm_at "rzs"
      refine ⟨p1, _, _, rfl, rfl, g1, Nat.le_of_ble_eq_true rfl, fun H2 b2 g2 => ?_⟩
      have hd2 := dct_but hd1 g1 b2
      tm_at "rzs"
      refine ⟨_, _, _, _, rfl, hd2, T.e_NoNumber.E, rfl, fun u r => r, T.e_NoNumber.kit T.e_NoBox T.i_NoNumber_NoNumber T.i_NoNumber_NoBox, ?_⟩
      tm_at "rzs"
      refine ⟨_, _, _, _, rfl, hd2, T.e_NoNumber.E, rfl, fun u r => r, T.e_NoNumber.kit T.e_NoTruth T.i_NoNumber_NoNumber T.i_NoNumber_NoTruth, ?_⟩
      tm_at "rzs"
      refine ⟨_, _, _, _, rfl, hd2, T.e_NoNumber.E, rfl, fun u r => r, T.e_NoNumber.kit T.e_NoPack T.i_NoNumber_NoNumber T.i_NoNumber_NoPack, ?_⟩
      tm_at "rzs"
      refine ⟨_, _, _, _, rfl, hd2, T.e_NoNumber.E, rfl, fun u r => r, T.e_NoNumber.kit T.e_NoStand T.i_NoNumber_NoNumber T.i_NoNumber_NoStand, ?_⟩
      tm_at "rzs"
      refine ⟨_, _, _, _, rfl, hd2, T.e_NoNumber.E, rfl, fun u r => r, T.e_NoNumber.kit T.e_NoTrack T.i_NoNumber_NoNumber T.i_NoNumber_NoTrack, ?_⟩
      tm_at "rzs"
      refine ⟨_, _, _, _, rfl, hd2, T.e_NoNumber.E, rfl, fun u r => r, T.e_NoNumber.kit T.e_NoSpot T.i_NoNumber_NoNumber T.i_NoNumber_NoSpot, ?_⟩
      tm_at "rzs"
      refine ⟨_, _, _, _, rfl, hd2, T.e_NoNumber.E, rfl, fun u r => r, T.e_NoNumber.kit T.e_NoStyle T.i_NoNumber_NoNumber T.i_NoNumber_NoStyle, ?_⟩
      tm_at "rzs"
      refine ⟨_, _, _, _, rfl, hd2, T.e_NoNumber.E, rfl, fun u r => r, T.e_NoNumber.kitC T.e_NoTree T.i_NoNumber_NoNumber T.i_NoNumber_NoTree, ?_⟩
      tm_at "rzs"
      refine ⟨_, _, _, _, rfl, hd2, T.e_NoNumber.E, rfl, fun u r => r, T.e_NoNumber.kitC T.e_NoWords T.i_NoNumber_NoNumber T.i_NoNumber_NoWords, ?_⟩
      tm_at "rzs"
      refine ⟨_, _, _, _, rfl, hd2, T.e_NoNumber.E, rfl, fun u r => r, T.e_NoNumber.kitC T.e_NoPlace T.i_NoNumber_NoNumber T.i_NoNumber_NoPlace, ?_⟩
      tm_at "rzs"
      refine ⟨_, _, _, _, rfl, hd2, T.e_NoNumber.E, rfl, fun u r => r, T.e_NoNumber.kitT T.v_NoNumber, ?_⟩
      tm_at "rzs"
      exact k p1 H2 (Same.mut' s1 b2 f1) f1 g2
    | boxes =>
      tm_at "rzs"
      refine ⟨_, _, _, _, rfl, hd1, T.e_NoBox.E, rfl, fun u r => r, T.e_NoBox.kit T.e_NoName T.i_NoBox_NoBox T.i_NoBox_NoName, ?_⟩
      tm_at "rzs"
      refine ⟨_, _, _, _, rfl, hd1, T.e_NoBox.E, rfl, fun u r => r, T.e_NoBox.kitC T.e_NoText T.i_NoBox_NoBox T.i_NoBox_NoText, ?_⟩
      tm_at "rzs"
      refine ⟨_, _, _, _, rfl, hd1, T.e_NoBox.E, rfl, fun u r => r, T.e_NoBox.kit T.e_NoNumber T.i_NoBox_NoBox T.i_NoBox_NoNumber, ?_⟩
      tm_at "rzs"
      refine ⟨_, _, _, _, rfl, hd1, T.e_NoBox.E, rfl, fun u r => r, T.e_NoBox.kit T.e_NoBox T.i_NoBox_NoBox T.i_NoBox_NoBox, ?_⟩
      tm_at "rzs"
      refine ⟨p1, _, _, rfl, rfl, g1, Nat.le_of_ble_eq_true rfl, fun H2 b2 g2 => ?_⟩
      have hd2 := dct_but hd1 g1 b2
      tm_at "rzs"
      refine ⟨_, _, _, _, rfl, hd2, T.e_NoBox.E, rfl, fun u r => r, T.e_NoBox.kit T.e_NoTruth T.i_NoBox_NoBox T.i_NoBox_NoTruth, ?_⟩
      tm_at "rzs"
      refine ⟨_, _, _, _, rfl, hd2, T.e_NoBox.E, rfl, fun u r => r, T.e_NoBox.kit T.e_NoPack T.i_NoBox_NoBox T.i_NoBox_NoPack, ?_⟩
      tm_at "rzs"
      refine ⟨_, _, _, _, rfl, hd2, T.e_NoBox.E, rfl, fun u r => r, T.e_NoBox.kit T.e_NoStand T.i_NoBox_NoBox T.i_NoBox_NoStand, ?_⟩
      tm_at "rzs"
      refine ⟨_, _, _, _, rfl, hd2, T.e_NoBox.E, rfl, fun u r => r, T.e_NoBox.kit T.e_NoTrack T.i_NoBox_NoBox T.i_NoBox_NoTrack, ?_⟩
      tm_at "rzs"
      refine ⟨_, _, _, _, rfl, hd2, T.e_NoBox.E, rfl, fun u r => r, T.e_NoBox.kit T.e_NoSpot T.i_NoBox_NoBox T.i_NoBox_NoSpot, ?_⟩
      tm_at "rzs"
      refine ⟨_, _, _, _, rfl, hd2, T.e_NoBox.E, rfl, fun u r => r, T.e_NoBox.kit T.e_NoStyle T.i_NoBox_NoBox T.i_NoBox_NoStyle, ?_⟩
      tm_at "rzs"
      refine ⟨_, _, _, _, rfl, hd2, T.e_NoBox.E, rfl, fun u r => r, T.e_NoBox.kitC T.e_NoTree T.i_NoBox_NoBox T.i_NoBox_NoTree, ?_⟩
      tm_at "rzs"
      refine ⟨_, _, _, _, rfl, hd2, T.e_NoBox.E, rfl, fun u r => r, T.e_NoBox.kitC T.e_NoWords T.i_NoBox_NoBox T.i_NoBox_NoWords, ?_⟩
      tm_at "rzs"
      refine ⟨_, _, _, _, rfl, hd2, T.e_NoBox.E, rfl, fun u r => r, T.e_NoBox.kitC T.e_NoPlace T.i_NoBox_NoBox T.i_NoBox_NoPlace, ?_⟩
      tm_at "rzs"
      refine ⟨_, _, _, _, rfl, hd2, T.e_NoBox.E, rfl, fun u r => r, T.e_NoBox.kitT T.v_NoBox, ?_⟩
      tm_at "rzs"
      exact k p1 H2 (Same.mut' s1 b2 f1) f1 g2
    | turn =>
      tm_at "rzs"
      refine ⟨_, _, _, _, rfl, hd1, T.e_NoTruth.E, rfl, fun u r => r, T.e_NoTruth.kit T.e_NoName T.i_NoTruth_NoTruth T.i_NoTruth_NoName, ?_⟩
      tm_at "rzs"
      refine ⟨_, _, _, _, rfl, hd1, T.e_NoTruth.E, rfl, fun u r => r, T.e_NoTruth.kitC T.e_NoText T.i_NoTruth_NoTruth T.i_NoTruth_NoText, ?_⟩
      tm_at "rzs"
      refine ⟨_, _, _, _, rfl, hd1, T.e_NoTruth.E, rfl, fun u r => r, T.e_NoTruth.kit T.e_NoNumber T.i_NoTruth_NoTruth T.i_NoTruth_NoNumber, ?_⟩
      tm_at "rzs"
      refine ⟨_, _, _, _, rfl, hd1, T.e_NoTruth.E, rfl, fun u r => r, T.e_NoTruth.kit T.e_NoBox T.i_NoTruth_NoTruth T.i_NoTruth_NoBox, ?_⟩
      tm_at "rzs"
      refine ⟨_, _, _, _, rfl, hd1, T.e_NoTruth.E, rfl, fun u r => r, T.e_NoTruth.kit T.e_NoTruth T.i_NoTruth_NoTruth T.i_NoTruth_NoTruth, ?_⟩
      tm_at "rzs"
      refine ⟨p1, _, _, rfl, rfl, g1, Nat.le_of_ble_eq_true rfl, fun H2 b2 g2 => ?_⟩
      have hd2 := dct_but hd1 g1 b2
      tm_at "rzs"
      refine ⟨_, _, _, _, rfl, hd2, T.e_NoTruth.E, rfl, fun u r => r, T.e_NoTruth.kit T.e_NoPack T.i_NoTruth_NoTruth T.i_NoTruth_NoPack, ?_⟩
      tm_at "rzs"
      refine ⟨_, _, _, _, rfl, hd2, T.e_NoTruth.E, rfl, fun u r => r, T.e_NoTruth.kit T.e_NoStand T.i_NoTruth_NoTruth T.i_NoTruth_NoStand, ?_⟩
      tm_at "rzs"
      refine ⟨_, _, _, _, rfl, hd2, T.e_NoTruth.E, rfl, fun u r => r, T.e_NoTruth.kit T.e_NoTrack T.i_NoTruth_NoTruth T.i_NoTruth_NoTrack, ?_⟩
      tm_at "rzs"
      refine ⟨_, _, _, _, rfl, hd2, T.e_NoTruth.E, rfl, fun u r => r, T.e_NoTruth.kit T.e_NoSpot T.i_NoTruth_NoTruth T.i_NoTruth_NoSpot, ?_⟩
      tm_at "rzs"
      refine ⟨_, _, _, _, rfl, hd2, T.e_NoTruth.E, rfl, fun u r => r, T.e_NoTruth.kit T.e_NoStyle T.i_NoTruth_NoTruth T.i_NoTruth_NoStyle, ?_⟩
      tm_at "rzs"
      refine ⟨_, _, _, _, rfl, hd2, T.e_NoTruth.E, rfl, fun u r => r, T.e_NoTruth.kitC T.e_NoTree T.i_NoTruth_NoTruth T.i_NoTruth_NoTree, ?_⟩
      tm_at "rzs"
      refine ⟨_, _, _, _, rfl, hd2, T.e_NoTruth.E, rfl, fun u r => r, T.e_NoTruth.kitC T.e_NoWords T.i_NoTruth_NoTruth T.i_NoTruth_NoWords, ?_⟩
      tm_at "rzs"
      refine ⟨_, _, _, _, rfl, hd2, T.e_NoTruth.E, rfl, fun u r => r, T.e_NoTruth.kitC T.e_NoPlace T.i_NoTruth_NoTruth T.i_NoTruth_NoPlace, ?_⟩
      tm_at "rzs"
      refine ⟨_, _, _, _, rfl, hd2, T.e_NoTruth.E, rfl, fun u r => r, T.e_NoTruth.kitT T.v_NoTruth, ?_⟩
      tm_at "rzs"
      exact k p1 H2 (Same.mut' s1 b2 f1) f1 g2
    | gap =>
      tm_at "rzs"
      refine ⟨_, _, _, _, rfl, hd1, T.e_NoNumber.E, rfl, fun u r => r, T.e_NoNumber.kit T.e_NoName T.i_NoNumber_NoNumber T.i_NoNumber_NoName, ?_⟩
      tm_at "rzs"
      refine ⟨_, _, _, _, rfl, hd1, T.e_NoNumber.E, rfl, fun u r => r, T.e_NoNumber.kitC T.e_NoText T.i_NoNumber_NoNumber T.i_NoNumber_NoText, ?_⟩
      tm_at "rzs"
      refine ⟨_, _, _, _, rfl, hd1, T.e_NoNumber.E, rfl, fun u r => r, T.e_NoNumber.kit T.e_NoNumber T.i_NoNumber_NoNumber T.i_NoNumber_NoNumber, ?_⟩
      tm_at "rzs"
      refine ⟨p1, _, _, rfl, rfl, g1, Nat.le_of_ble_eq_true rfl, fun H2 b2 g2 => ?_⟩
      have hd2 := dct_but hd1 g1 b2
      tm_at "rzs"
      refine ⟨_, _, _, _, rfl, hd2, T.e_NoNumber.E, rfl, fun u r => r, T.e_NoNumber.kit T.e_NoBox T.i_NoNumber_NoNumber T.i_NoNumber_NoBox, ?_⟩
      tm_at "rzs"
      refine ⟨_, _, _, _, rfl, hd2, T.e_NoNumber.E, rfl, fun u r => r, T.e_NoNumber.kit T.e_NoTruth T.i_NoNumber_NoNumber T.i_NoNumber_NoTruth, ?_⟩
      tm_at "rzs"
      refine ⟨_, _, _, _, rfl, hd2, T.e_NoNumber.E, rfl, fun u r => r, T.e_NoNumber.kit T.e_NoPack T.i_NoNumber_NoNumber T.i_NoNumber_NoPack, ?_⟩
      tm_at "rzs"
      refine ⟨_, _, _, _, rfl, hd2, T.e_NoNumber.E, rfl, fun u r => r, T.e_NoNumber.kit T.e_NoStand T.i_NoNumber_NoNumber T.i_NoNumber_NoStand, ?_⟩
      tm_at "rzs"
      refine ⟨_, _, _, _, rfl, hd2, T.e_NoNumber.E, rfl, fun u r => r, T.e_NoNumber.kit T.e_NoTrack T.i_NoNumber_NoNumber T.i_NoNumber_NoTrack, ?_⟩
      tm_at "rzs"
      refine ⟨_, _, _, _, rfl, hd2, T.e_NoNumber.E, rfl, fun u r => r, T.e_NoNumber.kit T.e_NoSpot T.i_NoNumber_NoNumber T.i_NoNumber_NoSpot, ?_⟩
      tm_at "rzs"
      refine ⟨_, _, _, _, rfl, hd2, T.e_NoNumber.E, rfl, fun u r => r, T.e_NoNumber.kit T.e_NoStyle T.i_NoNumber_NoNumber T.i_NoNumber_NoStyle, ?_⟩
      tm_at "rzs"
      refine ⟨_, _, _, _, rfl, hd2, T.e_NoNumber.E, rfl, fun u r => r, T.e_NoNumber.kitC T.e_NoTree T.i_NoNumber_NoNumber T.i_NoNumber_NoTree, ?_⟩
      tm_at "rzs"
      refine ⟨_, _, _, _, rfl, hd2, T.e_NoNumber.E, rfl, fun u r => r, T.e_NoNumber.kitC T.e_NoWords T.i_NoNumber_NoNumber T.i_NoNumber_NoWords, ?_⟩
      tm_at "rzs"
      refine ⟨_, _, _, _, rfl, hd2, T.e_NoNumber.E, rfl, fun u r => r, T.e_NoNumber.kitC T.e_NoPlace T.i_NoNumber_NoNumber T.i_NoNumber_NoPlace, ?_⟩
      tm_at "rzs"
      refine ⟨_, _, _, _, rfl, hd2, T.e_NoNumber.E, rfl, fun u r => r, T.e_NoNumber.kitT T.v_NoNumber, ?_⟩
      tm_at "rzs"
      exact k p1 H2 (Same.mut' s1 b2 f1) f1 g2
    | pack =>
      tm_at "rzs"
      refine ⟨_, _, _, _, rfl, hd1, T.e_NoPack.E, rfl, fun u r => r, T.e_NoPack.kit T.e_NoName T.i_NoPack_NoPack T.i_NoPack_NoName, ?_⟩
      tm_at "rzs"
      refine ⟨_, _, _, _, rfl, hd1, T.e_NoPack.E, rfl, fun u r => r, T.e_NoPack.kitC T.e_NoText T.i_NoPack_NoPack T.i_NoPack_NoText, ?_⟩
      tm_at "rzs"
      refine ⟨_, _, _, _, rfl, hd1, T.e_NoPack.E, rfl, fun u r => r, T.e_NoPack.kit T.e_NoNumber T.i_NoPack_NoPack T.i_NoPack_NoNumber, ?_⟩
      tm_at "rzs"
      refine ⟨_, _, _, _, rfl, hd1, T.e_NoPack.E, rfl, fun u r => r, T.e_NoPack.kit T.e_NoBox T.i_NoPack_NoPack T.i_NoPack_NoBox, ?_⟩
      tm_at "rzs"
      refine ⟨_, _, _, _, rfl, hd1, T.e_NoPack.E, rfl, fun u r => r, T.e_NoPack.kit T.e_NoTruth T.i_NoPack_NoPack T.i_NoPack_NoTruth, ?_⟩
      tm_at "rzs"
      refine ⟨_, _, _, _, rfl, hd1, T.e_NoPack.E, rfl, fun u r => r, T.e_NoPack.kit T.e_NoPack T.i_NoPack_NoPack T.i_NoPack_NoPack, ?_⟩
      tm_at "rzs"
      refine ⟨p1, _, _, rfl, rfl, g1, Nat.le_of_ble_eq_true rfl, fun H2 b2 g2 => ?_⟩
      have hd2 := dct_but hd1 g1 b2
      tm_at "rzs"
      refine ⟨_, _, _, _, rfl, hd2, T.e_NoPack.E, rfl, fun u r => r, T.e_NoPack.kit T.e_NoStand T.i_NoPack_NoPack T.i_NoPack_NoStand, ?_⟩
      tm_at "rzs"
      refine ⟨_, _, _, _, rfl, hd2, T.e_NoPack.E, rfl, fun u r => r, T.e_NoPack.kit T.e_NoTrack T.i_NoPack_NoPack T.i_NoPack_NoTrack, ?_⟩
      tm_at "rzs"
      refine ⟨_, _, _, _, rfl, hd2, T.e_NoPack.E, rfl, fun u r => r, T.e_NoPack.kit T.e_NoSpot T.i_NoPack_NoPack T.i_NoPack_NoSpot, ?_⟩
      tm_at "rzs"
      refine ⟨_, _, _, _, rfl, hd2, T.e_NoPack.E, rfl, fun u r => r, T.e_NoPack.kit T.e_NoStyle T.i_NoPack_NoPack T.i_NoPack_NoStyle, ?_⟩
      tm_at "rzs"
      refine ⟨_, _, _, _, rfl, hd2, T.e_NoPack.E, rfl, fun u r => r, T.e_NoPack.kitC T.e_NoTree T.i_NoPack_NoPack T.i_NoPack_NoTree, ?_⟩
      tm_at "rzs"
      refine ⟨_, _, _, _, rfl, hd2, T.e_NoPack.E, rfl, fun u r => r, T.e_NoPack.kitC T.e_NoWords T.i_NoPack_NoPack T.i_NoPack_NoWords, ?_⟩
      tm_at "rzs"
      refine ⟨_, _, _, _, rfl, hd2, T.e_NoPack.E, rfl, fun u r => r, T.e_NoPack.kitC T.e_NoPlace T.i_NoPack_NoPack T.i_NoPack_NoPlace, ?_⟩
      tm_at "rzs"
      refine ⟨_, _, _, _, rfl, hd2, T.e_NoPack.E, rfl, fun u r => r, T.e_NoPack.kitT T.v_NoPack, ?_⟩
      tm_at "rzs"
      exact k p1 H2 (Same.mut' s1 b2 f1) f1 g2
    | stands =>
      tm_at "rzs"
      refine ⟨_, _, _, _, rfl, hd1, T.e_NoStand.E, rfl, fun u r => r, T.e_NoStand.kit T.e_NoName T.i_NoStand_NoStand T.i_NoStand_NoName, ?_⟩
      tm_at "rzs"
      refine ⟨_, _, _, _, rfl, hd1, T.e_NoStand.E, rfl, fun u r => r, T.e_NoStand.kitC T.e_NoText T.i_NoStand_NoStand T.i_NoStand_NoText, ?_⟩
      tm_at "rzs"
      refine ⟨_, _, _, _, rfl, hd1, T.e_NoStand.E, rfl, fun u r => r, T.e_NoStand.kit T.e_NoNumber T.i_NoStand_NoStand T.i_NoStand_NoNumber, ?_⟩
      tm_at "rzs"
      refine ⟨_, _, _, _, rfl, hd1, T.e_NoStand.E, rfl, fun u r => r, T.e_NoStand.kit T.e_NoBox T.i_NoStand_NoStand T.i_NoStand_NoBox, ?_⟩
      tm_at "rzs"
      refine ⟨_, _, _, _, rfl, hd1, T.e_NoStand.E, rfl, fun u r => r, T.e_NoStand.kit T.e_NoTruth T.i_NoStand_NoStand T.i_NoStand_NoTruth, ?_⟩
      tm_at "rzs"
      refine ⟨_, _, _, _, rfl, hd1, T.e_NoStand.E, rfl, fun u r => r, T.e_NoStand.kit T.e_NoPack T.i_NoStand_NoStand T.i_NoStand_NoPack, ?_⟩
      tm_at "rzs"
      refine ⟨_, _, _, _, rfl, hd1, T.e_NoStand.E, rfl, fun u r => r, T.e_NoStand.kit T.e_NoStand T.i_NoStand_NoStand T.i_NoStand_NoStand, ?_⟩
      tm_at "rzs"
      refine ⟨p1, _, _, rfl, rfl, g1, Nat.le_of_ble_eq_true rfl, fun H2 b2 g2 => ?_⟩
      have hd2 := dct_but hd1 g1 b2
      tm_at "rzs"
      refine ⟨_, _, _, _, rfl, hd2, T.e_NoStand.E, rfl, fun u r => r, T.e_NoStand.kit T.e_NoTrack T.i_NoStand_NoStand T.i_NoStand_NoTrack, ?_⟩
      tm_at "rzs"
      refine ⟨_, _, _, _, rfl, hd2, T.e_NoStand.E, rfl, fun u r => r, T.e_NoStand.kit T.e_NoSpot T.i_NoStand_NoStand T.i_NoStand_NoSpot, ?_⟩
      tm_at "rzs"
      refine ⟨_, _, _, _, rfl, hd2, T.e_NoStand.E, rfl, fun u r => r, T.e_NoStand.kit T.e_NoStyle T.i_NoStand_NoStand T.i_NoStand_NoStyle, ?_⟩
      tm_at "rzs"
      refine ⟨_, _, _, _, rfl, hd2, T.e_NoStand.E, rfl, fun u r => r, T.e_NoStand.kitC T.e_NoTree T.i_NoStand_NoStand T.i_NoStand_NoTree, ?_⟩
      tm_at "rzs"
      refine ⟨_, _, _, _, rfl, hd2, T.e_NoStand.E, rfl, fun u r => r, T.e_NoStand.kitC T.e_NoWords T.i_NoStand_NoStand T.i_NoStand_NoWords, ?_⟩
      tm_at "rzs"
      refine ⟨_, _, _, _, rfl, hd2, T.e_NoStand.E, rfl, fun u r => r, T.e_NoStand.kitC T.e_NoPlace T.i_NoStand_NoStand T.i_NoStand_NoPlace, ?_⟩
      tm_at "rzs"
      refine ⟨_, _, _, _, rfl, hd2, T.e_NoStand.E, rfl, fun u r => r, T.e_NoStand.kitT T.v_NoStand, ?_⟩
      tm_at "rzs"
      exact k p1 H2 (Same.mut' s1 b2 f1) f1 g2
    | tracks =>
      tm_at "rzs"
      refine ⟨_, _, _, _, rfl, hd1, T.e_NoTrack.E, rfl, fun u r => r, T.e_NoTrack.kit T.e_NoName T.i_NoTrack_NoTrack T.i_NoTrack_NoName, ?_⟩
      tm_at "rzs"
      refine ⟨_, _, _, _, rfl, hd1, T.e_NoTrack.E, rfl, fun u r => r, T.e_NoTrack.kitC T.e_NoText T.i_NoTrack_NoTrack T.i_NoTrack_NoText, ?_⟩
      tm_at "rzs"
      refine ⟨_, _, _, _, rfl, hd1, T.e_NoTrack.E, rfl, fun u r => r, T.e_NoTrack.kit T.e_NoNumber T.i_NoTrack_NoTrack T.i_NoTrack_NoNumber, ?_⟩
      tm_at "rzs"
      refine ⟨_, _, _, _, rfl, hd1, T.e_NoTrack.E, rfl, fun u r => r, T.e_NoTrack.kit T.e_NoBox T.i_NoTrack_NoTrack T.i_NoTrack_NoBox, ?_⟩
      tm_at "rzs"
      refine ⟨_, _, _, _, rfl, hd1, T.e_NoTrack.E, rfl, fun u r => r, T.e_NoTrack.kit T.e_NoTruth T.i_NoTrack_NoTrack T.i_NoTrack_NoTruth, ?_⟩
      tm_at "rzs"
      refine ⟨_, _, _, _, rfl, hd1, T.e_NoTrack.E, rfl, fun u r => r, T.e_NoTrack.kit T.e_NoPack T.i_NoTrack_NoTrack T.i_NoTrack_NoPack, ?_⟩
      tm_at "rzs"
      refine ⟨_, _, _, _, rfl, hd1, T.e_NoTrack.E, rfl, fun u r => r, T.e_NoTrack.kit T.e_NoStand T.i_NoTrack_NoTrack T.i_NoTrack_NoStand, ?_⟩
      tm_at "rzs"
      refine ⟨_, _, _, _, rfl, hd1, T.e_NoTrack.E, rfl, fun u r => r, T.e_NoTrack.kit T.e_NoTrack T.i_NoTrack_NoTrack T.i_NoTrack_NoTrack, ?_⟩
      tm_at "rzs"
      refine ⟨p1, _, _, rfl, rfl, g1, Nat.le_of_ble_eq_true rfl, fun H2 b2 g2 => ?_⟩
      have hd2 := dct_but hd1 g1 b2
      tm_at "rzs"
      refine ⟨_, _, _, _, rfl, hd2, T.e_NoTrack.E, rfl, fun u r => r, T.e_NoTrack.kit T.e_NoSpot T.i_NoTrack_NoTrack T.i_NoTrack_NoSpot, ?_⟩
      tm_at "rzs"
      refine ⟨_, _, _, _, rfl, hd2, T.e_NoTrack.E, rfl, fun u r => r, T.e_NoTrack.kit T.e_NoStyle T.i_NoTrack_NoTrack T.i_NoTrack_NoStyle, ?_⟩
      tm_at "rzs"
      refine ⟨_, _, _, _, rfl, hd2, T.e_NoTrack.E, rfl, fun u r => r, T.e_NoTrack.kitC T.e_NoTree T.i_NoTrack_NoTrack T.i_NoTrack_NoTree, ?_⟩
      tm_at "rzs"
      refine ⟨_, _, _, _, rfl, hd2, T.e_NoTrack.E, rfl, fun u r => r, T.e_NoTrack.kitC T.e_NoWords T.i_NoTrack_NoTrack T.i_NoTrack_NoWords, ?_⟩
      tm_at "rzs"
      refine ⟨_, _, _, _, rfl, hd2, T.e_NoTrack.E, rfl, fun u r => r, T.e_NoTrack.kitC T.e_NoPlace T.i_NoTrack_NoTrack T.i_NoTrack_NoPlace, ?_⟩
      tm_at "rzs"
      refine ⟨_, _, _, _, rfl, hd2, T.e_NoTrack.E, rfl, fun u r => r, T.e_NoTrack.kitT T.v_NoTrack, ?_⟩
      tm_at "rzs"
      exact k p1 H2 (Same.mut' s1 b2 f1) f1 g2
    | spots =>
      tm_at "rzs"
      refine ⟨_, _, _, _, rfl, hd1, T.e_NoSpot.E, rfl, fun u r => r, T.e_NoSpot.kit T.e_NoName T.i_NoSpot_NoSpot T.i_NoSpot_NoName, ?_⟩
      tm_at "rzs"
      refine ⟨_, _, _, _, rfl, hd1, T.e_NoSpot.E, rfl, fun u r => r, T.e_NoSpot.kitC T.e_NoText T.i_NoSpot_NoSpot T.i_NoSpot_NoText, ?_⟩
      tm_at "rzs"
      refine ⟨_, _, _, _, rfl, hd1, T.e_NoSpot.E, rfl, fun u r => r, T.e_NoSpot.kit T.e_NoNumber T.i_NoSpot_NoSpot T.i_NoSpot_NoNumber, ?_⟩
      tm_at "rzs"
      refine ⟨_, _, _, _, rfl, hd1, T.e_NoSpot.E, rfl, fun u r => r, T.e_NoSpot.kit T.e_NoBox T.i_NoSpot_NoSpot T.i_NoSpot_NoBox, ?_⟩
      tm_at "rzs"
      refine ⟨_, _, _, _, rfl, hd1, T.e_NoSpot.E, rfl, fun u r => r, T.e_NoSpot.kit T.e_NoTruth T.i_NoSpot_NoSpot T.i_NoSpot_NoTruth, ?_⟩
      tm_at "rzs"
      refine ⟨_, _, _, _, rfl, hd1, T.e_NoSpot.E, rfl, fun u r => r, T.e_NoSpot.kit T.e_NoPack T.i_NoSpot_NoSpot T.i_NoSpot_NoPack, ?_⟩
      tm_at "rzs"
      refine ⟨_, _, _, _, rfl, hd1, T.e_NoSpot.E, rfl, fun u r => r, T.e_NoSpot.kit T.e_NoStand T.i_NoSpot_NoSpot T.i_NoSpot_NoStand, ?_⟩
      tm_at "rzs"
      refine ⟨_, _, _, _, rfl, hd1, T.e_NoSpot.E, rfl, fun u r => r, T.e_NoSpot.kit T.e_NoTrack T.i_NoSpot_NoSpot T.i_NoSpot_NoTrack, ?_⟩
      tm_at "rzs"
      refine ⟨_, _, _, _, rfl, hd1, T.e_NoSpot.E, rfl, fun u r => r, T.e_NoSpot.kit T.e_NoSpot T.i_NoSpot_NoSpot T.i_NoSpot_NoSpot, ?_⟩
      tm_at "rzs"
      refine ⟨p1, _, _, rfl, rfl, g1, Nat.le_of_ble_eq_true rfl, fun H2 b2 g2 => ?_⟩
      have hd2 := dct_but hd1 g1 b2
      tm_at "rzs"
      refine ⟨_, _, _, _, rfl, hd2, T.e_NoSpot.E, rfl, fun u r => r, T.e_NoSpot.kit T.e_NoStyle T.i_NoSpot_NoSpot T.i_NoSpot_NoStyle, ?_⟩
      tm_at "rzs"
      refine ⟨_, _, _, _, rfl, hd2, T.e_NoSpot.E, rfl, fun u r => r, T.e_NoSpot.kitC T.e_NoTree T.i_NoSpot_NoSpot T.i_NoSpot_NoTree, ?_⟩
      tm_at "rzs"
      refine ⟨_, _, _, _, rfl, hd2, T.e_NoSpot.E, rfl, fun u r => r, T.e_NoSpot.kitC T.e_NoWords T.i_NoSpot_NoSpot T.i_NoSpot_NoWords, ?_⟩
      tm_at "rzs"
      refine ⟨_, _, _, _, rfl, hd2, T.e_NoSpot.E, rfl, fun u r => r, T.e_NoSpot.kitC T.e_NoPlace T.i_NoSpot_NoSpot T.i_NoSpot_NoPlace, ?_⟩
      tm_at "rzs"
      refine ⟨_, _, _, _, rfl, hd2, T.e_NoSpot.E, rfl, fun u r => r, T.e_NoSpot.kitT T.v_NoSpot, ?_⟩
      tm_at "rzs"
      exact k p1 H2 (Same.mut' s1 b2 f1) f1 g2
    | style =>
      tm_at "rzs"
      refine ⟨_, _, _, _, rfl, hd1, T.e_NoStyle.E, rfl, fun u r => r, T.e_NoStyle.kit T.e_NoName T.i_NoStyle_NoStyle T.i_NoStyle_NoName, ?_⟩
      tm_at "rzs"
      refine ⟨_, _, _, _, rfl, hd1, T.e_NoStyle.E, rfl, fun u r => r, T.e_NoStyle.kitC T.e_NoText T.i_NoStyle_NoStyle T.i_NoStyle_NoText, ?_⟩
      tm_at "rzs"
      refine ⟨_, _, _, _, rfl, hd1, T.e_NoStyle.E, rfl, fun u r => r, T.e_NoStyle.kit T.e_NoNumber T.i_NoStyle_NoStyle T.i_NoStyle_NoNumber, ?_⟩
      tm_at "rzs"
      refine ⟨_, _, _, _, rfl, hd1, T.e_NoStyle.E, rfl, fun u r => r, T.e_NoStyle.kit T.e_NoBox T.i_NoStyle_NoStyle T.i_NoStyle_NoBox, ?_⟩
      tm_at "rzs"
      refine ⟨_, _, _, _, rfl, hd1, T.e_NoStyle.E, rfl, fun u r => r, T.e_NoStyle.kit T.e_NoTruth T.i_NoStyle_NoStyle T.i_NoStyle_NoTruth, ?_⟩
      tm_at "rzs"
      refine ⟨_, _, _, _, rfl, hd1, T.e_NoStyle.E, rfl, fun u r => r, T.e_NoStyle.kit T.e_NoPack T.i_NoStyle_NoStyle T.i_NoStyle_NoPack, ?_⟩
      tm_at "rzs"
      refine ⟨_, _, _, _, rfl, hd1, T.e_NoStyle.E, rfl, fun u r => r, T.e_NoStyle.kit T.e_NoStand T.i_NoStyle_NoStyle T.i_NoStyle_NoStand, ?_⟩
      tm_at "rzs"
      refine ⟨_, _, _, _, rfl, hd1, T.e_NoStyle.E, rfl, fun u r => r, T.e_NoStyle.kit T.e_NoTrack T.i_NoStyle_NoStyle T.i_NoStyle_NoTrack, ?_⟩
      tm_at "rzs"
      refine ⟨_, _, _, _, rfl, hd1, T.e_NoStyle.E, rfl, fun u r => r, T.e_NoStyle.kit T.e_NoSpot T.i_NoStyle_NoStyle T.i_NoStyle_NoSpot, ?_⟩
      tm_at "rzs"
      refine ⟨_, _, _, _, rfl, hd1, T.e_NoStyle.E, rfl, fun u r => r, T.e_NoStyle.kit T.e_NoStyle T.i_NoStyle_NoStyle T.i_NoStyle_NoStyle, ?_⟩
      tm_at "rzs"
      refine ⟨p1, _, _, rfl, rfl, g1, Nat.le_of_ble_eq_true rfl, fun H2 b2 g2 => ?_⟩
      have hd2 := dct_but hd1 g1 b2
      tm_at "rzs"
      refine ⟨_, _, _, _, rfl, hd2, T.e_NoStyle.E, rfl, fun u r => r, T.e_NoStyle.kitC T.e_NoTree T.i_NoStyle_NoStyle T.i_NoStyle_NoTree, ?_⟩
      tm_at "rzs"
      refine ⟨_, _, _, _, rfl, hd2, T.e_NoStyle.E, rfl, fun u r => r, T.e_NoStyle.kitC T.e_NoWords T.i_NoStyle_NoStyle T.i_NoStyle_NoWords, ?_⟩
      tm_at "rzs"
      refine ⟨_, _, _, _, rfl, hd2, T.e_NoStyle.E, rfl, fun u r => r, T.e_NoStyle.kitC T.e_NoPlace T.i_NoStyle_NoStyle T.i_NoStyle_NoPlace, ?_⟩
      tm_at "rzs"
      refine ⟨_, _, _, _, rfl, hd2, T.e_NoStyle.E, rfl, fun u r => r, T.e_NoStyle.kitT T.v_NoStyle, ?_⟩
      tm_at "rzs"
      exact k p1 H2 (Same.mut' s1 b2 f1) f1 g2
end
end My
namespace My
open PySem PySem.Spec PyProof.Rows L2
section
variable {P : Program} {w : World} {K : PySem.W.Frag} {mg : Str → Option Value} {base : Heap}
def sp_w_found (K : PySem.W.Frag) (S W : Addr) : Sp := fun vs H Q _ => ∃ (k : Nat) (p : Addr) (c : Nat) (us : List V) (bs : List Bool), vs = [.int (k : Int), .ref p] ∧ k < 5 ∧ H p = some (.lst us) ∧ ValsR K S W c H (srts k) us bs ∧
  (firstBad ((srts k).zip bs) = none → ∀ (v0 : V) (p' q' : Addr) H', us[0]? = some v0 → Same H H' → H' q' = some (.lst []) → H' p' = some (.tup [v0, .ref q']) → Q (.ref p') H') ∧
  ∀ (so : Srt), firstBad ((srts k).zip bs) = some so → ∀ (p' q' : Addr) H', Same H H' → H' q' = some (.lst [sX so.er]) → H' p' = some (.tup [.non, .ref q']) → Q (.ref p') H'
theorem ok_w_found (T : Tx w K mg) : FnOk P w K mg base CX0 10 T.d_w_found.f T.d_w_found.fd ["_law_kind", "_law_values"] (sp_w_found K T.c_Style.C T.c_Words.C) := by
  refine T.d_w_found.F.ok sc_w_found (fun vs H Q E h => ?_) (fun cdv A outer s H vs Q E hr h => ?_)
  · obtain ⟨k, p, c, us, bs, rfl, _⟩ := h
    rfl
  · obtain ⟨k, p, c, us, bs, rfl, hk, hp, hv, k1, k2⟩ := h
    refine ⟨_, (pss_one (L2N.ps_try_as (i := 2) rfl rfl sc_w_found.nd rfl rfl ⟨rfl, by decide, Or.inl T.e_NestError.g⟩ takes0N (fun W pn xe tk po =>
      (pss_one (ps_ret (pe_tupA (pa_cons (pe_fldK (K := K) rfl (pe_callS (ok_w_made T) (hr.mono (by decide)) (by rfl) T.d_w_made.g T.d_w_made.F.kp T.d_w_made.b (fun σ => L2N.passAt tk σ) (pa_cons (pv 0) (pa_cons (pv 1) pa_nil))) rfl) (pa_cons (pe_lstA pa_nil) pa_nil))))))
      (fun a oe cls d pn hz hf =>
      (pss_one (ps_ret (pe_tupA (pa_cons pe_non (pa_cons (pe_callX (E := fun _ => E0) (ok_w_told T) (hr.mono (by decide)) hz hf (by rfl) T.d_w_told.g T.d_w_told.F.kp T.d_w_told.b (fun σ _ _ _ _ _ _ h => h.elim) (pa_cons (pv 2) pa_nil)) pa_nil)))))))), ?_⟩
    tm_at "rzs"
    have sub : ∀ so : Srt, PySem.W.subIn K (.ref (ecW T so.tx)) (.ref T.e_NestError.C) = some true := fun so => by
      cases so with
      | name => exact T.r_NoName
      | text => exact T.r_NoText
      | size => exact T.r_NoNumber
      | gap => exact T.r_NoNumber
      | boxes => exact T.r_NoBox
      | turn => exact T.r_NoTruth
      | pack => exact T.r_NoPack
      | stands => exact T.r_NoStand
      | tracks => exact T.r_NoTrack
      | spots => exact T.r_NoSpot
      | style => exact T.r_NoStyle
    refine ⟨k, p, c, us, bs, rfl, hk, hp, hv, fun H1 s1 => ⟨fun e x dx fs v0 e0 g l => ?_, fun so e => ?_⟩⟩
    rotate_left
    · have k2 := k2 so e
      unfold ErrAt
      by_cases et : so = .text
      · rw [if_pos et]
        intro dd gd
        refine ⟨true, T.e_NestError.exm (sub so), fun _ ae hae => ?_, fun q => Bool.noConfusion q⟩
        tm_at "rds"
        have hd : DctAt (some dd) H1 := fun d2 e2 => by cases e2; exact ⟨_, gd⟩
        refine ⟨so, rfl, rfl, hd, fun q2 H2 s2 f2 g2 => ?_⟩
        tm_at "rzs"
        intro p3 H3 f3 s3 g3
        exact k2 p3 q2 H3 (s1.trans (s2.trans s3)) (s3 _ _ g2) g3
      · rw [if_neg et]
        refine ⟨true, T.e_NestError.exm (sub so), fun _ ae hae => ?_, fun q => Bool.noConfusion q⟩
        tm_at "rds"
        refine ⟨so, rfl, rfl, DctAt.non, fun q2 H2 s2 f2 g2 => ?_⟩
        tm_at "rzs"
        intro p3 H3 f3 s3 g3
        exact k2 p3 q2 H3 (s1.trans (s2.trans s3)) (s3 _ _ g2) g3
    have k1 := k1 e v0
    have cls : Cls K (clW T k) ∧ NoAttr K (clW T k) (Str.ofString "name") := by
      match k, hk with
      | 0, _ => exact ⟨T.c_Words.cls, T.n_Words_name⟩
      | 1, _ => exact ⟨T.c_Picture.cls, T.n_Picture_name⟩
      | 2, _ => exact ⟨T.c_Row.cls, T.n_Row_name⟩
      | 3, _ => exact ⟨T.c_Pile.cls, T.n_Pile_name⟩
      | 4, _ => exact ⟨T.c_Grid.cls, T.n_Grid_name⟩
      | n + 5, h => exact absurd h (by omega)
    refine ⟨x, _, dx, fs, v0, rfl, g, cls.1, cls.2, l, ?_⟩
    tm_at "rzs"
    intro p2 H2 f2 s2 g2
    tm_at "rzs"
    intro p3 H3 f3 s3 g3
    exact k1 p3 p2 H3 e0 ((s1.trans s2).trans s3) (s3 _ _ g2) g3
end
end My
namespace My
open PySem PySem.Spec PyProof.Rows L2
section
variable {P : Program} {w : World} {K : PySem.W.Frag} {mg : Str → Option Value} {base : Heap}
def sp_w_due : Sp := fun vs H Q _ => ∃ (k : Nat) (p q : Addr) (us : List V) (v0 : V) (js : List Nat), vs = [.int (k : Int), .ref p, .ref q] ∧ k < 5 ∧ H p = some (.lst (v0 :: us)) ∧ H q = some (.lst (js.map fun j : Nat => V.int (j : Int))) ∧ (∀ j ∈ js, j < (srts k).length) ∧ js.length ≤ 3 ∧
  (js = [] → ∀ (p' q' : Addr) H', Same H H' → H' q' = some (.lst []) → H' p' = some (.tup [v0, .ref q']) → Q (.ref p') H') ∧
  ∀ (so : Srt) (j : Nat), j ∈ js → (∀ i ∈ js, j ≤ i) → (srts k)[j]? = some so → ∀ (p' q' : Addr) H', Same H H' → H' q' = some (.lst [sX so.er]) → H' p' = some (.tup [.non, .ref q']) → Q (.ref p') H'
theorem ints_shaped (js : List Nat) : SeqAt.shaped (.list (js.map fun j : Nat => PyData.int (j : Int))) = true := shaped_map (m := 0) (g := fun j : Nat => PyData.int (j : Int)) (by decide) (fun _ => rfl) (fun _ => Nat.le_refl _) js
theorem ints_dp {K : PySem.W.Frag} {H : Hp} : ∀ js : List Nat, DpAll K H (js.map fun j : Nat => V.int (j : Int)) (js.map fun j : Nat => PyData.int (j : Int))
  | [] => .nil
  | j :: js => .cons (.int _) (ints_dp js)
theorem ok_w_due (T : Tx w K mg) : FnOk P w K mg base CX0 2 T.d_w_due.f T.d_w_due.fd ["_law_kind", "_law_values", "_law_chosen"] (sp_w_due) := by
  refine T.d_w_due.F.ok sc_w_due (fun vs H Q E h => ?_) (fun cdv A outer s H vs Q E hr h => ?_)
  · obtain ⟨k, p, q, us, v0, js, rfl, _⟩ := h
    rfl
  · obtain ⟨k, p, q, us, v0, js, rfl, hk, hp, hq, hj, lj, k1, k2⟩ := h
    refine ⟨_, (pss_cons (ps_if (pt_cmpR (op_eqDK (K := K) hr.units rfl) (pv 2) (pe_lstA pa_nil) (nomark _))
      (pss_one (ps_ret (pe_tupA (pa_cons (pe_ix (ix_listK (K := K) rfl) (pv 1) pe_int (fun _ _ => rfl)) (pa_cons (pe_lstA pa_nil) pa_nil)))))
      pss_nil)
      (pss_cons (ps_set (i := 3) sc_w_due.nd rfl (Or.inl rfl) (pe_ix (ix_listK (K := K) rfl) (pe_call (ok_w_sorts T) (hr.mono (by decide)) (by rfl) T.d_w_sorts.g T.d_w_sorts.F.kp T.d_w_sorts.b .nil pass0 (pa_cons (pv 0) pa_nil)) (pe_callB (cr_minK (K := K) rfl rfl) (by rfl) T.b_min (by decide +kernel) (pa_cons (pv 2) pa_nil)) (fun _ _ => rfl)))
      (pss_cons (ps_if (pt_cmpR (op_inK (K := K) rfl) (pv 3) (pe_lstA (pa_cons pe_str (pa_cons pe_str pa_nil))) (by rfl))
      (pss_one (ps_set (i := 3) sc_w_due.nd rfl (Or.inl rfl) pe_str))
      pss_nil)
      (pss_one (ps_ret (pe_tupA (pa_cons pe_non (pa_cons (pe_lstA (pa_cons (pv 3) pa_nil)) pa_nil)))))))), ?_⟩
    tm_at "rzs"
    intro p1 H1 f1 s1 g1
    refine ⟨_, _, .lst (sqL (s1 _ _ hq)) (ints_dp js), .lst (xs := []) (sqL g1) .nil, ints_shaped js, by decide +kernel, ?_⟩
    cases js with
    | nil =>
      tm_at "rzs"
      refine ⟨_, _, _, _, rfl, rfl, sqL (s1 _ _ hp), atI_nat (j := 0) rfl, ?_⟩
      tm_at "rzs"
      intro p2 H2 f2 s2 g2
      tm_at "rzs"
      intro p3 H3 f3 s3 g3
      exact k1 rfl p3 p2 H3 ((s1.trans s2).trans s3) (s3 _ _ g2) g3
    | cons j0 js =>
    rw [show PyData.eqv (.list ((j0 :: js).map fun j : Nat => PyData.int (j : Int))) (.list []) = false by simp [PyData.eqv, PyData.eqvAll]]
    tm_at "rzs"
    intro p2 H2 f2 s2 g2
    have hq2 := s2 _ _ (s1 _ _ hq)
    tm_at "rzs"
    refine ⟨q, (j0 :: js).map Int.ofNat, rfl, ?_, by simp, fun m mem least => ?_⟩
    · rw [List.map_map]
      exact sqL hq2
    obtain ⟨j, mj, rfl⟩ := List.mem_map.mp mem
    have lt := hj j mj
    refine ⟨_, _, _, _, rfl, rfl, sqL g2, atI_nat (j := j) (by rw [List.getElem?_map, List.getElem?_eq_getElem lt]; rfl), ?_⟩
    have lst : ∀ i ∈ j0 :: js, j ≤ i := fun i mi => by
      have := least (i : Int) (List.mem_map.mpr ⟨i, mi, rfl⟩)
      exact Int.ofNat_le.mp this
    have k2 := k2 _ j mj lst (List.getElem?_eq_getElem lt)
    generalize (srts k)[j] = so at k2
    dsimp only [gName]
    tm_at "rzs"
    intro p3 H3 f3 s3 g3
    have hin : inV (sX so.tx) [V.str (Str.ofString "size"), V.str (Str.ofString "gap")] = decide (so = .size ∨ so = .gap) := by cases so <;> decide +kernel
    refine ⟨_, _, rfl, .inl (sqL g3), rfl, rfl, ?_⟩
    rw [if_neg (by decide), hin]
    by_cases e : so = .size ∨ so = .gap
    · have er : so.er = "number" := by rcases e with rfl | rfl <;> rfl
      rw [er] at k2
      refine ⟨_, rfl, iteT' (decide_eq_true e) ?_⟩
      tm_at "rzs"
      intro p4 H4 f4 s4 g4
      tm_at "rzs"
      intro p5 H5 f5 s5 g5
      exact k2 p5 p4 H5 ((((s1.trans s2).trans s3).trans s4).trans s5) (s5 _ _ g4) g5
    · have er : so.er = so.tx := by cases so <;> first | rfl | exact absurd (.inl rfl) e | exact absurd (.inr rfl) e
      rw [er] at k2
      refine ⟨_, rfl, iteF' (decide_eq_false e) ?_⟩
      tm_at "rzs"
      intro p4 H4 f4 s4 g4
      tm_at "rzs"
      intro p5 H5 f5 s5 g5
      exact k2 p5 p4 H5 ((((s1.trans s2).trans s3).trans s4).trans s5) (s5 _ _ g4) g5
end
end My
namespace My
open PySem PySem.Spec PyProof.Rows L2
section
variable {P : Program} {w : World} {K : PySem.W.Frag} {mg : Str → Option Value} {base : Heap}
def sp_law (K : PySem.W.Frag) : Sp := fun vs H Q _ => ∃ (a : Addr) (ns : List Int), vs = [.ref a] ∧ SqL K H a (ns.map V.int) ∧ ns.length ≤ 63 ∧ ∀ H', Q (.bl true) H'
theorem fb_none : ∀ (ss : List Srt) (bs : List Bool), (∀ b ∈ bs, b = true) → firstBad (ss.zip bs) = none
  | [], _, _ => rfl
  | _ :: _, [], _ => rfl
  | s :: ss, b :: bs, h => by
    rw [List.zip_cons_cons, firstBad, if_pos (h b List.mem_cons_self)]
    exact fb_none ss bs fun c m => h c (List.mem_cons_of_mem _ m)
theorem fb_at : ∀ (ss : List Srt) (bs : List Bool) (j : Nat) (so : Srt), ss[j]? = some so → bs[j]? = some false → (∀ i, i < j → bs[i]? ≠ some false) → firstBad (ss.zip bs) = some so
  | [], _, _, _, e, _, _ => by simp at e
  | _ :: _, [], _, _, _, e, _ => by simp at e
  | s :: ss, b :: bs, 0, so, e, q, _ => by
    simp only [List.getElem?_cons_zero, Option.some.injEq] at e q
    rw [List.zip_cons_cons, firstBad, q, e]
    rfl
  | s :: ss, b :: bs, j + 1, so, e, q, h => by
    have hb : b = true := by
      have := h 0 (Nat.succ_pos _)
      simp only [List.getElem?_cons_zero, ne_eq, Option.some.injEq] at this
      simpa using this
    rw [List.zip_cons_cons, firstBad, if_pos hb]
    exact fb_at ss bs j so e q fun i hi => h (i + 1) (Nat.succ_lt_succ hi)
theorem least_of : ∀ (js : List Nat), js ≠ [] → ∃ j ∈ js, ∀ i ∈ js, j ≤ i
  | [], h => absurd rfl h
  | [j], _ => ⟨j, List.mem_cons_self, fun i m => by rw [List.mem_singleton.mp m]; exact Nat.le_refl _⟩
  | j :: k :: js, _ => by
    obtain ⟨m, mm, hm⟩ := least_of (k :: js) (List.cons_ne_nil _ _)
    by_cases h : j ≤ m
    · exact ⟨j, List.mem_cons_self, fun i mi => by
        rcases List.mem_cons.mp mi with rfl | mi
        · exact Nat.le_refl _
        · exact Nat.le_trans h (hm i mi)⟩
    · exact ⟨m, List.mem_cons_of_mem _ mm, fun i mi => by
        rcases List.mem_cons.mp mi with rfl | mi
        · omega
        · exact hm i mi⟩
theorem drop2 {s c : Addr} {H : Hp} : Same (dropC [s, c] H) (dropC [s] (dropC [c] H)) := fun a o e => by
  by_cases m : a ∈ [s, c]
  · rw [dropC_in m] at e; cases e
  · rw [dropC_out m] at e
    simp at m
    rw [dropC_out (by simpa using m.1), dropC_out (by simpa using m.2)]
    exact e
/-- what is made of values, or what refuses them, as data -/
inductive ResD : V → List V → PyData → Prop
  | made (l : Str) (hl : PyData.strOk l = true) : ResD (.str l) [] (.tuple [.str l, .list []])
  | not (t : String) : ResD .non [sX t] (.tuple [.none, .list [.str (Str.ofString t)]])
theorem ResD.ok {x : V} {er : List V} {d : PyData} (h : ResD x er d) : SeqAt.shaped d = true ∧ PyData.eqv d d = true := by
  cases h with
  | made l hl => exact ⟨by simp [SeqAt.shaped, PyData.canLay0, PyData.canLayAll0, PyData.depth, PyData.depthAll, hl], SeqAt.eqv_refl _ (by simp [PyData.canLay0, PyData.canLayAll0, hl])⟩
  | not t => exact ⟨by simp [SeqAt.shaped, PyData.canLay0, PyData.canLayAll0, PyData.depth, PyData.depthAll, strOk_of], SeqAt.eqv_refl _ (by simp [PyData.canLay0, PyData.canLayAll0, strOk_of])⟩
theorem ResD.dp {K : PySem.W.Frag} {H : Hp} {p q : Addr} {x : V} {er : List V} {d : PyData} (h : ResD x er d) (gq : H q = some (.lst er)) (gp : H p = some (.tup [x, .ref q])) : Dp K H (.ref p) d := by
  cases h with
  | made l _ => exact .tup (sqT gp) (.cons (.str l) (.cons (.lst (sqL gq) .nil) .nil))
  | not t => exact .tup (sqT gp) (.cons .non (.cons (.lst (sqL gq) (.cons (.str _) .nil)) .nil))
theorem ok_law (T : Tx w K mg) : FnOk P w K mg base CX0 11 T.d_law.f T.d_law.fd ["_law_script"] (sp_law K) := by
  refine T.d_law.F.ok sc_law (fun vs H Q E h => ?_) (fun cdv A outer s H vs Q E hr h => ?_)
  · obtain ⟨a, s, rfl, _⟩ := h
    rfl
  · obtain ⟨a, ns, rfl, hS, hl, k⟩ := h
    refine ⟨_, (pss_cons (ps_for PassesOwn.never (by rfl) (pi_range1 (by rfl) T.b_range (pa_cons (pe_callB (call_max2 rfl) (by rfl) T.b_max (by decide +kernel) (pa_cons pe_int (pa_cons (pe_callB (call_min2 rfl) (by rfl) T.b_min (by decide +kernel) (pa_cons pe_int (pa_cons (pe_callB (call_lenK (K := K) rfl) (by rfl) T.b_len (by decide +kernel) (pa_cons (pv 0) pa_nil)) pa_nil))) pa_nil))) pa_nil)) (pg_name (i := 1) sc_law.nd rfl (Or.inl rfl))
      (pss_cons (ps_set (i := 2) sc_law.nd rfl (Or.inr rfl) (pe_call (ok_w_source T) (hr.mono (by decide)) (by rfl) T.d_w_source.g T.d_w_source.F.kp T.d_w_source.b .nil pass0 (pa_cons (pe_call (ok_w_cell_at T) (hr.mono (by decide)) (by rfl) T.d_w_cell_at.g T.d_w_cell_at.F.kp T.d_w_cell_at.b .nil pass0 (pa_cons (pv 0) (pa_cons (pv 1) pa_nil))) pa_nil)))
      (pss_cons (ps_set (i := 3) sc_law.nd rfl (Or.inl rfl) (pe_op op_mod (pe_op op_add (pe_call (ok_w_next T) (hr.mono (by decide)) (by rfl) T.d_w_next.g T.d_w_next.F.kp T.d_w_next.b .nil pass0 (pa_cons (pv 2) (pa_cons pe_int pa_nil))) (pv 1)) pe_int))
      (pss_cons (ps_set (i := 4) sc_law.nd rfl (Or.inr rfl) (pe_call (ok_w_sorts T) (hr.mono (by decide)) (by rfl) T.d_w_sorts.g T.d_w_sorts.F.kp T.d_w_sorts.b .nil pass0 (pa_cons (pv 3) pa_nil)))
      (pss_cons (ps_set (i := 5) sc_law.nd rfl (Or.inr rfl) (pe_call (ok_w_next T) (hr.mono (by decide)) (by rfl) T.d_w_next.g T.d_w_next.F.kp T.d_w_next.b .nil pass0 (pa_cons (pv 2) (pa_cons pe_int pa_nil))))
      (pss_cons (ps_setLc (i := 6) (own := [("_law_j", 11)]) (g := gName 11) (by rfl) sc_law.nd rfl rfl (sw_true rfl rfl rfl (by decide +kernel)) (pi_range1 (by rfl) T.b_range (pa_cons (pe_call (ok_w_next T) (hr.mono (by decide)) (by rfl) T.d_w_next.g T.d_w_next.F.kp T.d_w_next.b .nil pass0 (pa_cons (pv 2) (pa_cons pe_int pa_nil))) pa_nil)) (blkOk_by (own := [("_law_j", 11)]) (N := N_law) (sc := defScope s_law) (by decide +kernel)) (fun _ _ _ _ _ => (pg_name (i := 11) sc_law.nd rfl (Or.inl rfl))) (fun _ _ _ _ _ => pts_nil) (fun _ _ _ _ _ => (pe_call (ok_w_next T) (hr.mono (by decide)) (by rfl) T.d_w_next.g T.d_w_next.F.kp T.d_w_next.b .nil pass0 (pa_cons (pv 2) (pa_cons (pe_callB (call_lenK (K := K) rfl) (by rfl) T.b_len (by decide +kernel) (pa_cons (pv 4) pa_nil)) pa_nil)))))
      (pss_cons (ps_setLc (i := 7) (own := [("_law_sort", 12)]) (g := gName 12) (by rfl) sc_law.nd rfl rfl (sw_true rfl rfl rfl (by decide +kernel)) (pi_listK (K := K) rfl (pv 4)) (blkOk_by (own := [("_law_sort", 12)]) (N := N_law) (sc := defScope s_law) (by decide +kernel)) (fun _ _ _ _ _ => (pg_name (i := 12) sc_law.nd rfl (Or.inl rfl))) (fun _ _ _ _ _ => pts_nil) (fun _ _ _ _ _ => (pe_call (hideOk (ok_w_good T)) (hr.mono (by decide)) (by rfl) T.d_w_good.g T.d_w_good.F.kp T.d_w_good.b .nil pass0 (pa_cons (pv 2) (pa_cons (pv 12) (pa_cons (pv 5) pa_nil))))))
      (pss_cons (ps_set (i := 8) sc_law.nd rfl (Or.inl rfl) (pe_callTy (call_listK (K := K) rfl) (by rfl) T.b_list (by decide +kernel) (pa_cons (pv 7) pa_nil)))
      (pss_cons (ps_for PassesOwn.never (by rfl) (pi_listK (K := K) rfl (pv 6)) (pg_name (i := 9) sc_law.nd rfl (Or.inl rfl))
      (pss_one (ps_asg (pe_call (hideOk (ok_w_bad T)) (hr.mono (by decide)) (by rfl) T.d_w_bad.g T.d_w_bad.F.kp T.d_w_bad.b .nil pass0 (pa_cons (pv 2) (pa_cons (pe_ix (ix_listK (K := K) rfl) (pv 4) (pv 9) (fun _ _ => rfl)) (pa_cons (pe_ix (ix_listK (K := K) rfl) (pv 7) (pv 9) (fun _ _ => rfl)) pa_nil)))) (pg_sub (pv 8) (pv 9) set_listA))))
      (pss_cons (ps_set (i := 10) sc_law.nd rfl (Or.inl rfl) (pe_call (ok_w_due T) (hr.mono (by decide)) (by rfl) T.d_w_due.g T.d_w_due.F.kp T.d_w_due.b .nil pass0 (pa_cons (pv 3) (pa_cons (pv 8) (pa_cons (pv 6) pa_nil)))))
      (pss_cons (ps_if (PW.pt (pw_or (pt_cmpR (op_neDK (K := K) hr.units rfl) (pe_call (ok_w_found T) (hr.mono (by decide)) (by rfl) T.d_w_found.g T.d_w_found.F.kp T.d_w_found.b .nil pass0 (pa_cons (pv 3) (pa_cons (pv 8) pa_nil))) (pv 10) (nomark _)) (pw_or1 (pt_cmpR (op_neDK (K := K) hr.units rfl) (pe_call (ok_w_found T) (hr.mono (by decide)) (by rfl) T.d_w_found.g T.d_w_found.F.kp T.d_w_found.b .nil pass0 (pa_cons (pv 3) (pa_cons (pv 7) pa_nil))) (pe_tupA (pa_cons (pe_ix (ix_listK (K := K) rfl) (pv 7) pe_int (fun _ _ => rfl)) (pa_cons (pe_lstA pa_nil) pa_nil))) (nomark _)))))
      (pss_one (ps_ret pe_bl))
      pss_nil)
      (pss_one (ps_if (pt_cmpR (op_neDK (K := K) hr.units rfl) (pe_call (ok_w_found T) (hr.mono (by decide)) (by rfl) T.d_w_found.g T.d_w_found.F.kp T.d_w_found.b .nil pass0 (pa_cons (pv 3) (pa_cons (pv 8) pa_nil))) (pv 10) (nomark _))
      (pss_one (ps_ret pe_bl))
      pss_nil)))))))))))))
      (pss_one (ps_ret pe_bl))), ?_⟩
    tm_at "rzs"
    obtain ⟨N, hN, hN2⟩ : ∃ N : Nat, ((if (if (((ns.map V.int).length : Nat) : Int) < 15 then (((ns.map V.int).length : Nat) : Int) else 15) > 1 then (if (((ns.map V.int).length : Nat) : Int) < 15 then (((ns.map V.int).length : Nat) : Int) else 15) else 1) : Int).toNat = N ∧ N ≤ 15 := by
      refine ⟨_, rfl, ?_⟩
      split
      · split <;> omega
      · decide
    rw [hN]
    refine for_range (lo := 0) (n := N) (fun i σ H' => ∃ (v1 v2 v3 v4 v5 v6 v7 v8 v9 v10 v11 v12 : Option V), σ = [some (.ref a), v1, v2, v3, v4, v5, v6, v7, v8, v9, v10, v11, v12] ∧ SqL K H' a (ns.map V.int))
      ⟨_, _, _, _, _, _, _, _, _, _, _, _, rfl, hS⟩ ?_ ?_
    · rintro i σ H4 hi ⟨v1, v2, v3, v4, v5, v6, v7, v8, v9, v10, v11, v12, rfl, hS4⟩
      dsimp only [gName]
      tm_at "rzs"
      refine ⟨a, ns, i, by rw [Int.zero_add]; rfl, hS4, hl, fun z => ?_⟩
      tm_at "rzs"
      intro s H5 f5 s5 g5
      have hs5 : Src H5 s := ⟨_, g5⟩
      have hA : ∀ H', Dr s H5 H' → SqL K H' a (ns.map V.int) := by
        by_cases e : a = s
        · subst e
          rcases hS4 with (h | ⟨o, h⟩) | h
          · rw [f5] at h; cases h
          · rw [f5] at h; cases h
          · exact fun _ _ => .inr h
        · exact fun H' d => d.seq e (s5.seq hS4)
      dsimp only [gName]
      tm_at "rzs"
      intro n6 H6 d6 l6 u6
      dsimp only [gName]
      obtain ⟨kd, ekd, kd5⟩ : ∃ kd : Nat, (n6 + (0 + (i : Int))) % 5 = (kd : Int) ∧ kd < 5 := ⟨((n6 + (0 + (i : Int))) % 5).toNat, by omega, by omega⟩
      tm_at "rzs"
      dsimp only
      rw [ekd]
      tm_at "rzs"
      intro pS H7 f7 s7 g7
      dsimp only [gName]
      tm_at "rzs"
      have d57 := d6.same s7
      have n7 : pS ≠ s := d6.s.ne f7
      have hs7 := d57.s
      tm_at "rzs"
      intro n8 H8 d8 l8 u8
      dsimp only [gName]
      obtain ⟨c, rfl⟩ := Int.eq_ofNat_of_zero_le l8
      have c5 : c < 5 := by omega
      tm_at "rzs"
      intro n9 H9 d9 l9 u9
      have L := srts_len kd
      have d59 := (d57.trans d8).trans d9
      have hs9 := d9.s
      have g9 := d9.app n7 (d8.app n7 g7)
      tm_at "rzs"
      refine fun D hD => lcRd (lo := 0) (n := n9.toNat) (s := s) (fun n : Nat => V.int (n : Int)) (fun _ n => n < (srts kd).length) hs9 hD (by omega) (fun j HA Kt Kf hj dA kt => ?_) (fun cs HA dA lcs rcs nD gD => ?_)
      · have hsA := dA.s
        have gA := dA.app n7 g9
        tm_at "rzs"
        refine ⟨by rw [List.length_map]; omega, by rw [List.length_map]; omega, fun n HB dB lB uB => ?_⟩
        obtain ⟨m, rfl⟩ := Int.eq_ofNat_of_zero_le lB
        exact kt m HB dB (by rw [List.length_map] at uB; omega)
      have d5A := d59.trans dA
      have hsA := d5A.s
      have gA := dA.app n7 g9
      have cs3 : cs.length ≤ 3 := by omega
      have rcs' : ∀ j ∈ cs, j < (srts kd).length := fun j m => by obtain ⟨i, e⟩ := List.getElem?_of_mem m; exact rcs i j e
      dsimp only [gName]
      tm_at "rzs"
      refine ⟨⟨_, sqL gA⟩, fun D2 hD2 => lcL (K := K) (xs := (srts kd).map fun so => sX so.tx) (fun i acc H' => Dr s HA H' ∧ acc.length = i ∧ ∀ (j : Nat) (v : V) (so : Srt), acc[j]? = some v → (srts kd)[j]? = some so → ValR K T.c_Style.C T.c_Words.C c (dropC [s, D2] H') v true so ∧ (so = .name → ∃ l, v = .str l))
        (fun H' s' _ => ⟨Dr.of hsA s', rfl, fun j v so e => by cases e⟩) hD2 (fun i acc H' p => sqL (p.1.app n7 gA)) (fun j x acc HB Kt Kf hx ⟨dB, lB, hB⟩ e kk => ?_) (fun gs HB ⟨dB, lB, hB⟩ gD2 => ?_)⟩
      · obtain ⟨so, hso, rfl⟩ := of_map hx
        have hj := (List.getElem?_eq_some_iff.mp hso).1
        have nD2 : D2 ≠ s := hsA.ne hD2
        tm_at "rzs"
        refine ⟨D2, acc, e, s, so, c, rfl, ?_, by omega, fun v H1 d1 hv hn z => ?_⟩
        · obtain ⟨t, q⟩ := dB.s
          exact ⟨t, drop_at q (by simpa using nD2.symm)⟩
        have dR := dr_hide d1 nD2 e z
        refine kk.yes _ _ (by rw [re_in]; exact e) (Nat.lt_of_lt_of_le (show _ < 100001 by omega) (by decide)) fun H5 b5 g5 => ⟨Dr.mut (dB.trans dR) b5 hD2 nD2.symm, by rw [List.length_append, lB]; rfl, fun j' v' so' e1 e2 => ?_⟩
        have up : Same (dropC [s, D2] (reC [D2] HB H1)) (dropC [s, D2] H5) := drop_but b5 (by simp)
        by_cases hj' : j' < acc.length
        · rw [List.getElem?_append_left hj'] at e1
          obtain ⟨q1, q2⟩ := hB j' v' so' e1 e2
          exact ⟨q1.same ((drop_but dR.b (by simp)).trans up), q2⟩
        · have hj2 : j' = j := by
            have := (List.getElem?_eq_some_iff.mp e1).1
            rw [List.length_append, List.length_singleton] at this
            omega
          subst hj2
          rw [List.getElem?_append_right (by omega), lB, Nat.sub_self] at e1
          cases e1
          rw [hso] at e2
          cases e2
          exact ⟨(hv.same (drop_re z)).same up, hn⟩
      dsimp only [gName]
      tm_at "rzs"
      have nD2 : D2 ≠ s := hsA.ne hD2
      have ls : (srts kd).length = gs.length := by rw [lB, List.length_map]
      refine ⟨D2, gs, rfl, .inl (sqL gD2), fun pv HC fC sC gC => ?_⟩
      have d5C := (d5A.trans dB).same sC
      have nv : pv ≠ s := (d5A.trans dB).s.ne fC
      have gS := sC _ _ (dB.app n7 gA)
      have gDC := sC _ _ (dB.app nD gD)
      have gD2C := sC _ _ gD2
      have fv5 : H5 pv = none := (d5A.trans dB).free fC nv
      have hv1 : ∀ b o, HB b = some o → b ≠ pv := fun b o h => by rintro rfl; rw [fC] at h; cases h
      have nSv := hv1 _ _ (dB.app n7 gA)
      have nDv := hv1 _ _ (dB.app nD gD)
      have nD2v := hv1 _ _ gD2
      have good : ValsR K T.c_Style.C T.c_Words.C c (dropC [s, pv] HC) (srts kd) gs (List.replicate (srts kd).length true) := by
        refine ⟨ls.symm, List.length_replicate, fun j so v b e1 e2 e3 => ?_⟩
        rw [List.getElem?_replicate] at e3
        split at e3 <;> cases e3
        refine (hB j v so e2 e1).1.same fun a o e => ?_
        by_cases m : a ∈ [s, D2]
        · rw [dropC_in m] at e; cases e
        · rw [dropC_out m] at e
          have na := hv1 a o e
          exact drop_at (sC _ _ e) (by simp at m ⊢; exact ⟨m.1, na⟩)
      have hg0 : ∃ l g', PyData.strOk l = true ∧ gs = .str l :: g' := by
        have h0 : (srts kd)[0]? = some .name := by
          match kd, kd5 with
          | 0, _ => rfl
          | 1, _ => rfl
          | 2, _ => rfl
          | 3, _ => rfl
          | 4, _ => rfl
        match gs, ls, hB with
        | [], e, _ => rw [e] at L; exact absurd L.1 (by decide)
        | g :: g', _, hB =>
          rcases (hB 0 g .name rfl h0).1 with ⟨_, _, _, e⟩ | ⟨l, rfl, hl, _⟩
          · cases e
          · refine ⟨_, g', strOk_let fun x m => ?_, rfl⟩
            unfold nmB at hl
            rw [Bool.and_eq_true, List.all_eq_true] at hl
            exact of_decide_eq_true (hl.2 x m)
      dsimp only [gName]
      tm_at "rzs"
      refine ⟨⟨_, sqL gDC⟩, for_list (K := K) (a := D) (xs := cs.map fun n : Nat => V.int (n : Int)) (fun j σ H' => ∃ (us : List V) (bs : List Bool) (v9 v10 v11 v12 : Option V), σ = [some (.ref a), some (.int (0 + (i : Int))), some (.ref s), some (.int (kd : Int)), some (.ref pS), some (.int (c : Int)), some (.ref D), some (.ref D2), some (.ref pv), v9, v10, v11, v12] ∧ Dr s H5 H' ∧ H' D = some (.lst (cs.map fun n : Nat => V.int (n : Int))) ∧ H' pS = some (.lst ((srts kd).map fun so => sX so.tx)) ∧ H' D2 = some (.lst gs) ∧ H' pv = some (.lst us) ∧
          ValsR K T.c_Style.C T.c_Words.C c (dropC [s, pv] H') (srts kd) gs (List.replicate (srts kd).length true) ∧ ValsR K T.c_Style.C T.c_Words.C c (dropC [s, pv] H') (srts kd) us bs ∧ (∀ m : Nat, bs[m]? = some false ↔ ∃ i' : Nat, i' < j ∧ cs[i']? = some m) ∧ ∀ m : Nat, bs[m]? = some true → us[m]? = gs[m]?)
        ⟨gs, _, _, _, _, _, rfl, d5C, gDC, gS, gD2C, gC, good, good, fun m => ⟨fun e => ?_, fun ⟨_, h, _⟩ => absurd h (Nat.not_lt_zero _)⟩, fun m _ => rfl⟩ (fun j σ H' _ h => by obtain ⟨_, _, _, _, _, _, _, _, g, _⟩ := h; exact sqL g) ?_ ?_⟩
      · rw [List.getElem?_replicate] at e
        split at e <;> cases e
      · rintro j x σ HE hx ⟨us, bs, v9, v10, v11, v12, rfl, dE, gDE, gSE, gGE, gvE, goodE, valsE, hbE, huE⟩
        obtain ⟨m, hm, rfl⟩ := of_map hx
        have lm := rcs j m hm
        dsimp only [gName]
        tm_at "rzs"
        obtain ⟨so, hso⟩ : ∃ so, (srts kd)[m]? = some so := ⟨_, List.getElem?_eq_getElem lm⟩
        obtain ⟨g, hg⟩ : ∃ g, gs[m]? = some g := ⟨gs[m]'(by rw [← ls]; exact lm), List.getElem?_eq_getElem _⟩
        refine ⟨_, _, _, _, rfl, rfl, sqL gSE, atI_nat (j := m) (by rw [List.getElem?_map, hso]; rfl), ?_⟩
        tm_at "rzs"
        refine ⟨_, _, _, _, rfl, rfl, sqL gGE, atI_nat (j := m) hg, ?_⟩
        tm_at "rzs"
        refine ⟨pv, us, gvE, s, so, g, c, rfl, ?_, ?_, by omega, fun v H1 d1 hv z => ?_⟩
        · obtain ⟨t, q⟩ := dE.s
          exact ⟨t, drop_at q (by simpa using nv.symm)⟩
        · exact (goodE.2.2 m so g true hso hg (by rw [List.getElem?_replicate, if_pos lm])).same drop2
        have dR := dr_hide d1 nv gvE z
        have gv1 : reC [pv] HE H1 pv = some (.lst us) := by rw [re_in]; exact gvE
        tm_at "rzs"
        refine ⟨pv, us, (m : Int), m, rfl, rfl, gv1, ixN_nat (by rw [valsE.1]; exact lm), fun HF bF gF => ?_⟩
        have ds : Same (dropC [s, pv] HE) (dropC [s, pv] HF) := (drop_but dR.b (by simp)).trans (drop_but bF (by simp))
        refine ⟨us.set m v, bs.set m false, _, _, _, _, rfl, Dr.mut (dE.trans dR) bF fv5 nv.symm, bF.app nDv (dR.app nD gDE), bF.app nSv (dR.app n7 gSE), bF.app nD2v (dR.app nD2 gGE), gF, goodE.same ds, ?_, fun m' => ?_, fun m' e => ?_⟩
        · have w := valsE.same ds
          refine ⟨by rw [List.length_set]; exact w.1, by rw [List.length_set]; exact w.2.1, fun j' so' v' b' e1 e2 e3 => ?_⟩
          rw [List.getElem?_set] at e2 e3
          split at e2
          · next q =>
            subst q
            rw [if_pos rfl] at e3
            rw [if_pos (by rw [valsE.1]; exact lm)] at e2
            rw [if_pos (by rw [valsE.2.1]; exact lm)] at e3
            cases e2; cases e3
            rw [hso] at e1
            cases e1
            exact (hv.same (drop_re z)).same (drop_but bF (by simp))
          · next q =>
            rw [if_neg q] at e3
            exact w.2.2 j' so' v' b' e1 e2 e3
        · rw [List.getElem?_set]
          constructor
          · intro e
            split at e
            · next q =>
              subst q
              exact ⟨j, Nat.lt_succ_self _, hm⟩
            · obtain ⟨i', h1, h2⟩ := (hbE m').mp e
              exact ⟨i', Nat.lt_succ_of_lt h1, h2⟩
          · rintro ⟨i', h1, h2⟩
            split
            · next q => rw [if_pos (by rw [valsE.2.1]; exact lm)]
            · next q =>
              refine (hbE m').mpr ⟨i', ?_, h2⟩
              rcases Nat.lt_succ_iff_lt_or_eq.mp h1 with h | rfl
              · exact h
              · rw [hm] at h2; cases h2; exact absurd rfl q
        · rw [List.getElem?_set] at e ⊢
          split at e
          · next q =>
            split at e <;> cases e
          · next q =>
            rw [if_neg q]
            exact huE m' e
      · rintro σ HE ⟨us, bs, v9, v10, v11, v12, rfl, dE, gDE, gSE, gGE, gvE, goodE, valsE, hbE, huE⟩
        tm_at "rzs"
        rw [List.length_map] at hbE
        have hbC : ∀ m : Nat, bs[m]? = some false ↔ m ∈ cs := fun m => by
          rw [hbE]
          exact ⟨fun ⟨i', _, e⟩ => List.mem_of_getElem? e, fun mm => by
            obtain ⟨i', e⟩ := List.getElem?_of_mem mm
            exact ⟨i', (List.getElem?_eq_some_iff.mp e).1, e⟩⟩
        obtain ⟨v0, us', rfl⟩ : ∃ v0 us', us = v0 :: us' := by
          match us, valsE.1 with
          | [], e => rw [← e] at L; exact absurd L.1 (by decide)
          | v0 :: us', _ => exact ⟨v0, us', rfl⟩
        obtain ⟨l0, g', ok0, rfl⟩ := hg0
        obtain ⟨x, er, d, hd, hdue, hfnd⟩ : ∃ (x : V) (er : List V) (d : PyData), ResD x er d ∧
            (∀ (HX : Hp) (QX : VK), HX pv = some (.lst (v0 :: us')) → HX D = some (.lst (cs.map fun n : Nat => V.int (n : Int))) → (∀ (p q : Addr) (H' : Hp), Same HX H' → H' q = some (.lst er) → H' p = some (.tup [x, .ref q]) → QX (.ref p) H') → sp_w_due [.int (kd : Int), .ref pv, .ref D] HX QX E0) ∧
            (∀ (HX : Hp) (QX : VK), HX pv = some (.lst (v0 :: us')) → ValsR K T.c_Style.C T.c_Words.C c HX (srts kd) (v0 :: us') bs → (∀ (p q : Addr) (H' : Hp), Same HX H' → H' q = some (.lst er) → H' p = some (.tup [x, .ref q]) → QX (.ref p) H') → sp_w_found K T.c_Style.C T.c_Words.C [.int (kd : Int), .ref pv] HX QX E0) := by
          by_cases ec : cs = []
          · have hall : ∀ b ∈ bs, b = true := fun b m => by
              obtain ⟨i', e⟩ := List.getElem?_of_mem m
              cases b with
              | true => rfl
              | false => have := (hbC i').mp e; rw [ec] at this; cases this
            have hf := fb_none (srts kd) bs hall
            have e0 : v0 = .str l0 := by
              have b0 : bs[0]? = some true := by
                have : 0 < bs.length := by rw [valsE.2.1]; omega
                rw [List.getElem?_eq_getElem this, hall _ (List.getElem_mem this)]
              have := huE 0 b0
              simpa using this
            subst e0
            refine ⟨_, _, _, .made l0 ok0, fun HX QX h1 h2 k => ⟨kd, pv, D, us', _, cs, rfl, kd5, h1, h2, rcs', cs3, fun _ => k, fun so j mj => by rw [ec] at mj; cases mj⟩, fun HX QX h1 h2 k => ⟨kd, pv, c, _, bs, rfl, kd5, h1, h2, fun _ v0 p q H' e => ?_, fun so e => by rw [hf] at e; cases e⟩⟩
            cases e
            exact k p q H'
          · obtain ⟨j, mj, lj⟩ := least_of cs ec
            obtain ⟨so, hso⟩ : ∃ so, (srts kd)[j]? = some so := ⟨_, List.getElem?_eq_getElem (rcs' j mj)⟩
            have hf := fb_at (srts kd) bs j so hso ((hbC j).mpr mj) fun i' hi' e => absurd (lj i' ((hbC i').mp e)) (by omega)
            refine ⟨_, _, _, .not so.er, fun HX QX h1 h2 k => ⟨kd, pv, D, us', _, cs, rfl, kd5, h1, h2, rcs', cs3, fun e => absurd e ec, fun so' j' mj' lj' e => ?_⟩, fun HX QX h1 h2 k => ⟨kd, pv, c, _, bs, rfl, kd5, h1, h2, fun e => (by rw [hf] at e; cases e), fun so' e => ?_⟩⟩
            · have : j' = j := Nat.le_antisymm (lj' j mj) (lj j' mj')
              subst this
              rw [hso] at e
              cases e
              exact k
            · rw [hf] at e
              cases e
              exact k
        dsimp only [tNil]
        refine hdue HE _ gvE gDE fun pd qd HF sF gqF gpF => ?_
        dsimp only [gName]
        tm_at "rzs"
        dsimp only [tNil]
        have okd := hd.ok
        refine hfnd HF _ (sF _ _ gvE) (valsE.same (drop_sub.trans sF)) fun pf qf HG sG gqG gpG => ?_
        tm_at "rzs"
        refine ⟨d, d, hd.dp gqG gpG, hd.dp (sG _ _ gqF) (sG _ _ gpF), okd.1, okd.1, ?_⟩
        rw [okd.2]
        tm_at "rzs"
        have sEG := sF.trans sG
        refine ⟨kd, D2, c, _, _, rfl, kd5, sEG _ _ gGE, goodE.same (drop_sub.trans sEG), fun _ v1 p1 q1 H1 e1 s1 gq1 gp1 => ?_, fun so e => by rw [fb_none _ _ fun b m => (List.mem_replicate.mp m).2] at e; cases e⟩
        cases e1
        tm_at "rzs"
        have sE1 := sEG.trans s1
        refine ⟨_, _, _, _, rfl, rfl, sqL (sE1 _ _ gGE), atI_nat (j := 0) rfl, ?_⟩
        tm_at "rzs"
        intro q2 H2 f2 s2 gq2
        tm_at "rzs"
        intro p3 H3 f3 s3 gp3
        tm_at "rzs"
        have hm : ResD (.str l0) [] _ := .made l0 ok0
        refine ⟨_, _, hm.dp (s3 _ _ (s2 _ _ gq1)) (s3 _ _ (s2 _ _ gp1)), hm.dp (s3 _ _ gq2) gp3, hm.ok.1, hm.ok.1, ?_⟩
        rw [hm.ok.2]
        tm_at "rzs"
        have sE3 := sE1.trans (s2.trans s3)
        have sF3 := sG.trans (s1.trans (s2.trans s3))
        dsimp only [tNil]
        refine hfnd H3 _ (sE3 _ _ gvE) (valsE.same (drop_sub.trans sE3)) fun p4 q4 H4 s4 gq4 gp4 => ?_
        tm_at "rzs"
        refine ⟨d, d, hd.dp gq4 gp4, hd.dp (s4 _ _ (sF3 _ _ gqF)) (s4 _ _ (sF3 _ _ gpF)), okd.1, okd.1, ?_⟩
        rw [okd.2]
        tm_at "rzs"
        exact ⟨_, _, _, _, _, _, _, _, _, _, _, _, rfl, hA _ (dE.same (sE3.trans s4))⟩
    · rintro σ H4 ⟨v1, v2, v3, v4, v5, v6, v7, v8, v9, v10, v11, v12, rfl, hS4⟩
      tm_at "rzs"
      exact k _
end
end My
namespace My
open PySem L2
theorem law_end {l : PySem.W.OpenLaw} {w : World} {K : PySem.W.Frag} {mg : Str → Option Value} {fa : Addr} (hfa : mg "law" = some (.ref fa)) (T : Tx w K mg) :
    ∃ fd : FuncData, (∀ (s : Shared) (v : Value), BindsTo s fd ⟨[v], []⟩ [("_law_script", v)]) ∧ ∀ base : Heap, K.In base → base.Ns mainGlobals mg → FnOk l.prog w K mg base CX0 11 fa fd ["_law_script"] (sp_law K) := by
  have e := hfa.symm.trans T.d_law.g
  cases e
  refine ⟨T.d_law.fd, fun s v => ?_, fun base _ _ => ok_law T⟩
  obtain ⟨oc, od, kV, doc, pm, an, cdv, ct, osl, e, _, _⟩ := T.d_law.F.ex
  rw [e]
  exact .of_eq rfl
end My
open PySem PySem.W PyProof.Rows
set_option maxRecDepth 100000 in
set_option maxHeartbeats 0 in
theorem PySem.Challenge.cw_nestlaid_k19_boxes_refused_holds : PySem.Challenge.rw_nestlaid_k19_boxes_refused.Holds := by
  refine MyHead.enter ?_
  k_fill
  refine L2.walk_of (l := PySem.Challenge.rw_nestlaid_k19_boxes_refused) (n := 63) (k := 11) (x := "_law_script") (CX := fun _ => L2.CX0) (sp := fun w => My.sp_law _) rfl (by decide) rfl ⟨rfl, by decide, by decide⟩ (fun w h Y => PySem.W.kIn_of Y) ?F (fun _ _ a ns hl _ hS => ⟨a, ns, rfl, hS, hl, fun _ => rfl⟩) (fun _ _ _ _ _ h => h)
  case F =>
    intro w mg fa h KX G hmg
    refine' My.law_end hmg { U_NO_RIMS := _, U_SIDES := _, U_STANDS := _, U_PACKS := _, U_LETTERS := _, U_LONGEST := _, c_Style := My.cl_mk KX G ?cStyle0 ?cStyle1 ?cStyle2 ?cStyle3 ?cStyle4, n_Style_wide := ?nStylewide, n_Style_high := ?nStylehigh, n_Style_least_wide := ?nStyleleast_wide, n_Style_least_high := ?nStyleleast_high, n_Style_most_wide := ?nStylemost_wide, n_Style_most_high := ?nStylemost_high, n_Style_grow := ?nStylegrow, n_Style_shrink := ?nStyleshrink, n_Style_rims := ?nStylerims, n_Style_stand := ?nStylestand, c_Box := My.cl_mk KX G ?cBox0 ?cBox1 ?cBox2 ?cBox3 ?cBox4, c_Words := My.cl_mk KX G ?cWords0 ?cWords1 ?cWords2 ?cWords3 ?cWords4, n_Words_name := ?nWordsname, n_Words_text := ?nWordstext, n_Words_style := ?nWordsstyle, c_Picture := My.cl_mk KX G ?cPicture0 ?cPicture1 ?cPicture2 ?cPicture3 ?cPicture4, n_Picture_name := ?nPicturename, n_Picture_across := ?nPictureacross, n_Picture_down := ?nPicturedown, n_Picture_style := ?nPicturestyle, c_Row := My.cl_mk KX G ?cRow0 ?cRow1 ?cRow2 ?cRow3 ?cRow4, n_Row_name := ?nRowname, n_Row_boxes := ?nRowboxes, n_Row_turn := ?nRowturn, n_Row_gap := ?nRowgap, n_Row_lane := ?nRowlane, n_Row_pack := ?nRowpack, n_Row_stands := ?nRowstands, n_Row_style := ?nRowstyle, c_Pile := My.cl_mk KX G ?cPile0 ?cPile1 ?cPile2 ?cPile3 ?cPile4, n_Pile_name := ?nPilename, n_Pile_boxes := ?nPileboxes, n_Pile_gap := ?nPilegap, n_Pile_pack := ?nPilepack, n_Pile_stands := ?nPilestands, n_Pile_style := ?nPilestyle, c_Grid := My.cl_mk KX G ?cGrid0 ?cGrid1 ?cGrid2 ?cGrid3 ?cGrid4, n_Grid_name := ?nGridname, n_Grid_boxes := ?nGridboxes, n_Grid_columns := ?nGridcolumns, n_Grid_rows := ?nGridrows, n_Grid_spots := ?nGridspots, n_Grid_gap := ?nGridgap, n_Grid_lane := ?nGridlane, n_Grid_stands := ?nGridstands, n_Grid_style := ?nGridstyle, d_NoText_init := My.inx_mk ?xNoText_init0 ?xNoText_init1 ?xNoText_init2 ?xNoText_init3 ?xNoText_init4 ?xNoText_init5 ?xNoText_init6 ?xNoText_init7 ?xNoText_init8 ?xNoText_init9 ?xNoText_init10 ?xNoText_init11 ?xNoText_init12 (by intro z; cases z) ?xNoText_init13, d_is_whole := My.df_mk KX G ?a1 ?l1 ?c1 ?k1 (fun _ _ _ _ _ _ us hl => match us, hl with | [_], _ => rfl), d_is_count := My.df_mk KX G ?a2 ?l2 ?c2 ?k2 (fun _ _ _ _ _ _ us hl => match us, hl with | [_], _ => rfl), d_is_name := My.df_mk KX G ?a3 ?l3 ?c3 ?k3 (fun _ _ _ _ _ _ us hl => match us, hl with | [_], _ => rfl), d_is_share := My.df_mk KX G ?a4 ?l4 ?c4 ?k4 (fun _ _ _ _ _ _ us hl => match us, hl with | [_], _ => rfl), d_is_track := My.df_mk KX G ?a5 ?l5 ?c5 ?k5 (fun _ _ _ _ _ _ us hl => match us, hl with | [_], _ => rfl), d_are_tracks := My.df_mk KX G ?a6 ?l6 ?c6 ?k6 (fun _ _ _ _ _ _ us hl => match us, hl with | [_], _ => rfl), d_is_stretch := My.df_mk KX G ?a7 ?l7 ?c7 ?k7 (fun _ _ _ _ _ _ us hl => match us, hl with | [_, _, _], _ => rfl), d_is_spot := My.df_mk KX G ?a8 ?l8 ?c8 ?k8 (fun _ _ _ _ _ _ us hl => match us, hl with | [_, _, _], _ => rfl), d_apart := My.df_mk KX G ?a9 ?l9 ?c9 ?k9 (fun _ _ _ _ _ _ us hl => match us, hl with | [_, _], _ => rfl), d_may_stand := My.df_mk KX G ?a10 ?l10 ?c10 ?k10 (fun _ _ _ _ _ _ us hl => match us, hl with | [_, _, _, _], _ => rfl), d_are_spots := My.df_mk KX G ?a11 ?l11 ?c11 ?k11 (fun _ _ _ _ _ _ us hl => match us, hl with | [_, _, _, _], _ => rfl), d_is_part := My.df_mk KX G ?a12 ?l12 ?c12 ?k12 (fun _ _ _ _ _ _ us hl => match us, hl with | [_], _ => rfl), d_is_tie := My.df_mk KX G ?a13 ?l13 ?c13 ?k13 (fun _ _ _ _ _ _ us hl => match us, hl with | [_], _ => rfl), d_is_size := My.df_mk KX G ?a14 ?l14 ?c14 ?k14 (fun _ _ _ _ _ _ us hl => match us, hl with | [_], _ => rfl), d_is_bound := My.df_mk KX G ?a15 ?l15 ?c15 ?k15 (fun _ _ _ _ _ _ us hl => match us, hl with | [_], _ => rfl), d_is_rims := My.df_mk KX G ?a16 ?l16 ?c16 ?k16 (fun _ _ _ _ _ _ us hl => match us, hl with | [_], _ => rfl), d_Style_init := My.ini_mk ?iStyle_init0 ?iStyle_init1 ?iStyle_init2 ?iStyle_init3 ?iStyle_init4 ?iStyle_init5 ?iStyle_init6 (.cons ?wStyle_init0 ?xStyle_init0 (.cons ?wStyle_init1 ?xStyle_init1 (.cons ?wStyle_init2 ?xStyle_init2 (.cons ?wStyle_init3 ?xStyle_init3 (.cons ?wStyle_init4 ?xStyle_init4 (.cons ?wStyle_init5 ?xStyle_init5 (.cons ?wStyle_init6 ?xStyle_init6 (.cons ?wStyle_init7 ?xStyle_init7 (.cons ?wStyle_init8 ?xStyle_init8 (.cons ?wStyle_init9 ?xStyle_init9 .nil)))))))))), d_checked_name := My.df_mk KX G ?a17 ?l17 ?c17 ?k17 (fun _ _ _ _ _ _ us hl => match us, hl with | [_], _ => rfl), d_checked_style := My.df_mk KX G ?a18 ?l18 ?c18 ?k18 (fun _ _ _ _ _ _ us hl => match us, hl with | [_], _ => rfl), d_checked_boxes := My.df_mk KX G ?a19 ?l19 ?c19 ?k19 (fun _ _ _ _ _ _ us hl => match us, hl with | [_], _ => rfl), d_checked_gap := My.df_mk KX G ?a20 ?l20 ?c20 ?k20 (fun _ _ _ _ _ _ us hl => match us, hl with | [_], _ => rfl), d_checked_pack := My.df_mk KX G ?a21 ?l21 ?c21 ?k21 (fun _ _ _ _ _ _ us hl => match us, hl with | [_], _ => rfl), d_checked_stands := My.df_mk KX G ?a22 ?l22 ?c22 ?k22 (fun _ _ _ _ _ _ us hl => match us, hl with | [_], _ => rfl), d_Words_init := My.ini_mk ?iWords_init0 ?iWords_init1 ?iWords_init2 ?iWords_init3 ?iWords_init4 ?iWords_init5 ?iWords_init6 (.cons ?wWords_init0 ?xWords_init0 .nil), d_Picture_init := My.ini_mk ?iPicture_init0 ?iPicture_init1 ?iPicture_init2 ?iPicture_init3 ?iPicture_init4 ?iPicture_init5 ?iPicture_init6 (.cons ?wPicture_init0 ?xPicture_init0 .nil), d_Row_init := My.ini_mk ?iRow_init0 ?iRow_init1 ?iRow_init2 ?iRow_init3 ?iRow_init4 ?iRow_init5 ?iRow_init6 (.cons ?wRow_init0 ?xRow_init0 (.cons ?wRow_init1 ?xRow_init1 (.cons ?wRow_init2 ?xRow_init2 (.cons ?wRow_init3 ?xRow_init3 (.cons ?wRow_init4 ?xRow_init4 (.cons ?wRow_init5 ?xRow_init5 .nil)))))), d_Pile_init := My.ini_mk ?iPile_init0 ?iPile_init1 ?iPile_init2 ?iPile_init3 ?iPile_init4 ?iPile_init5 ?iPile_init6 (.cons ?wPile_init0 ?xPile_init0 (.cons ?wPile_init1 ?xPile_init1 (.cons ?wPile_init2 ?xPile_init2 (.cons ?wPile_init3 ?xPile_init3 .nil)))), d_Grid_init := My.ini_mk ?iGrid_init0 ?iGrid_init1 ?iGrid_init2 ?iGrid_init3 ?iGrid_init4 ?iGrid_init5 ?iGrid_init6 (.cons ?wGrid_init0 ?xGrid_init0 (.cons ?wGrid_init1 ?xGrid_init1 (.cons ?wGrid_init2 ?xGrid_init2 (.cons ?wGrid_init3 ?xGrid_init3 .nil)))), d_w_cell_at := My.df_mk KX G ?a23 ?l23 ?c23 ?k23 (fun _ _ _ _ _ _ us hl => match us, hl with | [_, _], _ => rfl), d_w_mixed := My.df_mk KX G ?a24 ?l24 ?c24 ?k24 (fun _ _ _ _ _ _ us hl => match us, hl with | [_, _], _ => rfl), d_w_source := My.df_mk KX G ?a25 ?l25 ?c25 ?k25 (fun _ _ _ _ _ _ us hl => match us, hl with | [_], _ => rfl), d_w_next := My.df_mk KX G ?a26 ?l26 ?c26 ?k26 (fun _ _ _ _ _ _ us hl => match us, hl with | [_, _], _ => rfl), d_w_letters := My.df_mk KX G ?a27 ?l27 ?c27 ?k27 (fun _ _ _ _ _ _ us hl => match us, hl with | [_, _], _ => rfl), d_w_number := My.df_mk KX G ?a28 ?l28 ?c28 ?k28 (fun _ _ _ _ _ _ us hl => match us, hl with | [_], _ => rfl), d_w_bad_name := My.df_mk KX G ?a29 ?l29 ?c29 ?k29 (fun _ _ _ _ _ _ us hl => match us, hl with | [_], _ => rfl), d_w_bad_number := My.df_mk KX G ?a30 ?l30 ?c30 ?k30 (fun _ _ _ _ _ _ us hl => match us, hl with | [_, _], _ => rfl), d_w_bad_boxes := My.df_mk KX G ?a31 ?l31 ?c31 ?k31 (fun _ _ _ _ _ _ us hl => match us, hl with | [_, _], _ => rfl), d_w_bad_word := My.df_mk KX G ?a32 ?l32 ?c32 ?k32 (fun _ _ _ _ _ _ us hl => match us, hl with | [_, _], _ => rfl), d_w_bad_tracks := My.df_mk KX G ?a33 ?l33 ?c33 ?k33 (fun _ _ _ _ _ _ us hl => match us, hl with | [_, _], _ => rfl), d_w_bad_spots := My.df_mk KX G ?a34 ?l34 ?c34 ?k34 (fun _ _ _ _ _ _ us hl => match us, hl with | [_, _], _ => rfl), d_w_bad := My.df_mk KX G ?a35 ?l35 ?c35 ?k35 (fun _ _ _ _ _ _ us hl => match us, hl with | [_, _, _], _ => rfl), d_w_sorts := My.df_mk KX G ?a36 ?l36 ?c36 ?k36 (fun _ _ _ _ _ _ us hl => match us, hl with | [_], _ => rfl), d_w_good := My.df_mk KX G ?a37 ?l37 ?c37 ?k37 (fun _ _ _ _ _ _ us hl => match us, hl with | [_, _, _], _ => rfl), d_w_made := My.df_mk KX G ?a38 ?l38 ?c38 ?k38 (fun _ _ _ _ _ _ us hl => match us, hl with | [_, _], _ => rfl), d_w_told := My.df_mk KX G ?a39 ?l39 ?c39 ?k39 (fun _ _ _ _ _ _ us hl => match us, hl with | [_], _ => rfl), d_w_found := My.df_mk KX G ?a40 ?l40 ?c40 ?k40 (fun _ _ _ _ _ _ us hl => match us, hl with | [_, _], _ => rfl), d_w_due := My.df_mk KX G ?a41 ?l41 ?c41 ?k41 (fun _ _ _ _ _ _ us hl => match us, hl with | [_, _, _], _ => rfl), d_law := My.df_mk KX G ?a42 ?l42 ?c42 ?k42 (fun _ _ _ _ _ _ us hl => match us, hl with | [_], _ => rfl), b_ValueError := PySem.W.mg_none_of KX G ?z_ValueError, b_all := PySem.W.mg_none_of KX G ?z_all, b_bool := PySem.W.mg_none_of KX G ?z_bool, b_enumerate := PySem.W.mg_none_of KX G ?z_enumerate, b_int := PySem.W.mg_none_of KX G ?z_int, b_isinstance := PySem.W.mg_none_of KX G ?z_isinstance, b_len := PySem.W.mg_none_of KX G ?z_len, b_list := PySem.W.mg_none_of KX G ?z_list, b_max := PySem.W.mg_none_of KX G ?z_max, b_min := PySem.W.mg_none_of KX G ?z_min, b_range := PySem.W.mg_none_of KX G ?z_range, b_str := PySem.W.mg_none_of KX G ?z_str, b_tuple := PySem.W.mg_none_of KX G ?z_tuple, v_SIDES := PySem.W.mg_of KX G ?v_SIDES, v_STANDS := PySem.W.mg_of KX G ?v_STANDS, v_PACKS := PySem.W.mg_of KX G ?v_PACKS, v_LETTERS := PySem.W.mg_of KX G ?v_LETTERS, v_LONGEST := PySem.W.mg_of KX G ?v_LONGEST, t_NO_RIMS := My.sqT_K ?tNO_RIMS0 ?tNO_RIMS1 ?tNO_RIMS2 ?tNO_RIMS3 ?tNO_RIMS4, t_SIDES := My.sqT_K ?tSIDES0 ?tSIDES1 ?tSIDES2 ?tSIDES3 ?tSIDES4, t_STANDS := My.sqT_K ?tSTANDS0 ?tSTANDS1 ?tSTANDS2 ?tSTANDS3 ?tSTANDS4, t_PACKS := My.sqT_K ?tPACKS0 ?tPACKS1 ?tPACKS2 ?tPACKS3 ?tPACKS4, r_LETTERS := ?r_LETTERS, r_LONGEST := ?r_LONGEST, e_NestError := My.ex_mk KX G ?eNestError0 ?eNestError1 ?eNestError2 ?eNestError3 ?eNestError4 ?eNestError5 ?eNestError6 ?eNestError7 ?eNestError8 ?eNestError9 ?eNestError10 ?eNestError11, e_NoName := My.ex_mk KX G ?eNoName0 ?eNoName1 ?eNoName2 ?eNoName3 ?eNoName4 ?eNoName5 ?eNoName6 ?eNoName7 ?eNoName8 ?eNoName9 ?eNoName10 ?eNoName11, e_NoNumber := My.ex_mk KX G ?eNoNumber0 ?eNoNumber1 ?eNoNumber2 ?eNoNumber3 ?eNoNumber4 ?eNoNumber5 ?eNoNumber6 ?eNoNumber7 ?eNoNumber8 ?eNoNumber9 ?eNoNumber10 ?eNoNumber11, e_NoBox := My.ex_mk KX G ?eNoBox0 ?eNoBox1 ?eNoBox2 ?eNoBox3 ?eNoBox4 ?eNoBox5 ?eNoBox6 ?eNoBox7 ?eNoBox8 ?eNoBox9 ?eNoBox10 ?eNoBox11, e_NoTruth := My.ex_mk KX G ?eNoTruth0 ?eNoTruth1 ?eNoTruth2 ?eNoTruth3 ?eNoTruth4 ?eNoTruth5 ?eNoTruth6 ?eNoTruth7 ?eNoTruth8 ?eNoTruth9 ?eNoTruth10 ?eNoTruth11, e_NoPack := My.ex_mk KX G ?eNoPack0 ?eNoPack1 ?eNoPack2 ?eNoPack3 ?eNoPack4 ?eNoPack5 ?eNoPack6 ?eNoPack7 ?eNoPack8 ?eNoPack9 ?eNoPack10 ?eNoPack11, e_NoStand := My.ex_mk KX G ?eNoStand0 ?eNoStand1 ?eNoStand2 ?eNoStand3 ?eNoStand4 ?eNoStand5 ?eNoStand6 ?eNoStand7 ?eNoStand8 ?eNoStand9 ?eNoStand10 ?eNoStand11, e_NoTrack := My.ex_mk KX G ?eNoTrack0 ?eNoTrack1 ?eNoTrack2 ?eNoTrack3 ?eNoTrack4 ?eNoTrack5 ?eNoTrack6 ?eNoTrack7 ?eNoTrack8 ?eNoTrack9 ?eNoTrack10 ?eNoTrack11, e_NoSpot := My.ex_mk KX G ?eNoSpot0 ?eNoSpot1 ?eNoSpot2 ?eNoSpot3 ?eNoSpot4 ?eNoSpot5 ?eNoSpot6 ?eNoSpot7 ?eNoSpot8 ?eNoSpot9 ?eNoSpot10 ?eNoSpot11, e_NoStyle := My.ex_mk KX G ?eNoStyle0 ?eNoStyle1 ?eNoStyle2 ?eNoStyle3 ?eNoStyle4 ?eNoStyle5 ?eNoStyle6 ?eNoStyle7 ?eNoStyle8 ?eNoStyle9 ?eNoStyle10 ?eNoStyle11, e_NoText := My.ec_mk KX G ?eNoText0 ?eNoText1 ?eNoText2, e_NoTree := My.ec_mk KX G ?eNoTree0 ?eNoTree1 ?eNoTree2, e_NoWords := My.ec_mk KX G ?eNoWords0 ?eNoWords1 ?eNoWords2, e_NoPlace := My.ec_mk KX G ?eNoPlace0 ?eNoPlace1 ?eNoPlace2, r_NoName := ?r_NoName, v_NoName := ?v_NoName, i_NoName_NoName := ?i_NoName_NoName, i_NoName_NoNumber := ?i_NoName_NoNumber, i_NoName_NoBox := ?i_NoName_NoBox, i_NoName_NoTruth := ?i_NoName_NoTruth, i_NoName_NoPack := ?i_NoName_NoPack, i_NoName_NoStand := ?i_NoName_NoStand, i_NoName_NoTrack := ?i_NoName_NoTrack, i_NoName_NoSpot := ?i_NoName_NoSpot, i_NoName_NoStyle := ?i_NoName_NoStyle, i_NoName_NoText := ?i_NoName_NoText, i_NoName_NoTree := ?i_NoName_NoTree, i_NoName_NoWords := ?i_NoName_NoWords, i_NoName_NoPlace := ?i_NoName_NoPlace, r_NoNumber := ?r_NoNumber, v_NoNumber := ?v_NoNumber, i_NoNumber_NoName := ?i_NoNumber_NoName, i_NoNumber_NoNumber := ?i_NoNumber_NoNumber, i_NoNumber_NoBox := ?i_NoNumber_NoBox, i_NoNumber_NoTruth := ?i_NoNumber_NoTruth, i_NoNumber_NoPack := ?i_NoNumber_NoPack, i_NoNumber_NoStand := ?i_NoNumber_NoStand, i_NoNumber_NoTrack := ?i_NoNumber_NoTrack, i_NoNumber_NoSpot := ?i_NoNumber_NoSpot, i_NoNumber_NoStyle := ?i_NoNumber_NoStyle, i_NoNumber_NoText := ?i_NoNumber_NoText, i_NoNumber_NoTree := ?i_NoNumber_NoTree, i_NoNumber_NoWords := ?i_NoNumber_NoWords, i_NoNumber_NoPlace := ?i_NoNumber_NoPlace, r_NoBox := ?r_NoBox, v_NoBox := ?v_NoBox, i_NoBox_NoName := ?i_NoBox_NoName, i_NoBox_NoNumber := ?i_NoBox_NoNumber, i_NoBox_NoBox := ?i_NoBox_NoBox, i_NoBox_NoTruth := ?i_NoBox_NoTruth, i_NoBox_NoPack := ?i_NoBox_NoPack, i_NoBox_NoStand := ?i_NoBox_NoStand, i_NoBox_NoTrack := ?i_NoBox_NoTrack, i_NoBox_NoSpot := ?i_NoBox_NoSpot, i_NoBox_NoStyle := ?i_NoBox_NoStyle, i_NoBox_NoText := ?i_NoBox_NoText, i_NoBox_NoTree := ?i_NoBox_NoTree, i_NoBox_NoWords := ?i_NoBox_NoWords, i_NoBox_NoPlace := ?i_NoBox_NoPlace, r_NoTruth := ?r_NoTruth, v_NoTruth := ?v_NoTruth, i_NoTruth_NoName := ?i_NoTruth_NoName, i_NoTruth_NoNumber := ?i_NoTruth_NoNumber, i_NoTruth_NoBox := ?i_NoTruth_NoBox, i_NoTruth_NoTruth := ?i_NoTruth_NoTruth, i_NoTruth_NoPack := ?i_NoTruth_NoPack, i_NoTruth_NoStand := ?i_NoTruth_NoStand, i_NoTruth_NoTrack := ?i_NoTruth_NoTrack, i_NoTruth_NoSpot := ?i_NoTruth_NoSpot, i_NoTruth_NoStyle := ?i_NoTruth_NoStyle, i_NoTruth_NoText := ?i_NoTruth_NoText, i_NoTruth_NoTree := ?i_NoTruth_NoTree, i_NoTruth_NoWords := ?i_NoTruth_NoWords, i_NoTruth_NoPlace := ?i_NoTruth_NoPlace, r_NoPack := ?r_NoPack, v_NoPack := ?v_NoPack, i_NoPack_NoName := ?i_NoPack_NoName, i_NoPack_NoNumber := ?i_NoPack_NoNumber, i_NoPack_NoBox := ?i_NoPack_NoBox, i_NoPack_NoTruth := ?i_NoPack_NoTruth, i_NoPack_NoPack := ?i_NoPack_NoPack, i_NoPack_NoStand := ?i_NoPack_NoStand, i_NoPack_NoTrack := ?i_NoPack_NoTrack, i_NoPack_NoSpot := ?i_NoPack_NoSpot, i_NoPack_NoStyle := ?i_NoPack_NoStyle, i_NoPack_NoText := ?i_NoPack_NoText, i_NoPack_NoTree := ?i_NoPack_NoTree, i_NoPack_NoWords := ?i_NoPack_NoWords, i_NoPack_NoPlace := ?i_NoPack_NoPlace, r_NoStand := ?r_NoStand, v_NoStand := ?v_NoStand, i_NoStand_NoName := ?i_NoStand_NoName, i_NoStand_NoNumber := ?i_NoStand_NoNumber, i_NoStand_NoBox := ?i_NoStand_NoBox, i_NoStand_NoTruth := ?i_NoStand_NoTruth, i_NoStand_NoPack := ?i_NoStand_NoPack, i_NoStand_NoStand := ?i_NoStand_NoStand, i_NoStand_NoTrack := ?i_NoStand_NoTrack, i_NoStand_NoSpot := ?i_NoStand_NoSpot, i_NoStand_NoStyle := ?i_NoStand_NoStyle, i_NoStand_NoText := ?i_NoStand_NoText, i_NoStand_NoTree := ?i_NoStand_NoTree, i_NoStand_NoWords := ?i_NoStand_NoWords, i_NoStand_NoPlace := ?i_NoStand_NoPlace, r_NoTrack := ?r_NoTrack, v_NoTrack := ?v_NoTrack, i_NoTrack_NoName := ?i_NoTrack_NoName, i_NoTrack_NoNumber := ?i_NoTrack_NoNumber, i_NoTrack_NoBox := ?i_NoTrack_NoBox, i_NoTrack_NoTruth := ?i_NoTrack_NoTruth, i_NoTrack_NoPack := ?i_NoTrack_NoPack, i_NoTrack_NoStand := ?i_NoTrack_NoStand, i_NoTrack_NoTrack := ?i_NoTrack_NoTrack, i_NoTrack_NoSpot := ?i_NoTrack_NoSpot, i_NoTrack_NoStyle := ?i_NoTrack_NoStyle, i_NoTrack_NoText := ?i_NoTrack_NoText, i_NoTrack_NoTree := ?i_NoTrack_NoTree, i_NoTrack_NoWords := ?i_NoTrack_NoWords, i_NoTrack_NoPlace := ?i_NoTrack_NoPlace, r_NoSpot := ?r_NoSpot, v_NoSpot := ?v_NoSpot, i_NoSpot_NoName := ?i_NoSpot_NoName, i_NoSpot_NoNumber := ?i_NoSpot_NoNumber, i_NoSpot_NoBox := ?i_NoSpot_NoBox, i_NoSpot_NoTruth := ?i_NoSpot_NoTruth, i_NoSpot_NoPack := ?i_NoSpot_NoPack, i_NoSpot_NoStand := ?i_NoSpot_NoStand, i_NoSpot_NoTrack := ?i_NoSpot_NoTrack, i_NoSpot_NoSpot := ?i_NoSpot_NoSpot, i_NoSpot_NoStyle := ?i_NoSpot_NoStyle, i_NoSpot_NoText := ?i_NoSpot_NoText, i_NoSpot_NoTree := ?i_NoSpot_NoTree, i_NoSpot_NoWords := ?i_NoSpot_NoWords, i_NoSpot_NoPlace := ?i_NoSpot_NoPlace, r_NoStyle := ?r_NoStyle, v_NoStyle := ?v_NoStyle, i_NoStyle_NoName := ?i_NoStyle_NoName, i_NoStyle_NoNumber := ?i_NoStyle_NoNumber, i_NoStyle_NoBox := ?i_NoStyle_NoBox, i_NoStyle_NoTruth := ?i_NoStyle_NoTruth, i_NoStyle_NoPack := ?i_NoStyle_NoPack, i_NoStyle_NoStand := ?i_NoStyle_NoStand, i_NoStyle_NoTrack := ?i_NoStyle_NoTrack, i_NoStyle_NoSpot := ?i_NoStyle_NoSpot, i_NoStyle_NoStyle := ?i_NoStyle_NoStyle, i_NoStyle_NoText := ?i_NoStyle_NoText, i_NoStyle_NoTree := ?i_NoStyle_NoTree, i_NoStyle_NoWords := ?i_NoStyle_NoWords, i_NoStyle_NoPlace := ?i_NoStyle_NoPlace, r_NoText := ?r_NoText, v_NoText := ?v_NoText, i_NoText_NoName := ?i_NoText_NoName, i_NoText_NoNumber := ?i_NoText_NoNumber, i_NoText_NoBox := ?i_NoText_NoBox, i_NoText_NoTruth := ?i_NoText_NoTruth, i_NoText_NoPack := ?i_NoText_NoPack, i_NoText_NoStand := ?i_NoText_NoStand, i_NoText_NoTrack := ?i_NoText_NoTrack, i_NoText_NoSpot := ?i_NoText_NoSpot, i_NoText_NoStyle := ?i_NoText_NoStyle, i_NoText_NoText := ?i_NoText_NoText, i_NoText_NoTree := ?i_NoText_NoTree, i_NoText_NoWords := ?i_NoText_NoWords, i_NoText_NoPlace := ?i_NoText_NoPlace, n_NoText_line := ?n_NoText_line, x_NoText := My.xt_mk ?xt0 ?xt1 ?xt2 ?xt3 ?xt4 ?xt5 ?xt6 ?xt7, wg := ?wg, wt := ?wt, wc_Words := ?wc_Words, wm_Words := ?wm_Words, k_Words_int := My.kit_ownT ?k_Words_int, k_Words_bool := My.kit_ownT ?k_Words_bool, k_Words_str := My.kit_ownT ?k_Words_str, k_Words_tuple := My.kit_ownT ?k_Words_tuple, k_Words_list := My.kit_ownT ?k_Words_list, wc_Style := ?wc_Style, wm_Style := ?wm_Style, k_Style_int := My.kit_ownT ?k_Style_int, k_Style_bool := My.kit_ownT ?k_Style_bool, k_Style_str := My.kit_ownT ?k_Style_str, k_Style_tuple := My.kit_ownT ?k_Style_tuple, k_Style_list := My.kit_ownT ?k_Style_list, kb_Words := My.kit_own ?kb_Words0 ?kb_Words1 ?kb_Words2 ?kb_Words3, kx_Style_Box := My.kit_own ?kx_Style_Box0 ?kx_Style_Box1 ?kx_Style_Box2 ?kx_Style_Box3, ki_Style := My.kit_own ?ki_Style0 ?ki_Style1 ?ki_Style2 ?ki_Style3, kx_Words_Style := My.kit_own ?kx_Words_Style0 ?kx_Words_Style1 ?kx_Words_Style2 ?kx_Words_Style3, st_Box := ?st_Box, st_Style := ?st_Style }
    (case cStyle0 => k_is)
    (case cStyle1 => k_is)
    (case cStyle2 => k_is)
    (case cStyle3 => k_is)
    (case cStyle4 => k_is)
    (case nStylewide => dsimp only [My.cl_mk]; k_is)
    (case nStylehigh => dsimp only [My.cl_mk]; k_is)
    (case nStyleleast_wide => dsimp only [My.cl_mk]; k_is)
    (case nStyleleast_high => dsimp only [My.cl_mk]; k_is)
    (case nStylemost_wide => dsimp only [My.cl_mk]; k_is)
    (case nStylemost_high => dsimp only [My.cl_mk]; k_is)
    (case nStylegrow => dsimp only [My.cl_mk]; k_is)
    (case nStyleshrink => dsimp only [My.cl_mk]; k_is)
    (case nStylerims => dsimp only [My.cl_mk]; k_is)
    (case nStylestand => dsimp only [My.cl_mk]; k_is)
    (case cBox0 => k_is)
    (case cBox1 => k_is)
    (case cBox2 => k_is)
    (case cBox3 => k_is)
    (case cBox4 => k_is)
    (case cWords0 => k_is)
    (case cWords1 => k_is)
    (case cWords2 => k_is)
    (case cWords3 => k_is)
    (case cWords4 => k_is)
    (case nWordsname => dsimp only [My.cl_mk]; k_is)
    (case nWordstext => dsimp only [My.cl_mk]; k_is)
    (case nWordsstyle => dsimp only [My.cl_mk]; k_is)
    (case cPicture0 => k_is)
    (case cPicture1 => k_is)
    (case cPicture2 => k_is)
    (case cPicture3 => k_is)
    (case cPicture4 => k_is)
    (case nPicturename => dsimp only [My.cl_mk]; k_is)
    (case nPictureacross => dsimp only [My.cl_mk]; k_is)
    (case nPicturedown => dsimp only [My.cl_mk]; k_is)
    (case nPicturestyle => dsimp only [My.cl_mk]; k_is)
    (case cRow0 => k_is)
    (case cRow1 => k_is)
    (case cRow2 => k_is)
    (case cRow3 => k_is)
    (case cRow4 => k_is)
    (case nRowname => dsimp only [My.cl_mk]; k_is)
    (case nRowboxes => dsimp only [My.cl_mk]; k_is)
    (case nRowturn => dsimp only [My.cl_mk]; k_is)
    (case nRowgap => dsimp only [My.cl_mk]; k_is)
    (case nRowlane => dsimp only [My.cl_mk]; k_is)
    (case nRowpack => dsimp only [My.cl_mk]; k_is)
    (case nRowstands => dsimp only [My.cl_mk]; k_is)
    (case nRowstyle => dsimp only [My.cl_mk]; k_is)
    (case cPile0 => k_is)
    (case cPile1 => k_is)
    (case cPile2 => k_is)
    (case cPile3 => k_is)
    (case cPile4 => k_is)
    (case nPilename => dsimp only [My.cl_mk]; k_is)
    (case nPileboxes => dsimp only [My.cl_mk]; k_is)
    (case nPilegap => dsimp only [My.cl_mk]; k_is)
    (case nPilepack => dsimp only [My.cl_mk]; k_is)
    (case nPilestands => dsimp only [My.cl_mk]; k_is)
    (case nPilestyle => dsimp only [My.cl_mk]; k_is)
    (case cGrid0 => k_is)
    (case cGrid1 => k_is)
    (case cGrid2 => k_is)
    (case cGrid3 => k_is)
    (case cGrid4 => k_is)
    (case nGridname => dsimp only [My.cl_mk]; k_is)
    (case nGridboxes => dsimp only [My.cl_mk]; k_is)
    (case nGridcolumns => dsimp only [My.cl_mk]; k_is)
    (case nGridrows => dsimp only [My.cl_mk]; k_is)
    (case nGridspots => dsimp only [My.cl_mk]; k_is)
    (case nGridgap => dsimp only [My.cl_mk]; k_is)
    (case nGridlane => dsimp only [My.cl_mk]; k_is)
    (case nGridstands => dsimp only [My.cl_mk]; k_is)
    (case nGridstyle => dsimp only [My.cl_mk]; k_is)
    (case a1 => k_is)
    (case l1 => k_is)
    (case c1 => k_is)
    (case k1 => k_is)
    (case a2 => k_is)
    (case l2 => k_is)
    (case c2 => k_is)
    (case k2 => k_is)
    (case a3 => k_is)
    (case l3 => k_is)
    (case c3 => k_is)
    (case k3 => k_is)
    (case a4 => k_is)
    (case l4 => k_is)
    (case c4 => k_is)
    (case k4 => k_is)
    (case a5 => k_is)
    (case l5 => k_is)
    (case c5 => k_is)
    (case k5 => k_is)
    (case a6 => k_is)
    (case l6 => k_is)
    (case c6 => k_is)
    (case k6 => k_is)
    (case a7 => k_is)
    (case l7 => k_is)
    (case c7 => k_is)
    (case k7 => k_is)
    (case a8 => k_is)
    (case l8 => k_is)
    (case c8 => k_is)
    (case k8 => k_is)
    (case a9 => k_is)
    (case l9 => k_is)
    (case c9 => k_is)
    (case k9 => k_is)
    (case a10 => k_is)
    (case l10 => k_is)
    (case c10 => k_is)
    (case k10 => k_is)
    (case a11 => k_is)
    (case l11 => k_is)
    (case c11 => k_is)
    (case k11 => k_is)
    (case a12 => k_is)
    (case l12 => k_is)
    (case c12 => k_is)
    (case k12 => k_is)
    (case a13 => k_is)
    (case l13 => k_is)
    (case c13 => k_is)
    (case k13 => k_is)
    (case a14 => k_is)
    (case l14 => k_is)
    (case c14 => k_is)
    (case k14 => k_is)
    (case a15 => k_is)
    (case l15 => k_is)
    (case c15 => k_is)
    (case k15 => k_is)
    (case a16 => k_is)
    (case l16 => k_is)
    (case c16 => k_is)
    (case k16 => k_is)
    (case iStyle_init0 => dsimp only [My.cl_mk]; k_is)
    (case iStyle_init1 => (try dsimp only [My.cl_mk]); k_is)
    (case iStyle_init2 => (try dsimp only [My.cl_mk]); k_is)
    (case iStyle_init3 => (try dsimp only [My.cl_mk]); k_is)
    (case iStyle_init4 => (try dsimp only [My.cl_mk]); k_is)
    (case iStyle_init5 => (try dsimp only [My.cl_mk]); k_is)
    (case iStyle_init6 => (try dsimp only [My.cl_mk]); k_is)
    (case wStyle_init0 => k_is)
    (case xStyle_init0 => first | exact rfl | exact ⟨_, rfl⟩)
    (case wStyle_init1 => k_is)
    (case xStyle_init1 => first | exact rfl | exact ⟨_, rfl⟩)
    (case wStyle_init2 => k_is)
    (case xStyle_init2 => first | exact rfl | exact ⟨_, rfl⟩)
    (case wStyle_init3 => k_is)
    (case xStyle_init3 => first | exact rfl | exact ⟨_, rfl⟩)
    (case wStyle_init4 => k_is)
    (case xStyle_init4 => first | exact rfl | exact ⟨_, rfl⟩)
    (case wStyle_init5 => k_is)
    (case xStyle_init5 => first | exact rfl | exact ⟨_, rfl⟩)
    (case wStyle_init6 => k_is)
    (case xStyle_init6 => first | exact rfl | exact ⟨_, rfl⟩)
    (case wStyle_init7 => k_is)
    (case xStyle_init7 => first | exact rfl | exact ⟨_, rfl⟩)
    (case wStyle_init8 => k_is)
    (case xStyle_init8 => first | exact rfl | exact ⟨_, rfl⟩)
    (case wStyle_init9 => k_is)
    (case xStyle_init9 => first | exact rfl | exact ⟨_, rfl⟩)
    (case a17 => k_is)
    (case l17 => k_is)
    (case c17 => k_is)
    (case k17 => k_is)
    (case a18 => k_is)
    (case l18 => k_is)
    (case c18 => k_is)
    (case k18 => k_is)
    (case a19 => k_is)
    (case l19 => k_is)
    (case c19 => k_is)
    (case k19 => k_is)
    (case a20 => k_is)
    (case l20 => k_is)
    (case c20 => k_is)
    (case k20 => k_is)
    (case a21 => k_is)
    (case l21 => k_is)
    (case c21 => k_is)
    (case k21 => k_is)
    (case a22 => k_is)
    (case l22 => k_is)
    (case c22 => k_is)
    (case k22 => k_is)
    (case iWords_init0 => dsimp only [My.cl_mk]; k_is)
    (case iWords_init1 => (try dsimp only [My.cl_mk]); k_is)
    (case iWords_init2 => (try dsimp only [My.cl_mk]); k_is)
    (case iWords_init3 => (try dsimp only [My.cl_mk]); k_is)
    (case iWords_init4 => (try dsimp only [My.cl_mk]); k_is)
    (case iWords_init5 => (try dsimp only [My.cl_mk]); k_is)
    (case iWords_init6 => (try dsimp only [My.cl_mk]); k_is)
    (case wWords_init0 => k_is)
    (case xWords_init0 => first | exact rfl | exact ⟨_, rfl⟩)
    (case iPicture_init0 => dsimp only [My.cl_mk]; k_is)
    (case iPicture_init1 => (try dsimp only [My.cl_mk]); k_is)
    (case iPicture_init2 => (try dsimp only [My.cl_mk]); k_is)
    (case iPicture_init3 => (try dsimp only [My.cl_mk]); k_is)
    (case iPicture_init4 => (try dsimp only [My.cl_mk]); k_is)
    (case iPicture_init5 => (try dsimp only [My.cl_mk]); k_is)
    (case iPicture_init6 => (try dsimp only [My.cl_mk]); k_is)
    (case wPicture_init0 => k_is)
    (case xPicture_init0 => first | exact rfl | exact ⟨_, rfl⟩)
    (case iRow_init0 => dsimp only [My.cl_mk]; k_is)
    (case iRow_init1 => (try dsimp only [My.cl_mk]); k_is)
    (case iRow_init2 => (try dsimp only [My.cl_mk]); k_is)
    (case iRow_init3 => (try dsimp only [My.cl_mk]); k_is)
    (case iRow_init4 => (try dsimp only [My.cl_mk]); k_is)
    (case iRow_init5 => (try dsimp only [My.cl_mk]); k_is)
    (case iRow_init6 => (try dsimp only [My.cl_mk]); k_is)
    (case wRow_init0 => k_is)
    (case xRow_init0 => first | exact rfl | exact ⟨_, rfl⟩)
    (case wRow_init1 => k_is)
    (case xRow_init1 => first | exact rfl | exact ⟨_, rfl⟩)
    (case wRow_init2 => k_is)
    (case xRow_init2 => first | exact rfl | exact ⟨_, rfl⟩)
    (case wRow_init3 => k_is)
    (case xRow_init3 => first | exact rfl | exact ⟨_, rfl⟩)
    (case wRow_init4 => k_is)
    (case xRow_init4 => first | exact rfl | exact ⟨_, rfl⟩)
    (case wRow_init5 => k_is)
    (case xRow_init5 => first | exact rfl | exact ⟨_, rfl⟩)
    (case iPile_init0 => dsimp only [My.cl_mk]; k_is)
    (case iPile_init1 => (try dsimp only [My.cl_mk]); k_is)
    (case iPile_init2 => (try dsimp only [My.cl_mk]); k_is)
    (case iPile_init3 => (try dsimp only [My.cl_mk]); k_is)
    (case iPile_init4 => (try dsimp only [My.cl_mk]); k_is)
    (case iPile_init5 => (try dsimp only [My.cl_mk]); k_is)
    (case iPile_init6 => (try dsimp only [My.cl_mk]); k_is)
    (case wPile_init0 => k_is)
    (case xPile_init0 => first | exact rfl | exact ⟨_, rfl⟩)
    (case wPile_init1 => k_is)
    (case xPile_init1 => first | exact rfl | exact ⟨_, rfl⟩)
    (case wPile_init2 => k_is)
    (case xPile_init2 => first | exact rfl | exact ⟨_, rfl⟩)
    (case wPile_init3 => k_is)
    (case xPile_init3 => first | exact rfl | exact ⟨_, rfl⟩)
    (case iGrid_init0 => dsimp only [My.cl_mk]; k_is)
    (case iGrid_init1 => (try dsimp only [My.cl_mk]); k_is)
    (case iGrid_init2 => (try dsimp only [My.cl_mk]); k_is)
    (case iGrid_init3 => (try dsimp only [My.cl_mk]); k_is)
    (case iGrid_init4 => (try dsimp only [My.cl_mk]); k_is)
    (case iGrid_init5 => (try dsimp only [My.cl_mk]); k_is)
    (case iGrid_init6 => (try dsimp only [My.cl_mk]); k_is)
    (case wGrid_init0 => k_is)
    (case xGrid_init0 => first | exact rfl | exact ⟨_, rfl⟩)
    (case wGrid_init1 => k_is)
    (case xGrid_init1 => first | exact rfl | exact ⟨_, rfl⟩)
    (case wGrid_init2 => k_is)
    (case xGrid_init2 => first | exact rfl | exact ⟨_, rfl⟩)
    (case wGrid_init3 => k_is)
    (case xGrid_init3 => first | exact rfl | exact ⟨_, rfl⟩)
    (case a23 => k_is)
    (case l23 => k_is)
    (case c23 => k_is)
    (case k23 => k_is)
    (case a24 => k_is)
    (case l24 => k_is)
    (case c24 => k_is)
    (case k24 => k_is)
    (case a25 => k_is)
    (case l25 => k_is)
    (case c25 => k_is)
    (case k25 => k_is)
    (case a26 => k_is)
    (case l26 => k_is)
    (case c26 => k_is)
    (case k26 => k_is)
    (case a27 => k_is)
    (case l27 => k_is)
    (case c27 => k_is)
    (case k27 => k_is)
    (case a28 => k_is)
    (case l28 => k_is)
    (case c28 => k_is)
    (case k28 => k_is)
    (case a29 => k_is)
    (case l29 => k_is)
    (case c29 => k_is)
    (case k29 => k_is)
    (case a30 => k_is)
    (case l30 => k_is)
    (case c30 => k_is)
    (case k30 => k_is)
    (case a31 => k_is)
    (case l31 => k_is)
    (case c31 => k_is)
    (case k31 => k_is)
    (case a32 => k_is)
    (case l32 => k_is)
    (case c32 => k_is)
    (case k32 => k_is)
    (case a33 => k_is)
    (case l33 => k_is)
    (case c33 => k_is)
    (case k33 => k_is)
    (case a34 => k_is)
    (case l34 => k_is)
    (case c34 => k_is)
    (case k34 => k_is)
    (case a35 => k_is)
    (case l35 => k_is)
    (case c35 => k_is)
    (case k35 => k_is)
    (case a36 => k_is)
    (case l36 => k_is)
    (case c36 => k_is)
    (case k36 => k_is)
    (case a37 => k_is)
    (case l37 => k_is)
    (case c37 => k_is)
    (case k37 => k_is)
    (case a38 => k_is)
    (case l38 => k_is)
    (case c38 => k_is)
    (case k38 => k_is)
    (case a39 => k_is)
    (case l39 => k_is)
    (case c39 => k_is)
    (case k39 => k_is)
    (case a40 => k_is)
    (case l40 => k_is)
    (case c40 => k_is)
    (case k40 => k_is)
    (case a41 => k_is)
    (case l41 => k_is)
    (case c41 => k_is)
    (case k41 => k_is)
    (case a42 => k_is)
    (case l42 => k_is)
    (case c42 => k_is)
    (case k42 => k_is)
    (case z_ValueError => k_is)
    (case z_all => k_is)
    (case z_bool => k_is)
    (case z_enumerate => k_is)
    (case z_int => k_is)
    (case z_isinstance => k_is)
    (case z_len => k_is)
    (case z_list => k_is)
    (case z_max => k_is)
    (case z_min => k_is)
    (case z_range => k_is)
    (case z_str => k_is)
    (case z_tuple => k_is)
    (case v_SIDES => k_is)
    (case v_STANDS => k_is)
    (case v_PACKS => k_is)
    (case v_LETTERS => k_is)
    (case v_LONGEST => k_is)
    (case tNO_RIMS0 => k_is)
    (case tNO_RIMS1 => rfl)
    (case tNO_RIMS2 => rfl)
    (case tNO_RIMS3 => decide +kernel)
    (case tNO_RIMS4 => exact .cons ⟨_, rfl⟩ (.cons ⟨_, rfl⟩ (.cons ⟨_, rfl⟩ (.cons ⟨_, rfl⟩ (.nil)))))
    (case tSIDES0 => k_is)
    (case tSIDES1 => rfl)
    (case tSIDES2 => rfl)
    (case tSIDES3 => decide +kernel)
    (case tSIDES4 => exact .cons ⟨_, rfl⟩ (.cons ⟨_, rfl⟩ (.nil)))
    (case tSTANDS0 => k_is)
    (case tSTANDS1 => rfl)
    (case tSTANDS2 => rfl)
    (case tSTANDS3 => decide +kernel)
    (case tSTANDS4 => exact .cons ⟨_, rfl⟩ (.cons ⟨_, rfl⟩ (.cons ⟨_, rfl⟩ (.cons ⟨_, rfl⟩ (.cons ⟨_, rfl⟩ (.nil))))))
    (case tPACKS0 => k_is)
    (case tPACKS1 => rfl)
    (case tPACKS2 => rfl)
    (case tPACKS3 => decide +kernel)
    (case tPACKS4 => exact .cons ⟨_, rfl⟩ (.cons ⟨_, rfl⟩ (.cons ⟨_, rfl⟩ (.cons ⟨_, rfl⟩ (.nil)))))
    (case r_LETTERS => exact ⟨_, rfl⟩)
    (case r_LONGEST => exact ⟨_, rfl⟩)
    (case eNestError0 => k_is)
    (case eNestError1 => k_exc)
    (case eNestError2 => k_is)
    (case eNestError3 => k_is)
    (case eNestError4 => k_is)
    (case eNestError5 => k_is)
    (case eNestError6 => k_is)
    (case eNestError7 => k_is)
    (case eNestError8 => k_is)
    (case eNestError9 => k_is)
    (case eNestError10 => k_is)
    (case eNestError11 => k_is)
    (case eNoName0 => k_is)
    (case eNoName1 => k_exc)
    (case eNoName2 => k_is)
    (case eNoName3 => k_is)
    (case eNoName4 => k_is)
    (case eNoName5 => k_is)
    (case eNoName6 => k_is)
    (case eNoName7 => k_is)
    (case eNoName8 => k_is)
    (case eNoName9 => k_is)
    (case eNoName10 => k_is)
    (case eNoName11 => k_is)
    (case eNoNumber0 => k_is)
    (case eNoNumber1 => k_exc)
    (case eNoNumber2 => k_is)
    (case eNoNumber3 => k_is)
    (case eNoNumber4 => k_is)
    (case eNoNumber5 => k_is)
    (case eNoNumber6 => k_is)
    (case eNoNumber7 => k_is)
    (case eNoNumber8 => k_is)
    (case eNoNumber9 => k_is)
    (case eNoNumber10 => k_is)
    (case eNoNumber11 => k_is)
    (case eNoBox0 => k_is)
    (case eNoBox1 => k_exc)
    (case eNoBox2 => k_is)
    (case eNoBox3 => k_is)
    (case eNoBox4 => k_is)
    (case eNoBox5 => k_is)
    (case eNoBox6 => k_is)
    (case eNoBox7 => k_is)
    (case eNoBox8 => k_is)
    (case eNoBox9 => k_is)
    (case eNoBox10 => k_is)
    (case eNoBox11 => k_is)
    (case eNoTruth0 => k_is)
    (case eNoTruth1 => k_exc)
    (case eNoTruth2 => k_is)
    (case eNoTruth3 => k_is)
    (case eNoTruth4 => k_is)
    (case eNoTruth5 => k_is)
    (case eNoTruth6 => k_is)
    (case eNoTruth7 => k_is)
    (case eNoTruth8 => k_is)
    (case eNoTruth9 => k_is)
    (case eNoTruth10 => k_is)
    (case eNoTruth11 => k_is)
    (case eNoPack0 => k_is)
    (case eNoPack1 => k_exc)
    (case eNoPack2 => k_is)
    (case eNoPack3 => k_is)
    (case eNoPack4 => k_is)
    (case eNoPack5 => k_is)
    (case eNoPack6 => k_is)
    (case eNoPack7 => k_is)
    (case eNoPack8 => k_is)
    (case eNoPack9 => k_is)
    (case eNoPack10 => k_is)
    (case eNoPack11 => k_is)
    (case eNoStand0 => k_is)
    (case eNoStand1 => k_exc)
    (case eNoStand2 => k_is)
    (case eNoStand3 => k_is)
    (case eNoStand4 => k_is)
    (case eNoStand5 => k_is)
    (case eNoStand6 => k_is)
    (case eNoStand7 => k_is)
    (case eNoStand8 => k_is)
    (case eNoStand9 => k_is)
    (case eNoStand10 => k_is)
    (case eNoStand11 => k_is)
    (case eNoTrack0 => k_is)
    (case eNoTrack1 => k_exc)
    (case eNoTrack2 => k_is)
    (case eNoTrack3 => k_is)
    (case eNoTrack4 => k_is)
    (case eNoTrack5 => k_is)
    (case eNoTrack6 => k_is)
    (case eNoTrack7 => k_is)
    (case eNoTrack8 => k_is)
    (case eNoTrack9 => k_is)
    (case eNoTrack10 => k_is)
    (case eNoTrack11 => k_is)
    (case eNoSpot0 => k_is)
    (case eNoSpot1 => k_exc)
    (case eNoSpot2 => k_is)
    (case eNoSpot3 => k_is)
    (case eNoSpot4 => k_is)
    (case eNoSpot5 => k_is)
    (case eNoSpot6 => k_is)
    (case eNoSpot7 => k_is)
    (case eNoSpot8 => k_is)
    (case eNoSpot9 => k_is)
    (case eNoSpot10 => k_is)
    (case eNoSpot11 => k_is)
    (case eNoStyle0 => k_is)
    (case eNoStyle1 => k_exc)
    (case eNoStyle2 => k_is)
    (case eNoStyle3 => k_is)
    (case eNoStyle4 => k_is)
    (case eNoStyle5 => k_is)
    (case eNoStyle6 => k_is)
    (case eNoStyle7 => k_is)
    (case eNoStyle8 => k_is)
    (case eNoStyle9 => k_is)
    (case eNoStyle10 => k_is)
    (case eNoStyle11 => k_is)
    (case eNoText0 => k_is)
    (case eNoText1 => k_is)
    (case eNoText2 => k_is)
    (case eNoTree0 => k_is)
    (case eNoTree1 => k_is)
    (case eNoTree2 => k_is)
    (case eNoWords0 => k_is)
    (case eNoWords1 => k_is)
    (case eNoWords2 => k_is)
    (case eNoPlace0 => k_is)
    (case eNoPlace1 => k_is)
    (case eNoPlace2 => k_is)
    (case r_NoName => (try dsimp only [My.ex_mk, My.ec_mk, My.cl_mk]); k_is)
    (case v_NoName => (try dsimp only [My.ex_mk, My.ec_mk, My.cl_mk]); k_is)
    (case i_NoName_NoName => (try dsimp only [My.ex_mk, My.ec_mk, My.cl_mk]); k_is)
    (case i_NoName_NoNumber => (try dsimp only [My.ex_mk, My.ec_mk, My.cl_mk]); k_is)
    (case i_NoName_NoBox => (try dsimp only [My.ex_mk, My.ec_mk, My.cl_mk]); k_is)
    (case i_NoName_NoTruth => (try dsimp only [My.ex_mk, My.ec_mk, My.cl_mk]); k_is)
    (case i_NoName_NoPack => (try dsimp only [My.ex_mk, My.ec_mk, My.cl_mk]); k_is)
    (case i_NoName_NoStand => (try dsimp only [My.ex_mk, My.ec_mk, My.cl_mk]); k_is)
    (case i_NoName_NoTrack => (try dsimp only [My.ex_mk, My.ec_mk, My.cl_mk]); k_is)
    (case i_NoName_NoSpot => (try dsimp only [My.ex_mk, My.ec_mk, My.cl_mk]); k_is)
    (case i_NoName_NoStyle => (try dsimp only [My.ex_mk, My.ec_mk, My.cl_mk]); k_is)
    (case i_NoName_NoText => (try dsimp only [My.ex_mk, My.ec_mk, My.cl_mk]); k_is)
    (case i_NoName_NoTree => (try dsimp only [My.ex_mk, My.ec_mk, My.cl_mk]); k_is)
    (case i_NoName_NoWords => (try dsimp only [My.ex_mk, My.ec_mk, My.cl_mk]); k_is)
    (case i_NoName_NoPlace => (try dsimp only [My.ex_mk, My.ec_mk, My.cl_mk]); k_is)
    (case r_NoNumber => (try dsimp only [My.ex_mk, My.ec_mk, My.cl_mk]); k_is)
    (case v_NoNumber => (try dsimp only [My.ex_mk, My.ec_mk, My.cl_mk]); k_is)
    (case i_NoNumber_NoName => (try dsimp only [My.ex_mk, My.ec_mk, My.cl_mk]); k_is)
    (case i_NoNumber_NoNumber => (try dsimp only [My.ex_mk, My.ec_mk, My.cl_mk]); k_is)
    (case i_NoNumber_NoBox => (try dsimp only [My.ex_mk, My.ec_mk, My.cl_mk]); k_is)
    (case i_NoNumber_NoTruth => (try dsimp only [My.ex_mk, My.ec_mk, My.cl_mk]); k_is)
    (case i_NoNumber_NoPack => (try dsimp only [My.ex_mk, My.ec_mk, My.cl_mk]); k_is)
    (case i_NoNumber_NoStand => (try dsimp only [My.ex_mk, My.ec_mk, My.cl_mk]); k_is)
    (case i_NoNumber_NoTrack => (try dsimp only [My.ex_mk, My.ec_mk, My.cl_mk]); k_is)
    (case i_NoNumber_NoSpot => (try dsimp only [My.ex_mk, My.ec_mk, My.cl_mk]); k_is)
    (case i_NoNumber_NoStyle => (try dsimp only [My.ex_mk, My.ec_mk, My.cl_mk]); k_is)
    (case i_NoNumber_NoText => (try dsimp only [My.ex_mk, My.ec_mk, My.cl_mk]); k_is)
    (case i_NoNumber_NoTree => (try dsimp only [My.ex_mk, My.ec_mk, My.cl_mk]); k_is)
    (case i_NoNumber_NoWords => (try dsimp only [My.ex_mk, My.ec_mk, My.cl_mk]); k_is)
    (case i_NoNumber_NoPlace => (try dsimp only [My.ex_mk, My.ec_mk, My.cl_mk]); k_is)
    (case r_NoBox => (try dsimp only [My.ex_mk, My.ec_mk, My.cl_mk]); k_is)
    (case v_NoBox => (try dsimp only [My.ex_mk, My.ec_mk, My.cl_mk]); k_is)
    (case i_NoBox_NoName => (try dsimp only [My.ex_mk, My.ec_mk, My.cl_mk]); k_is)
    (case i_NoBox_NoNumber => (try dsimp only [My.ex_mk, My.ec_mk, My.cl_mk]); k_is)
    (case i_NoBox_NoBox => (try dsimp only [My.ex_mk, My.ec_mk, My.cl_mk]); k_is)
    (case i_NoBox_NoTruth => (try dsimp only [My.ex_mk, My.ec_mk, My.cl_mk]); k_is)
    (case i_NoBox_NoPack => (try dsimp only [My.ex_mk, My.ec_mk, My.cl_mk]); k_is)
    (case i_NoBox_NoStand => (try dsimp only [My.ex_mk, My.ec_mk, My.cl_mk]); k_is)
    (case i_NoBox_NoTrack => (try dsimp only [My.ex_mk, My.ec_mk, My.cl_mk]); k_is)
    (case i_NoBox_NoSpot => (try dsimp only [My.ex_mk, My.ec_mk, My.cl_mk]); k_is)
    (case i_NoBox_NoStyle => (try dsimp only [My.ex_mk, My.ec_mk, My.cl_mk]); k_is)
    (case i_NoBox_NoText => (try dsimp only [My.ex_mk, My.ec_mk, My.cl_mk]); k_is)
    (case i_NoBox_NoTree => (try dsimp only [My.ex_mk, My.ec_mk, My.cl_mk]); k_is)
    (case i_NoBox_NoWords => (try dsimp only [My.ex_mk, My.ec_mk, My.cl_mk]); k_is)
    (case i_NoBox_NoPlace => (try dsimp only [My.ex_mk, My.ec_mk, My.cl_mk]); k_is)
    (case r_NoTruth => (try dsimp only [My.ex_mk, My.ec_mk, My.cl_mk]); k_is)
    (case v_NoTruth => (try dsimp only [My.ex_mk, My.ec_mk, My.cl_mk]); k_is)
    (case i_NoTruth_NoName => (try dsimp only [My.ex_mk, My.ec_mk, My.cl_mk]); k_is)
    (case i_NoTruth_NoNumber => (try dsimp only [My.ex_mk, My.ec_mk, My.cl_mk]); k_is)
    (case i_NoTruth_NoBox => (try dsimp only [My.ex_mk, My.ec_mk, My.cl_mk]); k_is)
    (case i_NoTruth_NoTruth => (try dsimp only [My.ex_mk, My.ec_mk, My.cl_mk]); k_is)
    (case i_NoTruth_NoPack => (try dsimp only [My.ex_mk, My.ec_mk, My.cl_mk]); k_is)
    (case i_NoTruth_NoStand => (try dsimp only [My.ex_mk, My.ec_mk, My.cl_mk]); k_is)
    (case i_NoTruth_NoTrack => (try dsimp only [My.ex_mk, My.ec_mk, My.cl_mk]); k_is)
    (case i_NoTruth_NoSpot => (try dsimp only [My.ex_mk, My.ec_mk, My.cl_mk]); k_is)
    (case i_NoTruth_NoStyle => (try dsimp only [My.ex_mk, My.ec_mk, My.cl_mk]); k_is)
    (case i_NoTruth_NoText => (try dsimp only [My.ex_mk, My.ec_mk, My.cl_mk]); k_is)
    (case i_NoTruth_NoTree => (try dsimp only [My.ex_mk, My.ec_mk, My.cl_mk]); k_is)
    (case i_NoTruth_NoWords => (try dsimp only [My.ex_mk, My.ec_mk, My.cl_mk]); k_is)
    (case i_NoTruth_NoPlace => (try dsimp only [My.ex_mk, My.ec_mk, My.cl_mk]); k_is)
    (case r_NoPack => (try dsimp only [My.ex_mk, My.ec_mk, My.cl_mk]); k_is)
    (case v_NoPack => (try dsimp only [My.ex_mk, My.ec_mk, My.cl_mk]); k_is)
    (case i_NoPack_NoName => (try dsimp only [My.ex_mk, My.ec_mk, My.cl_mk]); k_is)
    (case i_NoPack_NoNumber => (try dsimp only [My.ex_mk, My.ec_mk, My.cl_mk]); k_is)
    (case i_NoPack_NoBox => (try dsimp only [My.ex_mk, My.ec_mk, My.cl_mk]); k_is)
    (case i_NoPack_NoTruth => (try dsimp only [My.ex_mk, My.ec_mk, My.cl_mk]); k_is)
    (case i_NoPack_NoPack => (try dsimp only [My.ex_mk, My.ec_mk, My.cl_mk]); k_is)
    (case i_NoPack_NoStand => (try dsimp only [My.ex_mk, My.ec_mk, My.cl_mk]); k_is)
    (case i_NoPack_NoTrack => (try dsimp only [My.ex_mk, My.ec_mk, My.cl_mk]); k_is)
    (case i_NoPack_NoSpot => (try dsimp only [My.ex_mk, My.ec_mk, My.cl_mk]); k_is)
    (case i_NoPack_NoStyle => (try dsimp only [My.ex_mk, My.ec_mk, My.cl_mk]); k_is)
    (case i_NoPack_NoText => (try dsimp only [My.ex_mk, My.ec_mk, My.cl_mk]); k_is)
    (case i_NoPack_NoTree => (try dsimp only [My.ex_mk, My.ec_mk, My.cl_mk]); k_is)
    (case i_NoPack_NoWords => (try dsimp only [My.ex_mk, My.ec_mk, My.cl_mk]); k_is)
    (case i_NoPack_NoPlace => (try dsimp only [My.ex_mk, My.ec_mk, My.cl_mk]); k_is)
    (case r_NoStand => (try dsimp only [My.ex_mk, My.ec_mk, My.cl_mk]); k_is)
    (case v_NoStand => (try dsimp only [My.ex_mk, My.ec_mk, My.cl_mk]); k_is)
    (case i_NoStand_NoName => (try dsimp only [My.ex_mk, My.ec_mk, My.cl_mk]); k_is)
    (case i_NoStand_NoNumber => (try dsimp only [My.ex_mk, My.ec_mk, My.cl_mk]); k_is)
    (case i_NoStand_NoBox => (try dsimp only [My.ex_mk, My.ec_mk, My.cl_mk]); k_is)
    (case i_NoStand_NoTruth => (try dsimp only [My.ex_mk, My.ec_mk, My.cl_mk]); k_is)
    (case i_NoStand_NoPack => (try dsimp only [My.ex_mk, My.ec_mk, My.cl_mk]); k_is)
    (case i_NoStand_NoStand => (try dsimp only [My.ex_mk, My.ec_mk, My.cl_mk]); k_is)
    (case i_NoStand_NoTrack => (try dsimp only [My.ex_mk, My.ec_mk, My.cl_mk]); k_is)
    (case i_NoStand_NoSpot => (try dsimp only [My.ex_mk, My.ec_mk, My.cl_mk]); k_is)
    (case i_NoStand_NoStyle => (try dsimp only [My.ex_mk, My.ec_mk, My.cl_mk]); k_is)
    (case i_NoStand_NoText => (try dsimp only [My.ex_mk, My.ec_mk, My.cl_mk]); k_is)
    (case i_NoStand_NoTree => (try dsimp only [My.ex_mk, My.ec_mk, My.cl_mk]); k_is)
    (case i_NoStand_NoWords => (try dsimp only [My.ex_mk, My.ec_mk, My.cl_mk]); k_is)
    (case i_NoStand_NoPlace => (try dsimp only [My.ex_mk, My.ec_mk, My.cl_mk]); k_is)
    (case r_NoTrack => (try dsimp only [My.ex_mk, My.ec_mk, My.cl_mk]); k_is)
    (case v_NoTrack => (try dsimp only [My.ex_mk, My.ec_mk, My.cl_mk]); k_is)
    (case i_NoTrack_NoName => (try dsimp only [My.ex_mk, My.ec_mk, My.cl_mk]); k_is)
    (case i_NoTrack_NoNumber => (try dsimp only [My.ex_mk, My.ec_mk, My.cl_mk]); k_is)
    (case i_NoTrack_NoBox => (try dsimp only [My.ex_mk, My.ec_mk, My.cl_mk]); k_is)
    (case i_NoTrack_NoTruth => (try dsimp only [My.ex_mk, My.ec_mk, My.cl_mk]); k_is)
    (case i_NoTrack_NoPack => (try dsimp only [My.ex_mk, My.ec_mk, My.cl_mk]); k_is)
    (case i_NoTrack_NoStand => (try dsimp only [My.ex_mk, My.ec_mk, My.cl_mk]); k_is)
    (case i_NoTrack_NoTrack => (try dsimp only [My.ex_mk, My.ec_mk, My.cl_mk]); k_is)
    (case i_NoTrack_NoSpot => (try dsimp only [My.ex_mk, My.ec_mk, My.cl_mk]); k_is)
    (case i_NoTrack_NoStyle => (try dsimp only [My.ex_mk, My.ec_mk, My.cl_mk]); k_is)
    (case i_NoTrack_NoText => (try dsimp only [My.ex_mk, My.ec_mk, My.cl_mk]); k_is)
    (case i_NoTrack_NoTree => (try dsimp only [My.ex_mk, My.ec_mk, My.cl_mk]); k_is)
    (case i_NoTrack_NoWords => (try dsimp only [My.ex_mk, My.ec_mk, My.cl_mk]); k_is)
    (case i_NoTrack_NoPlace => (try dsimp only [My.ex_mk, My.ec_mk, My.cl_mk]); k_is)
    (case r_NoSpot => (try dsimp only [My.ex_mk, My.ec_mk, My.cl_mk]); k_is)
    (case v_NoSpot => (try dsimp only [My.ex_mk, My.ec_mk, My.cl_mk]); k_is)
    (case i_NoSpot_NoName => (try dsimp only [My.ex_mk, My.ec_mk, My.cl_mk]); k_is)
    (case i_NoSpot_NoNumber => (try dsimp only [My.ex_mk, My.ec_mk, My.cl_mk]); k_is)
    (case i_NoSpot_NoBox => (try dsimp only [My.ex_mk, My.ec_mk, My.cl_mk]); k_is)
    (case i_NoSpot_NoTruth => (try dsimp only [My.ex_mk, My.ec_mk, My.cl_mk]); k_is)
    (case i_NoSpot_NoPack => (try dsimp only [My.ex_mk, My.ec_mk, My.cl_mk]); k_is)
    (case i_NoSpot_NoStand => (try dsimp only [My.ex_mk, My.ec_mk, My.cl_mk]); k_is)
    (case i_NoSpot_NoTrack => (try dsimp only [My.ex_mk, My.ec_mk, My.cl_mk]); k_is)
    (case i_NoSpot_NoSpot => (try dsimp only [My.ex_mk, My.ec_mk, My.cl_mk]); k_is)
    (case i_NoSpot_NoStyle => (try dsimp only [My.ex_mk, My.ec_mk, My.cl_mk]); k_is)
    (case i_NoSpot_NoText => (try dsimp only [My.ex_mk, My.ec_mk, My.cl_mk]); k_is)
    (case i_NoSpot_NoTree => (try dsimp only [My.ex_mk, My.ec_mk, My.cl_mk]); k_is)
    (case i_NoSpot_NoWords => (try dsimp only [My.ex_mk, My.ec_mk, My.cl_mk]); k_is)
    (case i_NoSpot_NoPlace => (try dsimp only [My.ex_mk, My.ec_mk, My.cl_mk]); k_is)
    (case r_NoStyle => (try dsimp only [My.ex_mk, My.ec_mk, My.cl_mk]); k_is)
    (case v_NoStyle => (try dsimp only [My.ex_mk, My.ec_mk, My.cl_mk]); k_is)
    (case i_NoStyle_NoName => (try dsimp only [My.ex_mk, My.ec_mk, My.cl_mk]); k_is)
    (case i_NoStyle_NoNumber => (try dsimp only [My.ex_mk, My.ec_mk, My.cl_mk]); k_is)
    (case i_NoStyle_NoBox => (try dsimp only [My.ex_mk, My.ec_mk, My.cl_mk]); k_is)
    (case i_NoStyle_NoTruth => (try dsimp only [My.ex_mk, My.ec_mk, My.cl_mk]); k_is)
    (case i_NoStyle_NoPack => (try dsimp only [My.ex_mk, My.ec_mk, My.cl_mk]); k_is)
    (case i_NoStyle_NoStand => (try dsimp only [My.ex_mk, My.ec_mk, My.cl_mk]); k_is)
    (case i_NoStyle_NoTrack => (try dsimp only [My.ex_mk, My.ec_mk, My.cl_mk]); k_is)
    (case i_NoStyle_NoSpot => (try dsimp only [My.ex_mk, My.ec_mk, My.cl_mk]); k_is)
    (case i_NoStyle_NoStyle => (try dsimp only [My.ex_mk, My.ec_mk, My.cl_mk]); k_is)
    (case i_NoStyle_NoText => (try dsimp only [My.ex_mk, My.ec_mk, My.cl_mk]); k_is)
    (case i_NoStyle_NoTree => (try dsimp only [My.ex_mk, My.ec_mk, My.cl_mk]); k_is)
    (case i_NoStyle_NoWords => (try dsimp only [My.ex_mk, My.ec_mk, My.cl_mk]); k_is)
    (case i_NoStyle_NoPlace => (try dsimp only [My.ex_mk, My.ec_mk, My.cl_mk]); k_is)
    (case r_NoText => (try dsimp only [My.ex_mk, My.ec_mk, My.cl_mk]); k_is)
    (case v_NoText => (try dsimp only [My.ex_mk, My.ec_mk, My.cl_mk]); k_is)
    (case i_NoText_NoName => (try dsimp only [My.ex_mk, My.ec_mk, My.cl_mk]); k_is)
    (case i_NoText_NoNumber => (try dsimp only [My.ex_mk, My.ec_mk, My.cl_mk]); k_is)
    (case i_NoText_NoBox => (try dsimp only [My.ex_mk, My.ec_mk, My.cl_mk]); k_is)
    (case i_NoText_NoTruth => (try dsimp only [My.ex_mk, My.ec_mk, My.cl_mk]); k_is)
    (case i_NoText_NoPack => (try dsimp only [My.ex_mk, My.ec_mk, My.cl_mk]); k_is)
    (case i_NoText_NoStand => (try dsimp only [My.ex_mk, My.ec_mk, My.cl_mk]); k_is)
    (case i_NoText_NoTrack => (try dsimp only [My.ex_mk, My.ec_mk, My.cl_mk]); k_is)
    (case i_NoText_NoSpot => (try dsimp only [My.ex_mk, My.ec_mk, My.cl_mk]); k_is)
    (case i_NoText_NoStyle => (try dsimp only [My.ex_mk, My.ec_mk, My.cl_mk]); k_is)
    (case i_NoText_NoText => (try dsimp only [My.ex_mk, My.ec_mk, My.cl_mk]); k_is)
    (case i_NoText_NoTree => (try dsimp only [My.ex_mk, My.ec_mk, My.cl_mk]); k_is)
    (case i_NoText_NoWords => (try dsimp only [My.ex_mk, My.ec_mk, My.cl_mk]); k_is)
    (case i_NoText_NoPlace => (try dsimp only [My.ex_mk, My.ec_mk, My.cl_mk]); k_is)
    (case n_NoText_line => (try dsimp only [My.ex_mk, My.ec_mk, My.cl_mk]); k_is)
    (case xt0 => (try dsimp only [My.ec_mk]); k_is)
    (case xt1 => (try dsimp only [My.ec_mk]); k_is)
    (case xt2 => (try dsimp only [My.ec_mk]); k_is)
    (case xt3 => (try dsimp only [My.ec_mk]); k_is)
    (case xt4 => (try dsimp only [My.ec_mk]); k_is)
    (case xt5 => (try dsimp only [My.ec_mk]); k_is)
    (case xt6 => (try dsimp only [My.ec_mk]); k_is)
    (case xt7 => (try dsimp only [My.ec_mk]); k_is)
    (case wg => (try dsimp only [My.ex_mk, My.ec_mk, My.cl_mk]); k_is)
    (case wt => (try dsimp only [My.ex_mk, My.ec_mk, My.cl_mk]); k_is)
    (case wc_Words => (try dsimp only [My.ex_mk, My.ec_mk, My.cl_mk]); k_is)
    (case wm_Words => (try dsimp only [My.ex_mk, My.ec_mk, My.cl_mk]); k_is)
    (case k_Words_int => (try dsimp only [My.cl_mk]); k_is)
    (case k_Words_bool => (try dsimp only [My.cl_mk]); k_is)
    (case k_Words_str => (try dsimp only [My.cl_mk]); k_is)
    (case k_Words_tuple => (try dsimp only [My.cl_mk]); k_is)
    (case k_Words_list => (try dsimp only [My.cl_mk]); k_is)
    (case wc_Style => (try dsimp only [My.ex_mk, My.ec_mk, My.cl_mk]); k_is)
    (case wm_Style => (try dsimp only [My.ex_mk, My.ec_mk, My.cl_mk]); k_is)
    (case k_Style_int => (try dsimp only [My.cl_mk]); k_is)
    (case k_Style_bool => (try dsimp only [My.cl_mk]); k_is)
    (case k_Style_str => (try dsimp only [My.cl_mk]); k_is)
    (case k_Style_tuple => (try dsimp only [My.cl_mk]); k_is)
    (case k_Style_list => (try dsimp only [My.cl_mk]); k_is)
    (case kb_Words0 => (try dsimp only [My.cl_mk]); k_is)
    (case kb_Words1 => (try dsimp only [My.cl_mk]); k_is)
    (case kb_Words2 => (try dsimp only [My.cl_mk]); k_is)
    (case kb_Words3 => (try dsimp only [My.cl_mk]); k_is)
    (case kx_Style_Box0 => (try dsimp only [My.cl_mk]); k_is)
    (case kx_Style_Box1 => (try dsimp only [My.cl_mk]); k_is)
    (case kx_Style_Box2 => (try dsimp only [My.cl_mk]); k_is)
    (case kx_Style_Box3 => (try dsimp only [My.cl_mk]); k_is)
    (case ki_Style0 => (try dsimp only [My.cl_mk]); k_is)
    (case ki_Style1 => (try dsimp only [My.cl_mk]); k_is)
    (case ki_Style2 => (try dsimp only [My.cl_mk]); k_is)
    (case ki_Style3 => (try dsimp only [My.cl_mk]); k_is)
    (case kx_Words_Style0 => (try dsimp only [My.cl_mk]); k_is)
    (case kx_Words_Style1 => (try dsimp only [My.cl_mk]); k_is)
    (case kx_Words_Style2 => (try dsimp only [My.cl_mk]); k_is)
    (case kx_Words_Style3 => (try dsimp only [My.cl_mk]); k_is)
    (case st_Box => (try dsimp only [My.ex_mk, My.ec_mk, My.cl_mk]); k_is)
    (case st_Style => (try dsimp only [My.ex_mk, My.ec_mk, My.cl_mk]); k_is)
    (case xNoText_init0 => (try dsimp only [My.ec_mk]); k_is)
    (case xNoText_init1 => (try dsimp only [My.ec_mk]); k_is)
    (case xNoText_init2 => kernel_rfl)
    (case xNoText_init3 => (try dsimp only [My.ec_mk]); k_is)
    (case xNoText_init4 => (try dsimp only [My.ec_mk]); k_is)
    (case xNoText_init5 => (try dsimp only [My.ec_mk]); k_is)
    (case xNoText_init6 => (try dsimp only [My.ec_mk]); k_is)
    (case xNoText_init7 => (try dsimp only [My.ec_mk]); k_is)
    (case xNoText_init8 => (try dsimp only [My.ec_mk]); k_is)
    (case xNoText_init9 => (try dsimp only [My.ec_mk]); k_is)
    (case xNoText_init10 => (try dsimp only [My.ec_mk]); k_is)
    (case xNoText_init11 => (try dsimp only [My.ec_mk]); k_is)
    (case xNoText_init12 => rfl)
    (case xNoText_init13 => exact (.cons (by first | exact rfl | exact ⟨_, rfl⟩) .nil))
#print axioms PySem.Challenge.cw_nestlaid_k19_boxes_refused_holds
